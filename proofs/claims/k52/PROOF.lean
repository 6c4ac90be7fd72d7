import PyProof.Rows.All
import Wide.All
import OpenK.AllK
import Wide.FinOn
import HandS.ForMost
import HandS.ForExc
import HandS.Wide
import HandS.Deep
import HandS.IsInst
import HandS.TupAny
import HandS.Defaults
import HandS.HeadHook4
import HandS.HeadWalk
import HandS.HotCalls
import HandS.ExcIs
import HandS.Zip
import HandS.Rev
import HandS.SortInts
import HandS.Strs
import HandS.TupMul
import HandS.TupLe
import HandS.Steps
import HandS.RaiseMore
import HandS.SetFor
import HandS.Style
import HandS.HeadEnd
import KE.GoesEnum
import KE.KRevSl
import PyProof.ReprLen
import PyProof.FitsInt
import PyProof.StrLawsRepr
import PyProof.Rows.ReprOcc
import PySem.Challenge.RW_stakestold_k52_streams_side_by_side
set_option Elab.async false
set_option linter.all false
set_option maxRecDepth 100000
set_option maxHeartbeats 1000000
set_option autoImplicit false
/-! PV: values as data, over the hand layer. Part a: results, data, what stands for what. -/
namespace PV
open PySem PySem.Spec PyProof.Rows L2
abbrev St := L2.St

/-- an exception: its class's name, its one field -/
structure Ex where
  cls : Str
  fld : Option (Str × PyData) := none

inductive R (α : Type) where
  | ok (a : α)
  | ex (c : Ex)
  | no

def R.bind {α β : Type} : R α → (α → R β) → R β
  | .ok a, f => f a
  | .ex c, _ => .ex c
  | .no, _ => .no
instance : Monad R where
  pure := .ok
  bind := R.bind
@[simp] theorem ok_bind {α β : Type} (a : α) (f : α → R β) : (R.ok a >>= f) = f a := rfl
@[simp] theorem ex_bind {α β : Type} (c : Ex) (f : α → R β) : ((R.ex c : R α) >>= f) = .ex c := rfl
@[simp] theorem no_bind {α β : Type} (f : α → R β) : ((R.no : R α) >>= f) = .no := rfl
@[simp] theorem pure_ok {α : Type} (a : α) : (pure a : R α) = .ok a := rfl
theorem bind_ok_iff {α β : Type} {x : R α} {f : α → R β} {b : β} : (x >>= f) = .ok b ↔ ∃ a, x = .ok a ∧ f a = .ok b := by
  cases x with
  | ok a => simp
  | ex c => simp
  | no => simp
theorem bind_ex_iff {α β : Type} {x : R α} {f : α → R β} {c : Ex} : (x >>= f) = .ex c ↔ x = .ex c ∨ ∃ a, x = .ok a ∧ f a = .ex c := by
  cases x with
  | ok a => simp
  | ex c => simp
  | no => simp

/-- what holds of a result: P of an ok one, W of an exception -/
def Holds {α : Type} (r : R α) (P : α → Prop) (W : Ex → Prop) : Prop := match r with
  | .ok a => P a
  | .ex c => W c
  | .no => False
theorem Holds.bind {α β : Type} {x : R α} {f : α → R β} {P : β → Prop} {W : Ex → Prop} (h : Holds (x >>= f) P W) : Holds x (fun a => Holds (f a) P W) W := by
  cases x <;> exact h
theorem Holds.mono {α : Type} {x : R α} {P P' : α → Prop} {W W' : Ex → Prop} (h : Holds x P W) (hp : ∀ a, P a → P' a) (hw : ∀ c, W c → W' c) : Holds x P' W' := by
  cases x with
  | ok a => exact hp a h
  | ex c => exact hw c h
  | no => exact h

abbrev Env := List (Option PyData)

def MutO : HO → Prop
  | .lst _ => True
  | .dK _ => True
  | .dT _ => True
  | _ => False
def keyD : Key → PyData
  | .inl i => .int i
  | .inr x => .str x

/-- a list that nobody changes: locked, or of the written part -/
def SqF (K : PySem.W.Frag) (H : Hp) (a : Addr) (xs : List V) : Prop :=
  (∃ o, H a = some (.frz o (.lst xs))) ∨
    ∃ (o : Obj) (its : Array Value) (n : Nat), K.lookup a = some o ∧ o.cls = .type "list" ∧ o.dict = none ∧ o.data = .seq its n ∧ its.size ≤ sizeLine ∧ Vals xs its.toList
theorem SqF.l {K : PySem.W.Frag} {H : Hp} {a : Addr} {xs : List V} (h : SqF K H a xs) : SqL K H a xs := by
  rcases h with ⟨o, h⟩ | h
  · exact .inl (.inr ⟨o, h⟩)
  · exact .inr h

/-- a list that nobody changes, as data -/
def frzD (ds : List PyData) : PyData := .dict [(.dict [], .tuple ds)]
/-- an object of which only its place is known, as data -/
def adrD (a : Addr) : PyData := .dict [(.dict [], .int a)]
mutual
/-- v stands for d; m: the addresses of the lists and dicts met that may be changed -/
inductive Ab (K : PySem.W.Frag) (H : Hp) (o : Bool) : V → PyData → List Addr → Prop
  | non : Ab K H o .non .none []
  | bl (b : Bool) : Ab K H o (.bl b) (.bool b) []
  | int (i : Int) : Ab K H o (.int i) (.int i) []
  | str (x : Str) : Ab K H o (.str x) (.str x) []
  | tup {a : Addr} {xs : List V} {ds : List PyData} {m : List Addr} : SqT K H a xs → AbL K H o xs ds m → Ab K H o (.ref a) (.tuple ds) m
  | lst {a : Addr} {xs : List V} {ds : List PyData} {m : List Addr} : H a = some (.lst xs) → AbL K H o xs ds m → Ab K H o (.ref a) (.list ds) (a :: m)
  | dk {a : Addr} {kvs : List (Key × V)} {ps : List (PyData × PyData)} {m : List Addr} : H a = some (.dK kvs) → ps.map (·.1) = kvs.map (fun q => keyD q.1) → AbL K H o (kvs.map (·.2)) (ps.map (·.2)) m → Ab K H o (.ref a) (.dict ps) (a :: m)
  | dt {a : Addr} {kvs : List (List Key × V)} {ps : List (PyData × PyData)} {m : List Addr} : H a = some (.dT kvs) → ps.map (·.1) = kvs.map (fun q => .tuple (q.1.map keyD)) → AbL K H o (kvs.map (·.2)) (ps.map (·.2)) m → Ab K H o (.ref a) (.dict ps) (a :: m)
  | frz {a : Addr} {xs : List V} {ds : List PyData} : SqF K H a xs → AbL K H o xs ds [] → Ab K H o (.ref a) (frzD ds) []
  | adr (a : Addr) : Ab K H o (.ref a) (adrD a) []
inductive AbL (K : PySem.W.Frag) (H : Hp) (o : Bool) : List V → List PyData → List Addr → Prop
  | nil : AbL K H o [] [] []
  | cons {v : V} {vs : List V} {d : PyData} {ds : List PyData} {m n : List Addr} : Ab K H o v d m → AbL K H o vs ds n → AbL K H o (v :: vs) (d :: ds) (m ++ n)
end

/-- all but what may be changed at O is kept -/
def Fr (O : Addr → Prop) (H H' : Hp) : Prop := (∀ a o, H a = some o → (O a → ¬ MutO o) → H' a = some o) ∧ ∀ a, H a ≠ none → H' a ≠ none
theorem Same.fr {H H' : Hp} (h : Same H H') (O : Addr → Prop) : Fr O H H' := ⟨fun a o e _ => h a o e, fun a n e => by
  cases q : H a with
  | none => exact n q
  | some o => rw [h a o q] at e; cases e⟩
theorem Fr.refl (O : Addr → Prop) (H : Hp) : Fr O H H := ⟨fun _ _ e _ => e, fun _ n => n⟩

variable {K : PySem.W.Frag} {H H' H'' : Hp} {o : Bool}
theorem frSqT {O : Addr → Prop} (f : Fr O H H') {a : Addr} {xs : List V} (h : SqT K H a xs) : SqT K H' a xs := by
  rcases h with (h | ⟨o, h⟩) | h
  · exact .inl (.inl (f.1 _ _ h fun _ => fun z => z))
  · exact .inl (.inr ⟨o, f.1 _ _ h fun _ => fun z => z⟩)
  · exact .inr h
theorem frSqF {O : Addr → Prop} (f : Fr O H H') {a : Addr} {xs : List V} (h : SqF K H a xs) : SqF K H' a xs := by
  rcases h with ⟨o, h⟩ | h
  · exact .inl ⟨o, f.1 _ _ h fun _ => fun z => z⟩
  · exact .inr h
theorem ab_ind {P : V → PyData → List Addr → Prop} {Q : List V → List PyData → List Addr → Prop} (h1 : P .non .none []) (h2 : ∀ b, P (.bl b) (.bool b) []) (h3 : ∀ i, P (.int i) (.int i) []) (h4 : ∀ x, P (.str x) (.str x) [])
    (h5 : ∀ a xs ds m, SqT K H a xs → AbL K H o xs ds m → Q xs ds m → P (.ref a) (.tuple ds) m) (h6 : ∀ a xs ds m, H a = some (.lst xs) → AbL K H o xs ds m → Q xs ds m → P (.ref a) (.list ds) (a :: m))
    (h8 : ∀ a (kvs : List (Key × V)) (ps : List (PyData × PyData)) m, H a = some (.dK kvs) → ps.map (·.1) = kvs.map (fun q => keyD q.1) → AbL K H o (kvs.map (·.2)) (ps.map (·.2)) m → Q (kvs.map (·.2)) (ps.map (·.2)) m → P (.ref a) (.dict ps) (a :: m))
    (h9 : ∀ a (kvs : List (List Key × V)) (ps : List (PyData × PyData)) m, H a = some (.dT kvs) → ps.map (·.1) = kvs.map (fun q => .tuple (q.1.map keyD)) → AbL K H o (kvs.map (·.2)) (ps.map (·.2)) m → Q (kvs.map (·.2)) (ps.map (·.2)) m → P (.ref a) (.dict ps) (a :: m))
    (h12 : ∀ a xs ds, SqF K H a xs → AbL K H o xs ds [] → Q xs ds [] → P (.ref a) (frzD ds) []) (h13 : ∀ a, P (.ref a) (adrD a) [])
    (h10 : Q [] [] []) (h11 : ∀ v vs d ds m n, Ab K H o v d m → AbL K H o vs ds n → P v d m → Q vs ds n → Q (v :: vs) (d :: ds) (m ++ n)) :
    (∀ v d m, Ab K H o v d m → P v d m) ∧ ∀ vs ds m, AbL K H o vs ds m → Q vs ds m :=
  ⟨fun v d m h => Ab.rec (motive_1 := fun v d m _ => P v d m) (motive_2 := fun vs ds m _ => Q vs ds m) h1 h2 h3 h4 (fun s a q => h5 _ _ _ _ s a q) (fun s a q => h6 _ _ _ _ s a q) (fun s k a q => h8 _ _ _ _ s k a q) (fun s k a q => h9 _ _ _ _ s k a q) (fun s a q => h12 _ _ _ s a q) h13 h10 (fun a b q r => h11 _ _ _ _ _ _ a b q r) h,
   fun v d m h => AbL.rec (motive_1 := fun v d m _ => P v d m) (motive_2 := fun vs ds m _ => Q vs ds m) h1 h2 h3 h4 (fun s a q => h5 _ _ _ _ s a q) (fun s a q => h6 _ _ _ _ s a q) (fun s k a q => h8 _ _ _ _ s k a q) (fun s k a q => h9 _ _ _ _ s k a q) (fun s a q => h12 _ _ _ s a q) h13 h10 (fun a b q r => h11 _ _ _ _ _ _ a b q r) h⟩
theorem ab_fr {O : Addr → Prop} (f : Fr O H H') : (∀ v d m, Ab K H o v d m → (∀ a ∈ m, ¬ O a) → Ab K H' o v d m) ∧ ∀ vs ds m, AbL K H o vs ds m → (∀ a ∈ m, ¬ O a) → AbL K H' o vs ds m := by
  refine ab_ind (fun _ => .non) (fun b _ => .bl b) (fun i _ => .int i) (fun x _ => .str x) ?_ ?_ ?_ ?_ (fun a xs ds hs _ q hm => .frz (frSqF f hs) (q hm)) (fun a _ => .adr a) (fun _ => .nil) ?_
  · exact fun a xs ds m hs _ q hm => .tup (frSqT f hs) (q hm)
  · exact fun a xs ds m hs _ q hm => .lst (f.1 _ _ hs fun z => (hm _ (List.mem_cons_self ..) z).elim) (q fun a z => hm a (List.mem_cons_of_mem _ z))
  · exact fun a kvs ps m hs hk _ q hm => .dk (f.1 _ _ hs fun z => (hm _ (List.mem_cons_self ..) z).elim) hk (q fun a z => hm a (List.mem_cons_of_mem _ z))
  · exact fun a kvs ps m hs hk _ q hm => .dt (f.1 _ _ hs fun z => (hm _ (List.mem_cons_self ..) z).elim) hk (q fun a z => hm a (List.mem_cons_of_mem _ z))
  · exact fun v vs d ds m n _ _ p q hm => .cons (p fun a z => hm a (List.mem_append_left _ z)) (q fun a z => hm a (List.mem_append_right _ z))
theorem Ab.fr {O : Addr → Prop} (f : Fr O H H') {v : V} {d : PyData} {m : List Addr} (h : Ab K H o v d m) (hm : ∀ a ∈ m, ¬ O a) : Ab K H' o v d m := (ab_fr f).1 _ _ _ h hm
theorem AbL.fr {O : Addr → Prop} (f : Fr O H H') {vs : List V} {ds : List PyData} {m : List Addr} (h : AbL K H o vs ds m) (hm : ∀ a ∈ m, ¬ O a) : AbL K H' o vs ds m := (ab_fr f).2 _ _ _ h hm
theorem Ab.same {v : V} {d : PyData} {m : List Addr} (h : Ab K H o v d m) (s : Same H H') : Ab K H' o v d m := h.fr (Same.fr s fun _ => False) fun _ _ z => z
theorem AbL.same {vs : List V} {ds : List PyData} {m : List Addr} (h : AbL K H o vs ds m) (s : Same H H') : AbL K H' o vs ds m := h.fr (Same.fr s fun _ => False) fun _ _ z => z

theorem ab_trk : (∀ v d m, Ab K H o v d m → ∀ a ∈ m, ∃ o, H a = some o ∧ MutO o) ∧ ∀ vs ds m, AbL K H o vs ds m → ∀ a ∈ m, ∃ o, H a = some o ∧ MutO o := by
  refine ab_ind (fun _ q => nomatch q) (fun _ _ q => nomatch q) (fun _ _ q => nomatch q) (fun _ _ q => nomatch q) (fun _ _ _ _ _ _ q => q) ?_ ?_ ?_ (fun _ _ _ _ _ q => q) (fun _ _ q => nomatch q) (fun _ q => nomatch q) (fun _ _ _ _ _ _ _ _ p q a z => (List.mem_append.mp z).elim (p a) (q a))
  · intro a xs ds m hs _ q b z
    rcases List.mem_cons.mp z with e | z
    · rw [e]; exact ⟨_, hs, trivial⟩
    · exact q b z
  · intro a xs ds m hs _ _ q b z
    rcases List.mem_cons.mp z with e | z
    · rw [e]; exact ⟨_, hs, trivial⟩
    · exact q b z
  · intro a xs ds m hs _ _ q b z
    rcases List.mem_cons.mp z with e | z
    · rw [e]; exact ⟨_, hs, trivial⟩
    · exact q b z
theorem Ab.trk {v : V} {d : PyData} {m : List Addr} (h : Ab K H o v d m) : ∀ a ∈ m, ∃ o, H a = some o ∧ MutO o := ab_trk.1 _ _ _ h
theorem AbL.trk {vs : List V} {ds : List PyData} {m : List Addr} (h : AbL K H o vs ds m) : ∀ a ∈ m, ∃ o, H a = some o ∧ MutO o := ab_trk.2 _ _ _ h
theorem Ab.tr {v : V} {d : PyData} {m : List Addr} (h : Ab K H o v d m) {a : Addr} (q : a ∈ m) : H a ≠ none := by
  obtain ⟨o, e, _⟩ := h.trk a q
  rw [e]; exact fun z => nomatch z
theorem AbL.tr {v : List V} {d : List PyData} {m : List Addr} (h : AbL K H o v d m) {a : Addr} (q : a ∈ m) : H a ≠ none := by
  obtain ⟨o, e, _⟩ := h.trk a q
  rw [e]; exact fun z => nomatch z

/-! ### data without lists and dicts -/
mutual
def flat : PyData → Bool
  | .none => true
  | .bool _ => true
  | .int _ => true
  | .str _ => true
  | .tuple ds => flatL ds
  | .list _ => false
  | .dict [(.dict [], .int _)] => true
  | .dict _ => false
def flatL : List PyData → Bool
  | [] => true
  | d :: ds => flat d && flatL ds
end
theorem flat_dict : ∀ {ps : List (PyData × PyData)}, flat (.dict ps) = true → ∃ i, ps = [(.dict [], .int i)]
  | [], h => by cases h
  | [(a, b)], h => by
    cases a <;> try (cases h; done)
    rename_i qs
    cases qs with
    | cons q qs => cases h
    | nil => cases b <;> first | (cases h; done) | exact ⟨_, rfl⟩
  | (a, b) :: q :: r, h => by
    cases a <;> try (cases h; done)
    rename_i qs
    cases qs <;> cases b <;> cases h
theorem no_dk {kvs : List (Key × V)} {ps : List (PyData × PyData)} (hk : ps.map (·.1) = kvs.map (fun q => keyD q.1)) {x : PyData} : ps ≠ [(.dict [], x)] := fun e => by
  subst e
  cases kvs with
  | nil => simp at hk
  | cons q r => obtain ⟨k, x⟩ := q; simp at hk; cases k <;> simp [keyD] at hk
theorem no_dt {kvs : List (List Key × V)} {ps : List (PyData × PyData)} (hk : ps.map (·.1) = kvs.map (fun q => PyData.tuple (q.1.map keyD))) {x : PyData} : ps ≠ [(.dict [], x)] := fun e => by
  subst e
  cases kvs with
  | nil => simp at hk
  | cons q r => simp at hk
theorem flatL_iff : ∀ {ds : List PyData}, flatL ds = true ↔ ∀ d ∈ ds, flat d = true
  | [] => by simp [flatL]
  | d :: ds => by simp [flatL, flatL_iff (ds := ds)]
theorem ab_flat : (∀ v d m, Ab K H o v d m → flat d = true → m = []) ∧ ∀ vs ds m, AbL K H o vs ds m → flatL ds = true → m = [] := by
  refine ab_ind (fun _ => rfl) (fun _ _ => rfl) (fun _ _ => rfl) (fun _ _ => rfl) (fun a xs ds m _ _ q f => q (by simpa [PV.flat] using f)) ?_ ?_ ?_ (fun _ _ _ _ _ _ _ => rfl) (fun _ _ => rfl) (fun _ => rfl) ?_
  · intro a xs ds m _ _ _ f; simp [PV.flat] at f
  · intro a kvs ps m _ hk _ _ f; obtain ⟨i, e⟩ := flat_dict f; exact (no_dk hk e).elim
  · intro a kvs ps m _ hk _ _ f; obtain ⟨i, e⟩ := flat_dict f; exact (no_dt hk e).elim
  · intro v vs d ds m n _ _ p q f
    simp only [flatL, Bool.and_eq_true] at f
    rw [p f.1, q f.2]; rfl
theorem Ab.flat {v : V} {d : PyData} {m : List Addr} (h : Ab K H o v d m) (f : flat d = true) : m = [] := ab_flat.1 _ _ _ h f
theorem AbL.flat {vs : List V} {ds : List PyData} {m : List Addr} (h : AbL K H o vs ds m) (f : flatL ds = true) : m = [] := ab_flat.2 _ _ _ h f
theorem AbL.len {vs : List V} {ds : List PyData} {m : List Addr} (h : AbL K H o vs ds m) : vs.length = ds.length := by
  induction vs generalizing ds m with
  | nil => cases h; rfl
  | cons v vs ih => cases h with | cons h1 h2 => simp [ih h2]
theorem AbL.get {vs : List V} {ds : List PyData} {m : List Addr} (h : AbL K H o vs ds m) {i : Nat} {d : PyData} (e : ds[i]? = some d) : ∃ v n, vs[i]? = some v ∧ Ab K H o v d n ∧ n.Sublist m := by
  induction vs generalizing ds m i with
  | nil => cases h; simp at e
  | cons v vs ih =>
    cases h with
    | cons h1 h2 =>
      cases i with
      | zero =>
        simp at e; subst e
        exact ⟨_, _, rfl, h1, List.sublist_append_left _ _⟩
      | succ i =>
        obtain ⟨v', n, e1, a1, s1⟩ := ih h2 (by simpa using e)
        exact ⟨v', n, by simpa using e1, a1, s1.trans (List.sublist_append_right _ _)⟩
theorem AbL.getV {vs : List V} {ds : List PyData} {m : List Addr} (h : AbL K H o vs ds m) {i : Nat} {v : V} (e : vs[i]? = some v) : ∃ d n, ds[i]? = some d ∧ Ab K H o v d n ∧ n.Sublist m := by
  have hl := h.len
  obtain ⟨hi, _⟩ := List.getElem?_eq_some_iff.mp e
  obtain ⟨v', n, e1, a1, s1⟩ := h.get (i := i) (d := ds[i]'(by omega)) (List.getElem?_eq_getElem (by omega))
  rw [e] at e1; cases e1
  exact ⟨_, n, List.getElem?_eq_getElem (by omega), a1, s1⟩
theorem AbL.append {vs ws : List V} {ds es : List PyData} {m n : List Addr} (h : AbL K H o vs ds m) (g : AbL K H o ws es n) : AbL K H o (vs ++ ws) (ds ++ es) (m ++ n) := by
  induction vs generalizing ds m with
  | nil => cases h; exact g
  | cons v vs ih => cases h with | cons h1 h2 => rw [List.append_assoc]; exact .cons h1 (ih h2)
/-- the data of a list's items, without their places: enough where they are flat -/
theorem AbL.of_all {vs : List V} {ds : List PyData} (hl : vs.length = ds.length) (h : ∀ (i : Nat) (v : V) (d : PyData), vs[i]? = some v → ds[i]? = some d → Ab K H o v d []) : AbL K H o vs ds [] := by
  induction vs generalizing ds with
  | nil => cases ds with | nil => exact .nil | cons => simp at hl
  | cons v vs ih =>
    cases ds with
    | nil => simp at hl
    | cons d ds => exact .cons (h 0 v d rfl rfl) (ih (by simpa using hl) fun i v d e1 e2 => h (i + 1) v d (by simpa using e1) (by simpa using e2))
/-- a sequence's value: a list or a tuple -/
theorem Ab.list {v : V} {ds : List PyData} {m : List Addr} (h : Ab K H o v (.list ds) m) : ∃ a xs n, v = .ref a ∧ SqL K H a xs ∧ AbL K H o xs ds n ∧ n.Sublist m := by
  cases h with
  | lst hs ha => exact ⟨_, _, _, rfl, .inl (.inl hs), ha, List.sublist_cons_self _ _⟩
theorem Ab.tuple {v : V} {ds : List PyData} {m : List Addr} (h : Ab K H o v (.tuple ds) m) : ∃ a xs, v = .ref a ∧ SqT K H a xs ∧ AbL K H o xs ds m := by
  cases h with
  | tup hs ha => exact ⟨_, _, rfl, hs, ha⟩
theorem Ab.eq_int {v : V} {i : Int} {m : List Addr} (h : Ab K H o v (.int i) m) : v = .int i ∧ m = [] := by cases h; exact ⟨rfl, rfl⟩
theorem Ab.eq_str {v : V} {x : Str} {m : List Addr} (h : Ab K H o v (.str x) m) : v = .str x ∧ m = [] := by cases h; exact ⟨rfl, rfl⟩
theorem Ab.eq_bl {v : V} {b : Bool} {m : List Addr} (h : Ab K H o v (.bool b) m) : v = .bl b ∧ m = [] := by cases h; exact ⟨rfl, rfl⟩
theorem Ab.eq_non {v : V} {m : List Addr} (h : Ab K H o v .none m) : v = .non ∧ m = [] := by cases h; exact ⟨rfl, rfl⟩
/-- as the library's data -/
theorem ab_dp : (∀ v d m, Ab K H o v d m → d.canLay0 = true → Dp K H v d) ∧ ∀ vs ds m, AbL K H o vs ds m → PyData.canLayAll0 ds = true → DpAll K H vs ds := by
  refine ab_ind (fun _ => .non) (fun b _ => .bl b) (fun i _ => .int i) (fun x _ => .str x) ?_ ?_ ?_ ?_ (fun a xs ds _ _ _ f => by simp [PyData.canLay0, frzD] at f) (fun a f => by simp [PyData.canLay0, adrD] at f) (fun _ => .nil) ?_
  · exact fun a xs ds m hs _ q f => .tup hs (q (by simpa only [PyData.canLay0] using f))
  · exact fun a xs ds m hs _ q f => .lst (.inl (.inl hs)) (q (by simpa only [PyData.canLay0] using f))
  · intro a xs ds m _ _ _ _ f; simp [PyData.canLay0] at f
  · intro a xs ds m _ _ _ _ f; simp [PyData.canLay0] at f
  · intro v vs d ds m n _ _ p q f
    simp only [PyData.canLayAll0, Bool.and_eq_true] at f
    exact .cons (p f.1) (q f.2)
theorem Ab.dp {v : V} {d : PyData} {m : List Addr} (h : Ab K H o v d m) (f : SeqAt.shaped d = true) : Dp K H v d := ab_dp.1 _ _ _ h (SeqAt.canLay_of_shaped f)

theorem ab_any (o' : Bool) : (∀ v d m, Ab K H o v d m → Ab K H o' v d m) ∧ ∀ vs ds m, AbL K H o vs ds m → AbL K H o' vs ds m := by
  refine ab_ind .non .bl .int .str (fun a xs ds m hs _ q => .tup hs q) (fun a xs ds m hs _ q => .lst hs q) (fun a kvs ps m hs hk _ q => .dk hs hk q) (fun a kvs ps m hs hk _ q => .dt hs hk q) (fun a xs ds hs _ q => .frz hs q) .adr .nil (fun v vs d ds m n _ _ p q => .cons p q)
theorem Ab.any {v : V} {d : PyData} {m : List Addr} (h : Ab K H o v d m) (o' : Bool) : Ab K H o' v d m := (ab_any o').1 _ _ _ h
theorem AbL.any {v : List V} {d : List PyData} {m : List Addr} (h : AbL K H o v d m) (o' : Bool) : AbL K H o' v d m := (ab_any o').2 _ _ _ h
theorem Ab.up {v : V} {d : PyData} {m : List Addr} (h : Ab K H o v d m) (f : PV.flat d = true) (o' : Bool) : Ab K H o' v d m := h.any o'
theorem AbL.up {v : List V} {d : List PyData} {m : List Addr} (h : AbL K H o v d m) (f : flatL d = true) (o' : Bool) : AbL K H o' v d m := h.any o'
theorem Ab.down {v : V} {d : PyData} {m : List Addr} (h : Ab K H o v d m) : Ab K H false v d m := h.any _
theorem AbL.down {v : List V} {d : List PyData} {m : List Addr} (h : AbL K H o v d m) : AbL K H false v d m := h.any _
/-! ### slots -/
def own (ks : List Bool) (i : Nat) : Prop := ks[i]? = some true
/-- the slots hold the data; what an owning slot reaches, it reaches alone -/
structure EOk (K : PySem.W.Frag) (H : Hp) (ks : List Bool) (σ : St) (ρ : Env) (fp : Nat → List Addr) : Prop where
  len : ρ.length = σ.length
  ab : ∀ i d, ρ[i]? = some (some d) → ∃ v, σ[i]? = some (some v) ∧ Ab K H (ks[i]? == some true) v d (fp i)
  nd : ∀ i d, own ks i → ρ[i]? = some (some d) → (fp i).Nodup
  dj : ∀ i j d e, own ks i → i ≠ j → ρ[i]? = some (some d) → ρ[j]? = some (some e) → ∀ a ∈ fp i, a ∉ fp j
def Ow (ks : List Bool) (ρ : Env) (fp : Nat → List Addr) (a : Addr) : Prop := ∃ i d, own ks i ∧ ρ[i]? = some (some d) ∧ a ∈ fp i
def Al (ρ : Env) (fp : Nat → List Addr) (a : Addr) : Prop := ∃ i d, ρ[i]? = some (some d) ∧ a ∈ fp i
theorem Ow.al {ks : List Bool} {ρ : Env} {fp : Nat → List Addr} {a : Addr} (h : Ow ks ρ fp a) : Al ρ fp a := let ⟨i, d, _, e, q⟩ := h; ⟨i, d, e, q⟩
section
variable {ks : List Bool} {σ σ' : St} {ρ ρ' ρ'' : Env} {fp fp' fp'' : Nat → List Addr} {m n : List Addr}
theorem EOk.tr (h : EOk K H ks σ ρ fp) {a : Addr} (q : Al ρ fp a) : H a ≠ none := by
  obtain ⟨i, d, e, q⟩ := q
  obtain ⟨v, _, ab⟩ := h.ab i d e
  exact ab.tr q
theorem EOk.same (h : EOk K H ks σ ρ fp) (s : Same H H') : EOk K H' ks σ ρ fp :=
  ⟨h.len, fun i d e => let ⟨v, e1, a⟩ := h.ab i d e; ⟨v, e1, a.same s⟩, h.nd, h.dj⟩
theorem EOk.notAl (h : EOk K H ks σ ρ fp) {a : Addr} (q : H a = none) : ¬ Al ρ fp a := fun z => h.tr z q
structure Step (K : PySem.W.Frag) (H H' : Hp) (ks : List Bool) (σ' : St) (ρ ρ' : Env) (fp fp' : Nat → List Addr) : Prop where
  env : EOk K H' ks σ' ρ' fp'
  fr : Fr (Ow ks ρ fp) H H'
  sub : ∀ a, Al ρ' fp' a → Al ρ fp a ∨ H a = none
  subo : ∀ a, Ow ks ρ' fp' a → Ow ks ρ fp a ∨ H a = none
theorem Step.same (h : EOk K H ks σ ρ fp) (s : Same H H') : Step K H H' ks σ ρ ρ fp fp := ⟨h.same s, Same.fr s _, fun _ q => .inl q, fun _ q => .inl q⟩
theorem Fr.back {O : Addr → Prop} (f : Fr O H H') {a : Addr} (h : H' a = none) : H a = none := by
  cases q : H a with
  | none => rfl
  | some o => exact absurd h (f.2 a (by rw [q]; exact fun z => nomatch z))
theorem Step.trans {σ1 σ2 : St} (a : Step K H H' ks σ1 ρ ρ' fp fp') (b : Step K H' H'' ks σ2 ρ' ρ'' fp' fp'') : Step K H H'' ks σ2 ρ ρ'' fp fp'' := by
  refine ⟨b.env, ⟨fun x o e n => ?_, fun x n => b.fr.2 x (a.fr.2 x n)⟩, fun x q => ?_, fun x q => ?_⟩
  · refine b.fr.1 x o (a.fr.1 x o e n) fun z => ?_
    rcases a.subo x z with y | y
    · exact n y
    · rw [e] at y; cases y
  · rcases b.sub x q with y | y
    · exact a.sub x y
    · exact .inr (a.fr.back y)
  · rcases b.subo x q with y | y
    · exact a.subo x y
    · exact .inr (a.fr.back y)

/-! ### how a result stands to the slots: B: as it is; V: it will not be changed; F: nobody else has it -/
inductive Kd where
  | B | V | F
  deriving DecidableEq
def Kd.ow : Kd → Bool
  | .F => true
  | _ => false
def RCp (κ : Kd) (H : Hp) (ks : List Bool) (ρ : Env) (fp : Nat → List Addr) (m : List Addr) : Prop := match κ with
  | .B => True
  | .V => ∀ a ∈ m, ¬ Ow ks ρ fp a ∧ (Al ρ fp a ∨ H a = none)
  | .F => m.Nodup ∧ ∀ a ∈ m, H a = none
def RCe (κ : Kd) (H : Hp) (ks : List Bool) (ρ : Env) (fp : Nat → List Addr) (ρ' : Env) (fp' : Nat → List Addr) (m : List Addr) : Prop := match κ with
  | .B => True
  | .V => ∀ a ∈ m, ¬ Ow ks ρ' fp' a ∧ (Al ρ fp a ∨ H a = none)
  | .F => m.Nodup ∧ ∀ a ∈ m, ¬ Al ρ' fp' a ∧ (Ow ks ρ fp a ∨ H a = none)
theorem RCp.nil (κ : Kd) : RCp κ H ks ρ fp [] := by
  cases κ with
  | B => trivial
  | V => exact fun _ q => nomatch q
  | F => exact ⟨.nil, fun _ q => nomatch q⟩
theorem RCe.nil (κ : Kd) : RCe κ H ks ρ fp ρ' fp' [] := by
  cases κ with
  | B => trivial
  | V => exact fun _ q => nomatch q
  | F => exact ⟨.nil, fun _ q => nomatch q⟩
theorem RCp.toV (h : EOk K H ks σ ρ fp) (r : RCp .F H ks ρ fp m) : RCp .V H ks ρ fp m := fun a q => ⟨fun z => h.notAl (r.2 a q) z.al, .inr (r.2 a q)⟩
theorem RCp.e {κ : Kd} (h : EOk K H ks σ ρ fp) (r : RCp κ H ks ρ fp m) : RCe κ H ks ρ fp ρ fp m := by
  cases κ with
  | B => trivial
  | V => exact r
  | F => exact ⟨r.1, fun a q => ⟨h.notAl (r.2 a q), .inr (r.2 a q)⟩⟩
theorem RCe.toV (r : RCe .F H ks ρ fp ρ' fp' m) : RCe .V H ks ρ fp ρ' fp' m := fun a q => ⟨fun z => (r.2 a q).1 z.al, (r.2 a q).2.elim (fun z => .inl z.al) .inr⟩
/-- a result behind one more step -/
theorem RCe.step {κ : Kd} {o : Bool} {d : V} {e : PyData} (hk : κ ≠ .B) {σ2 : St} (ab : Ab K H' o d e m) (r : RCe κ H ks ρ fp ρ' fp' m) (s : Step K H' H'' ks σ2 ρ' ρ'' fp' fp'') : RCe κ H ks ρ fp ρ'' fp'' m := by
  cases κ with
  | B => exact absurd rfl hk
  | V => exact fun a q => ⟨fun z => (s.subo a z).elim (r a q).1 (fun y => ab.tr q y), (r a q).2⟩
  | F => exact ⟨r.1, fun a q => ⟨fun z => (s.sub a z).elim (r.2 a q).1 (fun y => ab.tr q y), (r.2 a q).2⟩⟩
theorem RCe.notO {κ : Kd} (hk : κ ≠ .B) (r : RCe κ H ks ρ fp ρ' fp' m) : ∀ a ∈ m, ¬ Ow ks ρ' fp' a := by
  cases κ with
  | B => exact absurd rfl hk
  | V => exact fun a q => (r a q).1
  | F => exact fun a q z => (r.2 a q).1 z.al
/-- .. behind a step before it -/
theorem RCe.pre {κ : Kd} {σ1 : St} (s : Step K H H' ks σ1 ρ ρ' fp fp') (r : RCe κ H' ks ρ' fp' ρ'' fp'' m) : RCe κ H ks ρ fp ρ'' fp'' m := by
  cases κ with
  | B => trivial
  | V => exact fun a q => ⟨(r a q).1, (r a q).2.elim (fun z => s.sub a z) fun z => .inr (s.fr.back z)⟩
  | F => exact ⟨r.1, fun a q => ⟨(r.2 a q).1, (r.2 a q).2.elim (fun z => s.subo a z) fun z => .inr (s.fr.back z)⟩⟩
end

/-! ### readings -/
/-- what is wanted of exceptions, by the exception as data -/
def WEx (K : PySem.W.Frag) (W : WX) (c : Ex) (σ : St) (H : Hp) : Prop := match c.fld with
  | none => W (.ref (He.ga K c.cls)) none σ H
  | some (f, x) => ∀ d v, H d = some (.xd [(f, v)]) → Ab K H false v x [] → W (.ref (He.ga K c.cls)) (some d) σ H
section
variable (K : PySem.W.Frag) (W : WX) (ks : List Bool)
/-- pure: the slots and all that is tracked stay -/
def tP (κ : Kd) (f : Env → R PyData) : TE := fun σ H Q => ∃ ρ fp, EOk K H ks σ ρ fp ∧ Holds (f ρ) (fun d => ∀ v H' m, Same H H' → Ab K H' κ.ow v d m → RCp κ H ks ρ fp m → Q v H') fun c => ∀ H', Same H H' → WEx K W c σ H'
def tPA (κ : Kd) (f : Env → R (List PyData)) : TA := fun σ H Q => ∃ ρ fp, EOk K H ks σ ρ fp ∧ Holds (f ρ) (fun d => ∀ v H' m, Same H H' → AbL K H' κ.ow v d m → RCp κ H ks ρ fp m → Q v H') fun c => ∀ H', Same H H' → WEx K W c σ H'
def tPT (f : Env → R Bool) : TT := fun σ H Q => ∃ ρ fp, EOk K H ks σ ρ fp ∧ Holds (f ρ) (fun b => ∀ H', Same H H' → Q b H') fun c => ∀ H', Same H H' → WEx K W c σ H'
/-- owning slots may be changed -/
def tE (κ : Kd) (f : Env → R (PyData × Env)) : TE := fun σ H Q => ∃ ρ fp, EOk K H ks σ ρ fp ∧ Holds (f ρ) (fun r => ∀ v H' fp' m, Step K H H' ks σ ρ r.2 fp fp' → Ab K H' κ.ow v r.1 m → RCe κ H ks ρ fp r.2 fp' m → Q v H') fun c => ∀ H', Fr (Ow ks ρ fp) H H' → WEx K W c σ H'
def tEA (κ : Kd) (f : Env → R (List PyData × Env)) : TA := fun σ H Q => ∃ ρ fp, EOk K H ks σ ρ fp ∧ Holds (f ρ) (fun r => ∀ v H' fp' m, Step K H H' ks σ ρ r.2 fp fp' → AbL K H' κ.ow v r.1 m → RCe κ H ks ρ fp r.2 fp' m → Q v H') fun c => ∀ H', Fr (Ow ks ρ fp) H H' → WEx K W c σ H'
def tET (f : Env → R (Bool × Env)) : TT := fun σ H Q => ∃ ρ fp, EOk K H ks σ ρ fp ∧ Holds (f ρ) (fun r => ∀ H' fp', Step K H H' ks σ ρ r.2 fp fp' → Q r.1 H') fun c => ∀ H', Fr (Ow ks ρ fp) H H' → WEx K W c σ H'
end

/-! ### defs, called where no repr is under way -/
structure RoomG (k : Nat) (A : Around) : Prop where
  rm : Room k A
  gd : A.guards = some []
theorem RoomG.mono {j k : Nat} {A : Around} (r : RoomG k A) (h : j ≤ k) : RoomG j A := ⟨r.rm.mono h, r.gd⟩
theorem RoomG.deeper {k : Nat} {A : Around} (r : RoomG (k + 1) A) (env : PySem.Env) : RoomG k (A.deeper env) := ⟨r.rm.deeper env, r.gd⟩
theorem RoomG.u {k : Nat} {A : Around} (r : RoomG k A) : A.units + 66 < cLine := by have := r.rm.un; omega
theorem RoomG.u64 {k : Nat} {A : Around} (r : RoomG k A) : A.units + 64 < cLine := by have := r.rm.un; omega
theorem RoomG.u65 {k : Nat} {A : Around} (r : RoomG k A) : A.units + 65 < cLine := by have := r.rm.un; omega
structure FnG (P : Program) (w : World) (K : PySem.W.Frag) (mg : Str → Option Value) (base : Heap) (CX : CXT) (k : Nat) (f : Addr) (fd : FuncData) (ps : List Str) (sp : Sp) : Prop where
  len : ∀ vs H Q E, sp vs H Q E → vs.length = ps.length
  run : ∀ (A : Around) (outer : List PySem.Env) (s : Shared) (H : Hp) (args : Args) (us : List Value) (vs : List V) (Q : VK) (E : XK), RoomG k A → Env0 P w K mg base A outer s H → BindsTo s fd args (ps.zip us) → Vals vs us → sp vs H Q E →
    codeAny (model P w) A (.call (.ref f) args) (CR CX outer P w H s Q E) s
theorem FnG.mono {P : Program} {w : World} {K : PySem.W.Frag} {mg : Str → Option Value} {base : Heap} {CX : CXT} {j k : Nat} {f : Addr} {fd : FuncData} {ps : List Str} {sp : Sp} (F : FnG P w K mg base CX j f fd ps sp) (h : j ≤ k) :
    FnG P w K mg base CX k f fd ps sp := ⟨F.len, fun A outer s H args us vs Q E hr => F.run A outer s H args us vs Q E (hr.mono h)⟩
theorem FnG.imp {P : Program} {w : World} {K : PySem.W.Frag} {mg : Str → Option Value} {base : Heap} {CX : CXT} {k : Nat} {f : Addr} {fd : FuncData} {ps : List Str} {sp sp' : Sp} (F : FnG P w K mg base CX k f fd ps sp)
    (h : ∀ vs H Q E, sp' vs H Q E → sp vs H Q E) : FnG P w K mg base CX k f fd ps sp' :=
  ⟨fun vs H Q E q => F.len vs H Q E (h _ _ _ _ q), fun A outer s H args us vs Q E hr he hb hv hs => F.run A outer s H args us vs Q E hr he hb hv (h _ _ _ _ hs)⟩
section
variable {P : Program} {w : World} {K : PySem.W.Frag} {mg : Str → Option Value} {base : Heap} {x qual : Str} {params : Arguments} {body : List Stmt} {scope : Scope} {f : Addr} {fd : FuncData} {N ps : List Str} {k : Nat}
theorem fnG_ok {CX : CXT} {sp : Sp} (F : FunD K x qual params body scope [] [] f fd) (S : FnScope N ps scope) (len : ∀ vs H Q E, sp vs H Q E → vs.length = ps.length)
    (hbody : ∀ (cdv : Value) (A : Around) (outer : List PySem.Env) (s : Shared) (H : Hp) (vs : List V) (Q : VK) (E : XK), RoomG k (A.deeper (envOfC qual scope s.heap.objs.size f cdv)) → sp vs H Q E →
      ∃ t, PSs (cxOf CX P w K mg base N qual scope f cdv A outer s H E) body t ∧ t { nx := fun _ H' => Q .non H', rt := Q } (L2.start N vs) H) :
    FnG P w K mg base CX (k + 1) f fd ps sp := by
  obtain ⟨oc, od, dV, kV, doc, pm, an, cdv, ct, osl, rfl, lk, hcd, _, _⟩ := F.ex
  refine ⟨len, fun A outer s H args us vs Q E hr e0 hb r hsp => ?_⟩
  have hl := len _ _ _ _ hsp
  have KX : K.In s.heap := e0.mod.kin.keeps fun b o e => (e0.bs b o e).1
  have lim : s.heap.NoLimit := e0.mod.nolimit.keeps fun b o e => (e0.bs b o e).1
  have hkind : ∀ y ∈ ps.zip us, scope.names.lookup y.1 = some .local ∨ (scope.names.lookup y.1 = some .cell ∧ ((cellsFrom (s.heap.objs.size + 1) scope.names []).lookup y.1).isSome = true) := fun ⟨n, v⟩ hy => by
    rcases S.par n (List.of_mem_zip hy).1 with q | q
    · exact .inl q
    · exact .inr ⟨q, PySem.W.cellsFrom_some _ _ _ (.inl q)⟩
  refine codeAny_call_function hr.rm.depth (KX _ _ lk) rfl S.co S.gen rfl (PySem.W.codeRec_of KX hcd) (hb _ _ _ _ ?_)
  refine wpAny_newFunctionEnv_cells S.kind hkind fun env he s1 x => ?_
  subst he
  refine ⟨lim.keeps x.toInCall.keep, codeAny_func ?_⟩
  obtain ⟨t, ht, hq⟩ := hbody cdv A outer s H vs Q E (hr.deeper _) hsp
  have I : Inv (cxOf CX P w K mg base N qual scope f cdv A outer s H E) [] (L2.start N vs) H s1 := inv_start S hr.rm.hd e0 hl r x
  refine wpAny_mono (ht.run [] s1 (L2.start N vs) H _ I hq) (fun fl s' hs => ?_) fun e s' hs => hs
  have fin : ∀ {σ' : L2.St} {H' : Hp} {v : V} {u : Value}, Inv (cxOf CX P w K mg base N qual scope f cdv A outer s H E) [] σ' H' s' → RelV v u → Q v H' → CE outer P w H s Q u s' :=
    fun {σ' H' v u} J rv q => ⟨v, H', J.os, J.bare, J.base, J.hok, rv, q⟩
  cases fl with
  | ret u =>
    obtain ⟨v, σ', H', J, rv, q⟩ := hs
    exact fin J rv q
  | next =>
    obtain ⟨σ', H', J, q⟩ := hs
    exact fin (v := V.non) (u := Value.none) J rfl q
  | brk =>
    obtain ⟨_, _, _, q⟩ := hs
    exact False.elim q
  | cont =>
    obtain ⟨_, _, _, q⟩ := hs
    exact False.elim q
end
section
variable {X : Cx} {CX : CXT} {k : Nat} {f C : Addr} {fd : FuncData} {ps : List Str} {sp : Sp} {E : L2.St → XK} {x m : Str} {p pos apos : Pos} {e o : Expr} {es : List Expr} {ta : TE} {t : TA}
theorem run_fnG {pins : List (Addr × Obj)} {σ : L2.St} {H : Hp} {s : Shared} {Q : VK} {us : List Value} {vs : List V} (F : FnG X.prog X.w X.K X.mg X.base CX k f fd ps sp) (hr : RoomG k X.A) (hb : Binds X.K fd ps []) (hx : PassesAt CX X σ (E σ))
    (I : Inv X pins σ H s) (r : Vals vs us) (h : sp vs H Q (E σ)) : wpAny (model X.prog X.w) X.A (call (.ref f) us) (EP X pins σ Q) X.xe s := by
  have hl : us.length = ps.length := by rw [← r.length]; exact F.len _ _ _ _ h
  have b := hb s us I.kIn (by rw [List.append_nil]; exact hl)
  rw [List.append_nil] at b
  refine wpAny_call (codeAny_mono (F.run X.A X.stack s H ⟨us, []⟩ us vs Q (E σ) hr I.env0 b r h) fun r s' hq => ?_)
  cases r with
  | error e => exact hx pins H s e s' I hq
  | ok fl =>
    cases fl with
    | ret u => exact I.after hq
    | next => exact False.elim hq
    | brk => exact False.elim hq
    | cont => exact False.elim hq
theorem pe_callG' (F : FnG X.prog X.w X.K X.mg X.base CX k f fd ps sp) (hr : RoomG k X.A) (hg : Gl X x) (hm : X.mg x = some (.ref f)) (hk : PySem.W.keepIn X.K (.ref f) = true) (hb : Binds X.K fd ps []) (hx : ∀ σ, PassesAt CX X σ (E σ))
    (ha : PA X (e :: es) t) (hdb : (x == ("__debug__" : Str)) = false := by decide) (he : starEach (e :: es) X.env = (false, eval e X.env) :: starEach es X.env := by rfl) (hpl : (backTo pos (starEach es X.env)).any (·.1) = false := by rfl) :
    PE X (.Call (.Name x p) (e :: es) [] pos) (tCallS sp E t) := by
  refine ⟨fun pins s σ H Q I h => ?_⟩
  refine wpAny_Call_Name_kw (ld_glob I hg hm ?_ hdb)
  refine PySem.W.callWith_K (h₀ := X.base) I.ok.mod.kin hk (thn (ha.run pos pins s σ H _ I h) fun us s1 ⟨vs, H1, I1, r, q⟩ => ⟨I1.kIn, ?_⟩) he hpl
  exact run_fnG F hr hb (hx σ) I1 r q
end
end PV

set_option Elab.async false
set_option linter.all false
set_option maxRecDepth 100000
set_option maxHeartbeats 1000000
set_option autoImplicit false
/-! PV, part b: expressions. -/
namespace PV
open PySem PySem.Spec PyProof.Rows L2

theorem PE.imp {X : Cx} {e : Expr} {t t' : TE} (h : PE X e t) (w : ∀ σ H Q, t' σ H Q → t σ H Q) : PE X e t' := ⟨fun pins s σ H Q I q => h.run pins s σ H Q I (w σ H Q q)⟩
theorem PT.imp {X : Cx} {e : Expr} {t t' : TT} (h : PT X e t) (w : ∀ σ H Q, t' σ H Q → t σ H Q) : PT X e t' := ⟨fun pins s σ H Q I q => h.run pins s σ H Q I (w σ H Q q)⟩
theorem PW.imp {X : Cx} {e : Expr} {t t' : TT} (h : PW X e t) (w : ∀ σ H Q, t' σ H Q → t σ H Q) : PW X e t' := ⟨fun wh pins s σ H Q I q => h.run wh pins s σ H Q I (w σ H Q q)⟩
theorem PA.imp {X : Cx} {e : List Expr} {t t' : TA} (h : PA X e t) (w : ∀ σ H Q, t' σ H Q → t σ H Q) : PA X e t' := ⟨fun pos pins s σ H Q I q => h.run pos pins s σ H Q I (w σ H Q q)⟩
theorem OpR.or {X : Cx} {f : Value → Value → Sem Value} {r r' : R2} (h : OpR X f r) (h' : OpR X f r') : OpR X f (fun x y H Q => r x y H Q ∨ r' x y H Q) := by
  intro pins s σ H x y v u Q I rx ry q
  rcases q with q | q
  · exact h pins s σ H x y v u Q I rx ry q
  · exact h' pins s σ H x y v u Q I rx ry q

def ofO {α : Type} : Option α → R α
  | some a => .ok a
  | none => .no
@[simp] theorem ofO_some {α : Type} (a : α) : ofO (some a) = .ok a := rfl
@[simp] theorem ofO_none {α : Type} : ofO (none : Option α) = .no := rfl
theorem Holds.ofO {α : Type} {o : Option α} {P : α → Prop} {W : Ex → Prop} (h : Holds (PV.ofO o) P W) : ∃ a, o = some a ∧ P a := by
  cases o with
  | none => exact h.elim
  | some a => exact ⟨a, rfl, h⟩
theorem same_new {H : Hp} {p : Addr} {o : HO} (h : H p = none) : Same H (upd H p o) := fun b u e => by rw [upd_ne (ne_of_none e h)]; exact e
theorem Same.back {H H' : Hp} (s : Same H H') {a : Addr} (h : H' a = none) : H a = none := L2.Same.free s h

/-! ### what is wanted of a value: data in, fresh data out -/
/-- a new value's places -/
def New (H : Hp) (m : List Addr) : Prop := m.Nodup ∧ ∀ a ∈ m, H a = none
theorem New.nil {H : Hp} : New H [] := ⟨.nil, fun _ q => nomatch q⟩
/-- the end wanted of an operation at H that gives d anew -/
def Ends1 (K : PySem.W.Frag) (H : Hp) (d : PyData) (Q : VK) : Prop := ∀ v H' m, Same H H' → Ab K H' true v d m → New H m → Q v H'
theorem Ends1.now {K : PySem.W.Frag} {H : Hp} {d : PyData} {Q : VK} {v : V} (h : Ends1 K H d Q) (a : Ab K H true v d []) : Q v H := h v H [] (Same.refl H) a New.nil
theorem Ends1.lst {K : PySem.W.Frag} {H : Hp} {ds : List PyData} {Q : VK} {vs : List V} (h : Ends1 K H (.list ds) Q) (a : AbL K H true vs ds []) : ∀ p, H p = none → Q (.ref p) (upd H p (.lst vs)) := fun p hp =>
  h _ _ [p] (same_new hp) (.lst upd_same (a.same (same_new hp))) ⟨by simp, fun b q => by rw [List.mem_singleton.mp q]; exact hp⟩
theorem Ends1.tup {K : PySem.W.Frag} {H : Hp} {ds : List PyData} {Q : VK} {vs : List V} (h : Ends1 K H (.tuple ds) Q) (a : AbL K H true vs ds []) : ∀ p, H p = none → Q (.ref p) (upd H p (.tup vs)) := fun p hp =>
  h _ _ [] (same_new hp) (.tup (.inl (.inl upd_same)) (a.same (same_new hp))) New.nil
structure Op2 (K : PySem.W.Frag) (r : R2) (f : PyData → PyData → Option PyData) : Prop where
  run : ∀ (H : Hp) (x y : V) (a b : PyData) (m n : List Addr) (d : PyData) (Q : VK), Ab K H false x a m → Ab K H false y b n → f a b = some d → Ends1 K H d Q → r x y H Q
structure Op1 (K : PySem.W.Frag) (r : V → Hp → VK → Prop) (f : PyData → Option PyData) : Prop where
  run : ∀ (H : Hp) (x : V) (a : PyData) (m : List Addr) (d : PyData) (Q : VK), Ab K H false x a m → f a = some d → Ends1 K H d Q → r x H Q
structure OpN (K : PySem.W.Frag) (r : List V → Hp → VK → Prop) (f : List PyData → Option PyData) : Prop where
  run : ∀ (H : Hp) (x : List V) (a : List PyData) (m : List Addr) (d : PyData) (Q : VK), AbL K H false x a m → f a = some d → Ends1 K H d Q → r x H Q
/-- a comparison -/
structure OpB (K : PySem.W.Frag) (r : R2) (f : PyData → PyData → Option Bool) : Prop where
  run : ∀ (H : Hp) (x y : V) (a b : PyData) (m n : List Addr) (d : Bool) (Q : VK), Ab K H false x a m → Ab K H false y b n → f a b = some d → Q (.bl d) H → r x y H Q
theorem OpB.val {K : PySem.W.Frag} {r : R2} {f : PyData → PyData → Option Bool} (h : OpB K r f) : Op2 K r (fun a b => (f a b).map .bool) := ⟨fun H x y a b m n d Q h1 h2 e q => by
  obtain ⟨c, e1, rfl⟩ := Option.map_eq_some_iff.mp e
  exact h.run H x y a b m n c Q h1 h2 e1 (q.now (.bl c))⟩

section
variable {X : Cx} {W : WX} {ks : List Bool} {a b c e : Expr} {pos : Pos} {κ : Kd}
abbrev DP (X : Cx) (W : WX) (ks : List Bool) (κ : Kd) (e : Expr) (f : Env → R PyData) : Prop := PE X e (tP X.K W ks κ f)
abbrev DPA (X : Cx) (W : WX) (ks : List Bool) (κ : Kd) (e : List Expr) (f : Env → R (List PyData)) : Prop := PA X e (tPA X.K W ks κ f)
abbrev DPT (X : Cx) (W : WX) (ks : List Bool) (e : Expr) (f : Env → R Bool) : Prop := PT X e (tPT X.K W ks f)
abbrev DE (X : Cx) (W : WX) (ks : List Bool) (κ : Kd) (e : Expr) (f : Env → R (PyData × Env)) : Prop := PE X e (tE X.K W ks κ f)
abbrev DEA (X : Cx) (W : WX) (ks : List Bool) (κ : Kd) (e : List Expr) (f : Env → R (List PyData × Env)) : Prop := PA X e (tEA X.K W ks κ f)
abbrev DET (X : Cx) (W : WX) (ks : List Bool) (e : Expr) (f : Env → R (Bool × Env)) : Prop := PT X e (tET X.K W ks f)

/-! ### the combinators of pure expressions -/
def fVar (i : Nat) : Env → R PyData := fun ρ => match ρ[i]? with
  | some (some d) => .ok d
  | _ => .no
def fC (d : PyData) : Env → R PyData := fun _ => .ok d
def fFlat (f : Env → R PyData) : Env → R PyData := fun ρ => f ρ >>= fun d => if flat d then .ok d else .no
def fOp (o : PyData → PyData → Option PyData) (f g : Env → R PyData) : Env → R PyData := fun ρ => f ρ >>= fun x => g ρ >>= fun y => ofO (o x y)
def fUn (o : PyData → Option PyData) (f : Env → R PyData) : Env → R PyData := fun ρ => f ρ >>= fun x => ofO (o x)
def fIf (t : Env → R Bool) (f g : Env → R PyData) : Env → R PyData := fun ρ => t ρ >>= fun c => if c then f ρ else g ρ
def fNil : Env → R (List PyData) := fun _ => .ok []
def fCons (f : Env → R PyData) (g : Env → R (List PyData)) : Env → R (List PyData) := fun ρ => f ρ >>= fun x => g ρ >>= fun xs => .ok (x :: xs)
def fTup (f : Env → R (List PyData)) : Env → R PyData := fun ρ => f ρ >>= fun xs => if xs.length ≤ sizeLine then .ok (.tuple xs) else .no
def fLst (f : Env → R (List PyData)) : Env → R PyData := fun ρ => f ρ >>= fun xs => if xs.length ≤ sizeLine then .ok (.list xs) else .no
def fN (o : List PyData → Option PyData) (f : Env → R (List PyData)) : Env → R PyData := fun ρ => f ρ >>= fun xs => ofO (o xs)
def asB : PyData → R Bool
  | .bool b => .ok b
  | _ => .no
def fAnd (f g : Env → R PyData) : Env → R PyData := fun ρ => f ρ >>= asB >>= fun c => if c then g ρ else .ok (.bool false)
def fOr (f g : Env → R PyData) : Env → R PyData := fun ρ => f ρ >>= asB >>= fun c => if c then .ok (.bool true) else g ρ
def fNot (f : Env → R PyData) : Env → R PyData := fun ρ => f ρ >>= asB >>= fun c => .ok (.bool (!c))
def gAnd (f g : Env → R Bool) : Env → R Bool := fun ρ => f ρ >>= fun c => if c then g ρ else .ok false
def gOr (f g : Env → R Bool) : Env → R Bool := fun ρ => f ρ >>= fun c => if c then .ok true else g ρ
def gNot (f : Env → R Bool) : Env → R Bool := fun ρ => f ρ >>= fun c => .ok (!c)
def gCmp (o : PyData → PyData → Option Bool) (f g : Env → R PyData) : Env → R Bool := fun ρ => f ρ >>= fun x => g ρ >>= fun y => ofO (o x y)
def gChain (o p : PyData → PyData → Option Bool) (f g h : Env → R PyData) : Env → R Bool := fun ρ => f ρ >>= fun x => g ρ >>= fun y => ofO (o x y) >>= fun c => if c then h ρ >>= fun z => ofO (p y z) else .ok false
def fOfB (f : Env → R Bool) : Env → R PyData := fun ρ => f ρ >>= fun c => .ok (.bool c)
def gTru (t : PyData → Option Bool) (f : Env → R PyData) : Env → R Bool := fun ρ => f ρ >>= fun x => ofO (t x)

theorem RCp.pre {H H1 : Hp} {ρ : Env} {fp : Nat → List Addr} {m : List Addr} {σ : L2.St} (eo : EOk X.K H ks σ ρ fp) (s : Same H H1) (r : RCp κ H1 ks ρ fp m) : RCp κ H ks ρ fp m := by
  cases κ with
  | B => trivial
  | V => exact fun a q => ⟨(r a q).1, (r a q).2.elim .inl fun z => .inr (Same.back s z)⟩
  | F => exact ⟨r.1, fun a q => Same.back s (r.2 a q)⟩
/-! ### names, constants -/
theorem p_varB {i : Nat} {x : Str} (hN : X.N[i]? = some x := by rfl) (hv : Vis X.env.scope x := by first | exact Or.inl rfl | exact Or.inr (Or.inl rfl) | exact Or.inr (Or.inr rfl)) (hd : (x == ("__debug__" : Str)) = false := by decide)
    (hcd : (x == ("__classdict__" : Str)) = false := by decide) : DP X W ks .B (.Name x pos) (fVar i) := PE.imp (pe_var hN hv hd hcd) fun σ H Q ⟨ρ, fp, eo, h⟩ => by
  unfold fVar at h
  split at h
  · rename_i d e
    obtain ⟨v, e1, ab⟩ := eo.ab i d e
    exact ⟨v, e1, h v H _ (Same.refl H) ab.down trivial⟩
  · exact h.elim
theorem p_varV {i : Nat} {x : Str} (hk : ks[i]? = some false := by rfl) (hN : X.N[i]? = some x := by rfl) (hv : Vis X.env.scope x := by first | exact Or.inl rfl | exact Or.inr (Or.inl rfl) | exact Or.inr (Or.inr rfl)) (hd : (x == ("__debug__" : Str)) = false := by decide)
    (hcd : (x == ("__classdict__" : Str)) = false := by decide) : DP X W ks .V (.Name x pos) (fVar i) := PE.imp (pe_var hN hv hd hcd) fun σ H Q ⟨ρ, fp, eo, h⟩ => by
  unfold fVar at h
  split at h
  · rename_i d e
    obtain ⟨v, e1, ab⟩ := eo.ab i d e
    refine ⟨v, e1, h v H _ (Same.refl H) ab.down fun a q => ⟨fun ⟨j, e2, o, e3, q2⟩ => ?_, .inl ⟨i, d, e, q⟩⟩⟩
    have hji : j ≠ i := fun z => by rw [z] at o; unfold own at o; rw [hk] at o; cases o
    exact eo.dj j i e2 d o hji e3 e a q2 q
  · exact h.elim
theorem p_flat {f : Env → R PyData} (h : DP X W ks .B e f) : DP X W ks κ e (fFlat f) := PE.imp h fun σ H Q ⟨ρ, fp, eo, h⟩ =>
  ⟨ρ, fp, eo, (Holds.bind h).mono (fun d hd v H' m s ab _ => by
    by_cases hf : flat d = true
    · rw [if_pos hf] at hd
      have em := ab.flat hf
      subst em
      exact hd v H' [] s (ab.up hf _) (RCp.nil _)
    · rw [if_neg hf] at hd
      exact hd.elim) fun c hc => hc⟩
theorem p_toV {f : Env → R PyData} (h : DP X W ks .F e f) : DP X W ks .V e f := PE.imp h fun σ H Q ⟨ρ, fp, eo, h⟩ =>
  ⟨ρ, fp, eo, h.mono (fun d hd v H' m s ab r => hd v H' m s ab.down (r.toV eo)) fun c hc => hc⟩
theorem p_toB {f : Env → R PyData} (h : DP X W ks κ e f) : DP X W ks .B e f := PE.imp h fun σ H Q ⟨ρ, fp, eo, h⟩ =>
  ⟨ρ, fp, eo, h.mono (fun d hd v H' m s ab r => hd v H' m s ab.down trivial) fun c hc => hc⟩
theorem p_C {v : V} {d : PyData} (h : PE X e (tC v)) (ab : ∀ H o, Ab X.K H o v d []) : DP X W ks κ e (fC d) := PE.imp h fun σ H Q ⟨ρ, fp, eo, h⟩ => h v H [] (Same.refl H) (ab H _) (RCp.nil _)
theorem p_int {i j} : DP X W ks κ (.Constant (.int i) j pos) (fC (.int i)) := p_C pe_int fun _ _ => .int i
theorem p_str {i j} : DP X W ks κ (.Constant (.str i) j pos) (fC (.str i)) := p_C pe_str fun _ _ => .str i
theorem p_bl {i j} : DP X W ks κ (.Constant (.bool i) j pos) (fC (.bool i)) := p_C pe_bl fun _ _ => .bl i
theorem p_non {j} : DP X W ks κ (.Constant .none j pos) (fC .none) := p_C pe_non fun _ _ => .non
/-- a constant of the module -/
theorem p_glob {x : Str} {u : Value} {v : V} {d : PyData} (hm : X.mg x = some u) (r : RelV v u) (ab : ∀ H o, Ab X.K H o v d []) (hg : Gl X x := by rfl) (hd : (x == ("__debug__" : Str)) = false := by decide) : DP X W ks κ (.Name x pos) (fC d) := p_C (pe_glob hg hm r hd) ab

/-! ### operators -/
theorem p_op {op : Operator} {r : R2} {o : PyData → PyData → Option PyData} {f g : Env → R PyData} (ho : OpR X (binaryOp op) r) (hd : Op2 X.K r o) (ha : DP X W ks .B a f) (hb : DP X W ks .B b g) : DP X W ks .F (.BinOp a op b pos) (fOp o f g) :=
  PE.imp (pe_op ho ha hb) fun σ H Q ⟨ρ, fp, eo, h⟩ => ⟨ρ, fp, eo, (Holds.bind h).mono (fun x hx v H1 m s1 a1 _ => ⟨ρ, fp, eo.same s1, (Holds.bind hx).mono (fun y hy u H2 n s2 a2 _ => by
    obtain ⟨d, e, hy⟩ := Holds.ofO hy
    exact hd.run H2 v u x y m n d Q (a1.same s2) a2 e fun w H3 m' s3 a3 nw => hy w H3 m' (s1.trans (s2.trans s3)) a3 ⟨nw.1, fun z q => Same.back (s1.trans s2) (nw.2 z q)⟩) fun c hc H' s' => hc H' (s1.trans s')⟩) fun c hc => hc⟩
theorem p_un {op : UnaryOp} {r : V → Hp → VK → Prop} {o : PyData → Option PyData} {f : Env → R PyData} (ho : UnR X (unaryOp op) r) (hd : Op1 X.K r o) (ha : DP X W ks .B a f) : DP X W ks .F (.UnaryOp op a pos) (fUn o f) :=
  PE.imp (pe_un ho ha) fun σ H Q ⟨ρ, fp, eo, h⟩ => ⟨ρ, fp, eo, (Holds.bind h).mono (fun x hx v H1 m s1 a1 _ => by
    obtain ⟨d, e, hy⟩ := Holds.ofO hx
    exact hd.run H1 v x m d Q a1 e fun w H3 m' s3 a3 nw => hy w H3 m' (s1.trans s3) a3 ⟨nw.1, fun z q => Same.back s1 (nw.2 z q)⟩) fun c hc => hc⟩
/-- a comparison as a value -/
theorem p_cmp {op : CmpOp} {r : R2} {o : PyData → PyData → Option Bool} {f g : Env → R PyData} (ho : OpR X (compareOp op) r) (hd : OpB X.K r o) (ha : DP X W ks .B a f) (hb : DP X W ks .B b g) (hm : behindInMarks op b = false) : DP X W ks .F (.Compare a [op] [b] pos) (fOfB (gCmp o f g)) :=
  PE.imp (pe_cmpR ho ha hb hm) fun σ H Q ⟨ρ, fp, eo, h⟩ => ⟨ρ, fp, eo, (Holds.bind (Holds.bind h)).mono (fun x hx v H1 m s1 a1 _ => ⟨ρ, fp, eo.same s1, (Holds.bind hx).mono (fun y hy u H2 n s2 a2 _ => by
    obtain ⟨d, e, hy⟩ := Holds.ofO hy
    exact hd.run H2 v u x y m n d Q (a1.same s2) a2 e (hy _ H2 [] (s1.trans s2) (.bl d) (RCp.nil _))) fun c hc H' s' => hc H' (s1.trans s')⟩) fun c hc => hc⟩
/-- .. as a test -/
theorem t_cmp {op : CmpOp} {r : R2} {o : PyData → PyData → Option Bool} {f g : Env → R PyData} (ho : OpR X (compareOp op) r) (hd : OpB X.K r o) (ha : DP X W ks .B a f) (hb : DP X W ks .B b g) (hm : behindInMarks op b = false) : DPT X W ks (.Compare a [op] [b] pos) (gCmp o f g) :=
  PT.imp (pt_cmpR ho ha hb hm) fun σ H Q ⟨ρ, fp, eo, h⟩ => ⟨ρ, fp, eo, (Holds.bind h).mono (fun x hx v H1 m s1 a1 _ => ⟨ρ, fp, eo.same s1, (Holds.bind hx).mono (fun y hy u H2 n s2 a2 _ => by
    obtain ⟨d, e, hy⟩ := Holds.ofO hy
    exact hd.run H2 v u x y m n d _ (a1.same s2) a2 e ⟨d, rfl, hy H2 (s1.trans s2)⟩) fun c hc H' s' => hc H' (s1.trans s')⟩) fun c hc => hc⟩
theorem chain_core {r r' : R2} {o o' : PyData → PyData → Option Bool} {f g k : Env → R PyData} (hd : OpB X.K r o) (hd' : OpB X.K r' o') {σ : L2.St} {H : Hp} {Q : VK} (h : tPT X.K W ks (gChain o o' f g k) σ H fun b H' => Q (.bl b) H') :
    tChain r r' (tP X.K W ks .B f) (tP X.K W ks .B g) (tP X.K W ks .B k) σ H Q := by
  obtain ⟨ρ, fp, eo, h⟩ := h
  refine ⟨ρ, fp, eo, (Holds.bind h).mono (fun x hx v H1 m s1 a1 _ => ⟨ρ, fp, eo.same s1, (Holds.bind hx).mono (fun y hy u H2 n s2 a2 _ => ?_) fun c hc H' s' => hc H' (s1.trans s')⟩) fun c hc => hc⟩
  obtain ⟨d, e, hy⟩ := Holds.ofO (Holds.bind hy)
  refine hd.run H2 v u x y m n d _ (a1.same s2) a2 e ⟨d, rfl, ?_⟩
  cases d with
  | false => exact hy H2 (s1.trans s2)
  | true =>
    refine ⟨ρ, fp, eo.same (s1.trans s2), (Holds.bind hy).mono (fun z hz w' H3 l s3 a3 _ => ?_) fun c hc H' s' => hc H' ((s1.trans s2).trans s')⟩
    obtain ⟨d', e', hz⟩ := Holds.ofO hz
    exact hd'.run H3 u w' y z n l d' _ (a2.same s3) a3 e' (hz H3 ((s1.trans s2).trans s3))
theorem tPT.wide {f : Env → R Bool} {σ : L2.St} {H : Hp} {Q Q' : Bool → Hp → Prop} (h : tPT X.K W ks f σ H Q) (w : ∀ b H', Q b H' → Q' b H') : tPT X.K W ks f σ H Q' := by
  obtain ⟨ρ, fp, eo, h⟩ := h
  exact ⟨ρ, fp, eo, h.mono (fun b hb H' s => w b H' (hb H' s)) fun c hc => hc⟩
theorem t_chain {op op' : CmpOp} {r r' : R2} {o o' : PyData → PyData → Option Bool} {f g k : Env → R PyData} (ho : OpR X (compareOp op) r) (hd : OpB X.K r o) (ho' : OpR X (compareOp op') r') (hd' : OpB X.K r' o') (ha : DP X W ks .B a f) (hb : DP X W ks .B b g) (hc : DP X W ks .B c k)
    (hm : lastMarks [op, op'] [b, c] = false := by with_unfolding_all rfl) : DPT X W ks (.Compare a [op, op'] [b, c] pos) (gChain o o' f g k) :=
  PT.imp (pt_chain ho ho' ha hb hc hm) fun σ H Q h => chain_core hd hd' (h.wide fun b H' q => ⟨b, rfl, q⟩)
theorem fOfB_in {f : Env → R Bool} {σ : L2.St} {H : Hp} {Q : VK} (h : tP X.K W ks .F (fOfB f) σ H Q) : tPT X.K W ks f σ H fun b H' => Q (.bl b) H' := by
  obtain ⟨ρ, fp, eo, h⟩ := h
  exact ⟨ρ, fp, eo, (Holds.bind h).mono (fun d hd H' s => hd _ H' [] s (.bl d) (RCp.nil _)) fun c hc => hc⟩
theorem p_chain {op op' : CmpOp} {r r' : R2} {o o' : PyData → PyData → Option Bool} {f g k : Env → R PyData} (ho : OpR X (compareOp op) r) (hd : OpB X.K r o) (ho' : OpR X (compareOp op') r') (hd' : OpB X.K r' o') (ha : DP X W ks .B a f) (hb : DP X W ks .B b g) (hc : DP X W ks .B c k)
    (hm : lastMarks [op, op'] [b, c] = false := by with_unfolding_all rfl) : DP X W ks .F (.Compare a [op, op'] [b, c] pos) (fOfB (gChain o o' f g k)) :=
  PE.imp (pe_chain ho ho' ha hb hc hm) fun σ H Q h => chain_core hd hd' (fOfB_in h)

/-! ### truth, and, or, not -/
structure OpT (K : PySem.W.Frag) (t : PyData → Option Bool) : Prop where
  run : ∀ (H : Hp) (x : V) (a : PyData) (m : List Addr) (d : Bool), Ab K H false x a m → t a = some d → TruV K x H d
theorem t_truth {t : PyData → Option Bool} {f : Env → R PyData} (ht : OpT X.K t) (ha : DP X W ks .B a f) (he : ∀ whole, isTrue a X.env whole = (do let v ← whole; standAt a.pos; holding [v] (truthy v)) := by intro _; rfl) : DPT X W ks a (gTru t f) :=
  PT.imp (pt_truth ha he) fun σ H Q ⟨ρ, fp, eo, h⟩ => ⟨ρ, fp, eo, (Holds.bind h).mono (fun x hx v H1 m s1 a1 _ => by
    obtain ⟨d, e, hy⟩ := Holds.ofO hx
    exact ⟨d, ht.run H1 v x m d a1 e, hy H1 s1⟩) fun c hc => hc⟩
abbrev DPW (X : Cx) (W : WX) (ks : List Bool) (e : Expr) (f : Env → R Bool) : Prop := PW X e (tPT X.K W ks f)
variable {rest : List Expr}
theorem w_and {f g : Env → R Bool} (ha : DPT X W ks a f) (hb : DPW X W ks (.BoolOp .And (b :: rest) pos) g) : DPW X W ks (.BoolOp .And (a :: b :: rest) pos) (gAnd f g) :=
  PW.imp (pw_and ha hb) fun σ H Q ⟨ρ, fp, eo, h⟩ => ⟨ρ, fp, eo, (Holds.bind h).mono (fun x hx H1 s1 => by
    cases x with
    | false => exact hx H1 s1
    | true => exact ⟨ρ, fp, eo.same s1, Holds.mono hx (fun y hy H2 s2 => hy H2 (s1.trans s2)) fun c hc H' s' => hc H' (s1.trans s')⟩) fun c hc => hc⟩
theorem w_or {f g : Env → R Bool} (ha : DPT X W ks a f) (hb : DPW X W ks (.BoolOp .Or (b :: rest) pos) g) : DPW X W ks (.BoolOp .Or (a :: b :: rest) pos) (gOr f g) :=
  PW.imp (pw_or ha hb) fun σ H Q ⟨ρ, fp, eo, h⟩ => ⟨ρ, fp, eo, (Holds.bind h).mono (fun x hx H1 s1 => by
    cases x with
    | true => exact hx H1 s1
    | false => exact ⟨ρ, fp, eo.same s1, Holds.mono hx (fun y hy H2 s2 => hy H2 (s1.trans s2)) fun c hc H' s' => hc H' (s1.trans s')⟩) fun c hc => hc⟩
theorem w_and1 {f : Env → R Bool} (ha : DPT X W ks a f) : DPW X W ks (.BoolOp .And [a] pos) f := pw_and1 ha
theorem w_or1 {f : Env → R Bool} (ha : DPT X W ks a f) : DPW X W ks (.BoolOp .Or [a] pos) f := pw_or1 ha
theorem t_w {f : Env → R Bool} (h : DPW X W ks a f) : DPT X W ks a f := PW.pt h
theorem t_not {f : Env → R Bool} (ha : DPT X W ks a f) : DPT X W ks (.UnaryOp .Not a pos) (gNot f) :=
  PT.imp (pt_not ha) fun σ H Q ⟨ρ, fp, eo, h⟩ => ⟨ρ, fp, eo, (Holds.bind h).mono (fun x hx H1 s1 => hx H1 s1) fun c hc => hc⟩
theorem asB_bind {d : PyData} {β : Type} {g : Bool → R β} {P : β → Prop} {U : Ex → Prop} (h : Holds (asB d >>= g) P U) : ∃ c, d = .bool c ∧ Holds (g c) P U := by
  cases d <;> first | exact ⟨_, rfl, h⟩ | exact h.elim
/-- .. as values, of bools -/
theorem p_one {op} {f : Env → R PyData} (h : DP X W ks κ a f) : DP X W ks κ (.BoolOp op [a] pos) f := pe_one h
theorem bind_assoc' {α β γ : Type} (x : R α) (f : α → R β) (g : β → R γ) : (x >>= f >>= g) = (x >>= fun a => f a >>= g) := by cases x <;> rfl
theorem p_and {f g : Env → R PyData} (ha : DP X W ks .B a f) (hb : DP X W ks κ (.BoolOp .And (b :: rest) pos) g) : DP X W ks κ (.BoolOp .And (a :: b :: rest) pos) (fAnd f g) :=
  PE.imp (pe_and ha hb) fun σ H Q ⟨ρ, fp, eo, h⟩ => by
    unfold fAnd at h
    rw [bind_assoc'] at h
    refine ⟨ρ, fp, eo, (Holds.bind h).mono (fun x hx v H1 m s1 a1 _ => ?_) fun c hc => hc⟩
    obtain ⟨c, rfl, hx⟩ := asB_bind hx
    obtain ⟨rfl, rfl⟩ := a1.eq_bl
    refine ⟨c, rfl, ?_⟩
    cases c with
    | false => exact hx _ H1 [] s1 (.bl false) (RCp.nil _)
    | true =>
      refine ⟨ρ, fp, eo.same s1, Holds.mono hx (fun y hy u H2 n s2 a2 r => hy u H2 n (s1.trans s2) a2 (RCp.pre eo s1 r)) fun c hc H' s' => hc H' (s1.trans s')⟩
theorem p_or {f g : Env → R PyData} (ha : DP X W ks .B a f) (hb : DP X W ks κ (.BoolOp .Or (b :: rest) pos) g) : DP X W ks κ (.BoolOp .Or (a :: b :: rest) pos) (fOr f g) :=
  PE.imp (pe_or ha hb) fun σ H Q ⟨ρ, fp, eo, h⟩ => by
    unfold fOr at h
    rw [bind_assoc'] at h
    refine ⟨ρ, fp, eo, (Holds.bind h).mono (fun x hx v H1 m s1 a1 _ => ?_) fun c hc => hc⟩
    obtain ⟨c, rfl, hx⟩ := asB_bind hx
    obtain ⟨rfl, rfl⟩ := a1.eq_bl
    refine ⟨c, rfl, ?_⟩
    cases c with
    | true => exact hx _ H1 [] s1 (.bl true) (RCp.nil _)
    | false =>
      refine ⟨ρ, fp, eo.same s1, Holds.mono hx (fun y hy u H2 n s2 a2 r => hy u H2 n (s1.trans s2) a2 (RCp.pre eo s1 r)) fun c hc H' s' => hc H' (s1.trans s')⟩
theorem p_not {f : Env → R PyData} (ha : DP X W ks .B a f) : DP X W ks .F (.UnaryOp .Not a pos) (fNot f) :=
  PE.imp (pe_not ha) fun σ H Q ⟨ρ, fp, eo, h⟩ => by
    unfold fNot at h
    rw [bind_assoc'] at h
    refine ⟨ρ, fp, eo, (Holds.bind h).mono (fun x hx v H1 m s1 a1 _ => ?_) fun c hc => hc⟩
    obtain ⟨c, rfl, hx⟩ := asB_bind hx
    obtain ⟨rfl, rfl⟩ := a1.eq_bl
    exact ⟨c, rfl, hx _ H1 [] s1 (.bl _) (RCp.nil _)⟩
theorem p_if {t : Env → R Bool} {f g : Env → R PyData} (hc : DPT X W ks c t) (ha : DP X W ks κ a f) (hb : DP X W ks κ b g) : DP X W ks κ (.IfExp c a b pos) (fIf t f g) :=
  PE.imp (pe_ifExp hc ha hb) fun σ H Q ⟨ρ, fp, eo, h⟩ => ⟨ρ, fp, eo, (Holds.bind h).mono (fun x hx H1 s1 => by
    cases x with
    | true => exact ⟨ρ, fp, eo.same s1, Holds.mono hx (fun y hy u H2 n s2 a2 r => hy u H2 n (s1.trans s2) a2 (RCp.pre eo s1 r)) fun c hc H' s' => hc H' (s1.trans s')⟩
    | false => exact ⟨ρ, fp, eo.same s1, Holds.mono hx (fun y hy u H2 n s2 a2 r => hy u H2 n (s1.trans s2) a2 (RCp.pre eo s1 r)) fun c hc H' s' => hc H' (s1.trans s')⟩) fun c hc => hc⟩

/-! ### argument lists, displays -/
theorem a_nil : DPA X W ks κ [] fNil := PA.imp pa_nil fun σ H Q ⟨ρ, fp, eo, h⟩ => h [] H [] (Same.refl H) .nil (RCp.nil _)
theorem RCp.app {H H1 : Hp} {ρ : Env} {fp : Nat → List Addr} {m n : List Addr} {v : V} {d : PyData} {σ : L2.St} (eo : EOk X.K H ks σ ρ fp) (s : Same H H1) {o : Bool} (a : Ab X.K H1 o v d m) (r : RCp κ H ks ρ fp m) (q : RCp κ H1 ks ρ fp n) : RCp κ H ks ρ fp (m ++ n) := by
  cases κ with
  | B => trivial
  | V => exact fun x z => (List.mem_append.mp z).elim (r x) fun z => ⟨(q x z).1, (q x z).2.elim .inl fun y => .inr (Same.back s y)⟩
  | F =>
    refine ⟨List.nodup_append.mpr ⟨r.1, q.1, fun x hx y hy e => ?_⟩, fun x z => (List.mem_append.mp z).elim (r.2 x) fun z => Same.back s (q.2 x z)⟩
    rw [e] at hx
    exact a.tr hx (q.2 y hy)
theorem a_cons {es : List Expr} {f : Env → R PyData} {g : Env → R (List PyData)} (ha : DP X W ks κ e f) (hr : DPA X W ks κ es g) (hs : starEach (e :: es) X.env = (false, eval e X.env) :: starEach es X.env := by rfl) : DPA X W ks κ (e :: es) (fCons f g) :=
  PA.imp (pa_cons ha hr hs) fun σ H Q ⟨ρ, fp, eo, h⟩ => ⟨ρ, fp, eo, (Holds.bind h).mono (fun x hx v H1 m s1 a1 r1 => ⟨ρ, fp, eo.same s1, (Holds.bind hx).mono (fun y hy u H2 n s2 a2 r2 =>
    hy (v :: u) H2 (m ++ n) (s1.trans s2) (.cons (a1.same s2) a2) (RCp.app eo s1 a1 r1 r2)) fun c hc H' s' => hc H' (s1.trans s')⟩) fun c hc => hc⟩
theorem p_tup {es : List Expr} {x1} {f : Env → R (List PyData)} (h : DPA X W ks κ es f) : DP X W ks κ (.Tuple es x1 pos) (fTup f) :=
  PE.imp (pe_tup h) fun σ H Q ⟨ρ, fp, eo, h⟩ => ⟨ρ, fp, eo, (Holds.bind h).mono (fun x hx v H1 m s1 a1 r1 => by
    by_cases hz : x.length ≤ sizeLine
    · rw [if_pos hz] at hx
      refine ⟨by rw [a1.len]; exact hz, fun p hp => hx (.ref p) _ m (s1.trans (same_new hp)) (.tup (.inl (.inl upd_same)) (a1.same (same_new hp))) r1⟩
    · rw [if_neg hz] at hx
      exact hx.elim) fun c hc => hc⟩
theorem RCp.new {H H1 : Hp} {ρ : Env} {fp : Nat → List Addr} {m : List Addr} {p : Addr} {vs : List V} {ds : List PyData} {σ : L2.St} (eo : EOk X.K H ks σ ρ fp) (s : Same H H1) {o : Bool} (a : AbL X.K H1 o vs ds m) (hp : H1 p = none) (r : RCp κ H ks ρ fp m) : RCp κ H ks ρ fp (p :: m) := by
  have hp0 := Same.back s hp
  cases κ with
  | B => trivial
  | V =>
    intro x z
    rcases List.mem_cons.mp z with e | z
    · rw [e]; exact ⟨fun y => eo.notAl hp0 y.al, .inr hp0⟩
    · exact r x z
  | F =>
    refine ⟨List.nodup_cons.mpr ⟨fun z => a.tr z hp, r.1⟩, fun x z => ?_⟩
    rcases List.mem_cons.mp z with e | z
    · rw [e]; exact hp0
    · exact r.2 x z
theorem p_lst {es : List Expr} {f : Env → R (List PyData)} (h : DPA X W ks κ es f) : DP X W ks κ (.List es pos) (fLst f) :=
  PE.imp (pe_lst h) fun σ H Q ⟨ρ, fp, eo, h⟩ => ⟨ρ, fp, eo, (Holds.bind h).mono (fun x hx v H1 m s1 a1 r1 => by
    by_cases hz : x.length ≤ sizeLine
    · rw [if_pos hz] at hx
      refine ⟨by rw [a1.len]; exact hz, fun p hp => hx (.ref p) _ (p :: m) (s1.trans (same_new hp)) (.lst upd_same (a1.same (same_new hp))) (RCp.new eo s1 a1 hp r1)⟩
    · rw [if_neg hz] at hx
      exact hx.elim) fun c hc => hc⟩
end
end PV

set_option Elab.async false
set_option linter.all false
set_option maxRecDepth 100000
set_option maxHeartbeats 1000000
set_option autoImplicit false
/-! PV, part c: subscripts, slices, calls. -/
namespace PV
open PySem PySem.Spec PyProof.Rows L2
theorem RCp.sub {K : PySem.W.Frag} {κ : Kd} {H : Hp} {ks : List Bool} {ρ : Env} {fp : Nat → List Addr} {m n : List Addr} (r : RCp κ H ks ρ fp m) (s : n.Sublist m) : RCp κ H ks ρ fp n := by
  cases κ with
  | B => trivial
  | V => exact fun a q => r a (s.subset q)
  | F => exact ⟨r.1.sublist s, fun a q => r.2 a (s.subset q)⟩
/-! ### subscripts -/
def ixD : PyData → PyData → Option PyData
  | .list ds, .int i => atI ds i
  | .tuple ds, .int i => atI ds i
  | .str x, .int i => if x.length ≤ sizeLine then (atI x.cps.toList i).map fun c => .str ⟨#[c]⟩ else none
  | _, _ => none
theorem ixN_lt {n : Nat} {i : Int} {j : Nat} (h : ixN n i = some j) : j < n := (ixN_seq h).2.1
theorem AbL.atI {K : PySem.W.Frag} {H : Hp} {o : Bool} {vs : List V} {ds : List PyData} {m : List Addr} (h : AbL K H o vs ds m) {i : Int} {d : PyData} (e : L2.atI ds i = some d) : ∃ v n, L2.atI vs i = some v ∧ Ab K H o v d n ∧ n.Sublist m := by
  unfold L2.atI at e
  cases q : ixN ds.length i with
  | none => rw [q] at e; cases e
  | some j =>
    rw [q] at e
    obtain ⟨v, n, e1, a1, s1⟩ := h.get (i := j) e
    exact ⟨v, n, by unfold L2.atI; rw [h.len, q]; exact e1, a1, s1⟩
section
variable {X : Cx} {W : WX} {ks : List Bool} {a b c e : Expr} {pos : Pos} {κ : Kd}
theorem ixD_run {K : PySem.W.Frag} {H : Hp} {o o2 : Bool} {x y : V} {p q : PyData} {m n : List Addr} {d : PyData} {Q : VK} (ax : Ab K H o x p m) (ay : Ab K H o2 y q n) (e : ixD p q = some d) (h : ∀ v l, Ab K H o v d l → l.Sublist m → Q v H) : rIx K x y H Q := by
  cases p <;> cases q <;> simp only [ixD, reduceCtorEq] at e
  · obtain ⟨rfl, rfl⟩ := ay.eq_int
    obtain ⟨rfl, rfl⟩ := ax.eq_str
    split at e
    · rename_i hz
      obtain ⟨c, e1, rfl⟩ := Option.map_eq_some_iff.mp e
      exact .inr (.inr ⟨_, _, c, rfl, rfl, hz, e1, h _ [] (.str _) (List.Sublist.refl _)⟩)
    · cases e
  · obtain ⟨rfl, rfl⟩ := ay.eq_int
    obtain ⟨a, xs, n', rfl, hl, al, hs⟩ := ax.list
    obtain ⟨v, l, e1, a1, s1⟩ := al.atI e
    exact .inl ⟨a, xs, _, v, rfl, rfl, hl, e1, h v l a1 (s1.trans hs)⟩
  · obtain ⟨rfl, rfl⟩ := ay.eq_int
    obtain ⟨a, xs, rfl, hl, al⟩ := ax.tuple
    obtain ⟨v, l, e1, a1, s1⟩ := al.atI e
    exact .inr (.inl ⟨a, xs, _, v, rfl, rfl, hl, e1, h v l a1 s1⟩)
theorem p_ix {f g : Env → R PyData} (ha : DP X W ks κ a f) (hb : DP X W ks .B b g) (hs : PlainIx b := by exact fun _ _ => rfl) : DP X W ks κ (.Subscript a b pos) (fOp ixD f g) :=
  PE.imp (pe_ix ix_seq ha hb hs) fun σ H Q ⟨ρ, fp, eo, h⟩ => ⟨ρ, fp, eo, (Holds.bind h).mono (fun x hx v H1 m s1 a1 r1 => ⟨ρ, fp, eo.same s1, (Holds.bind hx).mono (fun y hy u H2 n s2 a2 _ => by
    obtain ⟨d, e, hy⟩ := Holds.ofO hy
    exact ixD_run (a1.same s2) a2 e fun w l al sl => hy w H2 l (s1.trans s2) al (RCp.sub (K := X.K) r1 sl)) fun c hc H' s' => hc H' (s1.trans s')⟩) fun c hc => hc⟩

/-! ### slices -/
def cut {α : Type} (xs : List α) (lo hi : Option Int) : List α := (xs.drop (HT.sIx xs.length 0 lo)).take (HT.sIx xs.length xs.length hi - HT.sIx xs.length 0 lo)
theorem cut_v (xs : List V) (lo hi : Option Int) : cut xs lo hi = cutV xs lo hi := rfl
def slD : PyData → Option Int → Option Int → Option PyData
  | .list ds, lo, hi => some (.list (cut ds lo hi))
  | .tuple ds, lo, hi => some (.tuple (cut ds lo hi))
  | .str x, lo, hi => if x.length ≤ sizeLine then some (.str ⟨(cut x.cps.toList lo hi).toArray⟩) else none
  | _, _, _ => none
theorem AbL.drop {K : PySem.W.Frag} {H : Hp} {o : Bool} : ∀ {vs : List V} {ds : List PyData} {m : List Addr} (k : Nat), AbL K H o vs ds m → ∃ n, AbL K H o (vs.drop k) (ds.drop k) n ∧ n.Sublist m
  | _, _, m, 0, h => ⟨m, h, List.Sublist.refl _⟩
  | _, _, _, k + 1, h => by
    cases h with
    | nil => exact ⟨[], .nil, List.Sublist.refl _⟩
    | cons h1 h2 =>
      obtain ⟨n, a, s⟩ := AbL.drop k h2
      exact ⟨n, a, s.trans (List.sublist_append_right _ _)⟩
theorem AbL.take {K : PySem.W.Frag} {H : Hp} {o : Bool} : ∀ {vs : List V} {ds : List PyData} {m : List Addr} (k : Nat), AbL K H o vs ds m → ∃ n, AbL K H o (vs.take k) (ds.take k) n ∧ n.Sublist m
  | _, _, _, 0, _ => ⟨[], .nil, List.nil_sublist _⟩
  | _, _, _, k + 1, h => by
    cases h with
    | nil => exact ⟨[], .nil, List.Sublist.refl _⟩
    | cons h1 h2 =>
      obtain ⟨n, a, s⟩ := AbL.take k h2
      exact ⟨_, .cons h1 a, s.append_left _⟩
theorem AbL.cut {K : PySem.W.Frag} {H : Hp} {o : Bool} {vs : List V} {ds : List PyData} {m : List Addr} (h : AbL K H o vs ds m) (lo hi : Option Int) : ∃ n, AbL K H o (cutV vs lo hi) (PV.cut ds lo hi) n ∧ n.Sublist m := by
  unfold cutV PV.cut
  rw [h.len]
  obtain ⟨n, a, s⟩ := h.drop (HT.sIx ds.length 0 lo)
  obtain ⟨n', a', s'⟩ := a.take (HT.sIx ds.length ds.length hi - HT.sIx ds.length 0 lo)
  exact ⟨n', a', s'.trans s⟩
def tPO (K : PySem.W.Frag) (W : WX) (ks : List Bool) (f : Env → R (Option Int)) : TO := fun σ H Q => ∃ ρ fp, EOk K H ks σ ρ fp ∧ Holds (f ρ) (fun o => ∀ H', Same H H' → Q o H') fun c => ∀ H', Same H H' → WEx K W c σ H'
abbrev DPO (X : Cx) (W : WX) (ks : List Bool) (e : Option Expr) (f : Env → R (Option Int)) : Prop := PO X e (tPO X.K W ks f)
theorem PO.imp {e : Option Expr} {t t' : TO} (h : PO X e t) (w : ∀ σ H Q, t' σ H Q → t σ H Q) : PO X e t' := ⟨fun pins s σ H Q I q => h.run pins s σ H Q I (w σ H Q q)⟩
def asI : PyData → R Int
  | .int i => .ok i
  | _ => .no
def fNoPart : Env → R (Option Int) := fun _ => .ok none
def fPart (f : Env → R PyData) : Env → R (Option Int) := fun ρ => f ρ >>= asI >>= fun i => .ok (some i)
theorem asI_bind {d : PyData} {β : Type} {g : Int → R β} {P : β → Prop} {U : Ex → Prop} (h : Holds (asI d >>= g) P U) : ∃ c, d = .int c ∧ Holds (g c) P U := by
  cases d <;> first | exact ⟨_, rfl, h⟩ | exact h.elim
theorem o_none : DPO X W ks none fNoPart := PO.imp po_none fun σ H Q ⟨ρ, fp, eo, h⟩ => h H (Same.refl H)
theorem o_some {f : Env → R PyData} (ha : DP X W ks .B e f) : DPO X W ks (some e) (fPart f) := PO.imp (po_some ha) fun σ H Q ⟨ρ, fp, eo, h⟩ => by
  unfold fPart at h
  rw [bind_assoc'] at h
  refine ⟨ρ, fp, eo, (Holds.bind h).mono (fun x hx v H1 m s1 a1 _ => ?_) fun c hc => hc⟩
  obtain ⟨i, rfl, hx⟩ := asI_bind hx
  obtain ⟨rfl, rfl⟩ := a1.eq_int
  exact ⟨i, rfl, hx H1 s1⟩
def fSl (f : Env → R PyData) (g h : Env → R (Option Int)) : Env → R PyData := fun ρ => f ρ >>= fun x => g ρ >>= fun lo => h ρ >>= fun hi => ofO (slD x lo hi)
def rSl3 (K : PySem.W.Frag) : V → Option Int → Option Int → Hp → VK → Prop := fun x lo hi H Q => rSlL K x lo hi H Q ∨ rSlA K x lo hi H Q ∨ (∃ z, x = .str z ∧ z.length ≤ sizeLine ∧ Q (.str (cutS z lo hi)) H)
theorem sl_3 : SlR X (rSl3 X.K) := sl_list.or (sl_tupA.or sl_str)
theorem slD_run {K : PySem.W.Frag} {H : Hp} {o : Bool} {x : V} {p : PyData} {m : List Addr} {d : PyData} {lo hi : Option Int} {Q : VK} (ax : Ab K H o x p m) (e : slD p lo hi = some d)
    (h : ∀ v H' l, Same H H' → Ab K H' o v d l → (∃ n, n.Sublist m ∧ (l = n ∨ ∃ q, H q = none ∧ l = q :: n ∧ ∀ a ∈ n, H a ≠ none)) → Q v H') : rSl3 K x lo hi H Q := by
  cases p <;> simp only [slD, reduceCtorEq] at e
  · obtain ⟨rfl, rfl⟩ := ax.eq_str
    split at e
    · rename_i hz
      cases e
      exact .inr (.inr ⟨_, rfl, hz, h _ H [] (Same.refl H) (.str _) ⟨[], List.Sublist.refl _, .inl rfl⟩⟩)
    · cases e
  · cases e
    obtain ⟨a, xs, n', rfl, hl, al, hs⟩ := ax.list
    obtain ⟨n, a1, s1⟩ := al.cut lo hi
    exact .inl ⟨a, xs, rfl, hl, fun q hq => h _ _ (q :: n) (same_new hq) (.lst upd_same (a1.same (same_new hq))) ⟨n, s1.trans hs, .inr ⟨q, hq, rfl, fun b z => a1.tr z⟩⟩⟩
  · cases e
    obtain ⟨a, xs, rfl, hl, al⟩ := ax.tuple
    obtain ⟨n, a1, s1⟩ := al.cut lo hi
    refine .inr (.inl ⟨a, xs, rfl, hl, fun hw => ?_, fun _ q hq => h _ _ n (same_new hq) (.tup (.inl (.inl upd_same)) (a1.same (same_new hq))) ⟨n, s1, .inl rfl⟩⟩)
    have e1 : cutV xs lo hi = xs := by
      unfold cutV
      rw [hw.1, hw.2]
      simp
    rw [e1] at a1
    exact h _ H n (Same.refl H) (.tup hl a1) ⟨n, s1, .inl rfl⟩
theorem p_sl {f : Env → R PyData} {g k : Env → R (Option Int)} {lo hi : Option Expr} {p2 : Pos} (ha : DP X W ks κ a f) (hl : DPO X W ks lo g) (hh : DPO X W ks hi k) : DP X W ks κ (.Subscript a (.Slice lo hi none p2) pos) (fSl f g k) :=
  PE.imp (pe_slice sl_3 ha hl hh) fun σ H Q ⟨ρ, fp, eo, h⟩ => ⟨ρ, fp, eo, (Holds.bind h).mono (fun x hx v H1 m s1 a1 r1 => ⟨ρ, fp, eo.same s1, (Holds.bind hx).mono (fun y hy H2 s2 => ⟨ρ, fp, eo.same (s1.trans s2), (Holds.bind hy).mono (fun z hz H3 s3 => by
    obtain ⟨d, e, hz⟩ := Holds.ofO hz
    refine slD_run (a1.same (s2.trans s3)) e fun w H4 l s4 al ⟨n, sn, q⟩ => hz w H4 l (s1.trans (s2.trans (s3.trans s4))) al ?_
    have rn := RCp.sub (K := X.K) r1 sn
    rcases q with rfl | ⟨q, hq, rfl, tr⟩
    · exact rn
    · have hq0 : H q = none := Same.back (s1.trans (s2.trans s3)) hq
      cases κ with
      | B => trivial
      | V =>
        intro x z
        rcases List.mem_cons.mp z with e | z
        · rw [e]; exact ⟨fun y => eo.notAl hq0 y.al, .inr hq0⟩
        · exact rn x z
      | F =>
        refine ⟨List.nodup_cons.mpr ⟨fun z => tr q z hq, rn.1⟩, fun x z => ?_⟩
        rcases List.mem_cons.mp z with e | z
        · rw [e]; exact hq0
        · exact rn.2 x z) fun c hc H' s' => hc H' ((s1.trans s2).trans s')⟩) fun c hc H' s' => hc H' (s1.trans s')⟩) fun c hc => hc⟩
/-- a slice whose items are without lists: a new list -/
def fSlF (f : Env → R PyData) (g h : Env → R (Option Int)) : Env → R PyData := fun ρ => fSl f g h ρ >>= fun d => match d with
  | .list ds => if flatL ds then .ok (.list ds) else .no
  | _ => .no
theorem p_slF {f : Env → R PyData} {g k : Env → R (Option Int)} {lo hi : Option Expr} {p2 : Pos} (ha : DP X W ks .B a f) (hl : DPO X W ks lo g) (hh : DPO X W ks hi k) : DP X W ks .F (.Subscript a (.Slice lo hi none p2) pos) (fSlF f g k) :=
  PE.imp (pe_slice sl_3 ha hl hh) fun σ H Q ⟨ρ, fp, eo, h⟩ => by
    unfold fSlF fSl at h
    simp only [bind_assoc'] at h
    refine ⟨ρ, fp, eo, (Holds.bind h).mono (fun x hx v H1 m s1 a1 r1 => ⟨ρ, fp, eo.same s1, (Holds.bind hx).mono (fun y hy H2 s2 => ⟨ρ, fp, eo.same (s1.trans s2), (Holds.bind hy).mono (fun z hz H3 s3 => ?_) fun c hc H' s' => hc H' ((s1.trans s2).trans s')⟩) fun c hc H' s' => hc H' (s1.trans s')⟩) fun c hc => hc⟩
    obtain ⟨d, e, hz2⟩ := Holds.ofO (Holds.bind hz)
    clear hz hx hy h
    cases d with
    | list ds =>
      have a3 := a1.same (s2.trans s3)
      by_cases hf : flatL ds = true
      · cases x with
        | list es =>
          have hz' : Holds (if flatL ds = true then R.ok (PyData.list ds) else R.no) _ _ := hz2
          rw [if_pos hf] at hz'
          simp only [slD, Option.some.injEq, PyData.list.injEq] at e
          subst e
          obtain ⟨b, xs, n', rfl, hl, al, hs⟩ := a3.list
          obtain ⟨n, b1, s1'⟩ := al.cut y z
          have en := b1.flat hf
          subst en
          exact .inl ⟨b, xs, rfl, hl, fun q hq => hz' _ _ [q] (s1.trans (s2.trans (s3.trans (same_new hq)))) (.lst upd_same ((b1.up hf true).same (same_new hq))) ⟨by simp, fun w q2 => by rw [List.mem_singleton.mp q2]; exact Same.back (s1.trans (s2.trans s3)) hq⟩⟩
        | _ => simp [slD] at e
      · have hz' : Holds (if flatL ds = true then R.ok (PyData.list ds) else R.no) _ _ := hz2
        rw [if_neg hf] at hz'
        exact hz'.elim
    | _ => exact hz2.elim

/-! ### built-in functions, types, methods -/
theorem p_bi {x : Str} {p : Pos} {es : List Expr} {id : String} {r : List V → Hp → VK → Prop} {o : List PyData → Option PyData} {f : Env → R (List PyData)} (hc : CallR X (.builtin id) r) (ho : OpN X.K r o) (hm : X.mg x = none) (hv : bootBuiltins x = some (.builtin id)) (ha : DPA X W ks .B (e :: es) f) (hg : Gl X x := by rfl)
    (hn : x ≠ "__name__" := by decide) (hdb : (x == ("__debug__" : Str)) = false := by decide) (he : starEach (e :: es) X.env = (false, eval e X.env) :: starEach es X.env := by rfl) (hpl : (backTo pos (starEach es X.env)).any (·.1) = false := by rfl) : DP X W ks .F (.Call (.Name x p) (e :: es) [] pos) (fN o f) :=
  PE.imp (pe_callB hc hg hm hv ha hn hdb he hpl) fun σ H Q ⟨ρ, fp, eo, h⟩ => ⟨ρ, fp, eo, (Holds.bind h).mono (fun x hx v H1 m s1 a1 _ => by
    obtain ⟨d, e, hx⟩ := Holds.ofO hx
    exact ho.run H1 v x m d Q a1 e fun w H3 m' s3 a3 nw => hx w H3 m' (s1.trans s3) a3 ⟨nw.1, fun z q => Same.back s1 (nw.2 z q)⟩) fun c hc => hc⟩
theorem p_ty {x : Str} {p : Pos} {es : List Expr} {id : String} {r : List V → Hp → VK → Prop} {o : List PyData → Option PyData} {f : Env → R (List PyData)} (hc : CallR X (.type id) r) (ho : OpN X.K r o) (hm : X.mg x = none) (hv : bootBuiltins x = some (.type id)) (ha : DPA X W ks .B (e :: es) f) (hg : Gl X x := by rfl)
    (hn : x ≠ "__name__" := by decide) (hdb : (x == ("__debug__" : Str)) = false := by decide) (he : starEach (e :: es) X.env = (false, eval e X.env) :: starEach es X.env := by rfl) (hpl : (backTo pos (starEach es X.env)).any (·.1) = false := by rfl) : DP X W ks .F (.Call (.Name x p) (e :: es) [] pos) (fN o f) :=
  PE.imp (pe_callTy hc hg hm hv ha hn hdb he hpl) fun σ H Q ⟨ρ, fp, eo, h⟩ => ⟨ρ, fp, eo, (Holds.bind h).mono (fun x hx v H1 m s1 a1 _ => by
    obtain ⟨d, e, hx⟩ := Holds.ofO hx
    exact ho.run H1 v x m d Q a1 e fun w H3 m' s3 a3 nw => hx w H3 m' (s1.trans s3) a3 ⟨nw.1, fun z q => Same.back s1 (nw.2 z q)⟩) fun c hc => hc⟩
structure OpM (K : PySem.W.Frag) (T : String) (r : V → List V → Hp → VK → Prop) (isT : PyData → Bool) (o : PyData → List PyData → Option PyData) : Prop where
  ty : ∀ (H : Hp) (x : V) (a : PyData) (m : List Addr), Ab K H false x a m → isT a = true → tyV K T x H
  run : ∀ (H : Hp) (x : V) (xs : List V) (a : PyData) (as : List PyData) (m n : List Addr) (d : PyData) (Q : VK), Ab K H false x a m → AbL K H false xs as n → isT a = true → o a as = some d → Ends1 K H d Q → r x xs H Q
def fMe (isT : PyData → Bool) (o : PyData → List PyData → Option PyData) (f : Env → R PyData) (g : Env → R (List PyData)) : Env → R PyData := fun ρ => f ρ >>= fun x => if isT x then g ρ >>= fun xs => ofO (o x xs) else .no
theorem p_me {ob : Expr} {es : List Expr} {name : Str} {apos cpos : Pos} {T id : String} {r : V → List V → Hp → VK → Prop} {isT : PyData → Bool} {o : PyData → List PyData → Option PyData} {f : Env → R PyData} {g : Env → R (List PyData)}
    (pa : PlainAttrs T) (slot : Slot T name id) (hty : typeOf (.builtin id) = pure (.type "method_descriptor")) (hm : MtR X id r) (hd : OpM X.K T r isT o) (ho : DP X W ks .B ob f) (ha : DPA X W ks .B (e :: es) g)
    (hbase : attributeBase ob name X.env (eval ob X.env) = eval ob X.env := by rfl)
    (hfew : ((backTo cpos (starEach (e :: es) X.env)).all (fun x => !x.1) && (backToKw cpos (keywordEach [] X.env)).all (fun x => x.1.isSome)
      && decide ((e :: es).length + ([] : List Keyword).length + (if ([] : List Keyword).isEmpty then 0 else 1) < 30)) = true := by rfl)
    (hline : (apos.endLine == cpos.line) = true := by rfl) (hs : starEach (e :: es) X.env = (false, eval e X.env) :: starEach es X.env := by rfl) (hplain : (backTo cpos (starEach es X.env)).any (·.1) = false := by rfl) :
    DP X W ks .F (.Call (.Attribute ob name apos) (e :: es) [] cpos) (fMe isT o f g) :=
  PE.imp (pe_bm pa slot hty hm ho ha hbase hfew hline hs hplain) fun σ H Q ⟨ρ, fp, eo, h⟩ => ⟨ρ, fp, eo, (Holds.bind h).mono (fun x hx v H1 m s1 a1 _ => by
    by_cases ht : isT x = true
    · rw [if_pos ht] at hx
      refine ⟨hd.ty H1 v x m a1 ht, ρ, fp, eo.same s1, (Holds.bind hx).mono (fun y hy u H2 n s2 a2 _ => ?_) fun c hc H' s' => hc H' (s1.trans s')⟩
      obtain ⟨d, e, hy⟩ := Holds.ofO hy
      exact hd.run H2 v u x y m n d Q (a1.same s2) a2 ht e fun w H3 m' s3 a3 nw => hy w H3 m' (s1.trans (s2.trans s3)) a3 ⟨nw.1, fun z q => Same.back (s1.trans s2) (nw.2 z q)⟩
    · rw [if_neg ht] at hx
      exact hx.elim) fun c hc => hc⟩

/-! ### calls of defs that change nothing -/
def RF (κ : Kd) (H : Hp) (n m : List Addr) : Prop := match κ with
  | .B => False
  | .V => ∀ a ∈ m, a ∈ n ∨ H a = none
  | .F => New H m
def EEx (K : PySem.W.Frag) (E : XK) (c : Ex) (H : Hp) : Prop := match c.fld with
  | none => E (.ref (He.ga K c.cls)) none H
  | some (f, x) => ∀ d v, H d = some (.xd [(f, v)]) → Ab K H false v x [] → E (.ref (He.ga K c.cls)) (some d) H
theorem EEx.w {K : PySem.W.Frag} {W : WX} {c : Ex} {σ : L2.St} {H : Hp} (h : WEx K W c σ H) : EEx K (WE W σ) c H := h
/-- the promise of a def that works on data: np parameters, what its result is like, what it gives -/
def spP (K : PySem.W.Frag) (np : Nat) (κ : Kd) (m : List PyData → R PyData) : Sp := fun vs H Q E => vs.length = np ∧ ∃ ds n, AbL K H false vs ds n ∧ Holds (m ds) (fun d => ∀ v H' l, Same H H' → Ab K H' κ.ow v d l → RF κ H n l → Q v H') fun c => ∀ H', Same H H' → EEx K E c H'
/-- a def as the walk needs it -/
structure FnPP (P : Program) (w : World) (K : PySem.W.Frag) (mg : Str → Option Value) (base : Heap) (k : Nat) (x : Str) (ps : List Str) (κ : Kd) (m : List PyData → R PyData) : Prop where
  ex : ∃ f fd, FnG P w K mg base (L2.CX P w) k f fd ps (spP K ps.length κ m) ∧ mg x = some (.ref f) ∧ PySem.W.keepIn K (.ref f) = true ∧ Binds K fd ps []
abbrev FnP (X : Cx) (k : Nat) (x : Str) (ps : List Str) (κ : Kd) (m : List PyData → R PyData) : Prop := FnPP X.prog X.w X.K X.mg X.base k x ps κ m
/-- so many arguments -/
def HL (n : Nat) (f : Env → R (List PyData)) : Prop := ∀ ρ ds, f ρ = .ok ds → ds.length = n
theorem HL.nil : HL 0 fNil := fun ρ ds e => by cases e; rfl
theorem HL.cons {n : Nat} {f : Env → R PyData} {g : Env → R (List PyData)} (h : HL n g) : HL (n + 1) (fCons f g) := fun ρ ds e => by
  obtain ⟨x, _, e⟩ := bind_ok_iff.mp e
  obtain ⟨xs, e1, e⟩ := bind_ok_iff.mp e
  cases e
  rw [List.length_cons, h ρ xs e1]
def fCall (m : List PyData → R PyData) (f : Env → R (List PyData)) : Env → R PyData := fun ρ => f ρ >>= m
theorem call_core {K : PySem.W.Frag} {ks : List Bool} {W : WX} {np : Nat} {κf : Kd} {m : List PyData → R PyData} {f : Env → R (List PyData)} {σ : L2.St} {H : Hp} {Q : VK} {ρ : Env} {fp : Nat → List Addr} (hlen : HL np f) {κa κr : Kd}
    (hab : ∀ {H : Hp} {v : V} {d : PyData} {l : List Addr}, Ab K H κf.ow v d l → Ab K H κr.ow v d l) (hκ : ∀ {H1 : Hp} {n l : List Addr}, Same H H1 → RCp κa H ks ρ fp n → RF κf H1 n l → RCp κr H ks ρ fp l) (eo : EOk K H ks σ ρ fp)
    (h : Holds (fCall m f ρ) (fun d => ∀ v H' m, Same H H' → Ab K H' κr.ow v d m → RCp κr H ks ρ fp m → Q v H') fun c => ∀ H', Same H H' → WEx K W c σ H') :
    Holds (f ρ) (fun d => ∀ v H' m', Same H H' → AbL K H' κa.ow v d m' → RCp κa H ks ρ fp m' → spP K np κf m v H' Q (WE W σ)) fun c => ∀ H', Same H H' → WEx K W c σ H' := by
  have h1 := Holds.bind h
  cases e : f ρ with
  | ok ds =>
    rw [e] at h1
    intro v H1 n s1 a1 r1
    exact ⟨by rw [a1.len, hlen ρ ds e], ds, n, a1.down, Holds.mono h1 (fun d hd w H2 l s2 a2 r2 => hd w H2 l (s1.trans s2) (hab a2) (hκ s1 r1 r2)) fun c hc H' s' => hc H' (s1.trans s')⟩
  | ex c => rw [e] at h1; exact h1
  | no => rw [e] at h1; exact h1
theorem hκF {K : PySem.W.Frag} {ks : List Bool} {κa : Kd} {σ : L2.St} {ρ : Env} {fp : Nat → List Addr} {H H1 : Hp} {n l : List Addr} (s : Same H H1) (r : RF .F H1 n l) : RCp .F H ks ρ fp l := ⟨r.1, fun a q => Same.back s (r.2 a q)⟩
theorem hκV {K : PySem.W.Frag} {ks : List Bool} {σ : L2.St} {ρ : Env} {fp : Nat → List Addr} {H H1 : Hp} {n l : List Addr} (eo : EOk K H ks σ ρ fp) (s : Same H H1) (q : RCp .V H ks ρ fp n) (r : RF .V H1 n l) : RCp .V H ks ρ fp l := fun a z => (r a z).elim (q a) fun y => ⟨fun o => eo.notAl (Same.back s y) o.al, .inr (Same.back s y)⟩
variable {x : Str} {p : Pos} {es : List Expr} {k : Nat} {ps : List Str} {m : List PyData → R PyData} {f : Env → R (List PyData)}
/-- a result that nobody else has -/
theorem p_callF (F : FnP X k x ps .F m) (tk : Takes X W) (hr : RoomG k X.A) (ha : DPA X W ks .B (e :: es) f) (hlen : HL ps.length f := by repeat (first | exact HL.nil | refine HL.cons ?_)) (hg : Gl X x := by rfl) (hdb : (x == ("__debug__" : Str)) = false := by decide)
    (he : starEach (e :: es) X.env = (false, eval e X.env) :: starEach es X.env := by rfl) (hpl : (backTo pos (starEach es X.env)).any (·.1) = false := by rfl) : DP X W ks .F (.Call (.Name x p) (e :: es) [] pos) (fCall m f) := by
  obtain ⟨fa, fd, G, hm, hk, hb⟩ := F.ex
  exact PE.imp (pe_callG' G hr hg hm hk hb (passAt tk) ha hdb he hpl) fun σ H Q ⟨ρ, fp, eo, h⟩ => ⟨ρ, fp, eo, call_core hlen (fun a => a) (fun s _ r => hκF (K := X.K) (κa := .B) (σ := σ) s r) eo h⟩
/-- a result that may share with the arguments -/
theorem p_callV (F : FnP X k x ps .V m) (tk : Takes X W) (hr : RoomG k X.A) (ha : DPA X W ks .V (e :: es) f) (hlen : HL ps.length f := by repeat (first | exact HL.nil | refine HL.cons ?_)) (hg : Gl X x := by rfl) (hdb : (x == ("__debug__" : Str)) = false := by decide)
    (he : starEach (e :: es) X.env = (false, eval e X.env) :: starEach es X.env := by rfl) (hpl : (backTo pos (starEach es X.env)).any (·.1) = false := by rfl) : DP X W ks .V (.Call (.Name x p) (e :: es) [] pos) (fCall m f) := by
  obtain ⟨fa, fd, G, hm, hk, hb⟩ := F.ex
  exact PE.imp (pe_callG' G hr hg hm hk hb (passAt tk) ha hdb he hpl) fun σ H Q ⟨ρ, fp, eo, h⟩ => ⟨ρ, fp, eo, call_core hlen (fun a => a) (fun s q r => hκV eo s q r) eo h⟩
/-- .. used where it may share with anything -/
theorem p_callB (F : FnP X k x ps .V m) (tk : Takes X W) (hr : RoomG k X.A) (ha : DPA X W ks .B (e :: es) f) (hlen : HL ps.length f := by repeat (first | exact HL.nil | refine HL.cons ?_)) (hg : Gl X x := by rfl) (hdb : (x == ("__debug__" : Str)) = false := by decide)
    (he : starEach (e :: es) X.env = (false, eval e X.env) :: starEach es X.env := by rfl) (hpl : (backTo pos (starEach es X.env)).any (·.1) = false := by rfl) : DP X W ks .B (.Call (.Name x p) (e :: es) [] pos) (fCall m f) := by
  obtain ⟨fa, fd, G, hm, hk, hb⟩ := F.ex
  exact PE.imp (pe_callG' G hr hg hm hk hb (passAt tk) ha hdb he hpl) fun σ H Q ⟨ρ, fp, eo, h⟩ => ⟨ρ, fp, eo, call_core hlen (κr := .B) (fun a => a) (fun s q r => trivial) eo h⟩
end
end PV

set_option Elab.async false
set_option linter.all false
set_option maxRecDepth 100000
set_option maxHeartbeats 1000000
set_option autoImplicit false
/-! PV, part d: expressions that change owning slots. -/
namespace PV
open PySem PySem.Spec PyProof.Rows L2
section
variable {K : PySem.W.Frag} {H H' H'' : Hp} {ks : List Bool} {σ σ' : L2.St} {ρ ρ' ρ'' : Env} {fp fp' fp'' : Nat → List Addr} {m n : List Addr} {κ : Kd}
def setF (fp : Nat → List Addr) (i : Nat) (m : List Addr) : Nat → List Addr := fun j => if j = i then m else fp j
theorem setF_same {i : Nat} : setF fp i m i = m := if_pos rfl
theorem setF_ne {i j : Nat} (h : j ≠ i) : setF fp i m j = fp j := if_neg h
theorem get_set {α : Type} {l : List α} {i j : Nat} {x y : α} (h : (l.set i x)[j]? = some y) : (j = i ∧ i < l.length ∧ y = x) ∨ (j ≠ i ∧ l[j]? = some y) := by
  by_cases e : j = i
  · subst e
    by_cases hl : j < l.length
    · rw [List.getElem?_set_self hl] at h; cases h; exact .inl ⟨rfl, hl, rfl⟩
    · rw [List.getElem?_eq_none (by simp; omega)] at h; cases h
  · rw [List.getElem?_set_ne (fun z => e z.symm)] at h
    exact .inr ⟨e, h⟩
/-- what a slot asks of what it takes -/
def kdOf (b : Bool) : Kd := if b then .F else .V
theorem Step.set {i : Nat} {b : Bool} {v : V} {d : PyData} (hk : ks[i]? = some b) (s : Step K H H' ks σ' ρ ρ' fp fp') (a : Ab K H' b v d m) (r : RCe (kdOf b) H ks ρ fp ρ' fp' m) :
    Step K H H' ks (σ'.set i (some v)) ρ (ρ'.set i (some d)) fp (setF fp' i m) := by
  have rNo : ∀ x ∈ m, ¬ Ow ks ρ' fp' x := r.notO (by cases b <;> simp [kdOf])
  have rAl : ∀ x ∈ m, Al ρ fp x ∨ H x = none := fun x q => by
    cases b with
    | false => exact (r x q).2
    | true => exact (r.2 x q).2.elim (fun z => .inl z.al) .inr
  refine ⟨⟨?_, fun j e h => ?_, fun j e ho h => ?_, fun j l e g ho hne h1 h2 x hx => ?_⟩, s.fr, fun x ⟨j, e, h, hx⟩ => ?_, fun x ⟨j, e, ho, h, hx⟩ => ?_⟩
  · rw [List.length_set, List.length_set]; exact s.env.len
  · rcases get_set h with ⟨rfl, hl, e1⟩ | ⟨hne, h⟩
    · cases e1
      refine ⟨v, ?_, ?_⟩
      · rw [List.getElem?_set_self (by rw [← s.env.len]; exact hl)]
      · rw [setF_same, hk]; cases b <;> exact a
    · obtain ⟨u, e1, a1⟩ := s.env.ab j e h
      refine ⟨u, ?_, ?_⟩
      · rw [List.getElem?_set_ne (fun z => hne z.symm)]; exact e1
      · rw [setF_ne hne]; exact a1
  · rcases get_set h with ⟨rfl, hl, e1⟩ | ⟨hne, h⟩
    · unfold own at ho
      rw [hk] at ho; cases ho
      rw [setF_same]; exact r.1
    · rw [setF_ne hne]; exact s.env.nd j e ho h
  · rcases get_set h1 with ⟨rfl, hl, e1⟩ | ⟨hn1, h1'⟩
    · rw [setF_same] at hx
      rcases get_set h2 with ⟨e2, _⟩ | ⟨hn2, h2'⟩
      · exact absurd e2.symm hne
      · rw [setF_ne hn2]
        unfold own at ho
        rw [hk] at ho; cases ho
        exact fun z => (r.2 x hx).1 ⟨l, g, h2', z⟩
    · rw [setF_ne hn1] at hx
      rcases get_set h2 with ⟨e2, _, _⟩ | ⟨hn2, h2'⟩
      · rw [e2, setF_same]
        exact fun z => rNo x z ⟨j, e, ho, h1', hx⟩
      · rw [setF_ne hn2]
        exact s.env.dj j l e g ho hne h1' h2' x hx
  · rcases get_set h with ⟨rfl, _, _⟩ | ⟨hne, h⟩
    · rw [setF_same] at hx; exact rAl x hx
    · rw [setF_ne hne] at hx; exact s.sub x ⟨j, e, h, hx⟩
  · rcases get_set h with ⟨rfl, _, _⟩ | ⟨hne, h⟩
    · rw [setF_same] at hx
      unfold own at ho
      rw [hk] at ho; cases ho
      exact (r.2 x hx).2
    · rw [setF_ne hne] at hx; exact s.subo x ⟨j, e, ho, h, hx⟩
/-- an owning slot's value -/
theorem EOk.own {i : Nat} {d : PyData} (eo : EOk K H ks σ ρ fp) (hk : ks[i]? = some true) (h : ρ[i]? = some (some d)) : ∃ v, σ[i]? = some (some v) ∧ Ab K H true v d (fp i) ∧ (fp i).Nodup := by
  obtain ⟨v, e, a⟩ := eo.ab i d h
  rw [hk] at a
  exact ⟨v, e, a, eo.nd i d hk h⟩
theorem Ab.ownL {o : Bool} {v : V} {ds : List PyData} (a : Ab K H o v (.list ds) m) : ∃ p vs n, v = .ref p ∧ H p = some (.lst vs) ∧ AbL K H o vs ds n ∧ m = p :: n := by
  cases a with
  | lst hs ha => exact ⟨_, _, _, rfl, hs, ha, rfl⟩
/-- the list of an owning slot is changed: its new items -/
theorem EOk.mut {i : Nat} {ds ds' : List PyData} {p : Addr} {vs vs' : List V} {n n' : List Addr} (eo : EOk K H ks σ ρ fp) (hk : ks[i]? = some true) (h : ρ[i]? = some (some (.list ds))) (hv : σ[i]? = some (some (.ref p))) (hp : H p = some (.lst vs)) (hf : fp i = p :: n)
    (a : AbL K H true vs' ds' n') (nd : n'.Nodup) (hn : ∀ x ∈ n', x ≠ p ∧ (x ∈ n ∨ ¬ Al ρ fp x)) (hx : ∀ x ∈ n', x ∈ n ∨ Ow ks ρ fp x ∨ H x = none := by exact fun x q => .inl q) :
    Step K H (upd H p (.lst vs')) ks σ ρ (ρ.set i (some (.list ds'))) fp (setF fp i (p :: n')) := by
  have hl : i < ρ.length := (List.getElem?_eq_some_iff.mp h).1
  have own_p : Ow ks ρ fp p := ⟨i, _, hk, h, by rw [hf]; exact List.mem_cons_self ..⟩
  have fr : Fr (fun x => x = p) H (upd H p (.lst vs')) := ⟨fun x o e q => by
    by_cases z : x = p
    · subst z; rw [hp] at e; cases e; exact absurd trivial (q rfl)
    · rw [upd_ne z]; exact e, fun x q => by
    by_cases z : x = p
    · subst z; rw [upd_same]; exact fun z => nomatch z
    · rw [upd_ne z]; exact q⟩
  have frO : Fr (Ow ks ρ fp) H (upd H p (.lst vs')) := ⟨fun x o e q => fr.1 x o e fun z => q (by rw [z]; exact own_p), fr.2⟩
  refine ⟨⟨by rw [List.length_set]; exact eo.len, fun j e hj => ?_, fun j e ho hj => ?_, fun j l e g ho hne h1 h2 x hx' => ?_⟩, frO, fun x ⟨j, e, hj, hx'⟩ => ?_, fun x ⟨j, e, ho, hj, hx'⟩ => ?_⟩
  · rcases get_set hj with ⟨rfl, _, e1⟩ | ⟨hne, hj⟩
    · cases e1
      refine ⟨_, hv, ?_⟩
      rw [setF_same, hk]
      exact .lst upd_same (a.fr fr fun x q => (hn x q).1)
    · obtain ⟨u, e1, a1⟩ := eo.ab j e hj
      refine ⟨u, e1, ?_⟩
      rw [setF_ne hne]
      refine a1.fr fr fun x q z => ?_
      subst z
      exact eo.dj i j _ _ hk (fun z => hne z.symm) h hj x (by rw [hf]; exact List.mem_cons_self ..) q
  · rcases get_set hj with ⟨rfl, _, _⟩ | ⟨hne, hj⟩
    · rw [setF_same]; exact List.nodup_cons.mpr ⟨fun z => (hn p z).1 rfl, nd⟩
    · rw [setF_ne hne]; exact eo.nd j e ho hj
  · have key : ∀ (l : Nat) (g : PyData), l ≠ i → ρ[l]? = some (some g) → ∀ x ∈ p :: n', x ∉ fp l := fun l g hli hg x q z => by
      rcases List.mem_cons.mp q with e1 | q
      · rw [e1] at z
        exact eo.dj i l _ _ hk (fun z => hli z.symm) h hg p (by rw [hf]; exact List.mem_cons_self ..) z
      · rcases (hn x q).2 with y | y
        · exact eo.dj i l _ _ hk (fun z => hli z.symm) h hg x (by rw [hf]; exact List.mem_cons_of_mem _ y) z
        · exact y ⟨l, g, hg, z⟩
    rcases get_set h1 with ⟨e1, _, _⟩ | ⟨hn1, h1'⟩
    · rcases get_set h2 with ⟨e2, _⟩ | ⟨hn2, h2'⟩
      · exact absurd (e1.trans e2.symm) hne
      · rw [e1, setF_same] at hx'
        rw [setF_ne hn2]
        exact key l g hn2 h2' x hx'
    · rw [setF_ne hn1] at hx'
      rcases get_set h2 with ⟨e2, _, _⟩ | ⟨hn2, h2'⟩
      · rw [e2, setF_same]
        exact fun z => key j e hn1 h1' x z hx'
      · rw [setF_ne hn2]
        exact eo.dj j l e g ho hne h1' h2' x hx'
  · rcases get_set hj with ⟨rfl, _, _⟩ | ⟨hne, hj⟩
    · rw [setF_same] at hx'
      rcases List.mem_cons.mp hx' with e1 | q
      · rw [e1]; exact .inl own_p.al
      · rcases hx x q with y | y | y
        · exact .inl ⟨j, _, h, by rw [hf]; exact List.mem_cons_of_mem _ y⟩
        · exact .inl y.al
        · exact .inr y
    · rw [setF_ne hne] at hx'
      exact .inl ⟨j, e, hj, hx'⟩
  · rcases get_set hj with ⟨rfl, _, _⟩ | ⟨hne, hj⟩
    · rw [setF_same] at hx'
      rcases List.mem_cons.mp hx' with e1 | q
      · rw [e1]; exact .inl own_p
      · rcases hx x q with y | y | y
        · exact .inl ⟨j, _, hk, h, by rw [hf]; exact List.mem_cons_of_mem _ y⟩
        · exact .inl y
        · exact .inr y
    · rw [setF_ne hne] at hx'
      exact .inl ⟨j, e, ho, hj, hx'⟩
theorem RCe.sub (r : RCe κ H ks ρ fp ρ' fp' m) (s : n.Sublist m) : RCe κ H ks ρ fp ρ' fp' n := by
  cases κ with
  | B => trivial
  | V => exact fun a q => r a (s.subset q)
  | F => exact ⟨r.1.sublist s, fun a q => r.2 a (s.subset q)⟩
/-- a new value behind a step -/
theorem RCe.new {σ1 : L2.St} (s : Step K H H' ks σ1 ρ ρ' fp fp') (r : New H' m) : RCe .F H ks ρ fp ρ' fp' m := ⟨r.1, fun a q => ⟨s.env.notAl (r.2 a q), .inr (s.fr.back (r.2 a q))⟩⟩
end

section
variable {X : Cx} {W : WX} {ks : List Bool} {a b c e : Expr} {pos : Pos} {κ : Kd}
/-! ### combinators -/
abbrev FE := Env → R (PyData × Env)
def eL (f : Env → R PyData) : FE := fun ρ => f ρ >>= fun d => .ok (d, ρ)
def eLA (f : Env → R (List PyData)) : Env → R (List PyData × Env) := fun ρ => f ρ >>= fun d => .ok (d, ρ)
def eLT (f : Env → R Bool) : Env → R (Bool × Env) := fun ρ => f ρ >>= fun d => .ok (d, ρ)
def eFlat (f : FE) : FE := fun ρ => f ρ >>= fun r => if flat r.1 then .ok r else .no
def eOp (o : PyData → PyData → Option PyData) (f g : FE) : FE := fun ρ => f ρ >>= fun r => g r.2 >>= fun q => ofO (o r.1 q.1) >>= fun z => .ok (z, q.2)
def eUn (o : PyData → Option PyData) (f : FE) : FE := fun ρ => f ρ >>= fun r => ofO (o r.1) >>= fun z => .ok (z, r.2)
def eIf (t : Env → R (Bool × Env)) (f g : FE) : FE := fun ρ => t ρ >>= fun r => if r.1 then f r.2 else g r.2
def eNil : Env → R (List PyData × Env) := fun ρ => .ok ([], ρ)
def eCons (f : FE) (g : Env → R (List PyData × Env)) : Env → R (List PyData × Env) := fun ρ => f ρ >>= fun r => g r.2 >>= fun q => .ok (r.1 :: q.1, q.2)
def eTup (f : Env → R (List PyData × Env)) : FE := fun ρ => f ρ >>= fun r => if r.1.length ≤ sizeLine then .ok (.tuple r.1, r.2) else .no
def eLst (f : Env → R (List PyData × Env)) : FE := fun ρ => f ρ >>= fun r => if r.1.length ≤ sizeLine then .ok (.list r.1, r.2) else .no
def eN (o : List PyData → Option PyData) (f : Env → R (List PyData × Env)) : FE := fun ρ => f ρ >>= fun r => ofO (o r.1) >>= fun z => .ok (z, r.2)
def eAndT (f g : Env → R (Bool × Env)) : Env → R (Bool × Env) := fun ρ => f ρ >>= fun r => if r.1 then g r.2 else .ok (false, r.2)
def eOrT (f g : Env → R (Bool × Env)) : Env → R (Bool × Env) := fun ρ => f ρ >>= fun r => if r.1 then .ok (true, r.2) else g r.2
def eNotT (f : Env → R (Bool × Env)) : Env → R (Bool × Env) := fun ρ => f ρ >>= fun r => .ok (!r.1, r.2)
def eCmp (o : PyData → PyData → Option Bool) (f g : FE) : Env → R (Bool × Env) := fun ρ => f ρ >>= fun r => g r.2 >>= fun q => ofO (o r.1 q.1) >>= fun z => .ok (z, q.2)
def eTru (t : PyData → Option Bool) (f : FE) : Env → R (Bool × Env) := fun ρ => f ρ >>= fun r => ofO (t r.1) >>= fun z => .ok (z, r.2)

/-! ### rules -/
theorem e_lift {f : Env → R PyData} (h : DP X W ks κ e f) : DE X W ks κ e (eL f) := PE.imp h fun σ H Q ⟨ρ, fp, eo, h⟩ =>
  ⟨ρ, fp, eo, (Holds.bind h).mono (fun d hd v H' m s ab r => hd v H' fp m (Step.same eo s) ab (r.e eo)) fun c hc H' s => hc H' (Same.fr s _)⟩
theorem ea_lift {es : List Expr} {f : Env → R (List PyData)} (h : DPA X W ks κ es f) : DEA X W ks κ es (eLA f) := PA.imp h fun σ H Q ⟨ρ, fp, eo, h⟩ =>
  ⟨ρ, fp, eo, (Holds.bind h).mono (fun d hd v H' m s ab r => hd v H' fp m (Step.same eo s) ab (r.e eo)) fun c hc H' s => hc H' (Same.fr s _)⟩
theorem et_lift {f : Env → R Bool} (h : DPT X W ks e f) : DET X W ks e (eLT f) := PT.imp h fun σ H Q ⟨ρ, fp, eo, h⟩ =>
  ⟨ρ, fp, eo, (Holds.bind h).mono (fun d hd H' s => hd H' fp (Step.same eo s)) fun c hc H' s => hc H' (Same.fr s _)⟩
theorem e_flat {f : FE} (h : DE X W ks .B e f) : DE X W ks κ e (eFlat f) := PE.imp h fun σ H Q ⟨ρ, fp, eo, h⟩ =>
  ⟨ρ, fp, eo, (Holds.bind h).mono (fun d hd v H' fp' m s ab _ => by
    by_cases hf : flat d.1 = true
    · rw [if_pos hf] at hd
      have em := ab.flat hf
      subst em
      exact hd v H' fp' [] s (ab.up hf _) (RCe.nil _)
    · rw [if_neg hf] at hd
      exact hd.elim) fun c hc => hc⟩
theorem e_toV {f : FE} (h : DE X W ks .F e f) : DE X W ks .V e f := PE.imp h fun σ H Q ⟨ρ, fp, eo, h⟩ =>
  ⟨ρ, fp, eo, h.mono (fun d hd v H' fp' m s ab r => hd v H' fp' m s ab.down r.toV) fun c hc => hc⟩
theorem e_toB {f : FE} (h : DE X W ks κ e f) : DE X W ks .B e f := PE.imp h fun σ H Q ⟨ρ, fp, eo, h⟩ =>
  ⟨ρ, fp, eo, h.mono (fun d hd v H' fp' m s ab r => hd v H' fp' m s ab.down trivial) fun c hc => hc⟩
theorem Fr.comp {K : PySem.W.Frag} {H H1 H2 : Hp} {ρ ρ1 : Env} {fp fp1 : Nat → List Addr} {σ : L2.St} (s : Step K H H1 ks σ ρ ρ1 fp fp1) (f : Fr (Ow ks ρ1 fp1) H1 H2) : Fr (Ow ks ρ fp) H H2 :=
  ⟨fun x o e n => f.1 x o (s.fr.1 x o e n) fun z => (s.subo x z).elim n fun y => (by rw [e] at y; cases y), fun x n => f.2 x (s.fr.2 x n)⟩
/-- the first operand is kept while the second one is found: it is no B -/
theorem e_op {op : Operator} {r : R2} {o : PyData → PyData → Option PyData} {f g : FE} (ho : OpR X (binaryOp op) r) (hd : Op2 X.K r o) (ha : DE X W ks .V a f) (hb : DE X W ks .B b g) : DE X W ks .F (.BinOp a op b pos) (eOp o f g) :=
  PE.imp (pe_op ho ha hb) fun σ H Q ⟨ρ, fp, eo, h⟩ => ⟨ρ, fp, eo, (Holds.bind h).mono (fun x hx v H1 fp1 m s1 a1 r1 => ⟨x.2, fp1, s1.env, (Holds.bind hx).mono (fun y hy u H2 fp2 n s2 a2 _ => by
    obtain ⟨d, e, hy⟩ := Holds.ofO (Holds.bind hy)
    exact hd.run H2 v u x.1 y.1 m n d Q (a1.fr s2.fr (r1.notO (by decide))) a2 e fun w H3 m' s3 a3 nw => hy w H3 fp2 m' ((s1.trans s2).trans (Step.same s2.env s3)) a3 (by
      have := RCe.pre (κ := .F) (s1.trans s2) (RCp.e s2.env (m := m') (κ := .F) ⟨nw.1, nw.2⟩)
      exact this)) fun c hc H' s' => hc H' (Fr.comp s1 s')⟩) fun c hc => hc⟩
end
end PV

set_option Elab.async false
set_option linter.all false
set_option maxRecDepth 100000
set_option maxHeartbeats 1000000
set_option autoImplicit false
/-! PV, part e: more expressions that change owning slots. -/
namespace PV
open PySem PySem.Spec PyProof.Rows L2
section
variable {X : Cx} {W : WX} {ks : List Bool} {a b c e : Expr} {pos : Pos} {κ : Kd}
theorem RCe.both {K : PySem.W.Frag} {o : Bool} {H H1 H2 : Hp} {σ σ2 : L2.St} {ρ ρ1 ρ2 : Env} {fp fp1 fp2 : Nat → List Addr} {m n : List Addr} {v : V} {d : PyData} (hk : κ ≠ .B) (s1 : Step K H H1 ks σ ρ ρ1 fp fp1) (a : Ab K H1 o v d m) (r : RCe κ H ks ρ fp ρ1 fp1 m)
    (s2 : Step K H1 H2 ks σ2 ρ1 ρ2 fp1 fp2) (q : RCe κ H1 ks ρ1 fp1 ρ2 fp2 n) : RCe κ H ks ρ fp ρ2 fp2 (m ++ n) := by
  have r' := RCe.step hk a r s2
  have q' := RCe.pre s1 q
  cases κ with
  | B => exact absurd rfl hk
  | V => exact fun x z => (List.mem_append.mp z).elim (r' x) (q' x)
  | F =>
    refine ⟨List.nodup_append.mpr ⟨r'.1, q'.1, fun x hx y hy e => ?_⟩, fun x z => (List.mem_append.mp z).elim (r'.2 x) (q'.2 x)⟩
    rw [e] at hx
    rcases (q.2 y hy).2 with z | z
    · exact (r.2 y hx).1 z.al
    · exact a.tr hx z
theorem ea_nil : DEA X W ks κ [] eNil := PA.imp pa_nil fun σ H Q ⟨ρ, fp, eo, h⟩ => h [] H fp [] (Step.same eo (Same.refl H)) .nil (RCe.nil _)
theorem ea_cons {es : List Expr} {f : FE} {g : Env → R (List PyData × Env)} (ha : DE X W ks κ e f) (hr : DEA X W ks κ es g) (hk : κ ≠ .B := by decide) (hs : starEach (e :: es) X.env = (false, eval e X.env) :: starEach es X.env := by rfl) : DEA X W ks κ (e :: es) (eCons f g) :=
  PA.imp (pa_cons ha hr hs) fun σ H Q ⟨ρ, fp, eo, h⟩ => ⟨ρ, fp, eo, (Holds.bind h).mono (fun x hx v H1 fp1 m s1 a1 r1 => ⟨x.2, fp1, s1.env, (Holds.bind hx).mono (fun y hy u H2 fp2 n s2 a2 r2 =>
    hy (v :: u) H2 fp2 (m ++ n) (s1.trans s2) (.cons (a1.fr s2.fr (r1.notO hk)) a2) (RCe.both hk s1 a1 r1 s2 r2)) fun c hc H' s' => hc H' (Fr.comp (K := X.K) s1 s')⟩) fun c hc => hc⟩
theorem e_tup {es : List Expr} {x1} {f : Env → R (List PyData × Env)} (h : DEA X W ks κ es f) : DE X W ks κ (.Tuple es x1 pos) (eTup f) :=
  PE.imp (pe_tup h) fun σ H Q ⟨ρ, fp, eo, h⟩ => ⟨ρ, fp, eo, (Holds.bind h).mono (fun x hx v H1 fp1 m s1 a1 r1 => by
    by_cases hz : x.1.length ≤ sizeLine
    · rw [if_pos hz] at hx
      refine ⟨by rw [a1.len]; exact hz, fun p hp => hx (.ref p) _ fp1 m (s1.trans (Step.same s1.env (same_new hp))) (.tup (.inl (.inl upd_same)) (a1.same (same_new hp))) ?_⟩
      have := r1
      cases κ with
      | B => trivial
      | V => exact r1
      | F => exact r1
    · rw [if_neg hz] at hx
      exact hx.elim) fun c hc => hc⟩
theorem RCe.push {K : PySem.W.Frag} {o : Bool} {H H1 : Hp} {σ : L2.St} {ρ ρ1 : Env} {fp fp1 : Nat → List Addr} {m : List Addr} {vs : List V} {ds : List PyData} {p : Addr} (s : Step K H H1 ks σ ρ ρ1 fp fp1) (a : AbL K H1 o vs ds m) (hp : H1 p = none) (r : RCe κ H ks ρ fp ρ1 fp1 m) : RCe κ H ks ρ fp ρ1 fp1 (p :: m) := by
  have hp0 := s.fr.back hp
  cases κ with
  | B => trivial
  | V =>
    intro x z
    rcases List.mem_cons.mp z with e | z
    · rw [e]; exact ⟨fun y => s.env.notAl hp y.al, .inr hp0⟩
    · exact r x z
  | F =>
    refine ⟨List.nodup_cons.mpr ⟨fun z => a.tr z hp, r.1⟩, fun x z => ?_⟩
    rcases List.mem_cons.mp z with e | z
    · rw [e]; exact ⟨s.env.notAl hp, .inr hp0⟩
    · exact r.2 x z
theorem e_lst {es : List Expr} {f : Env → R (List PyData × Env)} (h : DEA X W ks κ es f) : DE X W ks κ (.List es pos) (eLst f) :=
  PE.imp (pe_lst h) fun σ H Q ⟨ρ, fp, eo, h⟩ => ⟨ρ, fp, eo, (Holds.bind h).mono (fun x hx v H1 fp1 m s1 a1 r1 => by
    by_cases hz : x.1.length ≤ sizeLine
    · rw [if_pos hz] at hx
      exact ⟨by rw [a1.len]; exact hz, fun p hp => hx (.ref p) _ fp1 (p :: m) (s1.trans (Step.same s1.env (same_new hp))) (.lst upd_same (a1.same (same_new hp))) (RCe.push s1 a1 hp r1)⟩
    · rw [if_neg hz] at hx
      exact hx.elim) fun c hc => hc⟩
theorem e_un {op : UnaryOp} {r : V → Hp → VK → Prop} {o : PyData → Option PyData} {f : FE} (ho : UnR X (unaryOp op) r) (hd : Op1 X.K r o) (ha : DE X W ks .B a f) : DE X W ks .F (.UnaryOp op a pos) (eUn o f) :=
  PE.imp (pe_un ho ha) fun σ H Q ⟨ρ, fp, eo, h⟩ => ⟨ρ, fp, eo, (Holds.bind h).mono (fun x hx v H1 fp1 m s1 a1 _ => by
    obtain ⟨d, e, hy⟩ := Holds.ofO (Holds.bind hx)
    exact hd.run H1 v x.1 m d Q a1.down e fun w H3 m' s3 a3 nw => hy w H3 fp1 m' (s1.trans (Step.same s1.env s3)) a3 (RCe.new s1 nw)) fun c hc => hc⟩
theorem e_ix {f g : FE} (ha : DE X W ks κ a f) (hb : DE X W ks .B b g) (hk : κ ≠ .B := by decide) (hs : PlainIx b := by exact fun _ _ => rfl) : DE X W ks κ (.Subscript a b pos) (eOp ixD f g) :=
  PE.imp (pe_ix ix_seq ha hb hs) fun σ H Q ⟨ρ, fp, eo, h⟩ => ⟨ρ, fp, eo, (Holds.bind h).mono (fun x hx v H1 fp1 m s1 a1 r1 => ⟨x.2, fp1, s1.env, (Holds.bind hx).mono (fun y hy u H2 fp2 n s2 a2 _ => by
    obtain ⟨d, e, hy⟩ := Holds.ofO (Holds.bind hy)
    exact ixD_run (a1.fr s2.fr (r1.notO hk)) a2 e fun w l al sl => hy w H2 fp2 l (s1.trans s2) al (RCe.sub (RCe.step hk a1 r1 s2) sl)) fun c hc H' s' => hc H' (Fr.comp (K := X.K) s1 s')⟩) fun c hc => hc⟩
theorem e_cmp {op : CmpOp} {r : R2} {o : PyData → PyData → Option Bool} {f g : FE} (ho : OpR X (compareOp op) r) (hd : OpB X.K r o) (ha : DE X W ks .V a f) (hb : DE X W ks .B b g) (hm : behindInMarks op b = false) : DET X W ks (.Compare a [op] [b] pos) (eCmp o f g) :=
  PT.imp (pt_cmpR ho ha hb hm) fun σ H Q ⟨ρ, fp, eo, h⟩ => ⟨ρ, fp, eo, (Holds.bind h).mono (fun x hx v H1 fp1 m s1 a1 r1 => ⟨x.2, fp1, s1.env, (Holds.bind hx).mono (fun y hy u H2 fp2 n s2 a2 _ => by
    obtain ⟨d, e, hy⟩ := Holds.ofO (Holds.bind hy)
    exact hd.run H2 v u x.1 y.1 m n d _ (a1.fr s2.fr (r1.notO (by decide))) a2 e ⟨d, rfl, hy H2 fp2 (s1.trans s2)⟩) fun c hc H' s' => hc H' (Fr.comp (K := X.K) s1 s')⟩) fun c hc => hc⟩
def eOfB (f : Env → R (Bool × Env)) : FE := fun ρ => f ρ >>= fun r => .ok (.bool r.1, r.2)
theorem e_cmpV {op : CmpOp} {r : R2} {o : PyData → PyData → Option Bool} {f g : FE} (ho : OpR X (compareOp op) r) (hd : OpB X.K r o) (ha : DE X W ks .V a f) (hb : DE X W ks .B b g) (hm : behindInMarks op b = false) : DE X W ks .F (.Compare a [op] [b] pos) (eOfB (eCmp o f g)) :=
  PE.imp (pe_cmpR ho ha hb hm) fun σ H Q ⟨ρ, fp, eo, h⟩ => ⟨ρ, fp, eo, (Holds.bind (Holds.bind h)).mono (fun x hx v H1 fp1 m s1 a1 r1 => ⟨x.2, fp1, s1.env, (Holds.bind hx).mono (fun y hy u H2 fp2 n s2 a2 _ => by
    obtain ⟨d, e, hy⟩ := Holds.ofO (Holds.bind hy)
    exact hd.run H2 v u x.1 y.1 m n d _ (a1.fr s2.fr (r1.notO (by decide))) a2 e (hy _ H2 fp2 [] (s1.trans s2) (.bl d) (RCe.nil _))) fun c hc H' s' => hc H' (Fr.comp (K := X.K) s1 s')⟩) fun c hc => hc⟩
theorem et_truth {t : PyData → Option Bool} {f : FE} (ht : OpT X.K t) (ha : DE X W ks .B a f) (he : ∀ whole, isTrue a X.env whole = (do let v ← whole; standAt a.pos; holding [v] (truthy v)) := by intro _; rfl) : DET X W ks a (eTru t f) :=
  PT.imp (pt_truth ha he) fun σ H Q ⟨ρ, fp, eo, h⟩ => ⟨ρ, fp, eo, (Holds.bind h).mono (fun x hx v H1 fp1 m s1 a1 _ => by
    obtain ⟨d, e, hy⟩ := Holds.ofO (Holds.bind hx)
    exact ⟨d, ht.run H1 v x.1 m d a1.down e, hy H1 fp1 s1⟩) fun c hc => hc⟩
abbrev DEW (X : Cx) (W : WX) (ks : List Bool) (e : Expr) (f : Env → R (Bool × Env)) : Prop := PW X e (tET X.K W ks f)
variable {rest : List Expr}
theorem tET.more {K : PySem.W.Frag} {f : Env → R (Bool × Env)} {H H1 : Hp} {σ : L2.St} {ρ ρ1 : Env} {fp fp1 : Nat → List Addr} {Q : Bool → Hp → Prop} (s1 : Step K H H1 ks σ ρ ρ1 fp fp1) (h : Holds (f ρ1) (fun r => ∀ H' fp', Step K H H' ks σ ρ r.2 fp fp' → Q r.1 H') fun c => ∀ H', Fr (Ow ks ρ fp) H H' → WEx K W c σ H') : tET K W ks f σ H1 Q :=
  ⟨ρ1, fp1, s1.env, h.mono (fun y hy H2 fp2 s2 => hy H2 fp2 (s1.trans s2)) fun c hc H' s' => hc H' (Fr.comp (K := K) s1 s')⟩
theorem ew_and {f g : Env → R (Bool × Env)} (ha : DET X W ks a f) (hb : DEW X W ks (.BoolOp .And (b :: rest) pos) g) : DEW X W ks (.BoolOp .And (a :: b :: rest) pos) (eAndT f g) :=
  PW.imp (pw_and ha hb) fun σ H Q ⟨ρ, fp, eo, h⟩ => ⟨ρ, fp, eo, (Holds.bind h).mono (fun x hx H1 fp1 s1 => by
    obtain ⟨x, ρ1⟩ := x
    cases x with
    | false => exact hx H1 fp1 s1
    | true => exact tET.more s1 hx) fun c hc => hc⟩
theorem ew_or {f g : Env → R (Bool × Env)} (ha : DET X W ks a f) (hb : DEW X W ks (.BoolOp .Or (b :: rest) pos) g) : DEW X W ks (.BoolOp .Or (a :: b :: rest) pos) (eOrT f g) :=
  PW.imp (pw_or ha hb) fun σ H Q ⟨ρ, fp, eo, h⟩ => ⟨ρ, fp, eo, (Holds.bind h).mono (fun x hx H1 fp1 s1 => by
    obtain ⟨x, ρ1⟩ := x
    cases x with
    | true => exact hx H1 fp1 s1
    | false => exact tET.more s1 hx) fun c hc => hc⟩
theorem ew_and1 {f : Env → R (Bool × Env)} (ha : DET X W ks a f) : DEW X W ks (.BoolOp .And [a] pos) f := pw_and1 ha
theorem ew_or1 {f : Env → R (Bool × Env)} (ha : DET X W ks a f) : DEW X W ks (.BoolOp .Or [a] pos) f := pw_or1 ha
theorem et_w {f : Env → R (Bool × Env)} (h : DEW X W ks a f) : DET X W ks a f := PW.pt h
theorem et_not {f : Env → R (Bool × Env)} (ha : DET X W ks a f) : DET X W ks (.UnaryOp .Not a pos) (eNotT f) :=
  PT.imp (pt_not ha) fun σ H Q ⟨ρ, fp, eo, h⟩ => ⟨ρ, fp, eo, (Holds.bind h).mono (fun x hx H1 fp1 s1 => hx H1 fp1 s1) fun c hc => hc⟩
theorem tE.more {K : PySem.W.Frag} {f : FE} {H H1 : Hp} {σ : L2.St} {ρ ρ1 : Env} {fp fp1 : Nat → List Addr} {Q : VK} (s1 : Step K H H1 ks σ ρ ρ1 fp fp1) (h : Holds (f ρ1) (fun r => ∀ v H' fp' m, Step K H H' ks σ ρ r.2 fp fp' → Ab K H' κ.ow v r.1 m → RCe κ H ks ρ fp r.2 fp' m → Q v H') fun c => ∀ H', Fr (Ow ks ρ fp) H H' → WEx K W c σ H') : tE K W ks κ f σ H1 Q :=
  ⟨ρ1, fp1, s1.env, h.mono (fun y hy v H2 fp2 m s2 a2 r2 => hy v H2 fp2 m (s1.trans s2) a2 (RCe.pre s1 r2)) fun c hc H' s' => hc H' (Fr.comp (K := K) s1 s')⟩
theorem e_if {t : Env → R (Bool × Env)} {f g : FE} (hc : DET X W ks c t) (ha : DE X W ks κ a f) (hb : DE X W ks κ b g) : DE X W ks κ (.IfExp c a b pos) (eIf t f g) :=
  PE.imp (pe_ifExp hc ha hb) fun σ H Q ⟨ρ, fp, eo, h⟩ => ⟨ρ, fp, eo, (Holds.bind h).mono (fun x hx H1 fp1 s1 => by
    obtain ⟨x, ρ1⟩ := x
    cases x with
    | true => exact tE.more s1 hx
    | false => exact tE.more s1 hx) fun c hc => hc⟩

/-! ### built-ins, calls -/
theorem e_bi {x : Str} {p : Pos} {es : List Expr} {id : String} {r : List V → Hp → VK → Prop} {o : List PyData → Option PyData} {f : Env → R (List PyData × Env)} (hc : CallR X (.builtin id) r) (ho : OpN X.K r o) (hm : X.mg x = none) (hv : bootBuiltins x = some (.builtin id)) (ha : DEA X W ks κ (e :: es) f) (hg : Gl X x := by rfl)
    (hn : x ≠ "__name__" := by decide) (hdb : (x == ("__debug__" : Str)) = false := by decide) (he : starEach (e :: es) X.env = (false, eval e X.env) :: starEach es X.env := by rfl) (hpl : (backTo pos (starEach es X.env)).any (·.1) = false := by rfl) : DE X W ks .F (.Call (.Name x p) (e :: es) [] pos) (eN o f) :=
  PE.imp (pe_callB hc hg hm hv ha hn hdb he hpl) fun σ H Q ⟨ρ, fp, eo, h⟩ => ⟨ρ, fp, eo, (Holds.bind h).mono (fun x hx v H1 fp1 m s1 a1 _ => by
    obtain ⟨d, e, hx⟩ := Holds.ofO (Holds.bind hx)
    exact ho.run H1 v x.1 m d Q a1.down e fun w H3 m' s3 a3 nw => hx w H3 fp1 m' (s1.trans (Step.same s1.env s3)) a3 (RCe.new s1 nw)) fun c hc => hc⟩
theorem e_ty {x : Str} {p : Pos} {es : List Expr} {id : String} {r : List V → Hp → VK → Prop} {o : List PyData → Option PyData} {f : Env → R (List PyData × Env)} (hc : CallR X (.type id) r) (ho : OpN X.K r o) (hm : X.mg x = none) (hv : bootBuiltins x = some (.type id)) (ha : DEA X W ks κ (e :: es) f) (hg : Gl X x := by rfl)
    (hn : x ≠ "__name__" := by decide) (hdb : (x == ("__debug__" : Str)) = false := by decide) (he : starEach (e :: es) X.env = (false, eval e X.env) :: starEach es X.env := by rfl) (hpl : (backTo pos (starEach es X.env)).any (·.1) = false := by rfl) : DE X W ks .F (.Call (.Name x p) (e :: es) [] pos) (eN o f) :=
  PE.imp (pe_callTy hc hg hm hv ha hn hdb he hpl) fun σ H Q ⟨ρ, fp, eo, h⟩ => ⟨ρ, fp, eo, (Holds.bind h).mono (fun x hx v H1 fp1 m s1 a1 _ => by
    obtain ⟨d, e, hx⟩ := Holds.ofO (Holds.bind hx)
    exact ho.run H1 v x.1 m d Q a1.down e fun w H3 m' s3 a3 nw => hx w H3 fp1 m' (s1.trans (Step.same s1.env s3)) a3 (RCe.new s1 nw)) fun c hc => hc⟩
def eMe (isT : PyData → Bool) (o : PyData → List PyData → Option PyData) (f : FE) (g : Env → R (List PyData × Env)) : FE := fun ρ => f ρ >>= fun r => if isT r.1 then g r.2 >>= fun q => ofO (o r.1 q.1) >>= fun z => .ok (z, q.2) else .no
theorem e_me {ob : Expr} {es : List Expr} {name : Str} {apos cpos : Pos} {T id : String} {r : V → List V → Hp → VK → Prop} {isT : PyData → Bool} {o : PyData → List PyData → Option PyData} {f : FE} {g : Env → R (List PyData × Env)}
    (pa : PlainAttrs T) (slot : Slot T name id) (hty : typeOf (.builtin id) = pure (.type "method_descriptor")) (hm : MtR X id r) (hd : OpM X.K T r isT o) (ho : DE X W ks .V ob f) (ha : DEA X W ks κ (e :: es) g)
    (hbase : attributeBase ob name X.env (eval ob X.env) = eval ob X.env := by rfl)
    (hfew : ((backTo cpos (starEach (e :: es) X.env)).all (fun x => !x.1) && (backToKw cpos (keywordEach [] X.env)).all (fun x => x.1.isSome)
      && decide ((e :: es).length + ([] : List Keyword).length + (if ([] : List Keyword).isEmpty then 0 else 1) < 30)) = true := by rfl)
    (hline : (apos.endLine == cpos.line) = true := by rfl) (hs : starEach (e :: es) X.env = (false, eval e X.env) :: starEach es X.env := by rfl) (hplain : (backTo cpos (starEach es X.env)).any (·.1) = false := by rfl) :
    DE X W ks .F (.Call (.Attribute ob name apos) (e :: es) [] cpos) (eMe isT o f g) :=
  PE.imp (pe_bm pa slot hty hm ho ha hbase hfew hline hs hplain) fun σ H Q ⟨ρ, fp, eo, h⟩ => ⟨ρ, fp, eo, (Holds.bind h).mono (fun x hx v H1 fp1 m s1 a1 r1 => by
    by_cases ht : isT x.1 = true
    · rw [if_pos ht] at hx
      refine ⟨hd.ty H1 v x.1 m a1 ht, x.2, fp1, s1.env, (Holds.bind hx).mono (fun y hy u H2 fp2 n s2 a2 _ => ?_) fun c hc H' s' => hc H' (Fr.comp (K := X.K) s1 s')⟩
      obtain ⟨d, e, hy⟩ := Holds.ofO (Holds.bind hy)
      exact hd.run H2 v u x.1 y.1 m n d Q (a1.fr s2.fr (r1.notO (by decide))) a2.down ht e fun w H3 m' s3 a3 nw => hy w H3 fp2 m' ((s1.trans s2).trans (Step.same s2.env s3)) a3 (RCe.new (s1.trans s2) nw)
    · rw [if_neg ht] at hx
      exact hx.elim) fun c hc => hc⟩

variable {x : Str} {p : Pos} {es : List Expr} {k : Nat} {ps : List Str}
def HLe (n : Nat) (f : Env → R (List PyData × Env)) : Prop := ∀ ρ ds, f ρ = .ok ds → ds.1.length = n
theorem HLe.nil : HLe 0 eNil := fun ρ ds e => by cases e; rfl
theorem HLe.cons {n : Nat} {f : FE} {g : Env → R (List PyData × Env)} (h : HLe n g) : HLe (n + 1) (eCons f g) := fun ρ ds e => by
  obtain ⟨x, _, e⟩ := bind_ok_iff.mp e
  obtain ⟨xs, e1, e⟩ := bind_ok_iff.mp e
  cases e
  rw [List.length_cons, h _ xs e1]
theorem HLe.lift {n : Nat} {f : Env → R (List PyData)} (h : HL n f) : HLe n (eLA f) := fun ρ ds e => by
  obtain ⟨x, e1, e⟩ := bind_ok_iff.mp e
  cases e
  exact h ρ x e1
/-- a def that changes nothing, called with arguments that may change slots -/
def eCall (m : List PyData → R PyData) (f : Env → R (List PyData × Env)) : FE := fun ρ => f ρ >>= fun r => m r.1 >>= fun d => .ok (d, r.2)
theorem ecall_core {K : PySem.W.Frag} {W : WX} {np : Nat} {κf κa : Kd} {m : List PyData → R PyData} {f : Env → R (List PyData × Env)} {σ : L2.St} {H : Hp} {Q : VK} {ρ : Env} {fp : Nat → List Addr} (hlen : HLe np f)
    (hκ : ∀ {H1 : Hp} {ρ1 : Env} {fp1 : Nat → List Addr} {n l : List Addr}, Step K H H1 ks σ ρ ρ1 fp fp1 → RCe κa H ks ρ fp ρ1 fp1 n → RF κf H1 n l → RCe κf H ks ρ fp ρ1 fp1 l)
    (h : Holds (eCall m f ρ) (fun r => ∀ v H' fp' m, Step K H H' ks σ ρ r.2 fp fp' → Ab K H' κf.ow v r.1 m → RCe κf H ks ρ fp r.2 fp' m → Q v H') fun c => ∀ H', Fr (Ow ks ρ fp) H H' → WEx K W c σ H') :
    Holds (f ρ) (fun r => ∀ v H' fp' m', Step K H H' ks σ ρ r.2 fp fp' → AbL K H' κa.ow v r.1 m' → RCe κa H ks ρ fp r.2 fp' m' → spP K np κf m v H' Q (WE W σ)) fun c => ∀ H', Fr (Ow ks ρ fp) H H' → WEx K W c σ H' := by
  have h1 := Holds.bind h
  cases e : f ρ with
  | ok r =>
    rw [e] at h1
    intro v H1 fp1 n s1 a1 r1
    exact ⟨by rw [a1.len, hlen ρ r e], r.1, n, a1.down, Holds.mono (Holds.bind h1) (fun d hd w H2 l s2 a2 r2 => hd w H2 fp1 l (s1.trans (Step.same s1.env s2)) a2 (hκ s1 r1 r2)) fun c hc H' s' => hc H' (Fr.comp (K := K) s1 (Same.fr s' _))⟩
  | ex c => rw [e] at h1; exact h1
  | no => rw [e] at h1; exact h1
theorem e_callF {m : List PyData → R PyData} {f : Env → R (List PyData × Env)} (F : FnP X k x ps .F m) (tk : Takes X W) (hr : RoomG k X.A) (ha : DEA X W ks κ (e :: es) f) (hlen : HLe ps.length f := by repeat (first | exact HLe.nil | refine HLe.cons ?_)) (hg : Gl X x := by rfl) (hdb : (x == ("__debug__" : Str)) = false := by decide)
    (he : starEach (e :: es) X.env = (false, eval e X.env) :: starEach es X.env := by rfl) (hpl : (backTo pos (starEach es X.env)).any (·.1) = false := by rfl) : DE X W ks .F (.Call (.Name x p) (e :: es) [] pos) (eCall m f) := by
  obtain ⟨fa, fd, G, hm, hk, hb⟩ := F.ex
  exact PE.imp (pe_callG' G hr hg hm hk hb (passAt tk) ha hdb he hpl) fun σ H Q ⟨ρ, fp, eo, h⟩ => ⟨ρ, fp, eo, ecall_core hlen (fun s _ r => RCe.new s r) h⟩
theorem e_callV {m : List PyData → R PyData} {f : Env → R (List PyData × Env)} (F : FnP X k x ps .V m) (tk : Takes X W) (hr : RoomG k X.A) (ha : DEA X W ks .V (e :: es) f) (hlen : HLe ps.length f := by repeat (first | exact HLe.nil | refine HLe.cons ?_)) (hg : Gl X x := by rfl) (hdb : (x == ("__debug__" : Str)) = false := by decide)
    (he : starEach (e :: es) X.env = (false, eval e X.env) :: starEach es X.env := by rfl) (hpl : (backTo pos (starEach es X.env)).any (·.1) = false := by rfl) : DE X W ks .V (.Call (.Name x p) (e :: es) [] pos) (eCall m f) := by
  obtain ⟨fa, fd, G, hm, hk, hb⟩ := F.ex
  refine PE.imp (pe_callG' G hr hg hm hk hb (passAt tk) ha hdb he hpl) fun σ H Q ⟨ρ, fp, eo, h⟩ => ⟨ρ, fp, eo, ecall_core hlen (fun s q r => ?_) h⟩
  exact fun z hz => (r z hz).elim (q z) fun y => ⟨fun o => s.env.notAl y o.al, .inr (s.fr.back y)⟩

/-! ### a def whose first parameter is a list that it changes -/
def MC (κ : Kd) (H : Hp) (n m0 m0' l : List Addr) : Prop := match κ with
  | .B => False
  | .V => ∀ a ∈ l, a ∉ m0' ∧ (a ∈ n ∨ a ∈ m0 ∨ H a = none)
  | .F => l.Nodup ∧ ∀ a ∈ l, a ∉ m0' ∧ (a ∈ m0 ∨ H a = none)
def spM (K : PySem.W.Frag) (np : Nat) (κ : Kd) (m : PyData → List PyData → R (PyData × PyData)) : Sp := fun vs H Q E => vs.length = np ∧ ∃ v0 vr d0 ds m0 n, vs = v0 :: vr ∧ Ab K H true v0 d0 m0 ∧ m0.Nodup ∧ AbL K H false vr ds n ∧ (∀ a ∈ n, a ∉ m0) ∧
  Holds (m d0 ds) (fun r => ∀ v H' m0' l, Fr (fun a => a ∈ m0) H H' → Ab K H' true v0 r.2 m0' → m0'.Nodup → (∀ a ∈ m0', a ∈ m0 ∨ H a = none) → Ab K H' κ.ow v r.1 l →
    MC κ H n m0 m0' l → Q v H') fun c => ∀ H', Fr (fun a => a ∈ m0) H H' → EEx K E c H'
structure FnMM (P : Program) (w : World) (K : PySem.W.Frag) (mg : Str → Option Value) (base : Heap) (k : Nat) (x : Str) (ps : List Str) (κ : Kd) (m : PyData → List PyData → R (PyData × PyData)) : Prop where
  ex : ∃ f fd, FnG P w K mg base (L2.CX P w) k f fd ps (spM K ps.length κ m) ∧ mg x = some (.ref f) ∧ PySem.W.keepIn K (.ref f) = true ∧ Binds K fd ps []
abbrev FnM (X : Cx) (k : Nat) (x : Str) (ps : List Str) (κ : Kd) (m : PyData → List PyData → R (PyData × PyData)) : Prop := FnMM X.prog X.w X.K X.mg X.base k x ps κ m
def slot (i : Nat) (ρ : Env) : R PyData := match ρ[i]? with
  | some (some d) => .ok d
  | _ => .no
theorem slot_ok {i : Nat} {ρ : Env} {β : Type} {g : PyData → R β} {P : β → Prop} {U : Ex → Prop} (h : Holds (slot i ρ >>= g) P U) : ∃ d, ρ[i]? = some (some d) ∧ Holds (g d) P U := by
  unfold slot at h
  split at h
  · exact ⟨_, by assumption, h⟩
  · exact h.elim
def eCallM (i : Nat) (m : PyData → List PyData → R (PyData × PyData)) (f : Env → R (List PyData × Env)) : FE := fun ρ => slot i ρ >>= fun _ => f ρ >>= fun r => slot i r.2 >>= fun d0 => m d0 r.1 >>= fun q => .ok (q.1, r.2.set i (some q.2))
/-- an owning slot's object has been changed by a callee -/
theorem Step.put {K : PySem.W.Frag} {H H1 H2 : Hp} {σ : L2.St} {ρ ρ1 : Env} {fp fp1 : Nat → List Addr} {i : Nat} {d0 d1 : PyData} {v0 : V} {m0' : List Addr} (hk : ks[i]? = some true) (s : Step K H H1 ks σ ρ ρ1 fp fp1) (h : ρ1[i]? = some (some d0)) (hv : σ[i]? = some (some v0))
    (fr : Fr (fun a => a ∈ fp1 i) H1 H2) (a : Ab K H2 true v0 d1 m0') (nd : m0'.Nodup) (sub : ∀ x ∈ m0', x ∈ fp1 i ∨ H1 x = none) : Step K H H2 ks σ ρ (ρ1.set i (some d1)) fp (setF fp1 i m0') := by
  have hl : i < ρ1.length := (List.getElem?_eq_some_iff.mp h).1
  have frO : Fr (Ow ks ρ1 fp1) H1 H2 := ⟨fun x o e q => fr.1 x o e fun z => q ⟨i, _, hk, h, z⟩, fr.2⟩
  have key : ∀ (l : Nat) (g : PyData), l ≠ i → ρ1[l]? = some (some g) → ∀ x ∈ m0', x ∉ fp1 l := fun l g hli hg x q z => by
    rcases sub x q with y | y
    · exact s.env.dj i l _ _ hk (fun z => hli z.symm) h hg x y z
    · exact s.env.tr ⟨l, g, hg, z⟩ y
  refine s.trans ⟨⟨by rw [List.length_set]; exact s.env.len, fun j e hj => ?_, fun j e ho hj => ?_, fun j l e g ho hne h1 h2 x hx' => ?_⟩, frO, fun x ⟨j, e, hj, hx'⟩ => ?_, fun x ⟨j, e, ho, hj, hx'⟩ => ?_⟩
  · rcases get_set hj with ⟨e0, _, e1⟩ | ⟨hne, hj⟩
    · cases e1
      refine ⟨v0, by rw [e0]; exact hv, ?_⟩
      rw [e0, setF_same, hk]
      exact a
    · obtain ⟨u, e1, a1⟩ := s.env.ab j e hj
      refine ⟨u, e1, ?_⟩
      rw [setF_ne hne]
      exact a1.fr fr fun x q z => s.env.dj i j _ _ hk (fun z => hne z.symm) h hj x z q
  · rcases get_set hj with ⟨e0, _, _⟩ | ⟨hne, hj⟩
    · rw [e0, setF_same]; exact nd
    · rw [setF_ne hne]; exact s.env.nd j e ho hj
  · rcases get_set h1 with ⟨e1, _, _⟩ | ⟨hn1, h1'⟩
    · rcases get_set h2 with ⟨e2, _⟩ | ⟨hn2, h2'⟩
      · exact absurd (e1.trans e2.symm) hne
      · rw [e1, setF_same] at hx'
        rw [setF_ne hn2]
        exact key l g hn2 h2' x hx'
    · rw [setF_ne hn1] at hx'
      rcases get_set h2 with ⟨e2, _, _⟩ | ⟨hn2, h2'⟩
      · rw [e2, setF_same]
        exact fun z => key j e hn1 h1' x z hx'
      · rw [setF_ne hn2]
        exact s.env.dj j l e g ho hne h1' h2' x hx'
  · rcases get_set hj with ⟨e0, _, _⟩ | ⟨hne, hj⟩
    · rw [e0, setF_same] at hx'
      exact (sub x hx').elim (fun y => .inl ⟨i, _, h, y⟩) .inr
    · rw [setF_ne hne] at hx'
      exact .inl ⟨j, e, hj, hx'⟩
  · rcases get_set hj with ⟨e0, _, _⟩ | ⟨hne, hj⟩
    · rw [e0, setF_same] at hx'
      exact (sub x hx').elim (fun y => .inl ⟨i, _, hk, h, y⟩) .inr
    · rw [setF_ne hne] at hx'
      exact .inl ⟨j, e, ho, hj, hx'⟩
theorem callM_core {K : PySem.W.Frag} {W : WX} {np : Nat} {κ : Kd} {i : Nat} {m : PyData → List PyData → R (PyData × PyData)} {g : Env → R (List PyData × Env)} {σ : L2.St} {H : Hp} {Q : VK} (hk : ks[i]? = some true) (hlen : HLe np g)
    (h : tE K W ks κ (eCallM i m g) σ H Q) : tCallS (spM K (np + 1) κ m) (WE W) (tCons (tVar i) (tEA K W ks .V g)) σ H Q := by
  obtain ⟨ρ, fp, eo, h⟩ := h
  obtain ⟨d00, e00, h⟩ := slot_ok h
  obtain ⟨v0, ev, _, _⟩ := eo.own hk e00
  refine ⟨v0, ev, ρ, fp, eo, ?_⟩
  have h1 := Holds.bind h
  cases eg : g ρ with
  | ex c => rw [eg] at h1; exact h1
  | no => rw [eg] at h1; exact h1
  | ok r =>
    rw [eg] at h1
    intro vr H1 fp1 n s1 a1 r1
    obtain ⟨d0, e0, h2⟩ := slot_ok h1
    obtain ⟨v0', ev', a0, nd0⟩ := s1.env.own hk e0
    rw [ev] at ev'; cases ev'
    refine ⟨by rw [List.length_cons, a1.len, hlen ρ r eg], v0, vr, d0, r.1, fp1 i, n, rfl, a0, nd0, a1.down, fun a q z => (r1 a q).1 ⟨i, d0, hk, e0, z⟩, Holds.mono (Holds.bind h2) (fun q hq v H2 m0' l fr a2 nd2 sub a3 c => ?_) fun c hc H' s' => hc H' (Fr.comp (K := K) s1 ⟨fun x o e q => s'.1 x o e fun z => q ⟨i, d0, hk, e0, z⟩, s'.2⟩)⟩
    have st := Step.put hk s1 e0 ev fr a2 nd2 sub
    refine hq v H2 (setF fp1 i m0') l st a3 ?_
    have offI : ∀ a, a ∉ m0' → (a ∉ fp1 i → ¬ Al r.2 fp1 a) → ∀ j e, (r.2.set i (some q.2))[j]? = some (some e) → a ∈ setF fp1 i m0' j → a ∈ fp1 i := fun a n0 nA j e hj z => by
      rcases get_set hj with ⟨e1, _, _⟩ | ⟨hne, hj⟩
      · rw [e1, setF_same] at z; exact absurd z n0
      · rw [setF_ne hne] at z
        by_cases y : a ∈ fp1 i
        · exact y
        · exact absurd ⟨j, e, hj, z⟩ (nA y)
    cases κ with
    | B => exact c.elim
    | V =>
      intro a qa
      obtain ⟨n0, src⟩ := c a qa
      refine ⟨fun ⟨j, e, ho, hj, z⟩ => ?_, ?_⟩
      · rcases get_set hj with ⟨e1, _, _⟩ | ⟨hne, hj⟩
        · rw [e1, setF_same] at z; exact n0 z
        · rw [setF_ne hne] at z
          rcases src with y | y | y
          · exact (r1 a y).1 ⟨j, e, ho, hj, z⟩
          · exact s1.env.dj i j _ _ hk (fun w => hne w.symm) e0 hj a y z
          · exact s1.env.tr ⟨j, e, hj, z⟩ y
      · rcases src with y | y | y
        · exact (r1 a y).2
        · exact s1.sub a ⟨i, d0, e0, y⟩
        · exact .inr (s1.fr.back y)
    | F =>
      refine ⟨c.1, fun a qa => ?_⟩
      obtain ⟨n0, src⟩ := c.2 a qa
      refine ⟨fun ⟨j, e, hj, z⟩ => ?_, ?_⟩
      · rcases get_set hj with ⟨e1, _, _⟩ | ⟨hne, hj⟩
        · rw [e1, setF_same] at z; exact n0 z
        · rw [setF_ne hne] at z
          rcases src with y | y
          · exact s1.env.dj i j _ _ hk (fun w => hne w.symm) e0 hj a y z
          · exact s1.env.tr ⟨j, e, hj, z⟩ y
      · rcases src with y | y
        · exact s1.subo a ⟨i, d0, hk, e0, y⟩
        · exact .inr (s1.fr.back y)
theorem e_callM {m : PyData → List PyData → R (PyData × PyData)} {g : Env → R (List PyData × Env)} {i : Nat} {y : Str} {py : Pos} {ps' : List Str} {q0 : Str} (F : FnM X k x (q0 :: ps') κ m) (tk : Takes X W) (hr : RoomG k X.A) (hki : ks[i]? = some true) (ha : DEA X W ks .V es g) (hlen : HLe ps'.length g := by repeat (first | exact HLe.nil | refine HLe.cons ?_))
    (hN : X.N[i]? = some y := by rfl) (hvv : Vis X.env.scope y := by first | exact Or.inl rfl | exact Or.inr (Or.inl rfl) | exact Or.inr (Or.inr rfl)) (hyd : (y == ("__debug__" : Str)) = false := by decide) (hycd : (y == ("__classdict__" : Str)) = false := by decide)
    (hg : Gl X x := by rfl) (hdb : (x == ("__debug__" : Str)) = false := by decide)
    (he : starEach (.Name y py :: es) X.env = (false, eval (.Name y py) X.env) :: starEach es X.env := by rfl) (hpl : (backTo pos (starEach es X.env)).any (·.1) = false := by rfl) : DE X W ks κ (.Call (.Name x p) (.Name y py :: es) [] pos) (eCallM i m g) := by
  obtain ⟨fa, fd, G, hm, hk, hb⟩ := F.ex
  exact PE.imp (pe_callG' G hr hg hm hk hb (passAt tk) (pa_cons (pe_var hN hvv hyd hycd) ha he) hdb he hpl) fun σ H Q h => callM_core hki hlen h
end
end PV

set_option Elab.async false
set_option linter.all false
set_option maxRecDepth 100000
set_option maxHeartbeats 1000000
set_option autoImplicit false
/-! PV, part f: statements. -/
namespace PV
open PySem PySem.Spec PyProof.Rows L2
inductive Fl where
  | nx | bk | ct
  | rt (d : PyData)
abbrev FS := Env → R (Fl × Env)
def Keep (P : List Nat) (σ σ' : L2.St) : Prop := σ'.length = σ.length ∧ ∀ i ∈ P, σ'[i]? = σ[i]?
theorem Keep.refl (P : List Nat) (σ : L2.St) : Keep P σ σ := ⟨rfl, fun _ _ => rfl⟩
theorem Keep.trans {P : List Nat} {σ σ1 σ2 : L2.St} (a : Keep P σ σ1) (b : Keep P σ1 σ2) : Keep P σ σ2 := ⟨b.1.trans a.1, fun i h => (b.2 i h).trans (a.2 i h)⟩
theorem Keep.set {P : List Nat} {σ : L2.St} {i : Nat} {v : Option V} (h : i ∉ P) : Keep P σ (σ.set i v) := ⟨List.length_set, fun j hj => List.getElem?_set_ne (fun e => h (by rw [e]; exact hj))⟩
theorem Keep.mono {P P0 : List Nat} {σ σ1 : L2.St} (a : Keep P σ σ1) (h : ∀ i ∈ P0, i ∈ P) : Keep P0 σ σ1 := ⟨a.1, fun i q => a.2 i (h i q)⟩
section
variable (K : PySem.W.Frag) (W : WX) (ks : List Bool) (P : List Nat) (κ : Kd)
def SE (D : Ends) (σ : L2.St) (H : Hp) (ρ : Env) (fp : Nat → List Addr) (r : Fl × Env) : Prop := match r.1 with
  | .nx => ∀ σ' H' fp', Step K H H' ks σ' ρ r.2 fp fp' → Keep P σ σ' → D.nx σ' H'
  | .bk => ∀ σ' H' fp', Step K H H' ks σ' ρ r.2 fp fp' → Keep P σ σ' → D.bk σ' H'
  | .ct => ∀ σ' H' fp', Step K H H' ks σ' ρ r.2 fp fp' → Keep P σ σ' → D.ct σ' H'
  | .rt d => ∀ σ' v H' fp' m, Step K H H' ks σ' ρ r.2 fp fp' → Keep P σ σ' → Ab K H' κ.ow v d m → RCe κ H ks ρ fp r.2 fp' m → D.rt v H'
def SX (σ : L2.St) (H : Hp) (ρ : Env) (fp : Nat → List Addr) (c : Ex) : Prop := ∀ σ' H', Keep P σ σ' → Fr (Ow ks ρ fp) H H' → WEx K W c σ' H'
def tS (f : FS) : TS := fun D σ H => ∃ ρ fp, EOk K H ks σ ρ fp ∧ Holds (f ρ) (SE K ks P κ D σ H ρ fp) (SX K W ks P σ H ρ fp)
end
section
variable {K : PySem.W.Frag} {W : WX} {ks : List Bool} {P : List Nat} {κ : Kd} {D : Ends} {σ σ1 : L2.St} {H H1 : Hp} {ρ ρ1 : Env} {fp fp1 : Nat → List Addr}
theorem SE.pre {r : Fl × Env} (s : Step K H H1 ks σ1 ρ ρ1 fp fp1) (k : Keep P σ σ1) (h : SE K ks P κ D σ H ρ fp r) : SE K ks P κ D σ1 H1 ρ1 fp1 r := by
  obtain ⟨f, ρ2⟩ := r
  cases f with
  | nx => exact fun σ' H' fp' s' k' => h σ' H' fp' (s.trans s') (k.trans k')
  | bk => exact fun σ' H' fp' s' k' => h σ' H' fp' (s.trans s') (k.trans k')
  | ct => exact fun σ' H' fp' s' k' => h σ' H' fp' (s.trans s') (k.trans k')
  | rt d => exact fun σ' v H' fp' m s' k' a r => h σ' v H' fp' m (s.trans s') (k.trans k') a (RCe.pre s r)
theorem SX.pre {c : Ex} (s : Step K H H1 ks σ1 ρ ρ1 fp fp1) (k : Keep P σ σ1) (h : SX K W ks P σ H ρ fp c) : SX K W ks P σ1 H1 ρ1 fp1 c := fun σ' H' k' f => h σ' H' (k.trans k') (Fr.comp (K := K) s f)
theorem tS.more {f : FS} (s : Step K H H1 ks σ1 ρ ρ1 fp fp1) (k : Keep P σ σ1) (h : Holds (f ρ1) (SE K ks P κ D σ H ρ fp) (SX K W ks P σ H ρ fp)) : tS K W ks P κ f D σ1 H1 :=
  ⟨ρ1, fp1, s.env, h.mono (fun r hr => hr.pre s k) fun c hc => hc.pre s k⟩
theorem SX.now {c : Ex} (h : SX K W ks P σ H ρ fp c) : ∀ H', Fr (Ow ks ρ fp) H H' → WEx K W c σ H' := fun H' f => h σ H' (Keep.refl _ _) f
end
theorem PS.imp {X : Cx} {st : Stmt} {t t' : TS} (h : PS X st t) (w : ∀ D σ H, t' D σ H → t D σ H) : PS X st t' := ⟨fun pins s σ H D I q => h.run pins s σ H D I (w D σ H q)⟩
theorem PSs.imp {X : Cx} {st : List Stmt} {t t' : TS} (h : PSs X st t) (w : ∀ D σ H, t' D σ H → t D σ H) : PSs X st t' := ⟨fun pins s σ H D I q => h.run pins s σ H D I (w D σ H q)⟩
section
variable {X : Cx} {W : WX} {ks : List Bool} {P : List Nat} {κ : Kd} {a b c e : Expr} {pos : Pos} {st : Stmt} {rest : List Stmt}
abbrev DS (X : Cx) (W : WX) (ks : List Bool) (P : List Nat) (κ : Kd) (st : Stmt) (f : FS) : Prop := PS X st (tS X.K W ks P κ f)
abbrev DSs (X : Cx) (W : WX) (ks : List Bool) (P : List Nat) (κ : Kd) (st : List Stmt) (f : FS) : Prop := PSs X st (tS X.K W ks P κ f)
def sNil : FS := fun ρ => .ok (.nx, ρ)
def sSeq (f g : FS) : FS := fun ρ => f ρ >>= fun r => match r.1 with
  | .nx => g r.2
  | .bk => .ok (.bk, r.2)
  | .ct => .ok (.ct, r.2)
  | .rt d => .ok (.rt d, r.2)
def sDrop (f : FE) : FS := fun ρ => f ρ >>= fun r => .ok (.nx, r.2)
def sRet (f : FE) : FS := fun ρ => f ρ >>= fun r => .ok (.rt r.1, r.2)
def sSet (i : Nat) (f : FE) : FS := fun ρ => f ρ >>= fun r => .ok (.nx, r.2.set i (some r.1))
def sIf (t : Env → R (Bool × Env)) (f g : FS) : FS := fun ρ => t ρ >>= fun r => if r.1 then f r.2 else g r.2
theorem ss_nil : DSs X W ks P κ [] sNil := PSs.imp pss_nil fun D σ H ⟨ρ, fp, eo, h⟩ => h σ H fp (Step.same eo (Same.refl H)) (Keep.refl _ _)
theorem ss_cons {f g : FS} (h1 : DS X W ks P κ st f) (h2 : DSs X W ks P κ rest g) : DSs X W ks P κ (st :: rest) (sSeq f g) := PSs.imp (pss_cons h1 h2) fun D σ H ⟨ρ, fp, eo, h⟩ =>
  ⟨ρ, fp, eo, (Holds.bind h).mono (fun r hr => by
    obtain ⟨fl, ρ1⟩ := r
    cases fl with
    | nx => exact fun σ' H' fp' s k => tS.more s k hr
    | bk => exact hr
    | ct => exact hr
    | rt d => exact hr) fun c hc => hc⟩
theorem ss_one {f : FS} (h1 : DS X W ks P κ st f) : DSs X W ks P κ [st] f := pss_one h1
theorem s_pass : DS X W ks P κ (.Pass pos) sNil := PS.imp ps_pass fun D σ H ⟨ρ, fp, eo, h⟩ => h σ H fp (Step.same eo (Same.refl H)) (Keep.refl _ _)
theorem s_brk : DS X W ks P κ (.Break pos) (fun ρ => .ok (.bk, ρ)) := PS.imp ps_break fun D σ H ⟨ρ, fp, eo, h⟩ => h σ H fp (Step.same eo (Same.refl H)) (Keep.refl _ _)
theorem s_cont : DS X W ks P κ (.Continue pos) (fun ρ => .ok (.ct, ρ)) := PS.imp ps_continue fun D σ H ⟨ρ, fp, eo, h⟩ => h σ H fp (Step.same eo (Same.refl H)) (Keep.refl _ _)
theorem s_expr {f : FE} {κ' : Kd} (he : DE X W ks κ' e f) (hs : swapsWith e none pos.line X.env = pure false := by rfl) : DS X W ks P κ (.Expr e pos) (sDrop f) := PS.imp (ps_expr he hs) fun D σ H ⟨ρ, fp, eo, h⟩ =>
  ⟨ρ, fp, eo, (Holds.bind h).mono (fun r hr v H' fp' m s _ _ => hr σ H' fp' s (Keep.refl _ _)) fun c hc => SX.now hc⟩
theorem s_ret {f : FE} (he : DE X W ks κ e f) : DS X W ks P κ (.Return (some e) pos) (sRet f) := PS.imp (ps_ret he) fun D σ H ⟨ρ, fp, eo, h⟩ =>
  ⟨ρ, fp, eo, (Holds.bind h).mono (fun r hr v H' fp' m s ab rc => hr σ v H' fp' m s (Keep.refl _ _) ab rc) fun c hc => SX.now hc⟩
theorem s_retN : DS X W ks P κ (.Return none pos) (fun ρ => .ok (.rt .none, ρ)) := PS.imp ps_retN fun D σ H ⟨ρ, fp, eo, h⟩ => h σ _ H fp [] (Step.same eo (Same.refl H)) (Keep.refl _ _) .non (RCe.nil _)
theorem s_if {t : Env → R (Bool × Env)} {f g : FS} {xs ys : List Stmt} (hc : DET X W ks c t) (ha : DSs X W ks P κ xs f) (hb : DSs X W ks P κ ys g) : DS X W ks P κ (.If c xs ys pos) (sIf t f g) := PS.imp (ps_if hc ha hb) fun D σ H ⟨ρ, fp, eo, h⟩ =>
  ⟨ρ, fp, eo, (Holds.bind h).mono (fun r hr H' fp' s => by
    obtain ⟨b, ρ1⟩ := r
    cases b with
    | true => exact tS.more s (Keep.refl _ _) hr
    | false => exact tS.more s (Keep.refl _ _) hr) fun c hc => SX.now hc⟩
theorem s_set {i : Nat} {x : Str} {f : FE} {bk : Bool} {pos' : Pos} (he : DE X W ks (kdOf bk) e f) (hk : ks[i]? = some bk := by rfl) (hP : i ∉ P := by decide) (hN : X.N.Nodup) (hi : X.N[i]? = some x := by rfl) (hx : Loc X.env.scope x := by first | exact Or.inl rfl | exact Or.inr rfl) (hs : swapsWith e (some (.Name x pos')) pos.line X.env = pure false := by rfl) (hf : X.fn x = true ∨ X.env.scope.names.lookup x = some .local := by first | exact .inl rfl | exact .inr rfl | assumption) :
    DS X W ks P κ (.Assign [.Name x pos'] e pos) (sSet i f) := PS.imp (ps_set hN hi hx he hs hf) fun D σ H ⟨ρ, fp, eo, h⟩ =>
  ⟨ρ, fp, eo, (Holds.bind h).mono (fun r hr v H' fp' m s ab rc => hr _ H' _ (Step.set hk s (ab.any _) rc) (Keep.set hP)) fun c hc => SX.now hc⟩

/-! ### several targets -/
def sets : List Nat → List PyData → Env → Env
  | i :: is, d :: ds, ρ => sets is ds (ρ.set i (some d))
  | _, _, ρ => ρ
def sUnp (is : List Nat) (f : FE) : FS := fun ρ => f ρ >>= fun r => match r.1 with
  | .tuple ds => if ds.length = is.length then .ok (.nx, sets is ds r.2) else .no
  | _ => .no
/-- targets that are names which do not own -/
def tgN : List Nat → TGs
  | [] => gNil
  | i :: is => gCons (gName i) (tgN is)
theorem tgN_run {K : PySem.W.Frag} {H H1 : Hp} {ρ : Env} {fp : Nat → List Addr} {Q : L2.St → Hp → Prop} : ∀ {is : List Nat} {vs : List V} {ds : List PyData} {fp1 : Nat → List Addr} {σ1 : L2.St} {ρ1 : Env} {m : List Addr} {o : Bool}, (∀ i ∈ is, ks[i]? = some false ∧ i ∉ P) → is.length = ds.length →
    Step K H H1 ks σ1 ρ ρ1 fp fp1 → AbL K H1 o vs ds m → RCe .V H ks ρ fp ρ1 fp1 m → (∀ σ' fp', Step K H H1 ks σ' ρ (sets is ds ρ1) fp fp' → Keep P σ1 σ' → Q σ' H1) → tgN is vs σ1 H1 Q
  | [], vs, ds, fp1, σ1, ρ1, m, o, hk, hl, s, a, r, h => by
    cases ds with
    | cons => cases hl
    | nil =>
      cases a
      exact ⟨rfl, h σ1 fp1 s (Keep.refl _ _)⟩
  | i :: is, vs, ds, fp1, σ1, ρ1, m, o, hk, hl, s, a, r, h => by
    cases ds with
    | nil => cases hl
    | cons d ds =>
      cases a with
      | @cons v vs _ _ m1 n1 a1 a2 =>
        obtain ⟨hki, hPi⟩ := hk i (List.mem_cons_self ..)
        have r1 : RCe .V H ks ρ fp ρ1 fp1 m1 := fun x q => r x (List.mem_append_left _ q)
        have r2 : RCe .V H ks ρ fp ρ1 fp1 n1 := fun x q => r x (List.mem_append_right _ q)
        have st := Step.set (i := i) (b := false) hki s (a1.any false) r1
        have r2' : RCe .V H ks ρ fp (ρ1.set i (some d)) (setF fp1 i m1) n1 := fun x q => ⟨fun ⟨j, e, ho, hj, hx⟩ => by
          rcases get_set hj with ⟨e0, _, _⟩ | ⟨hne, hj⟩
          · rw [e0] at ho; unfold own at ho; rw [hki] at ho; cases ho
          · rw [setF_ne hne] at hx
            exact (r2 x q).1 ⟨j, e, ho, hj, hx⟩, (r2 x q).2⟩
        exact ⟨v, vs, rfl, tgN_run (fun j hj => hk j (List.mem_cons_of_mem _ hj)) (by simpa using hl) st a2 r2' fun σ' fp' s' k' => h σ' fp' s' ((Keep.set hPi).trans k')⟩
theorem s_unp {is : List Nat} {es : List Expr} {k : Nat} {f : FE} {tpos : Pos} {n : Nat} (hc : X.calm = true) (he : DE X W ks .V e f) (hg : PGs X es (tgN is)) (hk : ∀ i ∈ is, ks[i]? = some false ∧ i ∉ P := by decide)
    (hn : (assignEach es X.env).length = n := by rfl) (hn2 : n = is.length := by rfl) (hst : (assignEach es X.env).findIdx? (·.1) = none := by rfl)
    (hs : swapsWithSole [.Tuple es k tpos] e pos.line X.env = pure false := by rfl) (hw : swappedStores [.Tuple es k tpos] e X.env = pure none := by rfl) (h1 : (assignEach [.Tuple es k tpos] X.env).map (·.2) = [assign (.Tuple es k tpos) X.env] := by rfl) :
    DS X W ks P κ (.Assign [.Tuple es k tpos] e pos) (sUnp is f) := PS.imp (ps_asg he (pg_tup hc hg hn hst) hs hw h1) fun D σ H ⟨ρ, fp, eo, h⟩ =>
  ⟨ρ, fp, eo, (Holds.bind h).mono (fun r hr v H' fp' m s ab rc => by
    obtain ⟨d, ρ1⟩ := r
    cases d with
    | tuple ds =>
      by_cases hl : ds.length = is.length
      · have hr' : Holds (if ds.length = is.length then R.ok (Fl.nx, sets is ds ρ1) else R.no) _ _ := hr
        rw [if_pos hl] at hr'
        obtain ⟨a, xs, rfl, hq, al⟩ := ab.tuple
        exact ⟨a, xs, rfl, hq, by rw [al.len, hl, hn2], tgN_run hk hl.symm s al rc fun σ' fp2 s' k' => hr' σ' H' fp2 s' k'⟩
      · have hr' : Holds (if ds.length = is.length then R.ok (Fl.nx, sets is ds ρ1) else R.no) _ _ := hr
        rw [if_neg hl] at hr'
        exact hr'.elim
    | _ => exact hr.elim) fun c hc => SX.now hc⟩
/-- a, b = x, y -/
def sPar (i j : Nat) (f : Env → R (List PyData × Env)) : FS := fun ρ => f ρ >>= fun r => match r.1 with
  | [x, y] => .ok (.nx, (r.2.set i (some x)).set j (some y))
  | _ => .no
theorem s_par {i j : Nat} {x y : Str} {f : Env → R (List PyData × Env)} {px py pt : Pos} {kt k2 pt2} (hc : X.calm = true) (ha : DEA X W ks .V [a, b] f) (hN : X.N.Nodup) (hij : i ≠ j := by decide) (hki : ks[i]? = some false := by rfl) (hkj : ks[j]? = some false := by rfl) (hPi : i ∉ P := by decide) (hPj : j ∉ P := by decide)
    (hi : X.N[i]? = some x := by rfl) (hj : X.N[j]? = some y := by rfl) (hx : X.env.scope.names.lookup x = some .local := by rfl) (hy : X.env.scope.names.lookup y = some .local := by rfl)
    (hw : swappedStores [.Tuple [.Name x px, .Name y py] kt pt] (.Tuple [a, b] k2 pt2) X.env = pure (some [x, y]) := by rfl)
    (hs : swapsWithSole [.Tuple [.Name x px, .Name y py] kt pt] (.Tuple [a, b] k2 pt2) pos.line X.env = pure false := by rfl) :
    DS X W ks P κ (.Assign [.Tuple [.Name x px, .Name y py] kt pt] (.Tuple [a, b] k2 pt2) pos) (sPar i j f) := PS.imp (ps_par hc hN hi hj hij hx hy ha hw hs) fun D σ H ⟨ρ, fp, eo, h⟩ =>
  ⟨ρ, fp, eo, (Holds.bind h).mono (fun r hr v H' fp' m s ab rc => by
    obtain ⟨ds, ρ1⟩ := r
    match ds, ab, hr with
    | [], _, hr => exact hr.elim
    | [_], _, hr => exact hr.elim
    | _ :: _ :: _ :: _, _, hr => exact hr.elim
    | [d1, d2], ab, hr =>
      cases ab with
      | @cons v1 vs1 _ _ m1 n1 a1 a2 =>
        cases a2 with
        | @cons v2 vs2 _ _ m2 n2 a2 a3 =>
          cases a3
          refine ⟨v1, v2, rfl, ?_⟩
          have r1 : RCe .V H ks ρ fp ρ1 fp' m1 := fun x q => rc x (List.mem_append_left _ q)
          have r2 : RCe .V H ks ρ fp ρ1 fp' m2 := fun x q => rc x (List.mem_append_right _ (List.mem_append_left _ q))
          have st := Step.set (i := i) (b := false) hki s (a1.any false) r1
          have r2' : RCe .V H ks ρ fp (ρ1.set i (some d1)) (setF fp' i m1) m2 := fun x q => ⟨fun ⟨j, e, ho, hj, hx⟩ => by
            rcases get_set hj with ⟨e0, _, _⟩ | ⟨hne, hj⟩
            · rw [e0] at ho; unfold own at ho; rw [hki] at ho; cases ho
            · rw [setF_ne hne] at hx
              exact (r2 x q).1 ⟨j, e, ho, hj, hx⟩, (r2 x q).2⟩
          have st2 := Step.set (i := j) (b := false) hkj st (a2.any false) r2'
          exact hr _ H' _ st2 ((Keep.set hPi).trans (Keep.set hPj))) fun c hc => SX.now hc⟩

/-! ### x op= e -/
def sAug (i : Nat) (o : PyData → PyData → Option PyData) (f : FE) : FS := fun ρ => slot i ρ >>= fun x => if flat x then f ρ >>= fun r => ofO (o x r.1) >>= fun z => if flat z then .ok (.nx, r.2.set i (some z)) else .no else .no
theorem s_aug {i : Nat} {x : Str} {op : Operator} {r : R2} {o : PyData → PyData → Option PyData} {f : FE} {bk : Bool} {pos' : Pos} (ho : OpR X (inplaceOp op) r) (hd : Op2 X.K r o) (he : DE X W ks .B e f) (hN : X.N.Nodup) (hk : ks[i]? = some bk := by rfl) (hP : i ∉ P := by decide) (hi : X.N[i]? = some x := by rfl) (hx : Loc X.env.scope x := by first | exact Or.inl rfl | exact Or.inr rfl)
    (hf : X.fn x = true ∨ X.env.scope.names.lookup x = some .local := by first | exact .inl rfl | exact .inr rfl | assumption) : DS X W ks P κ (.AugAssign (.Name x pos') op e pos) (sAug i o f) := PS.imp (ps_aug (ti := r) hN hi hx he ho hf) fun D σ H ⟨ρ, fp, eo, h⟩ => by
  obtain ⟨d, e0, h⟩ := slot_ok h
  obtain ⟨v, e1, ab⟩ := eo.ab i d e0
  refine ⟨v, e1, ρ, fp, eo, ?_⟩
  by_cases hfl : flat d = true
  · rw [if_pos hfl] at h
    have em := ab.flat hfl
    refine (Holds.bind h).mono (fun q hq u H' fp' m s a1 _ => ?_) fun c hc => SX.now hc
    obtain ⟨z, ez, hq⟩ := Holds.ofO (Holds.bind hq)
    by_cases hfz : flat z = true
    · rw [if_pos hfz] at hq
      rw [em] at ab
      refine hd.run H' v u d q.1 [] m z _ ((ab.fr s.fr fun _ z => nomatch z).any _) a1.down ez fun w H3 m' s3 a3 _ => ?_
      have em' := a3.flat hfz
      subst em'
      have st := Step.set (i := i) hk (s.trans (Step.same s.env s3)) (a3.any bk) (RCe.nil _)
      exact hq _ H3 _ st (Keep.set hP)
    · rw [if_neg hfz] at hq
      exact hq.elim
  · rw [if_neg hfl] at h
    exact h.elim

/-! ### raise -/
/-- an exception class of the program without an own __init__, over ValueError -/
structure ExcF (X : Cx) (x : Str) : Prop where
  q : PySem.W.excIn X.K (He.ga X.K x) He.veBase "ValueError.__new__" = true
  g : X.mg x = some (.ref (He.ga X.K x))
  k : PySem.W.keepIn X.K (.ref (He.ga X.K x)) = true
  r : Raises X (.ref (He.ga X.K x))
theorem s_raise {x : Str} {cpos : Pos} {p : Pos} {z : Str} {j : Nat} {p2 : Pos} (hc : X.calm = true) (tk : Takes X W) (F : ExcF X x) (hg : Gl X x := by rfl) (hdb : (x == ("__debug__" : Str)) = false := by decide) :
    DS X W ks P κ (.Raise (some (.Call (.Name x p) [.Constant (.str z) j p2] [] cpos)) none pos) (fun _ => .ex ⟨x, none⟩) :=
  PS.imp (ps_raise hc tk (pmk_own PySem.F.excBase_ValueError F.q F.g F.k F.r hg hdb)) fun D σ H ⟨ρ, fp, eo, h⟩ => h σ H (Keep.refl _ _) (Fr.refl _ _)

/-! ### while -/
/-- at most so many turns -/
def turns : Nat := 4611686018427387904
def sWhileN (t : Env → R (Bool × Env)) (f : FS) : Nat → FS
  | 0 => fun _ => .no
  | n + 1 => fun ρ => t ρ >>= fun r => if r.1 then f r.2 >>= fun q => match q.1 with
    | .nx => sWhileN t f n q.2
    | .ct => sWhileN t f n q.2
    | .bk => .ok (.nx, q.2)
    | .rt d => .ok (.rt d, q.2) else .ok (.nx, r.2)
def sWhile (t : Env → R (Bool × Env)) (f : FS) : FS := sWhileN t f turns
theorem s_while {t : Env → R (Bool × Env)} {f : FS} {xs : List Stmt} (hp : PassesOwn (model X.prog X.w) X.A X.env X.xe) (hc : DET X W ks c t) (hb : DSs X W ks P κ xs f) : DS X W ks P κ (.While c xs [] pos) (sWhile t f) :=
  PS.imp (ps_while hp hc hb) fun D σ H ⟨ρ, fp, eo, h⟩ => by
    refine ⟨fun n σ1 H1 => ∃ ρ1 fp1, Step X.K H H1 ks σ1 ρ ρ1 fp fp1 ∧ Keep P σ σ1 ∧ Holds (sWhileN t f n ρ1) (SE X.K ks P κ D σ H ρ fp) (SX X.K W ks P σ H ρ fp), ⟨turns, ρ, fp, Step.same eo (Same.refl H), Keep.refl _ _, h⟩, ?_⟩
    rintro n σ1 H1 ⟨ρ1, fp1, s1, k1, h1⟩
    cases n with
    | zero => exact h1.elim
    | succ n =>
      refine ⟨ρ1, fp1, s1.env, (Holds.bind h1).mono (fun r hr H2 fp2 s2 => ?_) fun c hc H' s' => SX.now (hc.pre s1 k1) H' s'⟩
      obtain ⟨b, ρ2⟩ := r
      cases b with
      | false =>
        rw [if_neg Bool.false_ne_true]
        exact hr σ1 H2 fp2 (s1.trans s2) k1
      | true =>
        rw [if_pos rfl]
        refine ⟨fun σ3 H3 => ∃ ρ3 fp3, Step X.K H H3 ks σ3 ρ ρ3 fp fp3 ∧ Keep P σ σ3 ∧ Holds (sWhileN t f n ρ3) (SE X.K ks P κ D σ H ρ fp) (SX X.K W ks P σ H ρ fp), fun σ' H' q => ⟨n, Nat.lt_succ_self n, q⟩, ?_⟩
        have s12 := s1.trans s2
        have hr' : Holds (f ρ2 >>= fun q => match q.1 with
          | .nx => sWhileN t f n q.2
          | .ct => sWhileN t f n q.2
          | .bk => .ok (.nx, q.2)
          | .rt d => .ok (.rt d, q.2)) (SE X.K ks P κ D σ H ρ fp) (SX X.K W ks P σ H ρ fp) := hr
        refine ⟨ρ2, fp2, s12.env, (Holds.bind hr').mono (fun q hq => ?_) fun c hc => hc.pre s12 k1⟩
        obtain ⟨fl, ρ3⟩ := q
        cases fl with
        | nx => exact fun σ' H' fp' s' k' => ⟨ρ3, fp', s12.trans s', k1.trans k', hq⟩
        | ct => exact fun σ' H' fp' s' k' => ⟨ρ3, fp', s12.trans s', k1.trans k', hq⟩
        | bk => exact fun σ' H' fp' s' k' => hq σ' H' fp' (s12.trans s') (k1.trans k')
        | rt d =>
          have hq' : SE X.K ks P κ D σ H ρ fp (.rt d, ρ3) := hq
          exact hq'.pre s12 k1
end
end PV

set_option Elab.async false
set_option linter.all false
set_option maxRecDepth 100000
set_option maxHeartbeats 1000000
set_option autoImplicit false
/-! PV, part g: targets, what is walked, for, comprehensions. -/
namespace PV
open PySem PySem.Spec PyProof.Rows L2
/-! ### targets -/
inductive Tg where
  | nm (i : Nat)
  | tp (ts : List Tg)
mutual
def gT (K : PySem.W.Frag) : Tg → TG
  | .nm i => gName i
  | .tp ts => gTup K ts.length (gTs K ts)
def gTs (K : PySem.W.Frag) : List Tg → TGs
  | [] => gNil
  | t :: ts => gCons (gT K t) (gTs K ts)
end
mutual
def put : Tg → PyData → Env → R Env
  | .nm i, d, ρ => .ok (ρ.set i (some d))
  | .tp ts, d, ρ => match d with
    | .tuple ds => puts ts ds ρ
    | _ => .no
def puts : List Tg → List PyData → Env → R Env
  | [], [], ρ => .ok ρ
  | t :: ts, d :: ds, ρ => put t d ρ >>= puts ts ds
  | _, _, _ => .no
end
mutual
def tgS : Tg → List Nat
  | .nm i => [i]
  | .tp ts => tgSs ts
def tgSs : List Tg → List Nat
  | [] => []
  | t :: ts => tgS t ++ tgSs ts
end
mutual
theorem put_ex : ∀ (t : Tg) (d : PyData) (ρ1 : Env) (c : Ex), put t d ρ1 ≠ .ex c
  | .nm i, d, ρ1, c, h => by simp [put] at h
  | .tp ts, d, ρ1, c, h => by
    cases d <;> simp only [put, reduceCtorEq] at h
    exact puts_ex ts _ _ _ h
theorem puts_ex : ∀ (ts : List Tg) (ds : List PyData) (ρ1 : Env) (c : Ex), puts ts ds ρ1 ≠ .ex c
  | [], [], _, _, h => by simp [puts] at h
  | [], _ :: _, _, _, h => by simp [puts] at h
  | _ :: _, [], _, _, h => by simp [puts] at h
  | t :: ts, d :: ds, ρ1, c, h => by
    simp only [puts] at h
    rcases bind_ex_iff.mp h with h | ⟨ρ2, _, h⟩
    · exact put_ex t d ρ1 c h
    · exact puts_ex ts ds ρ2 c h
end
theorem puts_len : ∀ {ts : List Tg} {ds : List PyData} {ρ1 : Env} {P : Env → Prop} {U : Ex → Prop}, Holds (puts ts ds ρ1) P U → ds.length = ts.length
  | [], [], _, _, _, _ => rfl
  | [], _ :: _, _, _, _, h => by simp [puts, Holds] at h
  | _ :: _, [], _, _, _, h => by simp [puts, Holds] at h
  | t :: ts, d :: ds, ρ1, P, U, h => by
    have h' : Holds (put t d ρ1 >>= puts ts ds) P U := by simpa only [puts] using h
    cases e : put t d ρ1 with
    | ok ρ2 => rw [e] at h'; simp [puts_len (ts := ts) h']
    | ex c => exact absurd e (put_ex t d ρ1 c)
    | no => rw [e] at h'; exact h'.elim
structure Off (is : List Nat) (m : List Addr) (σ1 σ2 : L2.St) (ρ1 ρ2 : Env) (fp1 fp2 : Nat → List Addr) : Prop where
  len : σ2.length = σ1.length
  st : ∀ j, j ∉ is → σ2[j]? = σ1[j]?
  en : ∀ j, j ∉ is → ρ2[j]? = ρ1[j]?
  fp : ∀ j, j ∉ is → fp2 j = fp1 j
  al : ∀ a, Al ρ2 fp2 a → Al ρ1 fp1 a ∨ a ∈ m
section
variable {K : PySem.W.Frag} {ks : List Bool} {is js : List Nat} {σ σ1 σ2 σ3 : L2.St} {ρ ρ1 ρ2 ρ3 : Env} {fp fp1 fp2 fp3 : Nat → List Addr} {H H1 : Hp}
theorem Off.refl {m : List Addr} : Off is m σ1 σ1 ρ1 ρ1 fp1 fp1 := ⟨rfl, fun _ _ => rfl, fun _ _ => rfl, fun _ _ => rfl, fun _ h => .inl h⟩
theorem Off.trans {m : List Addr} (a : Off is m σ1 σ2 ρ1 ρ2 fp1 fp2) (b : Off is m σ2 σ3 ρ2 ρ3 fp2 fp3) : Off is m σ1 σ3 ρ1 ρ3 fp1 fp3 :=
  ⟨b.len.trans a.len, fun j h => (b.st j h).trans (a.st j h), fun j h => (b.en j h).trans (a.en j h), fun j h => (b.fp j h).trans (a.fp j h), fun x h => (b.al x h).elim (a.al x) .inr⟩
theorem Off.mono {m n : List Addr} (a : Off is m σ1 σ2 ρ1 ρ2 fp1 fp2) (h : ∀ i ∈ is, i ∈ js) (g : ∀ x ∈ m, x ∈ n) : Off js n σ1 σ2 ρ1 ρ2 fp1 fp2 := ⟨a.len, fun j n => a.st j fun z => n (h j z), fun j n => a.en j fun z => n (h j z), fun j n => a.fp j fun z => n (h j z), fun x q => (a.al x q).imp id (g x)⟩
theorem Off.keep {P : List Nat} {m : List Addr} (a : Off is m σ1 σ2 ρ1 ρ2 fp1 fp2) (h : ∀ i ∈ is, i ∉ P) : Keep P σ1 σ2 := ⟨a.len, fun j hj => a.st j fun z => h j z hj⟩
theorem Off.ow {m : List Addr} (a : Off is m σ1 σ2 ρ1 ρ2 fp1 fp2) (hk : ∀ i ∈ is, ks[i]? = some false) {x : Addr} (h : Ow ks ρ2 fp2 x) : Ow ks ρ1 fp1 x := by
  obtain ⟨j, d, ho, e, q⟩ := h
  have n : j ∉ is := fun z => by unfold own at ho; rw [hk j z] at ho; cases ho
  exact ⟨j, d, ho, by rw [← a.en j n]; exact e, by rw [← a.fp j n]; exact q⟩
theorem Off.ow' {m : List Addr} (a : Off is m σ1 σ2 ρ1 ρ2 fp1 fp2) (hk : ∀ i ∈ is, ks[i]? = some false) {x : Addr} (h : Ow ks ρ1 fp1 x) : Ow ks ρ2 fp2 x := by
  obtain ⟨j, d, ho, e, q⟩ := h
  have n : j ∉ is := fun z => by unfold own at ho; rw [hk j z] at ho; cases ho
  exact ⟨j, d, ho, by rw [a.en j n]; exact e, by rw [a.fp j n]; exact q⟩
mutual
theorem T_run : ∀ (t : Tg) {x : V} {d : PyData} {m : List Addr} {o : Bool} {σ1 : L2.St} {ρ1 : Env} {fp1 : Nat → List Addr} {Q : L2.St → Hp → Prop}, (∀ i ∈ tgS t, ks[i]? = some false) → Step K H H1 ks σ1 ρ ρ1 fp fp1 → Ab K H1 o x d m → RCe .V H ks ρ fp ρ1 fp1 m →
    Holds (put t d ρ1) (fun ρ2 => ∀ σ' fp', Step K H H1 ks σ' ρ ρ2 fp fp' → Off (tgS t) m σ1 σ' ρ1 ρ2 fp1 fp' → Q σ' H1) (fun _ => False) → gT K t x σ1 H1 Q
  | .nm i, x, d, m, o, σ1, ρ1, fp1, Q, hk, s, a, r, h => by
    have hki : ks[i]? = some false := hk i (by simp [tgS])
    have h' : ∀ σ' fp', Step K H H1 ks σ' ρ (ρ1.set i (some d)) fp fp' → Off (tgS (.nm i)) m σ1 σ' ρ1 (ρ1.set i (some d)) fp1 fp' → Q σ' H1 := by
      simpa only [put, Holds] using h
    refine h' _ _ (Step.set (b := false) hki s (a.any _) r) ⟨by simp, fun j n => ?_, fun j n => ?_, fun j n => ?_, fun x ⟨j, e, hj, hx⟩ => ?_⟩
    · exact List.getElem?_set_ne fun e => n (by simp [tgS, e])
    · exact List.getElem?_set_ne fun e => n (by simp [tgS, e])
    · exact setF_ne fun e => n (by simp [tgS, e])
    · rcases get_set hj with ⟨e0, _, _⟩ | ⟨hne, hj⟩
      · rw [e0, setF_same] at hx; exact .inr hx
      · rw [setF_ne hne] at hx; exact .inl ⟨j, e, hj, hx⟩
  | .tp ts, x, d, m, o, σ1, ρ1, fp1, Q, hk, s, a, r, h => by
    cases d with
    | tuple ds =>
      obtain ⟨p, xs, rfl, hq, al⟩ := a.tuple
      have h' : Holds (puts ts ds ρ1) (fun ρ2 => ∀ σ' fp', Step K H H1 ks σ' ρ ρ2 fp fp' → Off (tgSs ts) m σ1 σ' ρ1 ρ2 fp1 fp' → Q σ' H1) (fun _ => False) := by
        simpa only [put, tgS] using h
      have hl : ds.length = ts.length := puts_len h'
      exact ⟨p, xs, rfl, hq, by rw [al.len, hl], Ts_run ts (by simpa only [tgS] using hk) s al r h'⟩
    | _ => simp [put, Holds] at h
theorem Ts_run : ∀ (ts : List Tg) {xs : List V} {ds : List PyData} {m : List Addr} {o : Bool} {σ1 : L2.St} {ρ1 : Env} {fp1 : Nat → List Addr} {Q : L2.St → Hp → Prop}, (∀ i ∈ tgSs ts, ks[i]? = some false) → Step K H H1 ks σ1 ρ ρ1 fp fp1 → AbL K H1 o xs ds m → RCe .V H ks ρ fp ρ1 fp1 m →
    Holds (puts ts ds ρ1) (fun ρ2 => ∀ σ' fp', Step K H H1 ks σ' ρ ρ2 fp fp' → Off (tgSs ts) m σ1 σ' ρ1 ρ2 fp1 fp' → Q σ' H1) (fun _ => False) → gTs K ts xs σ1 H1 Q
  | [], xs, ds, m, o, σ1, ρ1, fp1, Q, hk, s, a, r, h => by
    cases ds with
    | nil =>
      cases a
      have h' : ∀ σ' fp', Step K H H1 ks σ' ρ ρ1 fp fp' → Off (tgSs []) [] σ1 σ' ρ1 ρ1 fp1 fp' → Q σ' H1 := by simpa only [puts, Holds] using h
      exact ⟨rfl, h' σ1 fp1 s Off.refl⟩
    | cons d ds => simp [puts, Holds] at h
  | t :: ts, xs, ds, m, o, σ1, ρ1, fp1, Q, hk, s, a, r, h => by
    cases ds with
    | nil => simp [puts, Holds] at h
    | cons d ds =>
      cases a with
      | @cons v vs _ _ m1 n1 a1 a2 =>
        have h' : Holds (put t d ρ1 >>= puts ts ds) (fun ρ2 => ∀ σ' fp', Step K H H1 ks σ' ρ ρ2 fp fp' → Off (tgSs (t :: ts)) (m1 ++ n1) σ1 σ' ρ1 ρ2 fp1 fp' → Q σ' H1) (fun _ => False) := by simpa only [puts] using h
        have hk1 : ∀ i ∈ tgS t, ks[i]? = some false := fun i q => hk i (by simp [tgSs, q])
        have hk2 : ∀ i ∈ tgSs ts, ks[i]? = some false := fun i q => hk i (by simp [tgSs, q])
        refine ⟨v, vs, rfl, T_run t hk1 s a1 (fun x q => r x (List.mem_append_left _ q)) ((Holds.bind h').mono (fun ρ2 h2 σ2 fp2 s2 off => ?_) fun c hc => hc)⟩
        refine Ts_run ts hk2 s2 a2 (fun x q => ⟨fun z => (r x (List.mem_append_right _ q)).1 (off.ow hk1 z), (r x (List.mem_append_right _ q)).2⟩) (h2.mono (fun ρ3 h3 σ3 fp3 s3 off3 => h3 σ3 fp3 s3 ?_) fun c hc => hc)
        exact (off.mono (fun i q => by simp [tgSs, q]) fun x q => List.mem_append_left _ q).trans (off3.mono (fun i q => by simp [tgSs, q]) fun x q => List.mem_append_right _ q)
end
end
end PV

set_option Elab.async false
set_option linter.all false
set_option maxRecDepth 100000
set_option maxHeartbeats 1000000
set_option autoImplicit false
/-! PV, part h: what is walked; for. -/
namespace PV
open PySem PySem.Spec PyProof.Rows L2
/-- what m names and what cannot change is kept -/
def Pr (m : List Addr) (H0 H1 : Hp) : Prop := ∀ a o, H0 a = some o → (a ∈ m ∨ ¬ MutO o) → H1 a = some o
structure Walks (K : PySem.W.Frag) (J : It) (xs : List PyData) (m : List Addr) (G : Hp → Prop) : Prop where
  go : ∀ i H, G H → i < xs.length → J.go i H
  stop : ∀ i H, G H → i = xs.length → J.stop i H
  yld : ∀ i H x H', G H → i < xs.length → J.yld i H x H' → Same H H' ∧ ∃ d n, xs[i]? = some d ∧ Ab K H' false x d n ∧ ∀ a ∈ n, a ∈ m
theorem Walks.weak {K : PySem.W.Frag} {J : It} {xs : List PyData} {m : List Addr} {G G' : Hp → Prop} (w : Walks K J xs m G) (h : ∀ H, G' H → G H) : Walks K J xs m G' := ⟨fun i H g => w.go i H (h H g), fun i H g => w.stop i H (h H g), fun i H x H' g => w.yld i H x H' (h H g)⟩
def tI (K : PySem.W.Frag) (W : WX) (ks : List Bool) (f : Env → R (List PyData × Env)) : TI := fun σ H R => ∃ ρ fp, EOk K H ks σ ρ fp ∧ Holds (f ρ) (fun r => ∀ J H' fp' m, Step K H H' ks σ ρ r.2 fp fp' → RCe .V H ks ρ fp r.2 fp' m → (∀ a ∈ m, H' a ≠ none) → Walks K J r.1 m (Pr m H') → R J H') fun c => ∀ H', Fr (Ow ks ρ fp) H H' → WEx K W c σ H'
/-- pure -/
def tIp (K : PySem.W.Frag) (W : WX) (ks : List Bool) (f : Env → R (List PyData)) : TI := fun σ H R => ∃ ρ fp, EOk K H ks σ ρ fp ∧ Holds (f ρ) (fun r => ∀ J H' m, Same H H' → RCp .V H ks ρ fp m → (∀ a ∈ m, H' a ≠ none) → Walks K J r m (Same H') → R J H') fun c => ∀ H', Same H H' → WEx K W c σ H'
theorem PI.imp {X : Cx} {tg e : Expr} {t t' : TI} (h : PI X tg e t) (w : ∀ σ H Q, t' σ H Q → t σ H Q) : PI X tg e t' := ⟨fun pins s σ H Q I q => h.run pins s σ H Q I (w σ H Q q)⟩
section
variable {K : PySem.W.Frag} {H H1 : Hp}
theorem Pr.sqT {m : List Addr} (p : Pr m H H1) {a : Addr} {xs : List V} (h : SqT K H a xs) : SqT K H1 a xs := by
  rcases h with (h | ⟨o, h⟩) | h
  · exact .inl (.inl (p _ _ h (.inr fun z => z)))
  · exact .inl (.inr ⟨o, p _ _ h (.inr fun z => z)⟩)
  · exact .inr h
theorem Pr.sqL {m : List Addr} (p : Pr m H H1) {a : Addr} {xs : List V} (hm : a ∈ m) (h : SqL K H a xs) : SqL K H1 a xs := by
  rcases h with (h | ⟨o, h⟩) | h
  · exact .inl (.inl (p _ _ h (.inl hm)))
  · exact .inl (.inr ⟨o, p _ _ h (.inl hm)⟩)
  · exact .inr h
theorem Pr.sqF {m : List Addr} (p : Pr m H H1) {a : Addr} {xs : List V} (h : SqF K H a xs) : SqF K H1 a xs := by
  rcases h with ⟨o, h⟩ | h
  · exact .inl ⟨o, p _ _ h (.inr fun z => z)⟩
  · exact .inr h
theorem Pr.of (s : Same H H1) (m : List Addr) : Pr m H H1 := fun a o e _ => s a o e
theorem ab_pr {m : List Addr} (p : Pr m H H1) {o : Bool} : (∀ v d n, Ab K H o v d n → (∀ a ∈ n, a ∈ m) → Ab K H1 o v d n) ∧ ∀ vs ds n, AbL K H o vs ds n → (∀ a ∈ n, a ∈ m) → AbL K H1 o vs ds n := by
  refine ab_ind (fun _ => .non) (fun b _ => .bl b) (fun i _ => .int i) (fun x _ => .str x) ?_ ?_ ?_ ?_ (fun a xs ds hs _ q hm => .frz (p.sqF hs) (q hm)) (fun a _ => .adr a) (fun _ => .nil) ?_
  · exact fun a xs ds m hs _ q hm => .tup (p.sqT hs) (q hm)
  · exact fun a xs ds m hs _ q hm => .lst (p _ _ hs (.inl (hm _ (List.mem_cons_self ..)))) (q fun a z => hm a (List.mem_cons_of_mem _ z))
  · exact fun a kvs ps m hs hk _ q hm => .dk (p _ _ hs (.inl (hm _ (List.mem_cons_self ..)))) hk (q fun a z => hm a (List.mem_cons_of_mem _ z))
  · exact fun a kvs ps m hs hk _ q hm => .dt (p _ _ hs (.inl (hm _ (List.mem_cons_self ..)))) hk (q fun a z => hm a (List.mem_cons_of_mem _ z))
  · exact fun v vs d ds m n _ _ q1 q2 hm => .cons (q1 fun a z => hm a (List.mem_append_left _ z)) (q2 fun a z => hm a (List.mem_append_right _ z))
theorem AbL.pr {m n : List Addr} {o : Bool} {vs : List V} {ds : List PyData} (h : AbL K H o vs ds n) (p : Pr m H H1) (hm : ∀ a ∈ n, a ∈ m) : AbL K H1 o vs ds n := (ab_pr p).2 _ _ _ h hm
/-- what is not owned is kept by what is done to the slots -/
theorem Step.pr {ks : List Bool} {σ : L2.St} {ρ ρ' : Env} {fp fp' : Nat → List Addr} {m : List Addr} (s : Step K H H1 ks σ ρ ρ' fp fp') (hm : ∀ a ∈ m, ¬ Ow ks ρ fp a) : Pr m H H1 := fun a o e h => s.fr.1 a o e fun z => h.elim (fun q => absurd z (hm a q)) fun q => q
/-! ### what walks data -/
theorem walks_list {a : Addr} {xs : List V} {ds : List PyData} {n m : List Addr} {o : Bool} (hq : SqL K H a xs) (al : AbL K H o xs ds n) (hn : ∀ x ∈ n, x ∈ m) {G : Hp → Prop} (hG : ∀ H1, G H1 → SqL K H1 a xs ∧ AbL K H1 o xs ds n) : Walks K (Itl K a) ds m G where
  go := fun i H1 p hi => by
    obtain ⟨hq1, _⟩ := hG H1 p
    exact ⟨xs, xs[i]'(by rw [al.len]; exact hi), hq1, List.getElem?_eq_getElem _⟩
  stop := fun i H1 p hi => ⟨xs, (hG H1 p).1, by rw [al.len]; exact Nat.le_of_eq hi.symm⟩
  yld := fun i H1 x H' p hi y => by
    obtain ⟨rfl, y⟩ := y
    obtain ⟨hq1, a1⟩ := hG _ p
    obtain ⟨d, n', e, ab, s⟩ := a1.getV (y xs hq1)
    exact ⟨Same.refl _, d, n', e, ab.any _, fun b q => hn b (s.subset q)⟩
theorem walks_tup {a : Addr} {xs : List V} {ds : List PyData} {n m : List Addr} {o : Bool} (hq : SqT K H a xs) (al : AbL K H o xs ds n) (hn : ∀ x ∈ n, x ∈ m) {G : Hp → Prop} (hG : ∀ H1, G H1 → SqT K H1 a xs ∧ AbL K H1 o xs ds n) : Walks K (Itt K a) ds m G where
  go := fun i H1 p hi => by
    obtain ⟨hq1, _⟩ := hG H1 p
    exact ⟨xs, xs[i]'(by rw [al.len]; exact hi), hq1, List.getElem?_eq_getElem _⟩
  stop := fun i H1 p hi => ⟨xs, (hG H1 p).1, by rw [al.len]; exact Nat.le_of_eq hi.symm⟩
  yld := fun i H1 x H' p hi y => by
    obtain ⟨rfl, y⟩ := y
    obtain ⟨hq1, a1⟩ := hG _ p
    obtain ⟨d, n', e, ab, s⟩ := a1.getV (y xs hq1)
    exact ⟨Same.refl _, d, n', e, ab.any _, fun b q => hn b (s.subset q)⟩
def chars (x : Str) : List PyData := x.cps.toList.map fun c => .str ⟨#[c]⟩
theorem walks_str {x : Str} {m : List Addr} {G : Hp → Prop} : Walks K (Its x) (chars x) m G where
  go := fun i H1 p hi => show i < x.cps.size by simpa [chars] using hi
  stop := fun i H1 p hi => show x.cps.size ≤ i by simpa [chars] using Nat.le_of_eq hi.symm
  yld := fun i H1 v H' p hi y => by
    obtain ⟨rfl, c, e, rfl⟩ := y
    refine ⟨Same.refl _, .str ⟨#[c]⟩, [], ?_, .str _, fun _ q => nomatch q⟩
    unfold chars
    rw [List.getElem?_map, Array.getElem?_toList, e]
    rfl
def rangeL (i j : Int) : List PyData := (List.range (j - i).toNat).map fun (k : Nat) => .int (i + (k : Int))
theorem walks_range {i : Int} {n : Nat} {m : List Addr} {G : Hp → Prop} : Walks K (Itr i n) ((List.range n).map fun (k : Nat) => .int (i + (k : Int))) m G where
  go := fun k H1 p hi => show k < n by simpa using hi
  stop := fun k H1 p hi => show n ≤ k by simpa using Nat.le_of_eq hi.symm
  yld := fun k H1 v H' p hi y => by
    obtain ⟨rfl, rfl⟩ := y
    refine ⟨Same.refl _, .int (i + k), [], ?_, .int _, fun _ q => nomatch q⟩
    rw [List.getElem?_map, List.getElem?_range (by simpa using hi)]
    rfl
end
section
variable {X : Cx} {W : WX} {ks : List Bool} {P : List Nat} {κ : Kd} {a b c e tg : Expr} {pos : Pos} {st : Stmt} {rest : List Stmt}
/-- list, tuple or text -/
def iAny (K : PySem.W.Frag) (te : TE) : TI := fun σ H R => te σ H fun x H1 => (∃ a xs, x = .ref a ∧ SqL K H1 a xs ∧ R (Itl K a) H1) ∨ (∃ a xs, x = .ref a ∧ SqT K H1 a xs ∧ R (Itt K a) H1) ∨ ∃ y, x = .str y ∧ R (Its y) H1
theorem pi_any {te : TE} (hl : PE X e te) : PI X tg e (iAny X.K te) := by
  refine ⟨fun pins s σ H R I h => ?_⟩
  refine thn (hl.run pins s σ H _ I h) fun v s1 ⟨x, H1, I1, r1, q1⟩ => ?_
  have fr : ∀ b ∈ [s1.heap.objs.size], FpOk X pins H1 b := fun b hb => by
    have e : b = s1.heap.objs.size := by simpa using hb
    subst e
    exact I1.fpOk (Nat.le_refl _) (I1.hok.fresh (Nat.le_refl _))
  rcases q1 with ⟨a, xs, ex, hq, q⟩ | ⟨a, xs, ex, hq, q⟩ | ⟨y, ex, q⟩
  · subst ex
    cases r1
    obtain ⟨its, rv, p, hz⟩ := I1.list hq
    refine wpAny_pyIter_list p.isList ?_
    exact ⟨s1.heap.objs.size, [s1.heap.objs.size], _, _, H1, rfl, I1.kept (t' := s1.toks) fun b o e => Heap.get?_push_of_some _ e, turn_list a _, ⟨_, Heap.get?_push_size _ rfl, rfl, rfl⟩, fr, q⟩
  · subst ex
    cases r1
    obtain ⟨its, rv, p, hz⟩ := I1.tuple hq
    refine wpAny_pyIter_tuple (show s1.heap.IsTuple a its.toArray from p) ?_
    exact ⟨s1.heap.objs.size, [s1.heap.objs.size], _, _, H1, rfl, I1.kept (t' := s1.toks) fun b o e => Heap.get?_push_of_some _ e, turn_tuple a _, ⟨_, Heap.get?_push_size _ rfl, rfl, rfl⟩, fr, q⟩
  · subst ex
    obtain ⟨t, rfl⟩ := r1
    cases ha : y.cps.all (· < 128)
    · exact wpAny_pyIter_wide ha (pi_one (tk := s1.toks) I1 _ (turn_str _ y t "str_iterator" (.inr rfl)) ⟨_, Heap.get?_push_size _ rfl, rfl, rfl⟩ q)
    · exact wpAny_pyIter_ascii ha (pi_one (tk := s1.toks) I1 _ (turn_str _ y t "str_ascii_iterator" (.inl rfl)) ⟨_, Heap.get?_push_size _ rfl, rfl, rfl⟩ q)
def itemsD : PyData → Option (List PyData)
  | .list ds => some ds
  | .tuple ds => some ds
  | .str x => some (chars x)
  | .dict [(.dict [], .tuple ds)] => some ds
  | _ => none
theorem itemsD_dict {ps : List (PyData × PyData)} {ds : List PyData} (h : itemsD (.dict ps) = some ds) : ps = [(.dict [], .tuple ds)] := by
  match ps, h with
  | [], h => cases h
  | [(a, b)], h =>
    cases a <;> try (cases h; done)
    rename_i qs
    cases qs with
    | cons q qs => cases h
    | nil => cases b <;> first | (cases h; done) | (cases h; rfl)
  | p :: q :: r, h =>
    obtain ⟨a, b⟩ := p
    cases a <;> try (cases h; done)
    rename_i qs
    cases qs <;> cases b <;> cases h
theorem Ab.frzL {K : PySem.W.Frag} {H : Hp} {o : Bool} {v : V} {ds : List PyData} {m : List Addr} (a : Ab K H o v (.dict [(.dict [], .tuple ds)]) m) : ∃ p xs, v = .ref p ∧ SqF K H p xs ∧ AbL K H o xs ds [] ∧ m = [] := by
  generalize hd : (PyData.dict [(.dict [], .tuple ds)]) = d at a
  cases a with
  | dk hs hk al =>
    cases hd
    rename_i kvs _
    cases kvs with
    | nil => simp at hk
    | cons q r => obtain ⟨k, x⟩ := q; simp at hk; cases k <;> simp [keyD] at hk
  | dt hs hk al =>
    cases hd
    rename_i kvs _
    cases kvs with
    | nil => simp at hk
    | cons q r => simp at hk
  | @frz p xs es hs al =>
    have e : es = ds := by unfold frzD at hd; injection hd with h1; simpa using h1.symm
    subst e
    exact ⟨p, xs, rfl, hs, al, rfl⟩
  | _ => cases hd
def eIt (f : FE) : Env → R (List PyData × Env) := fun ρ => f ρ >>= fun r => ofO (itemsD r.1) >>= fun ds => .ok (ds, r.2)
def fIt (f : Env → R PyData) : Env → R (List PyData) := fun ρ => f ρ >>= fun r => ofO (itemsD r)
def fItF (f : Env → R PyData) : Env → R (List PyData) := fun ρ => f ρ >>= fun r => ofO (itemsD r) >>= fun ds => if flatL ds then .ok ds else .no
theorem any_core {K : PySem.W.Frag} {H : Hp} {v : V} {d : PyData} {m : List Addr} {o : Bool} {ds : List PyData} (a : Ab K H o v d m) (e : itemsD d = some ds) {R : It → Hp → Prop} (h : ∀ J, Walks K J ds m (Pr m H) → R J H) :
    (∃ a xs, v = .ref a ∧ SqL K H a xs ∧ R (Itl K a) H) ∨ (∃ a xs, v = .ref a ∧ SqT K H a xs ∧ R (Itt K a) H) ∨ ∃ y, v = .str y ∧ R (Its y) H := by
  cases d <;> simp only [itemsD, reduceCtorEq, Option.some.injEq] at e
  · obtain ⟨rfl, rfl⟩ := a.eq_str
    subst e
    exact .inr (.inr ⟨_, rfl, h _ walks_str⟩)
  · subst e
    obtain ⟨p, vs, n, rfl, hp, al, rfl⟩ := a.ownL
    refine .inl ⟨p, vs, rfl, .inl (.inl hp), h _ (walks_list (.inl (.inl hp)) al (fun x q => List.mem_cons_of_mem _ q) fun H1 g => ⟨g.sqL (List.mem_cons_self ..) (.inl (.inl hp)), al.pr g fun x q => List.mem_cons_of_mem _ q⟩)⟩
  · subst e
    obtain ⟨p, vs, rfl, hp, al⟩ := a.tuple
    exact .inr (.inl ⟨p, vs, rfl, hp, h _ (walks_tup hp al (fun x q => q) fun H1 g => ⟨g.sqT hp, al.pr g fun x q => q⟩)⟩)
  · have := itemsD_dict e
    subst this
    obtain ⟨p, xs, rfl, hp, al, rfl⟩ := a.frzL
    exact .inl ⟨p, xs, rfl, hp.l, h _ (walks_list hp.l al (fun x q => q) fun H1 g => ⟨(g.sqF hp).l, al.pr g fun x q => q⟩)⟩
theorem i_seq {f : FE} (he : DE X W ks .V e f) : PI X tg e (tI X.K W ks (eIt f)) := PI.imp (pi_any he) fun σ H R ⟨ρ, fp, eo, h⟩ =>
  ⟨ρ, fp, eo, (Holds.bind h).mono (fun r hr v H' fp' m s ab rc => by
    obtain ⟨ds, e, hr⟩ := Holds.ofO (Holds.bind hr)
    exact any_core ab e fun J w => hr J H' fp' m s rc (fun a q => ab.tr q) w) fun c hc => hc⟩
theorem i_seqP {f : Env → R PyData} (he : DP X W ks .V e f) : PI X tg e (tIp X.K W ks (fIt f)) := PI.imp (pi_any he) fun σ H R ⟨ρ, fp, eo, h⟩ =>
  ⟨ρ, fp, eo, (Holds.bind h).mono (fun r hr v H' m s ab rc => by
    obtain ⟨ds, e, hr⟩ := Holds.ofO hr
    exact any_core ab e fun J w => hr J H' m s rc (fun a q => ab.tr q) (w.weak fun H2 s2 => Pr.of s2 m)) fun c hc => hc⟩
/-- .. whose items are flat -/
theorem any_coreF {K : PySem.W.Frag} {H : Hp} {v : V} {d : PyData} {m : List Addr} {o : Bool} {ds : List PyData} (a : Ab K H o v d m) (e : itemsD d = some ds) (hf : flatL ds = true) {R : It → Hp → Prop} (h : ∀ J, Walks K J ds [] (Same H) → R J H) :
    (∃ a xs, v = .ref a ∧ SqL K H a xs ∧ R (Itl K a) H) ∨ (∃ a xs, v = .ref a ∧ SqT K H a xs ∧ R (Itt K a) H) ∨ ∃ y, v = .str y ∧ R (Its y) H := by
  cases d <;> simp only [itemsD, reduceCtorEq, Option.some.injEq] at e
  · obtain ⟨rfl, rfl⟩ := a.eq_str
    subst e
    exact .inr (.inr ⟨_, rfl, h _ walks_str⟩)
  · subst e
    obtain ⟨p, vs, n, rfl, hp, al, rfl⟩ := a.ownL
    have en := al.flat hf
    subst en
    exact .inl ⟨p, vs, rfl, .inl (.inl hp), h _ (walks_list (.inl (.inl hp)) al (fun x q => q) fun H1 g => ⟨.inl (.inl (g _ _ hp)), al.same g⟩)⟩
  · subst e
    obtain ⟨p, vs, rfl, hp, al⟩ := a.tuple
    have en := al.flat hf
    subst en
    exact .inr (.inl ⟨p, vs, rfl, hp, h _ (walks_tup hp al (fun x q => q) fun H1 g => ⟨(Pr.of g []).sqT hp, al.same g⟩)⟩)
  · have := itemsD_dict e
    subst this
    obtain ⟨p, xs, rfl, hp, al, rfl⟩ := a.frzL
    exact .inl ⟨p, xs, rfl, hp.l, h _ (walks_list hp.l al (fun x q => q) fun H1 g => ⟨((Pr.of g []).sqF hp).l, al.same g⟩)⟩
theorem i_seqF {f : Env → R PyData} (he : DP X W ks .B e f) : PI X tg e (tIp X.K W ks (fItF f)) := PI.imp (pi_any he) fun σ H R ⟨ρ, fp, eo, h⟩ =>
  ⟨ρ, fp, eo, (Holds.bind h).mono (fun r hr v H' m s ab rc => by
    obtain ⟨ds, e, hr⟩ := Holds.ofO (Holds.bind hr)
    by_cases hf : flatL ds = true
    · rw [if_pos hf] at hr
      exact any_coreF ab e hf fun J w => hr J H' [] s (RCp.nil _) (fun a q => nomatch q) w
    · rw [if_neg hf] at hr
      exact hr.elim) fun c hc => hc⟩
/-! ### range -/
def smallI (i : Int) : Bool := decide (-(2 ^ 62) ≤ i) && decide (i < 2 ^ 62)
theorem smallI_iff {i : Int} : smallI i = true ↔ -(2 ^ 62) ≤ i ∧ i < 2 ^ 62 := by simp [smallI]
def rangeD : List PyData → Option (List PyData)
  | [.int j] => if smallI j then some (rangeL 0 j) else none
  | [.int i, .int j] => if smallI i && smallI j then some (rangeL i j) else none
  | _ => none
def eRg (f : Env → R (List PyData × Env)) : Env → R (List PyData × Env) := fun ρ => f ρ >>= fun r => ofO (rangeD r.1) >>= fun ds => .ok (ds, r.2)
def fRg (f : Env → R (List PyData)) : Env → R (List PyData) := fun ρ => f ρ >>= fun r => ofO (rangeD r)
theorem AbL.one {K : PySem.W.Frag} {H : Hp} {o : Bool} {vs : List V} {d : PyData} {m : List Addr} (h : AbL K H o vs [d] m) : ∃ v, vs = [v] ∧ Ab K H o v d m := by
  cases h with
  | @cons v vs _ _ m1 n1 a1 a2 => cases a2; exact ⟨v, rfl, by rw [List.append_nil]; exact a1⟩
theorem AbL.two {K : PySem.W.Frag} {H : Hp} {o : Bool} {vs : List V} {d e : PyData} {m : List Addr} (h : AbL K H o vs [d, e] m) : ∃ v w m1 m2, vs = [v, w] ∧ Ab K H o v d m1 ∧ Ab K H o w e m2 ∧ m = m1 ++ m2 := by
  cases h with
  | @cons v vs _ _ m1 n1 a1 a2 =>
    obtain ⟨w, rfl, a3⟩ := a2.one
    exact ⟨v, w, m1, n1, rfl, a1, a3, rfl⟩
theorem rangeD1 {K : PySem.W.Frag} {H : Hp} {o : Bool} {vs : List V} {d ds : List PyData} {m : List Addr} (hl : d.length = 1) (al : AbL K H o vs d m) (e : rangeD d = some ds) : ∃ j : Int, vs = [.int j] ∧ -(2 ^ 62) ≤ j ∧ j < 2 ^ 62 ∧ ds = rangeL 0 j := by
  match d, hl with
  | [x], _ =>
    obtain ⟨v, rfl, a⟩ := al.one
    cases x <;> simp only [rangeD, reduceCtorEq] at e
    split at e
    · rename_i j hj
      cases e
      obtain ⟨rfl, _⟩ := a.eq_int
      exact ⟨_, rfl, (smallI_iff.mp hj).1, (smallI_iff.mp hj).2, rfl⟩
    · cases e
theorem rangeD2 {K : PySem.W.Frag} {H : Hp} {o : Bool} {vs : List V} {d ds : List PyData} {m : List Addr} (hl : d.length = 2) (al : AbL K H o vs d m) (e : rangeD d = some ds) : ∃ i j : Int, vs = [.int i, .int j] ∧ (-(2 ^ 62) ≤ i ∧ i < 2 ^ 62 ∧ -(2 ^ 62) ≤ j ∧ j < 2 ^ 62) ∧ ds = rangeL i j := by
  match d, hl with
  | [x, y], _ =>
    obtain ⟨v, w, _, _, rfl, a, b, _⟩ := al.two
    cases x <;> try simp only [rangeD, reduceCtorEq] at e
    cases y <;> try simp only [rangeD, reduceCtorEq] at e
    split at e
    · rename_i hj
      cases e
      obtain ⟨rfl, _⟩ := a.eq_int
      obtain ⟨rfl, _⟩ := b.eq_int
      rw [Bool.and_eq_true] at hj
      exact ⟨_, _, rfl, ⟨(smallI_iff.mp hj.1).1, (smallI_iff.mp hj.1).2, (smallI_iff.mp hj.2).1, (smallI_iff.mp hj.2).2⟩, rfl⟩
    · cases e
theorem walks_rangeL {K : PySem.W.Frag} {i j : Int} {m : List Addr} {G : Hp → Prop} : Walks K (Itr i (j - i).toNat) (rangeL i j) m G := walks_range
theorem i_range1 {f : Env → R (List PyData × Env)} {p : Pos} (hm : X.mg "range" = none) (ha : DEA X W ks κ [a] f) (hl : HLe 1 f := by repeat (first | exact HLe.nil | exact HLe.lift (by repeat (first | exact HL.nil | refine HL.cons ?_)) | refine HLe.cons ?_)) (hg : Gl X "range" := by rfl) (hs : starEach [a] X.env = [(false, eval a X.env)] := by rfl) : PI X tg (.Call (.Name "range" p) [a] [] pos) (tI X.K W ks (eRg f)) :=
  PI.imp (pi_range1 hg hm ha hs) fun σ H R ⟨ρ, fp, eo, h⟩ => by
    refine ⟨ρ, fp, eo, ?_⟩
    have h1 := Holds.bind h
    cases ef : f ρ with
    | ex c => rw [ef] at h1; exact h1
    | no => rw [ef] at h1; exact h1
    | ok r =>
      rw [ef] at h1
      intro v H' fp' m s al rc
      obtain ⟨ds, e, hr⟩ := Holds.ofO (Holds.bind h1)
      obtain ⟨j, rfl, j1, j2, rfl⟩ := rangeD1 (hl ρ r ef) al e
      refine ⟨j, rfl, j1, j2, ?_⟩
      have := hr (Itr 0 (j - 0).toNat) H' fp' [] s (RCe.nil _) (fun a q => nomatch q) walks_rangeL
      rw [Int.sub_zero] at this
      exact this
theorem i_range2 {f : Env → R (List PyData × Env)} {p : Pos} (hm : X.mg "range" = none) (ha : DEA X W ks κ [a, b] f) (hl : HLe 2 f := by repeat (first | exact HLe.nil | exact HLe.lift (by repeat (first | exact HL.nil | refine HL.cons ?_)) | refine HLe.cons ?_)) (hg : Gl X "range" := by rfl) (hs : starEach [a, b] X.env = [(false, eval a X.env), (false, eval b X.env)] := by rfl) (hs2 : starEach [b] X.env = [(false, eval b X.env)] := by rfl) : PI X tg (.Call (.Name "range" p) [a, b] [] pos) (tI X.K W ks (eRg f)) :=
  PI.imp (pi_range2 hg hm ha hs hs2) fun σ H R ⟨ρ, fp, eo, h⟩ => by
    refine ⟨ρ, fp, eo, ?_⟩
    have h1 := Holds.bind h
    cases ef : f ρ with
    | ex c => rw [ef] at h1; exact h1
    | no => rw [ef] at h1; exact h1
    | ok r =>
      rw [ef] at h1
      intro v H' fp' m s al rc
      obtain ⟨ds, e, hr⟩ := Holds.ofO (Holds.bind h1)
      obtain ⟨i, j, rfl, hj, rfl⟩ := rangeD2 (hl ρ r ef) al e
      exact ⟨i, j, rfl, hj, hr _ H' fp' [] s (RCe.nil _) (fun a q => nomatch q) walks_rangeL⟩
theorem i_range1P {f : Env → R (List PyData)} {p : Pos} (hm : X.mg "range" = none) (ha : DPA X W ks κ [a] f) (hl : HL 1 f := by repeat (first | exact HL.nil | refine HL.cons ?_)) (hg : Gl X "range" := by rfl) (hs : starEach [a] X.env = [(false, eval a X.env)] := by rfl) : PI X tg (.Call (.Name "range" p) [a] [] pos) (tIp X.K W ks (fRg f)) :=
  PI.imp (pi_range1 hg hm ha hs) fun σ H R ⟨ρ, fp, eo, h⟩ => by
    refine ⟨ρ, fp, eo, ?_⟩
    have h1 := Holds.bind h
    cases ef : f ρ with
    | ex c => rw [ef] at h1; exact h1
    | no => rw [ef] at h1; exact h1
    | ok r =>
      rw [ef] at h1
      intro v H' m s al rc
      obtain ⟨ds, e, hr⟩ := Holds.ofO h1
      obtain ⟨j, rfl, j1, j2, rfl⟩ := rangeD1 (hl ρ r ef) al e
      refine ⟨j, rfl, j1, j2, ?_⟩
      have := hr (Itr 0 (j - 0).toNat) H' [] s (RCp.nil _) (fun a q => nomatch q) walks_rangeL
      rw [Int.sub_zero] at this
      exact this
theorem i_range2P {f : Env → R (List PyData)} {p : Pos} (hm : X.mg "range" = none) (ha : DPA X W ks κ [a, b] f) (hl : HL 2 f := by repeat (first | exact HL.nil | refine HL.cons ?_)) (hg : Gl X "range" := by rfl) (hs : starEach [a, b] X.env = [(false, eval a X.env), (false, eval b X.env)] := by rfl) (hs2 : starEach [b] X.env = [(false, eval b X.env)] := by rfl) : PI X tg (.Call (.Name "range" p) [a, b] [] pos) (tIp X.K W ks (fRg f)) :=
  PI.imp (pi_range2 hg hm ha hs hs2) fun σ H R ⟨ρ, fp, eo, h⟩ => by
    refine ⟨ρ, fp, eo, ?_⟩
    have h1 := Holds.bind h
    cases ef : f ρ with
    | ex c => rw [ef] at h1; exact h1
    | no => rw [ef] at h1; exact h1
    | ok r =>
      rw [ef] at h1
      intro v H' m s al rc
      obtain ⟨ds, e, hr⟩ := Holds.ofO h1
      obtain ⟨i, j, rfl, hj, rfl⟩ := rangeD2 (hl ρ r ef) al e
      exact ⟨i, j, rfl, hj, hr _ H' [] s (RCp.nil _) (fun a q => nomatch q) walks_rangeL⟩

/-! ### for -/
def sForL (t : Tg) (f : FS) : List PyData → FS
  | [] => fun ρ => .ok (.nx, ρ)
  | d :: ds => fun ρ => put t d ρ >>= fun ρ1 => f ρ1 >>= fun q => match q.1 with
    | .nx => sForL t f ds q.2
    | .ct => sForL t f ds q.2
    | .bk => .ok (.nx, q.2)
    | .rt d => .ok (.rt d, q.2)
def sFor (t : Tg) (fi : Env → R (List PyData × Env)) (f : FS) : FS := fun ρ => fi ρ >>= fun r => sForL t f r.1 r.2
theorem Holds.put {t : Tg} {d : PyData} {ρ : Env} {β : Type} {g : Env → R β} {Pv : β → Prop} {U U' : Ex → Prop} (h : Holds (put t d ρ >>= g) Pv U) : Holds (put t d ρ) (fun ρ1 => Holds (g ρ1) Pv U) U' := by
  have h1 := Holds.bind h
  cases e : PV.put t d ρ with
  | ok ρ1 => rw [e] at h1; exact h1
  | ex c => exact absurd e (put_ex t d ρ c)
  | no => rw [e] at h1; exact h1.elim
theorem forL_core {K : PySem.W.Frag} {t : Tg} {f : FS} {D : Ends} {σ : L2.St} {H H1 : Hp} {ρ ρ1 : Env} {fp fp1 : Nat → List Addr} {m : List Addr} {J : It} {xs : List PyData} (hk : ∀ i ∈ tgS t, ks[i]? = some false ∧ i ∉ P) (eo : EOk K H ks σ ρ fp)
    (s1 : Step K H H1 ks σ ρ ρ1 fp fp1) (rc : RCe .V H ks ρ fp ρ1 fp1 m) (tr : ∀ a ∈ m, H1 a ≠ none) (wk : Walks K J xs m (Pr m H1)) (h : Holds (sForL t f xs ρ1) (SE K ks P κ D σ H ρ fp) (SX K W ks P σ H ρ fp)) :
    ∃ W0 : Nat → Nat → L2.St → Hp → Prop, (∃ k, W0 0 k σ H1) ∧ ∀ i k σ2 H2, W0 i k σ2 H2 →
      (J.stop i H2 ∧ D.nx σ2 H2) ∨ (J.go i H2 ∧ ∃ N : L2.St → Hp → Prop, (∀ σ' H', N σ' H' → ∃ k', k' < k ∧ W0 (i + 1) k' σ' H') ∧ ∀ x H', J.yld i H2 x H' → gT K t x σ2 H' fun σ3 H3 => tS K W ks P κ f { D with nx := N, ct := N, bk := D.nx } σ3 H3) := by
  refine ⟨fun i k σ2 H2 => k = xs.length - i ∧ i ≤ xs.length ∧ ∃ ρ2 fp2, Step K H H2 ks σ2 ρ ρ2 fp fp2 ∧ Pr m H1 H2 ∧ (∀ a ∈ m, ¬ Ow ks ρ2 fp2 a) ∧ (∀ a ∈ m, H2 a ≠ none) ∧ Keep P σ σ2 ∧ Holds (sForL t f (xs.drop i) ρ2) (SE K ks P κ D σ H ρ fp) (SX K W ks P σ H ρ fp),
    ⟨_, rfl, Nat.zero_le _, ρ1, fp1, s1, fun a o e _ => e, fun a q => (rc a q).1, tr, Keep.refl _ _, h⟩, ?_⟩
  rintro i k σ2 H2 ⟨rfl, hi, ρ2, fp2, s2, pr, nO, tr2, kp, h2⟩
  by_cases hlt : i < xs.length
  · rw [List.drop_eq_getElem_cons hlt] at h2
    refine .inr ⟨wk.go i H2 pr hlt, fun σ' H' => i + 1 ≤ xs.length ∧ ∃ ρ2 fp2, Step K H H' ks σ' ρ ρ2 fp fp2 ∧ Pr m H1 H' ∧ (∀ a ∈ m, ¬ Ow ks ρ2 fp2 a) ∧ (∀ a ∈ m, H' a ≠ none) ∧ Keep P σ σ' ∧ Holds (sForL t f (xs.drop (i + 1)) ρ2) (SE K ks P κ D σ H ρ fp) (SX K W ks P σ H ρ fp),
      fun σ' H' q => ⟨xs.length - (i + 1), by omega, rfl, q⟩, fun x H' y => ?_⟩
    obtain ⟨sm, d, n, ed, ab, hn⟩ := wk.yld i H2 x H' pr hlt y
    have ed' : xs[i] = d := by
      rw [List.getElem?_eq_getElem hlt] at ed
      exact Option.some.inj ed
    rw [ed'] at h2
    have s2' := s2.trans (Step.same s2.env sm)
    refine T_run t (fun j hj => (hk j hj).1) s2' ab (fun a q => ⟨nO a (hn a q), (rc a (hn a q)).2⟩) ((Holds.put (U' := fun _ => False) h2).mono (fun ρ3 h3 σ3 fp3 s3 off => ?_) fun c hc => hc)
    have kp3 : Keep P σ σ3 := kp.trans (off.keep fun j hj => (hk j hj).2)
    have nO3 : ∀ a ∈ m, ¬ Ow ks ρ3 fp3 a := fun a q z => nO a q (off.ow (fun j hj => (hk j hj).1) z)
    have tr3 : ∀ a ∈ m, H' a ≠ none := fun a q z => tr2 a q (Same.back sm z)
    have pr3 : Pr m H1 H' := fun a o e q => sm a o (pr a o e q)
    have nxt : ∀ {ρ4 : Env}, Holds (sForL t f (xs.drop (i + 1)) ρ4) (SE K ks P κ D σ H ρ fp) (SX K W ks P σ H ρ fp) → ∀ σ' H'' fp', Step K H' H'' ks σ' ρ3 ρ4 fp3 fp' → Keep P σ3 σ' →
        i + 1 ≤ xs.length ∧ ∃ ρ2 fp2, Step K H H'' ks σ' ρ ρ2 fp fp2 ∧ Pr m H1 H'' ∧ (∀ a ∈ m, ¬ Ow ks ρ2 fp2 a) ∧ (∀ a ∈ m, H'' a ≠ none) ∧ Keep P σ σ' ∧ Holds (sForL t f (xs.drop (i + 1)) ρ2) (SE K ks P κ D σ H ρ fp) (SX K W ks P σ H ρ fp) :=
      fun {ρ4} hq σ' H'' fp' s4 k4 => ⟨hlt, ρ4, fp', s3.trans s4, fun a o e q => s4.pr nO3 a o (pr3 a o e q) q, fun a q z => (s4.subo a z).elim (nO3 a q) (tr3 a q), fun a q => s4.fr.2 a (tr3 a q), kp3.trans k4, hq⟩
    refine ⟨ρ3, fp3, s3.env, (Holds.bind h3).mono (fun q hq => ?_) fun c hc => hc.pre s3 kp3⟩
    obtain ⟨fl, ρ4⟩ := q
    cases fl with
    | nx => exact fun σ' H'' fp' s4 k4 => nxt hq σ' H'' fp' s4 k4
    | ct => exact fun σ' H'' fp' s4 k4 => nxt hq σ' H'' fp' s4 k4
    | bk => exact fun σ' H'' fp' s4 k4 => hq σ' H'' fp' (s3.trans s4) (kp3.trans k4)
    | rt d =>
      have hq' : SE K ks P κ D σ H ρ fp (.rt d, ρ4) := hq
      exact hq'.pre s3 kp3
  · have e : i = xs.length := by omega
    subst e
    rw [List.drop_length] at h2
    exact .inl ⟨wk.stop _ H2 pr rfl, h2 σ2 H2 fp2 s2 kp⟩
theorem s_for {t : Tg} {fi : Env → R (List PyData × Env)} {f : FS} {body : List Stmt} (hp : PassesOwn (model X.prog X.w) X.A X.env X.xe) (hc : X.calm = true) (hi : PI X tg e (tI X.K W ks fi)) (hg : PG X tg (gT X.K t)) (hb : DSs X W ks P κ body f) (hk : ∀ i ∈ tgS t, ks[i]? = some false ∧ i ∉ P := by decide)
    (hs : ∀ x, foldedSetIterable e X.env x = pure x := by intro _; rfl) : DS X W ks P κ (.For tg e body [] pos) (sFor t fi f) := PS.imp (ps_for hp hc hi hg hb hs) fun D σ H ⟨ρ, fp, eo, h⟩ =>
  ⟨ρ, fp, eo, (Holds.bind h).mono (fun r hr J H' fp' m s rc tr wk => forL_core hk eo s rc tr wk hr) fun c hc => SX.now hc⟩
end
end PV

set_option Elab.async false
set_option linter.all false
set_option maxRecDepth 100000
set_option maxHeartbeats 1000000
set_option autoImplicit false
/-! PV, part i: comprehensions. -/
namespace PV
open PySem PySem.Spec PyProof.Rows L2
def wipeE (ρ : Env) : List Nat → Env
  | [] => ρ
  | v :: vs => (wipeE ρ vs).set v none
theorem wipeE_len (ρ : Env) : ∀ vs : List Nat, (wipeE ρ vs).length = ρ.length
  | [] => rfl
  | v :: vs => by unfold wipeE; rw [List.length_set, wipeE_len ρ vs]
theorem wipeE_some {ρ : Env} {i : Nat} {x : PyData} : ∀ {vs : List Nat}, (wipeE ρ vs)[i]? = some (some x) → ρ[i]? = some (some x) ∧ i ∉ vs
  | [], h => ⟨h, fun z => nomatch z⟩
  | v :: vs, h => by
    unfold wipeE at h
    by_cases e : i = v
    · subst e
      by_cases hl : i < (wipeE ρ vs).length
      · rw [List.getElem?_set_self hl] at h; cases h
      · rw [List.getElem?_eq_none (by simp; omega)] at h; cases h
    · rw [List.getElem?_set_ne (fun z => e z.symm)] at h
      obtain ⟨h1, h2⟩ := wipeE_some h
      exact ⟨h1, fun z => (List.mem_cons.mp z).elim e h2⟩
theorem wipeE_out {ρ : Env} {i : Nat} : ∀ {vs : List Nat}, i ∉ vs → (wipeE ρ vs)[i]? = ρ[i]?
  | [], _ => rfl
  | v :: vs, h => by
    unfold wipeE
    rw [List.getElem?_set_ne (fun z => h (by rw [z]; exact List.mem_cons_self ..)), wipeE_out fun z => h (List.mem_cons_of_mem _ z)]
theorem set_ext {α : Type} {l r : List α} {i : Nat} {x : α} (hl : l.length = r.length) (h : ∀ j, j ≠ i → l[j]? = r[j]?) : l.set i x = r.set i x := by
  apply List.ext_getElem?
  intro j
  by_cases e : j = i
  · subst e
    by_cases hj : j < l.length
    · rw [List.getElem?_set_self hj, List.getElem?_set_self (by omega)]
    · rw [List.getElem?_eq_none (by simp; omega), List.getElem?_eq_none (by simp; omega)]
  · rw [List.getElem?_set_ne (fun z => e z.symm), List.getElem?_set_ne (fun z => e z.symm)]; exact h j e
theorem wipe_none {σ : L2.St} {i : Nat} : ∀ {vs : List Nat}, i ∈ vs → (wipe σ vs)[i]? = if i < σ.length then some none else none
  | v :: vs, h => by
    unfold wipe
    by_cases e : i = v
    · subst e
      by_cases hl : i < σ.length
      · rw [List.getElem?_set_self (by rw [wipe_length]; exact hl), if_pos hl]
      · rw [List.getElem?_eq_none (by rw [List.length_set, wipe_length]; omega), if_neg hl]
    · rw [List.getElem?_set_ne (fun z => e z.symm)]
      exact wipe_none ((List.mem_cons.mp h).resolve_left e)
theorem wipe_out' {σ : L2.St} {i : Nat} : ∀ {vs : List Nat}, i ∉ vs → (wipe σ vs)[i]? = σ[i]?
  | [], _ => rfl
  | v :: vs, h => by
    unfold wipe
    rw [List.getElem?_set_ne (fun z => h (by rw [z]; exact List.mem_cons_self ..)), wipe_out' fun z => h (List.mem_cons_of_mem _ z)]
theorem wipe_eq {σ1 σ2 : L2.St} {vs : List Nat} (hl : σ2.length = σ1.length) (h : ∀ j, j ∉ vs → σ2[j]? = (wipe σ1 vs)[j]?) : wipe σ2 vs = wipe σ1 vs := by
  apply List.ext_getElem?
  intro j
  by_cases e : j ∈ vs
  · rw [wipe_none e, wipe_none e, hl]
  · rw [wipe_out' e, h j e]
section
variable {K : PySem.W.Frag} {ks : List Bool} {is : List Nat} {σ : L2.St} {ρ ρ' : Env} {fp fp' : Nat → List Addr} {H H' : Hp} {κ : Kd} {m : List Addr}
theorem EOk.wipe (eo : EOk K H ks σ ρ fp) : EOk K H ks (L2.wipe σ is) (wipeE ρ is) fp where
  len := by rw [wipeE_len, wipe_length]; exact eo.len
  ab := fun i d h => by
    obtain ⟨h, n⟩ := wipeE_some h
    rw [wipe_out' n]
    exact eo.ab i d h
  nd := fun i d o h => eo.nd i d o (wipeE_some h).1
  dj := fun i j d e o n h1 h2 => eo.dj i j d e o n (wipeE_some h1).1 (wipeE_some h2).1
theorem Al.wipe {a : Addr} (h : Al (wipeE ρ is) fp a) : Al ρ fp a := let ⟨i, d, e, q⟩ := h; ⟨i, d, (wipeE_some e).1, q⟩
theorem Ow.wipe {a : Addr} (h : Ow ks (wipeE ρ is) fp a) : Ow ks ρ fp a := let ⟨i, d, o, e, q⟩ := h; ⟨i, d, o, (wipeE_some e).1, q⟩
theorem Ow.unwipe (hk : ∀ i ∈ is, ks[i]? = some false) {a : Addr} (h : Ow ks ρ fp a) : Ow ks (wipeE ρ is) fp a := by
  obtain ⟨i, d, o, e, q⟩ := h
  have n : i ∉ is := fun z => by unfold own at o; rw [hk i z] at o; cases o
  exact ⟨i, d, o, by rw [wipeE_out n]; exact e, q⟩
end
def noX {α : Type} : R α → R α
  | .ex _ => .no
  | r => r
theorem Holds.noX {α : Type} {r : R α} {P : α → Prop} {U U' : Ex → Prop} (h : Holds (PV.noX r) P U) : Holds r P U' := by
  cases r with
  | ok a => exact h
  | ex c => exact False.elim h
  | no => exact False.elim h
theorem Holds.noXb {α β : Type} {r : R α} {g : α → R β} {P : β → Prop} {U U' : Ex → Prop} (h : Holds (PV.noX r >>= g) P U) : Holds r (fun a => Holds (g a) P U) U' := Holds.noX (Holds.bind h)
def W0 : WX := fun _ _ _ _ => False
/-- of every block of this scope -/
abbrev Blk (X : Cx) (scope : Scope) (p : Cx → Prop) : Prop := ∀ (s : Shared) (H : Hp) (C : Addr) (cl : List (Str × Addr)) (fp : List Addr), p (X.blk s H scope (compEnvC scope cl C X.env) fp)
def fLcL (t : Tg) (own : List Nat) (ft : Env → R Bool) (fe : Env → R PyData) (ρ : Env) : List PyData → R (List PyData)
  | [] => .ok []
  | d :: ds => put t d (wipeE ρ own) >>= fun ρ1 => noX (ft ρ1) >>= fun b => if b then noX (fe ρ1) >>= fun y => fLcL t own ft fe ρ ds >>= fun ys => .ok (y :: ys) else fLcL t own ft fe ρ ds
def lstD (ys : List PyData) : R PyData := if ys.length ≤ sizeLine then .ok (.list ys) else .no
def fLc (t : Tg) (own : List Nat) (fi : Env → R (List PyData)) (ft : Env → R Bool) (fe : Env → R PyData) : Env → R PyData := fun ρ => fi ρ >>= fun xs => fLcL t own ft fe ρ xs >>= lstD
def gYes : Env → R Bool := fun _ => .ok true
theorem Holds.put' {t : Tg} {d : PyData} {ρ : Env} {β : Type} {g : Env → R β} {Pv : β → Prop} {U U' : Ex → Prop} (h : Holds (PV.put t d ρ >>= g) Pv U) : Holds (PV.put t d ρ) (fun ρ1 => Holds (g ρ1) Pv U) U' := Holds.put h
theorem assocR {α β γ : Type} (x : R α) (f : α → R β) (g : β → R γ) : (x >>= f) >>= g = x >>= fun a => f a >>= g := by cases x <;> rfl
section
variable {X : Cx} {W : WX} {ks : List Bool} {P : List Nat} {κ : Kd} {a b c e tg elt iter : Expr} {pos : Pos} {scope : Scope} {own : List (Str × Nat)} {ifs : List Expr}
theorem lcP_core {K : PySem.W.Frag} {t : Tg} {is : List Nat} {ft : Env → R Bool} {fe : Env → R PyData} {σ : L2.St} {H H1 : Hp} {ρ : Env} {fp : Nat → List Addr} {mi : List Addr} {J : It} {xs : List PyData} {Q : VK} {U : Ex → Prop} (hk : ∀ i ∈ is, ks[i]? = some false) (ht : ∀ i ∈ tgS t, i ∈ is) (hκ : κ ≠ .B) (eo : EOk K H ks σ ρ fp)
    (s1 : Same H H1) (rc : RCp .V H ks ρ fp mi) (tr : ∀ a ∈ mi, H1 a ≠ none) (wk : Walks K J xs mi (Same H1)) (h : Holds (fLcL t is ft fe ρ xs >>= lstD) (fun d => ∀ v H' m, Same H H' → Ab K H' κ.ow v d m → RCp κ H ks ρ fp m → Q v H') U) :
    ∀ D, H1 D = none → ∃ W1 : Nat → Nat → Hp → Prop, (∃ m, W1 0 m (upd H1 D (.lst []))) ∧ ∀ i m H2, W1 i m H2 →
      (J.stop i H2 ∧ Q (.ref D) H2) ∨ (J.go i H2 ∧ ∃ Nx : Hp → Prop, (∀ H', Nx H' → ∃ m', m' < m ∧ W1 (i + 1) m' H') ∧ ∀ x H', J.yld i H2 x H' → gT K t x (wipe σ is) H' fun σ2 H3 => wipe σ2 is = wipe σ is ∧ tPT K W0 ks ft σ2 H3 fun b H3 =>
        if b = true then tP K W0 ks κ fe σ2 H3 fun y H4 => ∃ acc, H4 D = some (.lst acc) ∧ acc.length < sizeLine ∧ Nx (upd H4 D (.lst (acc ++ [y]))) else Nx H3) := by
  intro D hD
  have hD0 : H D = none := Same.back s1 hD
  refine ⟨fun i k H2 => k = xs.length - i ∧ i ≤ xs.length ∧ ∃ acc ys m, H2 D = some (.lst acc) ∧ Same H1 H2 ∧ AbL K H2 κ.ow acc ys m ∧ RCp κ H ks ρ fp m ∧ D ∉ m ∧ Holds (fLcL t is ft fe ρ (xs.drop i) >>= fun zs => lstD (ys ++ zs)) (fun d => ∀ v H' m, Same H H' → Ab K H' κ.ow v d m → RCp κ H ks ρ fp m → Q v H') U,
    ⟨_, rfl, Nat.zero_le _, [], [], [], upd_same, same_new hD, .nil, RCp.nil _, fun z => (nomatch z), by simpa using h⟩, ?_⟩
  rintro i k H2 ⟨rfl, hi, acc, ys, m, hacc, s2, al, rcm, hDm, h2⟩
  by_cases hlt : i < xs.length
  · rw [List.drop_eq_getElem_cons hlt] at h2
    refine .inr ⟨wk.go i H2 s2 hlt, fun H' => i + 1 ≤ xs.length ∧ ∃ acc ys m, H' D = some (.lst acc) ∧ Same H1 H' ∧ AbL K H' κ.ow acc ys m ∧ RCp κ H ks ρ fp m ∧ D ∉ m ∧ Holds (fLcL t is ft fe ρ (xs.drop (i + 1)) >>= fun zs => lstD (ys ++ zs)) (fun d => ∀ v H' m, Same H H' → Ab K H' κ.ow v d m → RCp κ H ks ρ fp m → Q v H') U,
      fun H' q => ⟨xs.length - (i + 1), by omega, rfl, q⟩, fun x H' y => ?_⟩
    obtain ⟨sm, d, n, ed, ab, hn⟩ := wk.yld i H2 x H' s2 hlt y
    have ed' : xs[i] = d := by
      rw [List.getElem?_eq_getElem hlt] at ed
      exact Option.some.inj ed
    rw [ed'] at h2
    simp only [fLcL, assocR] at h2
    have sH : Same H H' := s1.trans (s2.trans sm)
    have st : Step K H H' ks (wipe σ is) ρ (wipeE ρ is) fp fp := ⟨(eo.same sH).wipe, Same.fr sH _, fun a q => .inl q.wipe, fun a q => .inl q.wipe⟩
    refine T_run t (fun j hj => hk j (ht j hj)) st ab (fun a q => ⟨fun z => (rc a (hn a q)).1 z.wipe, (rc a (hn a q)).2⟩) ((Holds.put' h2).mono (fun ρ3 h3 σ3 fp3 s3 off => ?_) fun c hc => hc)
    refine ⟨wipe_eq (by rw [off.len, wipe_length]) fun j hj => off.st j fun z => hj (ht j z), ρ3, fp3, s3.env, (Holds.noXb h3).mono (fun b hb H3 s4 => ?_) fun c hc => hc⟩
    have nAl : ¬ Al ρ3 fp3 D := fun z => by
      rcases off.al D z with q | q
      · exact eo.tr q.wipe hD0
      · exact tr D (hn D q) hD
    have hD3 : H3 D = some (.lst acc) := s4 _ _ (sm _ _ hacc)
    have s14 : Same H1 H3 := s2.trans (sm.trans s4)
    cases b with
    | false =>
      have hb' : Holds (fLcL t is ft fe ρ (xs.drop (i + 1)) >>= fun zs => lstD (ys ++ zs)) (fun d => ∀ v H' m, Same H H' → Ab K H' κ.ow v d m → RCp κ H ks ρ fp m → Q v H') U := by simpa using hb
      show if false = true then _ else _
      rw [if_neg Bool.false_ne_true]
      exact ⟨hlt, acc, ys, m, hD3, s14, al.same (sm.trans s4), rcm, hDm, hb'⟩
    | true =>
      show if true = true then _ else _
      rw [if_pos rfl]
      have hb' : Holds (noX (fe ρ3) >>= fun y => fLcL t is ft fe ρ (xs.drop (i + 1)) >>= fun zs => lstD (ys ++ y :: zs)) (fun d => ∀ v H' m, Same H H' → Ab K H' κ.ow v d m → RCp κ H ks ρ fp m → Q v H') U := by simpa [assocR] using hb
      refine ⟨ρ3, fp3, s3.env.same s4, (Holds.noXb hb').mono (fun y hy v H4 l s5 a5 r5 => ?_) fun c hc => hc⟩
      have hD4 : H4 D = some (.lst acc) := s5 _ _ hD3
      have hDl : D ∉ l := fun z => by
        cases κ with
        | B => exact hκ rfl
        | V => exact (r5 D z).2.elim nAl fun q => by rw [hD3] at q; cases q
        | F => have q := r5.2 D z; rw [hD3] at q; cases q
      have r5' : RCp κ H ks ρ fp l := by
        cases κ with
        | B => trivial
        | V => exact fun a q => ⟨fun z => (r5 a q).1 (off.ow' (fun j hj => hk j (ht j hj)) (z.unwipe hk)), (r5 a q).2.elim (fun z => s3.sub a z) fun z => .inr (Same.back (sH.trans s4) z)⟩
        | F => exact ⟨r5.1, fun a q => Same.back (sH.trans s4) (r5.2 a q)⟩
      have rcm' : RCp κ H ks ρ fp (m ++ l) := by
        cases κ with
        | B => trivial
        | V => exact fun a q => (List.mem_append.mp q).elim (rcm a) (r5' a)
        | F => exact ⟨List.nodup_append.mpr ⟨rcm.1, r5'.1, fun a q b z e => by
            rw [e] at q
            have tb : H3 b ≠ none := ((al.same sm).same s4).tr q
            exact tb (r5.2 b z)⟩, fun a q => (List.mem_append.mp q).elim (rcm.2 a) (r5'.2 a)⟩
      have hlen : acc.length < sizeLine := by
        have hp : ∃ zs, fLcL t is ft fe ρ (xs.drop (i + 1)) = .ok zs ∧ ∃ d, lstD (ys ++ y :: zs) = .ok d := by
          cases q : fLcL t is ft fe ρ (xs.drop (i + 1)) with
          | ok zs =>
            refine ⟨zs, rfl, ?_⟩
            rw [q] at hy
            cases q2 : lstD (ys ++ y :: zs) with
            | ok d => exact ⟨d, rfl⟩
            | ex c => simp only [lstD] at q2; split at q2 <;> cases q2
            | no => simp only [ok_bind, q2] at hy; exact hy.elim
          | ex c =>
            exfalso
            have : ∀ (l : List PyData) (c : Ex), fLcL t is ft fe ρ l ≠ .ex c := by
              intro l
              induction l with
              | nil => intro c z; cases z
              | cons d ds ih =>
                intro c z
                simp only [fLcL] at z
                rcases bind_ex_iff.mp z with z | ⟨ρ1, _, z⟩
                · exact put_ex t _ _ c z
                rcases bind_ex_iff.mp z with z | ⟨b, _, z⟩
                · cases w : ft ρ1 <;> rw [w] at z <;> cases z
                cases b with
                | false => rw [if_neg Bool.false_ne_true] at z; exact ih c z
                | true =>
                  rw [if_pos rfl] at z
                  rcases bind_ex_iff.mp z with z | ⟨y, _, z⟩
                  · cases w : fe ρ1 <;> rw [w] at z <;> cases z
                  rcases bind_ex_iff.mp z with z | ⟨y, _, z⟩
                  · exact ih c z
                  · cases z
            exact this _ c q
          | no => rw [q] at hy; exact hy.elim
        obtain ⟨zs, _, d, e⟩ := hp
        unfold lstD at e
        split at e
        · rename_i hz
          rw [List.length_append, List.length_cons] at hz
          rw [al.len]; omega
        · cases e
      refine ⟨acc, hD4, hlen, hlt, acc ++ [v], ys ++ [y], m ++ l, upd_same, ?_, ?_, rcm', fun z => (List.mem_append.mp z).elim hDm hDl, ?_⟩
      · intro b o e
        have : b ≠ D := fun z => by rw [z, hD] at e; cases e
        rw [upd_ne this]
        exact s5 _ _ (s14 b o e)
      · have fr : Fr (fun x => x = D) H4 (upd H4 D (.lst (acc ++ [v]))) := ⟨fun x o e q => by
          by_cases z : x = D
          · subst z; rw [hD4] at e; cases e; exact absurd trivial (q rfl)
          · rw [upd_ne z]; exact e, fun x q => by
          by_cases z : x = D
          · subst z; rw [upd_same]; exact fun z => nomatch z
          · rw [upd_ne z]; exact q⟩
        have a6 : AbL K H4 κ.ow (acc ++ [v]) (ys ++ [y]) (m ++ (l ++ [])) := (((al.same sm).same s4).same s5).append (.cons a5 .nil)
        rw [List.append_nil] at a6
        exact a6.fr fr fun a q z => (List.mem_append.mp q).elim (fun q => hDm (z ▸ q)) fun q => hDl (z ▸ q)
      · simpa using hy
  · have e : i = xs.length := by omega
    subst e
    rw [List.drop_length] at h2
    refine .inl ⟨wk.stop _ H2 s2 rfl, ?_⟩
    have h2' : Holds (lstD ys) (fun d => ∀ v H' m, Same H H' → Ab K H' κ.ow v d m → RCp κ H ks ρ fp m → Q v H') U := by simpa [fLcL] using h2
    unfold lstD at h2'
    split at h2'
    · refine h2' (.ref D) H2 (D :: m) (s1.trans s2) (.lst hacc al) ?_
      cases κ with
      | B => trivial
      | V =>
        intro a q
        rcases List.mem_cons.mp q with e | q
        · rw [e]; exact ⟨fun z => eo.notAl hD0 z.al, .inr hD0⟩
        · exact rcm a q
      | F =>
        refine ⟨List.nodup_cons.mpr ⟨hDm, rcm.1⟩, fun a q => ?_⟩
        rcases List.mem_cons.mp q with e | q
        · rw [e]; exact hD0
        · exact rcm.2 a q
    · exact h2'.elim
theorem PTs.imp {X : Cx} {e : List Expr} {t t' : TT} (h : PTs X e t) (w : ∀ σ H Q, t' σ H Q → t σ H Q) : PTs X e t' := ⟨fun pins s σ H Q I q => h.run pins s σ H Q I (w σ H Q q)⟩
theorem ts_nil : PTs X [] (tPT X.K W ks gYes) := PTs.imp pts_nil fun σ H Q ⟨ρ, fp, eo, h⟩ => h H (Same.refl H)
theorem ts_one {f : Env → R Bool} (h : DPT X W ks c f) : PTs X [c] (tPT X.K W ks f) := pts_one h
theorem p_lc {t : Tg} {fi : Env → R (List PyData)} {ft : Env → R Bool} {fe : Env → R PyData} (hc : X.calm = true) (hN : X.N.Nodup) (hi : PI X tg iter (tIp X.K W ks fi)) (ok : BlkOk X.N X.env.scope scope own) (hk : ∀ i ∈ own.map (·.2), ks[i]? = some false) (ht : ∀ i ∈ tgS t, i ∈ own.map (·.2))
    (hg : Blk X scope fun B => PG B tg (gT X.K t)) (hf : Blk X scope fun B => PTs B ifs (tPT X.K W0 ks ft)) (he : Blk X scope fun B => DP B W0 ks κ elt fe) (hκ : κ ≠ .B := by decide) (hs : ∀ x, foldedSetIterable iter X.env x = pure x := by intro _; rfl) :
    DP X W ks κ (.ListComp elt [⟨tg, iter, ifs, 0⟩] scope pos) (fLc t (own.map (·.2)) fi ft fe) :=
  PE.imp (pe_lc hc hN hi ok hg hf he hs) fun σ H Q ⟨ρ, fp, eo, h⟩ => ⟨ρ, fp, eo, (Holds.bind h).mono (fun xs hx J H1 mi s1 rc tr wk => lcP_core hk ht hκ eo s1 rc tr wk hx) fun c hc => hc⟩
end
end PV

set_option Elab.async false
set_option linter.all false
set_option maxRecDepth 100000
set_option maxHeartbeats 1000000
set_option autoImplicit false
/-! PV, part j: comprehensions that change owning slots. -/
namespace PV
open PySem PySem.Spec PyProof.Rows L2
section
variable {K : PySem.W.Frag} {H H1 H2 H' H'' : Hp} {ks : List Bool} {is : List Nat} {σ σ' σ1 σ2 : L2.St} {ρ ρ' ρ'' ρ1 ρ2 : Env} {fp fp' fp'' fp1 fp2 : Nat → List Addr} {m n : List Addr} {κ : Kd}
theorem RCe.stepT (hk : κ ≠ .B) {σ2 : L2.St} (tr : ∀ a ∈ m, H' a ≠ none) (r : RCe κ H ks ρ fp ρ' fp' m) (s : Step K H' H'' ks σ2 ρ' ρ'' fp' fp'') : RCe κ H ks ρ fp ρ'' fp'' m := by
  cases κ with
  | B => exact absurd rfl hk
  | V => exact fun a q => ⟨fun z => (s.subo a z).elim (r a q).1 (fun y => tr a q y), (r a q).2⟩
  | F => exact ⟨r.1, fun a q => ⟨fun z => (s.sub a z).elim (r.2 a q).1 (fun y => tr a q y), (r.2 a q).2⟩⟩
theorem RCe.bothT (hk : κ ≠ .B) (s1 : Step K H H1 ks σ ρ ρ1 fp fp1) (tr : ∀ a ∈ m, H1 a ≠ none) (r : RCe κ H ks ρ fp ρ1 fp1 m) (s2 : Step K H1 H2 ks σ2 ρ1 ρ2 fp1 fp2) (q : RCe κ H1 ks ρ1 fp1 ρ2 fp2 n) : RCe κ H ks ρ fp ρ2 fp2 (m ++ n) := by
  have r' := RCe.stepT hk tr r s2
  have q' := RCe.pre s1 q
  cases κ with
  | B => exact absurd rfl hk
  | V => exact fun x z => (List.mem_append.mp z).elim (r' x) (q' x)
  | F =>
    refine ⟨List.nodup_append.mpr ⟨r'.1, q'.1, fun x hx y hy e => ?_⟩, fun x z => (List.mem_append.mp z).elim (r'.2 x) (q'.2 x)⟩
    rw [e] at hx
    rcases (q.2 y hy).2 with z | z
    · exact (r.2 y hx).1 z.al
    · exact tr y hx z
theorem RCe.wipe (r : RCe κ H ks ρ fp ρ' fp' m) : RCe κ H ks ρ fp (wipeE ρ' is) fp' m := by
  cases κ with
  | B => trivial
  | V => exact fun a q => ⟨fun z => (r a q).1 z.wipe, (r a q).2⟩
  | F => exact ⟨r.1, fun a q => ⟨fun z => (r.2 a q).1 z.wipe, (r.2 a q).2⟩⟩
theorem Step.wipe (s : Step K H H' ks σ ρ ρ' fp fp') : Step K H H' ks (L2.wipe σ is) ρ (wipeE ρ' is) fp fp' := ⟨s.env.wipe, s.fr, fun a q => s.sub a q.wipe, fun a q => s.subo a q.wipe⟩
theorem EOk.unwipe (eo : EOk K H ks (L2.wipe σ is) ρ fp) : EOk K H ks σ ρ fp :=
  ⟨by have := eo.len; rw [wipe_length] at this; exact this, fun i d h => let ⟨v, e, a⟩ := eo.ab i d h; ⟨v, (wipe_some e).1, a⟩, eo.nd, eo.dj⟩
theorem Step.unwipe (s : Step K H H' ks (L2.wipe σ is) ρ ρ' fp fp') : Step K H H' ks σ ρ ρ' fp fp' := ⟨s.env.unwipe, s.fr, s.sub, s.subo⟩
/-- something that no slot reaches is changed -/
theorem Step.side {D : Addr} {o : HO} (s : Step K H H' ks σ ρ ρ' fp fp') (h0 : H D = none) (nA : ¬ Al ρ' fp' D) {u : HO} (hu : H' D = some u) (mu : MutO u) : Step K H (L2.upd H' D o) ks σ ρ ρ' fp fp' := by
  have fr : Fr (fun x => x = D) H' (L2.upd H' D o) := ⟨fun x o e q => by
    by_cases z : x = D
    · subst z; rw [hu] at e; cases e; exact absurd mu (q rfl)
    · rw [upd_ne z]; exact e, fun x q => by
    by_cases z : x = D
    · subst z; rw [upd_same]; exact fun z => nomatch z
    · rw [upd_ne z]; exact q⟩
  refine ⟨⟨s.env.len, fun i d h => ?_, s.env.nd, s.env.dj⟩, ⟨fun x o e q => ?_, fun x q => fr.2 x (s.fr.2 x q)⟩, s.sub, s.subo⟩
  · obtain ⟨v, e, a⟩ := s.env.ab i d h
    exact ⟨v, e, a.fr fr fun x q z => nA ⟨i, d, h, by rw [← z]; exact q⟩⟩
  · have : x ≠ D := fun z => by rw [z, h0] at e; cases e
    rw [upd_ne this]
    exact s.fr.1 x o e q
end
def lstE (ys : List PyData) (ρ : Env) : R (PyData × Env) := if ys.length ≤ sizeLine then .ok (.list ys, ρ) else .no
def eLcL (t : Tg) (own : List Nat) (ft : Env → R (Bool × Env)) (fe : FE) : List PyData → Env → R (List PyData × Env)
  | [], ρ => .ok ([], ρ)
  | d :: ds, ρ => put t d ρ >>= fun ρ1 => noX (ft ρ1) >>= fun b => if b.1 then noX (fe b.2) >>= fun y => eLcL t own ft fe ds (wipeE y.2 own) >>= fun r => .ok (y.1 :: r.1, r.2) else eLcL t own ft fe ds (wipeE b.2 own)
def eLc (t : Tg) (own : List Nat) (fi : Env → R (List PyData × Env)) (ft : Env → R (Bool × Env)) (fe : FE) : FE := fun ρ => fi ρ >>= fun r => eLcL t own ft fe r.1 (wipeE r.2 own) >>= fun q => lstE q.1 q.2
def egYes : Env → R (Bool × Env) := fun ρ => .ok (true, ρ)
theorem eLcL_ex {t : Tg} {own : List Nat} {ft : Env → R (Bool × Env)} {fe : FE} : ∀ (l : List PyData) (ρ : Env) (c : Ex), eLcL t own ft fe l ρ ≠ .ex c
  | [], ρ, c, z => by cases z
  | d :: ds, ρ, c, z => by
    simp only [eLcL] at z
    rcases bind_ex_iff.mp z with z | ⟨ρ1, _, z⟩
    · exact put_ex t _ _ c z
    rcases bind_ex_iff.mp z with z | ⟨b, _, z⟩
    · cases w : ft ρ1 <;> rw [w] at z <;> cases z
    obtain ⟨b, ρ2⟩ := b
    cases b with
    | false => exact eLcL_ex ds _ c z
    | true =>
      have z' : (noX (fe ρ2) >>= fun y => eLcL t own ft fe ds (wipeE y.2 own) >>= fun r => .ok (y.1 :: r.1, r.2)) = .ex c := z
      rcases bind_ex_iff.mp z' with z | ⟨y, _, z⟩
      · cases w : fe ρ2 <;> rw [w] at z <;> cases z
      rcases bind_ex_iff.mp z with z | ⟨y, _, z⟩
      · exact eLcL_ex ds _ c z
      · cases z
section
variable {X : Cx} {W : WX} {ks : List Bool} {P : List Nat} {κ : Kd} {a b c e tg elt iter : Expr} {pos : Pos} {scope : Scope} {own : List (Str × Nat)} {ifs : List Expr}
theorem lcE_core {K : PySem.W.Frag} {t : Tg} {is : List Nat} {ft : Env → R (Bool × Env)} {fe : FE} {σ : L2.St} {H H1 : Hp} {ρ ρ1 : Env} {fp fp1 : Nat → List Addr} {mi : List Addr} {J : It} {xs : List PyData} {Q : VK} {U : Ex → Prop} (hk : ∀ i ∈ is, ks[i]? = some false) (ht : ∀ i ∈ tgS t, i ∈ is) (hκ : κ ≠ .B) (eo : EOk K H ks σ ρ fp)
    (s1 : Step K H H1 ks σ ρ ρ1 fp fp1) (rc : RCe .V H ks ρ fp ρ1 fp1 mi) (tr : ∀ a ∈ mi, H1 a ≠ none) (wk : Walks K J xs mi (Pr mi H1)) (h : Holds (eLcL t is ft fe xs (wipeE ρ1 is) >>= fun q => lstE q.1 q.2) (fun r => ∀ v H' fp' m, Step K H H' ks σ ρ r.2 fp fp' → Ab K H' κ.ow v r.1 m → RCe κ H ks ρ fp r.2 fp' m → Q v H') U) :
    ∀ D, H1 D = none → ∃ W1 : Nat → Nat → Hp → Prop, (∃ m, W1 0 m (upd H1 D (.lst []))) ∧ ∀ i m H2, W1 i m H2 →
      (J.stop i H2 ∧ Q (.ref D) H2) ∨ (J.go i H2 ∧ ∃ Nx : Hp → Prop, (∀ H', Nx H' → ∃ m', m' < m ∧ W1 (i + 1) m' H') ∧ ∀ x H', J.yld i H2 x H' → gT K t x (wipe σ is) H' fun σ2 H3 => wipe σ2 is = wipe σ is ∧ tET K W0 ks ft σ2 H3 fun b H3 =>
        if b = true then tE K W0 ks κ fe σ2 H3 fun y H4 => ∃ acc, H4 D = some (.lst acc) ∧ acc.length < sizeLine ∧ Nx (upd H4 D (.lst (acc ++ [y]))) else Nx H3) := by
  intro D hD
  have hD0 : H D = none := s1.fr.back hD
  have nA1 : ¬ Al ρ1 fp1 D := fun z => s1.env.tr z hD
  let St (xs' : List PyData) (H2 : Hp) : Prop := ∃ ρ2 fp2 acc ys m, H2 D = some (.lst acc) ∧ Step K H H2 ks (wipe σ is) ρ ρ2 fp fp2 ∧ Pr mi H1 H2 ∧ (∀ a ∈ mi, ¬ Ow ks ρ2 fp2 a) ∧ (∀ a ∈ mi, H2 a ≠ none) ∧ ¬ Al ρ2 fp2 D ∧ AbL K H2 κ.ow acc ys m ∧ RCe κ H ks ρ fp ρ2 fp2 m ∧ (κ = .F → ∀ a ∈ m, a ∉ mi) ∧ D ∉ m ∧
    Holds (eLcL t is ft fe xs' ρ2 >>= fun r => lstE (ys ++ r.1) r.2) (fun r => ∀ v H' fp' m, Step K H H' ks σ ρ r.2 fp fp' → Ab K H' κ.ow v r.1 m → RCe κ H ks ρ fp r.2 fp' m → Q v H') U
  refine ⟨fun i k H2 => k = xs.length - i ∧ i ≤ xs.length ∧ St (xs.drop i) H2,
    ⟨_, rfl, Nat.zero_le _, wipeE ρ1 is, fp1, [], [], [], upd_same, ?_, Pr.of (same_new hD) _, fun a q z => (rc a q).1 z.wipe, fun a q => ?_, fun z => nA1 z.wipe, .nil, RCe.nil _, fun _ _ q => (nomatch q), fun z => (nomatch z), by simpa using h⟩, ?_⟩
  · refine ⟨(s1.env.same (same_new hD)).wipe, ⟨fun x o e q => ?_, fun x q z => ?_⟩, fun a q => s1.sub a q.wipe, fun a q => s1.subo a q.wipe⟩
    · exact same_new hD x o (s1.fr.1 x o e q)
    · exact s1.fr.2 x q (Same.back (same_new hD) z)
  · exact fun z => tr a q (Same.back (same_new hD) z)
  rintro i k H2 ⟨rfl, hi, ρ2, fp2, acc, ys, m, hacc, s2, pr, nO, tr2, nA, al, rcm, hdis, hDm, h2⟩
  by_cases hlt : i < xs.length
  · rw [List.drop_eq_getElem_cons hlt] at h2
    refine .inr ⟨wk.go i H2 pr hlt, fun H' => i + 1 ≤ xs.length ∧ St (xs.drop (i + 1)) H', fun H' q => ⟨xs.length - (i + 1), by omega, rfl, q⟩, fun x H' y => ?_⟩
    obtain ⟨sm, d, n, ed, ab, hn⟩ := wk.yld i H2 x H' pr hlt y
    have ed' : xs[i] = d := by
      rw [List.getElem?_eq_getElem hlt] at ed
      exact Option.some.inj ed
    rw [ed'] at h2
    simp only [eLcL, assocR] at h2
    have s2' := s2.trans (Step.same s2.env sm)
    refine T_run t (fun j hj => hk j (ht j hj)) s2' ab (fun a q => ⟨nO a (hn a q), (rc a (hn a q)).2⟩) ((Holds.put' h2).mono (fun ρ3 h3 σ3 fp3 s3 off => ?_) fun c hc => hc)
    have hkt : ∀ i ∈ tgS t, ks[i]? = some false := fun j hj => hk j (ht j hj)
    have wq : wipe σ3 is = wipe σ is := wipe_eq (by rw [off.len, wipe_length]) fun j hj => off.st j fun z => hj (ht j z)
    have nA3 : ¬ Al ρ3 fp3 D := fun z => (off.al D z).elim nA fun q => tr D (hn D q) hD
    have nO3 : ∀ a ∈ mi, ¬ Ow ks ρ3 fp3 a := fun a q z => nO a q (off.ow hkt z)
    have tr3 : ∀ a ∈ mi, H' a ≠ none := fun a q z => tr2 a q (Same.back sm z)
    have pr3 : Pr mi H1 H' := fun a o e q => sm a o (pr a o e q)
    have hD3 : H' D = some (.lst acc) := sm _ _ hacc
    have al3 := al.same sm
    have trm3 : ∀ a ∈ m, H' a ≠ none := fun a q => al3.tr q
    have rc3 : RCe κ H ks ρ fp ρ3 fp3 m := by
      cases κ with
      | B => trivial
      | V => exact fun a q => ⟨fun z => (rcm a q).1 (off.ow hkt z), (rcm a q).2⟩
      | F => exact ⟨rcm.1, fun a q => ⟨fun z => (off.al a z).elim (rcm.2 a q).1 fun w => hdis rfl a q (hn a w), (rcm.2 a q).2⟩⟩
    refine ⟨wq, ρ3, fp3, s3.env, (Holds.noXb h3).mono (fun b hb H3 fp4 s4 => ?_) fun c hc => hc⟩
    have nA4 : ¬ Al b.2 fp4 D := fun z => (s4.sub D z).elim nA3 fun q => by rw [hD3] at q; cases q
    have nO4 : ∀ a ∈ mi, ¬ Ow ks b.2 fp4 a := fun a q z => (s4.subo a z).elim (nO3 a q) (tr3 a q)
    have tr4 : ∀ a ∈ mi, H3 a ≠ none := fun a q => s4.fr.2 a (tr3 a q)
    have pr4 : Pr mi H1 H3 := fun a o e q => s4.pr nO3 a o (pr3 a o e q) q
    have hD4 : H3 D = some (.lst acc) := s4.fr.1 _ _ hD3 fun z => absurd z.al nA3
    have al4 : AbL K H3 κ.ow acc ys m := al3.fr s4.fr (rc3.notO hκ)
    have trm4 : ∀ a ∈ m, H3 a ≠ none := fun a q => al4.tr q
    have rc4 := RCe.stepT hκ trm3 rc3 s4
    have s34 := s3.trans s4
    obtain ⟨b, ρ4⟩ := b
    cases b with
    | false =>
      have hb' : Holds (eLcL t is ft fe (xs.drop (i + 1)) (wipeE ρ4 is) >>= fun r => lstE (ys ++ r.1) r.2) (fun r => ∀ v H' fp' m, Step K H H' ks σ ρ r.2 fp fp' → Ab K H' κ.ow v r.1 m → RCe κ H ks ρ fp r.2 fp' m → Q v H') U := by simpa using hb
      show if false = true then _ else _
      rw [if_neg Bool.false_ne_true]
      have s5 := s34.wipe (is := is)
      rw [wq] at s5
      exact ⟨hlt, wipeE ρ4 is, fp4, acc, ys, m, hD4, s5, pr4, fun a q z => nO4 a q z.wipe, tr4, fun z => nA4 z.wipe, al4, rc4.wipe, hdis, hDm, hb'⟩
    | true =>
      show if true = true then _ else _
      rw [if_pos rfl]
      have hb' : Holds (noX (fe ρ4) >>= fun y => eLcL t is ft fe (xs.drop (i + 1)) (wipeE y.2 is) >>= fun r => lstE (ys ++ y.1 :: r.1) r.2) (fun r => ∀ v H' fp' m, Step K H H' ks σ ρ r.2 fp fp' → Ab K H' κ.ow v r.1 m → RCe κ H ks ρ fp r.2 fp' m → Q v H') U := by simpa [assocR] using hb
      refine ⟨ρ4, fp4, s34.env, (Holds.noXb hb').mono (fun y hy v H4 fp5 l s5 a5 r5 => ?_) fun c hc => hc⟩
      have hD5 : H4 D = some (.lst acc) := s5.fr.1 _ _ hD4 fun z => absurd z.al nA4
      have nA5 : ¬ Al y.2 fp5 D := fun z => (s5.sub D z).elim nA4 fun q => by rw [hD4] at q; cases q
      have hDl : D ∉ l := fun z => by
        cases κ with
        | B => exact hκ rfl
        | V => exact (r5 D z).2.elim nA4 fun q => by rw [hD4] at q; cases q
        | F => exact (r5.2 D z).2.elim (fun q => nA4 q.al) fun q => by rw [hD4] at q; cases q
      have rcb := RCe.bothT hκ s34 trm4 rc4 s5 r5
      have dis5 : κ = .F → ∀ a ∈ m ++ l, a ∉ mi := fun e a q z => (List.mem_append.mp q).elim (fun q => hdis e a q z) fun q => by
        subst e
        exact (r5.2 a q).2.elim (nO4 a z) (tr4 a z)
      have hlen : acc.length < sizeLine := by
        cases q : eLcL t is ft fe (xs.drop (i + 1)) (wipeE y.2 is) with
        | ex c => exact absurd q (eLcL_ex _ _ c)
        | no => rw [q] at hy; exact hy.elim
        | ok r =>
          rw [q] at hy
          have hy' : Holds (lstE (ys ++ y.1 :: r.1) r.2) _ _ := hy
          unfold lstE at hy'
          split at hy'
          · rename_i hz
            rw [List.length_append, List.length_cons] at hz
            rw [al.len]; omega
          · exact hy'.elim
      have s6 := ((s34.trans s5).side (o := .lst (acc ++ [v])) hD0 nA5 hD5 trivial).wipe (is := is)
      rw [wq] at s6
      have fr : Fr (fun x => x = D) H4 (upd H4 D (.lst (acc ++ [v]))) := ⟨fun x o e q => by
        by_cases z : x = D
        · subst z; rw [hD5] at e; cases e; exact absurd trivial (q rfl)
        · rw [upd_ne z]; exact e, fun x q => by
        by_cases z : x = D
        · subst z; rw [upd_same]; exact fun z => nomatch z
        · rw [upd_ne z]; exact q⟩
      have hDmi : D ∉ mi := fun z => tr D z hD
      refine ⟨acc, hD5, hlen, hlt, wipeE y.2 is, fp5, acc ++ [v], ys ++ [y.1], m ++ l, upd_same, s6, fun a o e q => ?_, fun a q z => (s5.subo a z.wipe).elim (nO4 a q) (tr4 a q), fun a q => fr.2 a (s5.fr.2 a (tr4 a q)), fun z => nA5 z.wipe, ?_, rcb.wipe, dis5, fun z => (List.mem_append.mp z).elim hDm hDl, ?_⟩
      · refine fr.1 a o (s5.pr nO4 a o (pr4 a o e q) q) fun z => ?_
        rw [z, hD] at e; cases e
      · have a6 : AbL K H4 κ.ow (acc ++ [v]) (ys ++ [y.1]) (m ++ (l ++ [])) := (al4.fr s5.fr (rc4.notO hκ)).append (.cons a5 .nil)
        rw [List.append_nil] at a6
        exact a6.fr fr fun a q z => (List.mem_append.mp q).elim (fun q => hDm (z ▸ q)) fun q => hDl (z ▸ q)
      · simpa using hy
  · have e : i = xs.length := by omega
    subst e
    rw [List.drop_length] at h2
    refine .inl ⟨wk.stop _ H2 pr rfl, ?_⟩
    have h2' : Holds (lstE ys ρ2) (fun r => ∀ v H' fp' m, Step K H H' ks σ ρ r.2 fp fp' → Ab K H' κ.ow v r.1 m → RCe κ H ks ρ fp r.2 fp' m → Q v H') U := by simpa [eLcL] using h2
    unfold lstE at h2'
    split at h2'
    · refine h2' (.ref D) H2 fp2 (D :: m) s2.unwipe (.lst hacc al) ?_
      cases κ with
      | B => trivial
      | V =>
        intro a q
        rcases List.mem_cons.mp q with e | q
        · rw [e]; exact ⟨fun z => nA z.al, .inr hD0⟩
        · exact rcm a q
      | F =>
        refine ⟨List.nodup_cons.mpr ⟨hDm, rcm.1⟩, fun a q => ?_⟩
        rcases List.mem_cons.mp q with e | q
        · rw [e]; exact ⟨nA, .inr hD0⟩
        · exact rcm.2 a q
    · exact h2'.elim
theorem ets_nil : PTs X [] (tET X.K W ks egYes) := PTs.imp pts_nil fun σ H Q ⟨ρ, fp, eo, h⟩ => h H fp (Step.same eo (Same.refl H))
theorem ets_one {f : Env → R (Bool × Env)} (h : DET X W ks c f) : PTs X [c] (tET X.K W ks f) := pts_one h
theorem e_lc {t : Tg} {fi : Env → R (List PyData × Env)} {ft : Env → R (Bool × Env)} {fe : FE} (hc : X.calm = true) (hN : X.N.Nodup) (hi : PI X tg iter (tI X.K W ks fi)) (ok : BlkOk X.N X.env.scope scope own) (hk : ∀ i ∈ own.map (·.2), ks[i]? = some false) (ht : ∀ i ∈ tgS t, i ∈ own.map (·.2))
    (hg : Blk X scope fun B => PG B tg (gT X.K t)) (hf : Blk X scope fun B => PTs B ifs (tET X.K W0 ks ft)) (he : Blk X scope fun B => DE B W0 ks κ elt fe) (hκ : κ ≠ .B := by decide) (hs : ∀ x, foldedSetIterable iter X.env x = pure x := by intro _; rfl) :
    DE X W ks κ (.ListComp elt [⟨tg, iter, ifs, 0⟩] scope pos) (eLc t (own.map (·.2)) fi ft fe) :=
  PE.imp (pe_lc hc hN hi ok hg hf he hs) fun σ H Q ⟨ρ, fp, eo, h⟩ => ⟨ρ, fp, eo, (Holds.bind h).mono (fun xs hx J H1 fp1 mi s1 rc tr wk => lcE_core hk ht hκ eo s1 rc tr wk hx) fun c hc => hc⟩
/-- name = [..] -/
theorem s_setLc {i : Nat} {y : Str} {py spos : Pos} {bk : Bool} {t : Tg} {fi : Env → R (List PyData × Env)} {ft : Env → R (Bool × Env)} {fe : FE} (hc : X.calm = true) (hN : X.N.Nodup) (hi : PI X tg iter (tI X.K W ks fi)) (ok : BlkOk X.N X.env.scope scope own) (hk : ∀ i ∈ own.map (·.2), ks[i]? = some false) (ht : ∀ i ∈ tgS t, i ∈ own.map (·.2))
    (hg : Blk X scope fun B => PG B tg (gT X.K t)) (hf : Blk X scope fun B => PTs B ifs (tET X.K W0 ks ft)) (he : Blk X scope fun B => DE B W0 ks (kdOf bk) elt fe) (hki : ks[i]? = some bk := by rfl) (hP : i ∉ P := by decide) (hy : X.N[i]? = some y := by rfl) (hyl : X.env.scope.names.lookup y = some .local := by rfl)
    (hsw : swapsWith (.ListComp elt [⟨tg, iter, ifs, 0⟩] scope pos) (some (.Name y py)) spos.line X.env = pure true := by rfl) (hs : ∀ x, foldedSetIterable iter X.env x = pure x := by intro _; rfl) :
    DS X W ks P κ (.Assign [.Name y py] (.ListComp elt [⟨tg, iter, ifs, 0⟩] scope pos) spos) (sSet i (eLc t (own.map (·.2)) fi ft fe)) :=
  PS.imp (ps_setLc hc hN hy hyl hsw hi ok hg hf he hs) fun D σ H ⟨ρ, fp, eo, h⟩ => ⟨ρ, fp, eo, (Holds.bind (Holds.bind h)).mono (fun xs hx J H1 fp1 mi s1 rc tr wk =>
    lcE_core (κ := kdOf bk) (U := SX X.K W ks P σ H ρ fp) (Q := fun v H' => gName i v σ H' D.nx) hk ht (by cases bk <;> decide) eo s1 rc tr wk (hx.mono (fun r hr v H' fp' m s ab rc => hr _ H' _ (Step.set hki s (ab.any _) rc) (Keep.set hP)) fun c hc => hc)) fun c hc => SX.now hc⟩
end
end PV

set_option Elab.async false
set_option linter.all false
set_option maxRecDepth 100000
set_option maxHeartbeats 1000000
set_option autoImplicit false
/-! PV, part k: owning slots' lists are changed. -/
namespace PV
open PySem PySem.Spec PyProof.Rows L2
section
variable {K : PySem.W.Frag} {H0 H H' H'' : Hp} {ks : List Bool} {σ0 σ σ' : L2.St} {ρ0 ρ ρ' ρ'' : Env} {fp0 fp fp' fp'' : Nat → List Addr} {m n : List Addr} {κ : Kd}
/-- the list of an owning slot is changed, behind a step -/
theorem Step.mut {i : Nat} {ds ds' : List PyData} {p : Addr} {vs vs' : List V} {n n' : List Addr} (s : Step K H0 H ks σ ρ0 ρ fp0 fp) (hk : ks[i]? = some true) (h : ρ[i]? = some (some (.list ds))) (hv : σ[i]? = some (some (.ref p))) (hp : H p = some (.lst vs)) (hf : fp i = p :: n)
    (a : AbL K H true vs' ds' n') (nd : n'.Nodup) (hn : ∀ x ∈ n', x ≠ p ∧ (x ∈ n ∨ (¬ Al ρ fp x ∧ (Ow ks ρ0 fp0 x ∨ H0 x = none)))) :
    Step K H0 (upd H p (.lst vs')) ks σ ρ0 (ρ.set i (some (.list ds'))) fp0 (setF fp i (p :: n')) := by
  have eo := s.env
  have hl : i < ρ.length := (List.getElem?_eq_some_iff.mp h).1
  have own_p : Ow ks ρ fp p := ⟨i, _, hk, h, by rw [hf]; exact List.mem_cons_self ..⟩
  have fr : Fr (fun x => x = p) H (upd H p (.lst vs')) := ⟨fun x o e q => by
    by_cases z : x = p
    · subst z; rw [hp] at e; cases e; exact absurd trivial (q rfl)
    · rw [upd_ne z]; exact e, fun x q => by
    by_cases z : x = p
    · subst z; rw [upd_same]; exact fun z => nomatch z
    · rw [upd_ne z]; exact q⟩
  have frO : Fr (Ow ks ρ fp) H (upd H p (.lst vs')) := ⟨fun x o e q => fr.1 x o e fun z => q (by rw [z]; exact own_p), fr.2⟩
  refine ⟨⟨by rw [List.length_set]; exact eo.len, fun j e hj => ?_, fun j e ho hj => ?_, fun j l e g ho hne h1 h2 x hx' => ?_⟩, Fr.comp (K := K) s frO, fun x ⟨j, e, hj, hx'⟩ => ?_, fun x ⟨j, e, ho, hj, hx'⟩ => ?_⟩
  · rcases get_set hj with ⟨rfl, _, e1⟩ | ⟨hne, hj⟩
    · cases e1
      refine ⟨_, hv, ?_⟩
      rw [setF_same, hk]
      exact .lst upd_same (a.fr fr fun x q => (hn x q).1)
    · obtain ⟨u, e1, a1⟩ := eo.ab j e hj
      refine ⟨u, e1, ?_⟩
      rw [setF_ne hne]
      refine a1.fr fr fun x q z => ?_
      subst z
      exact eo.dj i j _ _ hk (fun z => hne z.symm) h hj x (by rw [hf]; exact List.mem_cons_self ..) q
  · rcases get_set hj with ⟨rfl, _, _⟩ | ⟨hne, hj⟩
    · rw [setF_same]; exact List.nodup_cons.mpr ⟨fun z => (hn p z).1 rfl, nd⟩
    · rw [setF_ne hne]; exact eo.nd j e ho hj
  · have key : ∀ (l : Nat) (g : PyData), l ≠ i → ρ[l]? = some (some g) → ∀ x ∈ p :: n', x ∉ fp l := fun l g hli hg x q z => by
      rcases List.mem_cons.mp q with e1 | q
      · rw [e1] at z
        exact eo.dj i l _ _ hk (fun z => hli z.symm) h hg p (by rw [hf]; exact List.mem_cons_self ..) z
      · rcases (hn x q).2 with y | y
        · exact eo.dj i l _ _ hk (fun z => hli z.symm) h hg x (by rw [hf]; exact List.mem_cons_of_mem _ y) z
        · exact y.1 ⟨l, g, hg, z⟩
    rcases get_set h1 with ⟨e1, _, _⟩ | ⟨hn1, h1'⟩
    · rcases get_set h2 with ⟨e2, _⟩ | ⟨hn2, h2'⟩
      · exact absurd (e1.trans e2.symm) hne
      · rw [e1, setF_same] at hx'
        rw [setF_ne hn2]
        exact key l g hn2 h2' x hx'
    · rw [setF_ne hn1] at hx'
      rcases get_set h2 with ⟨e2, _, _⟩ | ⟨hn2, h2'⟩
      · rw [e2, setF_same]
        exact fun z => key j e hn1 h1' x z hx'
      · rw [setF_ne hn2]
        exact eo.dj j l e g ho hne h1' h2' x hx'
  · rcases get_set hj with ⟨rfl, _, _⟩ | ⟨hne, hj⟩
    · rw [setF_same] at hx'
      rcases List.mem_cons.mp hx' with e1 | q
      · rw [e1]; exact s.sub p own_p.al
      · rcases (hn x q).2 with y | y
        · exact s.sub x ⟨j, _, h, by rw [hf]; exact List.mem_cons_of_mem _ y⟩
        · exact y.2.elim (fun z => .inl z.al) .inr
    · rw [setF_ne hne] at hx'
      exact s.sub x ⟨j, e, hj, hx'⟩
  · rcases get_set hj with ⟨rfl, _, _⟩ | ⟨hne, hj⟩
    · rw [setF_same] at hx'
      rcases List.mem_cons.mp hx' with e1 | q
      · rw [e1]; exact s.subo p own_p
      · rcases (hn x q).2 with y | y
        · exact s.subo x ⟨j, _, hk, h, by rw [hf]; exact List.mem_cons_of_mem _ y⟩
        · exact y.2
    · rw [setF_ne hne] at hx'
      exact s.subo x ⟨j, e, ho, hj, hx'⟩
theorem AbL.set {o : Bool} : ∀ {vs : List V} {ds : List PyData} {n : List Addr} {v : V} {d : PyData} {l : List Addr} {k : Nat}, AbL K H o vs ds n → Ab K H o v d l → ∃ n', AbL K H o (vs.set k v) (ds.set k d) n' ∧ (n.Nodup → l.Nodup → (∀ x ∈ l, x ∉ n) → n'.Nodup) ∧ ∀ x ∈ n', x ∈ n ∨ x ∈ l
  | [], ds, n, v, d, l, k, h, a => by cases h; exact ⟨[], .nil, fun h _ _ => h, fun _ q => nomatch q⟩
  | w :: vs, ds, n, v, d, l, k, h, a => by
    cases h with
    | @cons _ _ e es m1 m2 h1 h2 =>
      cases k with
      | zero =>
        exact ⟨l ++ m2, .cons a h2, fun hn hl hd => List.nodup_append.mpr ⟨hl, (List.nodup_append.mp hn).2.1, fun x hx y hy e => hd x hx (List.mem_append_right _ (e ▸ hy))⟩, fun x q => (List.mem_append.mp q).elim .inr fun q => .inl (List.mem_append_right _ q)⟩
      | succ k =>
        obtain ⟨n', a', nd, sb⟩ := AbL.set (k := k) h2 a
        refine ⟨m1 ++ n', .cons h1 a', fun hn hl hd => ?_, fun x q => ?_⟩
        · obtain ⟨p1, p2, p3⟩ := List.nodup_append.mp hn
          refine List.nodup_append.mpr ⟨p1, nd p2 hl fun x hx z => hd x hx (List.mem_append_right _ z), fun x hx y hy e => ?_⟩
          rcases sb y hy with z | z
          · exact p3 x hx y z e
          · exact hd y z (List.mem_append_left _ (e ▸ hx))
        · rcases List.mem_append.mp q with q | q
          · exact .inl (List.mem_append_left _ q)
          · exact (sb x q).imp (List.mem_append_right _) id
theorem AbL.snoc {o : Bool} {vs : List V} {ds : List PyData} {n l : List Addr} {v : V} {d : PyData} (h : AbL K H o vs ds n) (a : Ab K H o v d l) : AbL K H o (vs ++ [v]) (ds ++ [d]) (n ++ l) := by
  have := h.append (.cons a .nil)
  rw [List.append_nil] at this
  exact this
theorem AbL.split {o : Bool} : ∀ {vs ws : List V} {ds : List PyData} {n : List Addr}, AbL K H o (vs ++ ws) ds n → ∃ es fs n1 n2, ds = es ++ fs ∧ n = n1 ++ n2 ∧ AbL K H o vs es n1 ∧ AbL K H o ws fs n2
  | [], ws, ds, n, h => ⟨[], ds, [], n, rfl, rfl, .nil, h⟩
  | v :: vs, ws, ds, n, h => by
    cases h with
    | @cons _ _ e es m1 m2 h1 h2 =>
      obtain ⟨es', fs, n1, n2, rfl, rfl, a1, a2⟩ := AbL.split h2
      exact ⟨e :: es', fs, m1 ++ n1, n2, rfl, by rw [List.append_assoc], .cons h1 a1, a2⟩
theorem AbL.reverseF {o : Bool} : ∀ {vs : List V} {ds : List PyData}, AbL K H o vs ds [] → AbL K H o vs.reverse ds.reverse []
  | [], ds, h => by cases h; exact .nil
  | v :: vs, ds, h => by
    cases ds with
    | nil => cases h
    | cons d ds =>
      generalize hm : ([] : List Addr) = m at h
      cases h with
      | @cons _ _ _ _ m1 m2 h1 h2 =>
        have e1 : m1 = [] := (List.append_eq_nil_iff.mp hm.symm).1
        have e2 : m2 = [] := (List.append_eq_nil_iff.mp hm.symm).2
        subst e1 e2
        rw [List.reverse_cons, List.reverse_cons]
        exact AbL.snoc (AbL.reverseF h2) h1
end
section
variable {X : Cx} {W : WX} {ks : List Bool} {P : List Nat} {κ : Kd} {a b c e : Expr} {pos : Pos} {i : Nat} {y : Str} {py apos cpos : Pos}
/-- slot i holds a list -/
def slotL (i : Nat) (ρ : Env) : R (List PyData) := match ρ[i]? with
  | some (some (.list ds)) => .ok ds
  | _ => .no
theorem slotL_ok {i : Nat} {ρ : Env} {β : Type} {g : List PyData → R β} {P : β → Prop} {U : Ex → Prop} (h : Holds (slotL i ρ >>= g) P U) : ∃ d, ρ[i]? = some (some (.list d)) ∧ Holds (g d) P U := by
  unfold slotL at h
  split at h
  · exact ⟨_, by assumption, h⟩
  · exact h.elim
def eApp (i : Nat) (f : FE) : FE := fun ρ => slotL i ρ >>= fun _ => f ρ >>= fun r => slotL i r.2 >>= fun ds => if ds.length < sizeLine then .ok (.none, r.2.set i (some (.list (ds ++ [r.1])))) else .no
theorem e_append {f : FE} (hk : ks[i]? = some true) (he : DE X W ks .F e f) (hN : X.N[i]? = some y := by rfl) (hv : Vis X.env.scope y := by first | exact Or.inl rfl | exact Or.inr (Or.inl rfl) | exact Or.inr (Or.inr rfl)) (hd : (y == ("__debug__" : Str)) = false := by decide) (hcd : (y == ("__classdict__" : Str)) = false := by decide)
    (hbase : attributeBase (.Name y py) "append" X.env (eval (.Name y py) X.env) = eval (.Name y py) X.env := by rfl)
    (hfew : ((backTo cpos (starEach [e] X.env)).all (fun x => !x.1) && (backToKw cpos (keywordEach [] X.env)).all (fun x => x.1.isSome)
      && decide (([e] : List Expr).length + ([] : List Keyword).length + (if ([] : List Keyword).isEmpty then 0 else 1) < 30)) = true := by rfl)
    (hline : (apos.endLine == cpos.line) = true := by rfl) (hs : starEach [e] X.env = (false, eval e X.env) :: starEach [] X.env := by rfl) (hplain : (backTo cpos (starEach [] X.env)).any (·.1) = false := by rfl) :
    DE X W ks .F (.Call (.Attribute (.Name y py) "append" apos) [e] [] cpos) (eApp i f) :=
  PE.imp (pe_bm PySem.F.plainAttrs_list PySem.F.slot_list_append PySem.F.type_list_append mt_append (pe_var hN hv hd hcd) (pa_cons he pa_nil hs) hbase hfew hline hs hplain) fun σ H Q ⟨ρ, fp, eo, h⟩ => by
    obtain ⟨d0, e0, h⟩ := slotL_ok h
    obtain ⟨v0, ev, a0, _⟩ := eo.own hk e0
    obtain ⟨p0, vs0, n0, rfl, hp0, _, _⟩ := a0.ownL
    refine ⟨_, ev, .inl ⟨rfl, vs0, .inl (.inl hp0)⟩, ρ, fp, eo, (Holds.bind h).mono (fun r hr v H1 fp1 l s1 a1 r1 => ?_) fun c hc => hc⟩
    obtain ⟨ds, e1, hr⟩ := slotL_ok hr
    obtain ⟨v1, ev1, a2, nd⟩ := s1.env.own hk e1
    rw [ev] at ev1; cases ev1
    obtain ⟨p, vs, n, ep, hp, al, en⟩ := a2.ownL
    cases ep
    by_cases hl : ds.length < sizeLine
    · rw [if_pos hl] at hr
      refine ⟨p0, vs, v, rfl, rfl, hp, by rw [al.len]; exact hl, ?_⟩
      rw [en] at nd
      have nAl : ∀ x ∈ l, x ∉ p0 :: n := fun x q z => (r1.2 x q).1 ⟨i, _, e1, by rw [en]; exact z⟩
      have st := Step.mut s1 hk e1 ev hp en (al.snoc (a1.any true)) (List.nodup_append.mpr ⟨(List.nodup_cons.mp nd).2, r1.1, fun x hx z hz e => nAl z hz (List.mem_cons_of_mem _ (e ▸ hx))⟩) fun x q => by
        rcases List.mem_append.mp q with q | q
        · exact ⟨fun e => (List.nodup_cons.mp nd).1 (e ▸ q), .inl q⟩
        · exact ⟨fun e => nAl x q (e ▸ List.mem_cons_self ..), .inr (r1.2 x q)⟩
      exact hr .non _ _ [] st .non (RCe.nil _)
    · rw [if_neg hl] at hr; exact hr.elim
def eExt (i : Nat) (f : FE) : FE := fun ρ => slotL i ρ >>= fun _ => f ρ >>= fun r => slotL i r.2 >>= fun ds => match r.1 with
  | .list es => if flatL es then (if ds.length + es.length ≤ sizeLine then .ok (.none, r.2.set i (some (.list (ds ++ es)))) else .no) else .no
  | _ => .no
theorem e_extend {f : FE} (hk : ks[i]? = some true) (he : DE X W ks .B e f) (hN : X.N[i]? = some y := by rfl) (hv : Vis X.env.scope y := by first | exact Or.inl rfl | exact Or.inr (Or.inl rfl) | exact Or.inr (Or.inr rfl)) (hd : (y == ("__debug__" : Str)) = false := by decide) (hcd : (y == ("__classdict__" : Str)) = false := by decide)
    (hbase : attributeBase (.Name y py) "extend" X.env (eval (.Name y py) X.env) = eval (.Name y py) X.env := by rfl)
    (hfew : ((backTo cpos (starEach [e] X.env)).all (fun x => !x.1) && (backToKw cpos (keywordEach [] X.env)).all (fun x => x.1.isSome)
      && decide (([e] : List Expr).length + ([] : List Keyword).length + (if ([] : List Keyword).isEmpty then 0 else 1) < 30)) = true := by rfl)
    (hline : (apos.endLine == cpos.line) = true := by rfl) (hs : starEach [e] X.env = (false, eval e X.env) :: starEach [] X.env := by rfl) (hplain : (backTo cpos (starEach [] X.env)).any (·.1) = false := by rfl) :
    DE X W ks .F (.Call (.Attribute (.Name y py) "extend" apos) [e] [] cpos) (eExt i f) :=
  PE.imp (pe_bm PySem.F.plainAttrs_list PySem.F.slot_list_extend PySem.F.type_list_extend mt_extend (pe_var hN hv hd hcd) (pa_cons he pa_nil hs) hbase hfew hline hs hplain) fun σ H Q ⟨ρ, fp, eo, h⟩ => by
    obtain ⟨d0, e0, h⟩ := slotL_ok h
    obtain ⟨v0, ev, a0, _⟩ := eo.own hk e0
    obtain ⟨p0, vs0, n0, rfl, hp0, _, _⟩ := a0.ownL
    refine ⟨_, ev, .inl ⟨rfl, vs0, .inl (.inl hp0)⟩, ρ, fp, eo, (Holds.bind h).mono (fun r hr v H1 fp1 l s1 a1 r1 => ?_) fun c hc => hc⟩
    obtain ⟨ds, e1, hr⟩ := slotL_ok hr
    obtain ⟨v1, ev1, a2, nd⟩ := s1.env.own hk e1
    rw [ev] at ev1; cases ev1
    obtain ⟨p, vs, n, ep, hp, al, en⟩ := a2.ownL
    cases ep
    obtain ⟨d, ρ2⟩ := r
    cases d with
    | list es =>
      have hr' : Holds (if flatL es then (if ds.length + es.length ≤ sizeLine then R.ok (PyData.none, ρ2.set i (some (.list (ds ++ es)))) else .no) else .no) _ _ := hr
      by_cases hf : flatL es = true
      · rw [if_pos hf] at hr'
        by_cases hl : ds.length + es.length ≤ sizeLine
        · rw [if_pos hl] at hr'
          obtain ⟨q, ws, nq, rfl, hq, alq, _⟩ := a1.ownL
          have := alq.flat hf
          subst this
          refine ⟨p0, q, vs, ws, rfl, rfl, hp, hq, by rw [al.len, alq.len]; exact hl, ?_⟩
          rw [en] at nd
          have al2 := al.append (alq.any true)
          rw [List.append_nil] at al2
          have st := Step.mut s1 hk e1 ev hp en al2 (List.nodup_cons.mp nd).2 fun x q => ⟨fun e => (List.nodup_cons.mp nd).1 (e ▸ q), .inl q⟩
          exact hr' .non _ _ [] st .non (RCe.nil _)
        · rw [if_neg hl] at hr'; exact hr'.elim
      · rw [if_neg hf] at hr'; exact hr'.elim
    | _ => exact hr.elim
def eRev (i : Nat) : FE := fun ρ => slotL i ρ >>= fun ds => if flatL ds then .ok (.none, ρ.set i (some (.list ds.reverse))) else .no
theorem e_reverse (hk : ks[i]? = some true) (hN : X.N[i]? = some y := by rfl) (hv : Vis X.env.scope y := by first | exact Or.inl rfl | exact Or.inr (Or.inl rfl) | exact Or.inr (Or.inr rfl)) (hd : (y == ("__debug__" : Str)) = false := by decide) (hcd : (y == ("__classdict__" : Str)) = false := by decide)
    (hbase : attributeBase (.Name y py) "reverse" X.env (eval (.Name y py) X.env) = eval (.Name y py) X.env := by rfl) (hline : (apos.endLine == cpos.line) = true := by rfl) :
    DE X W ks .F (.Call (.Attribute (.Name y py) "reverse" apos) [] [] cpos) (eRev i) :=
  PE.imp (pe_bm0 PySem.F.plainAttrs_list PySem.F.slot_list_reverse PySem.F.type_list_reverse mt_reverse (pe_var hN hv hd hcd) hbase hline) fun σ H Q ⟨ρ, fp, eo, h⟩ => by
    obtain ⟨ds, e1, h⟩ := slotL_ok h
    obtain ⟨v0, ev, a0, nd⟩ := eo.own hk e1
    obtain ⟨p, vs, n, rfl, hp, al, en⟩ := a0.ownL
    by_cases hf : flatL ds = true
    · rw [if_pos hf] at h
      have := al.flat hf
      subst this
      refine ⟨_, ev, .inl ⟨rfl, vs, .inl (.inl hp)⟩, p, vs, rfl, rfl, hp, ?_⟩
      have st := Step.mut (Step.same eo (Same.refl H)) hk e1 ev hp en al.reverseF .nil fun x q => nomatch q
      exact h .non _ _ [] st .non (RCe.nil _)
    · rw [if_neg hf] at h; exact h.elim
def ePop (i : Nat) : FE := fun ρ => slotL i ρ >>= fun ds => match ds.getLast? with
  | some d => .ok (d, ρ.set i (some (.list ds.dropLast)))
  | none => .no
theorem e_pop (hk : ks[i]? = some true) (hN : X.N[i]? = some y := by rfl) (hv : Vis X.env.scope y := by first | exact Or.inl rfl | exact Or.inr (Or.inl rfl) | exact Or.inr (Or.inr rfl)) (hd : (y == ("__debug__" : Str)) = false := by decide) (hcd : (y == ("__classdict__" : Str)) = false := by decide)
    (hbase : attributeBase (.Name y py) "pop" X.env (eval (.Name y py) X.env) = eval (.Name y py) X.env := by rfl) (hline : (apos.endLine == cpos.line) = true := by rfl) :
    DE X W ks .F (.Call (.Attribute (.Name y py) "pop" apos) [] [] cpos) (ePop i) :=
  PE.imp (pe_bm0 PySem.F.plainAttrs_list PySem.F.slot_list_pop PySem.F.type_list_pop mt_pop (pe_var hN hv hd hcd) hbase hline) fun σ H Q ⟨ρ, fp, eo, h⟩ => by
    obtain ⟨ds, e1, h⟩ := slotL_ok h
    obtain ⟨v0, ev, a0, nd⟩ := eo.own hk e1
    obtain ⟨p, vs, n, rfl, hp, al, en⟩ := a0.ownL
    rcases List.eq_nil_or_concat ds with rfl | ⟨ds', d, rfl⟩
    · exact h.elim
    · rcases List.eq_nil_or_concat vs with rfl | ⟨vs', v, rfl⟩
      · have := al.len; simp at this
      · simp only [List.concat_eq_append] at al hp e1 h
        obtain ⟨es, fs, n1, n2, ed, rfl, al1, al2⟩ := al.split
        have l1 := al1.len
        have l2 := al2.len
        have := List.append_inj ed (by have := congrArg List.length ed; simp at this l2; omega)
        obtain ⟨rfl, rfl⟩ := this
        obtain ⟨w, ew, aw⟩ := al2.one
        cases ew
        rw [List.getLast?_concat, List.dropLast_concat] at h
        have h' := h
        refine ⟨_, ev, .inl ⟨rfl, _, .inl (.inl hp)⟩, p, _, v, rfl, rfl, hp, by simp, ?_⟩
        rw [List.dropLast_concat]
        rw [en] at nd
        obtain ⟨np, nn⟩ := List.nodup_cons.mp nd
        obtain ⟨nd1, nd2, nd3⟩ := List.nodup_append.mp nn
        have st := Step.mut (Step.same eo (Same.refl H)) hk e1 ev hp en al1 nd1 fun x q => ⟨fun e => np (e ▸ List.mem_append_left _ q), .inl (List.mem_append_left _ q)⟩
        have fr : Fr (fun x => x = p) H (upd H p (.lst vs')) := ⟨fun x o e q => by
          by_cases z : x = p
          · subst z; rw [hp] at e; cases e; exact absurd trivial (q rfl)
          · rw [upd_ne z]; exact e, fun x q => by
          by_cases z : x = p
          · subst z; rw [upd_same]; exact fun z => nomatch z
          · rw [upd_ne z]; exact q⟩
        refine h' v _ _ n2 st ((aw.fr fr fun x q z => np (z ▸ List.mem_append_right _ q)).any _) ⟨nd2, fun x q => ⟨fun ⟨j, e, hj, hx⟩ => ?_, .inl ⟨i, _, hk, e1, by rw [en]; exact List.mem_cons_of_mem _ (List.mem_append_right _ q)⟩⟩⟩
        rcases get_set hj with ⟨rfl, _, _⟩ | ⟨hne, hj⟩
        · rw [setF_same] at hx
          rcases List.mem_cons.mp hx with z | z
          · exact np (z ▸ List.mem_append_right _ q)
          · exact nd3 x z x q rfl
        · rw [setF_ne hne] at hx
          exact eo.dj i j _ _ hk (fun z => hne z.symm) e1 hj x (by rw [en]; exact List.mem_cons_of_mem _ (List.mem_append_right _ q)) hx
/-- xs[k] = e -/
def sStore (i : Nat) (f : FE) (g : Env → R PyData) : FS := fun ρ => f ρ >>= fun r => slotL i r.2 >>= fun ds => g r.2 >>= fun q => match q with
  | .int k => match ixN ds.length k with
    | some j => .ok (.nx, r.2.set i (some (.list (ds.set j r.1))))
    | none => .no
  | _ => .no
theorem s_store {ix : Expr} {f : FE} {g : Env → R PyData} {tpos : Pos} (hk : ks[i]? = some true) (he : DE X W ks .F e f) (hi : DP X W ks .B ix g) (hP : i ∉ P := by decide) (hN : X.N[i]? = some y := by rfl) (hv : Vis X.env.scope y := by first | exact Or.inl rfl | exact Or.inr (Or.inl rfl) | exact Or.inr (Or.inr rfl)) (hd : (y == ("__debug__" : Str)) = false := by decide) (hcd : (y == ("__classdict__" : Str)) = false := by decide)
    (hs : swapsWithSole [.Subscript (.Name y py) ix tpos] e pos.line X.env = pure false := by rfl) (hw : swappedStores [.Subscript (.Name y py) ix tpos] e X.env = pure none := by rfl) (h1 : (assignEach [.Subscript (.Name y py) ix tpos] X.env).map (·.2) = [assign (.Subscript (.Name y py) ix tpos) X.env] := by rfl)
    (ha : ∀ v, assign (.Subscript (.Name y py) ix tpos) X.env v = (do
      let ov ← holding [v] (eval (.Name y py) X.env)
      let iv ← holding [v, ov] (eval ix X.env)
      standAt tpos
      holding [v, ov, iv] (setItem ov iv v)
      release [v, ov, iv] []) := by intro _; rfl) :
    DS X W ks P κ (.Assign [.Subscript (.Name y py) ix tpos] e pos) (sStore i f g) := PS.imp (ps_asg he (pg_sub (pe_var hN hv hd hcd) hi set_list ha) hs hw h1) fun D σ H ⟨ρ, fp, eo, h⟩ =>
  ⟨ρ, fp, eo, (Holds.bind h).mono (fun r hr v H1 fp1 l s1 a1 r1 => by
    obtain ⟨ds, e1, hr⟩ := slotL_ok hr
    obtain ⟨v0, ev, a0, nd⟩ := s1.env.own hk e1
    obtain ⟨p, vs, n, rfl, hp, al, en⟩ := a0.ownL
    refine ⟨_, ev, r.2, fp1, s1.env, (Holds.bind hr).mono (fun q hq w H2 m2 s2 a2 _ => ?_) fun c hc H' s' => SX.now hc _ (Fr.comp (K := X.K) s1 (Same.fr s' _))⟩
    cases q with
    | int k =>
      obtain ⟨rfl, _⟩ := a2.eq_int
      cases ej : ixN ds.length k with
      | none =>
        have hq' : Holds (match ixN ds.length k with | some j => R.ok (Fl.nx, r.2.set i (some (.list (ds.set j r.1)))) | none => .no) _ _ := hq
        rw [ej] at hq'; exact hq'.elim
      | some j =>
        have hq' : Holds (match ixN ds.length k with | some j => R.ok (Fl.nx, r.2.set i (some (.list (ds.set j r.1)))) | none => .no) _ _ := hq
        rw [ej] at hq'
        have hp2 := s2 _ _ hp
        refine ⟨p, vs, k, j, rfl, rfl, hp2, by rw [al.len]; exact ej, ?_⟩
        rw [en] at nd
        obtain ⟨np, nn⟩ := List.nodup_cons.mp nd
        have nAl : ∀ x ∈ l, x ∉ p :: n := fun x q z => (r1.2 x q).1 ⟨i, _, e1, by rw [en]; exact z⟩
        obtain ⟨n', al', nd', sb⟩ := AbL.set (k := j) (al.same s2) ((a1.any true).same s2)
        have st := Step.mut (s1.trans (Step.same s1.env s2)) hk e1 ev hp2 en al' (nd' nn r1.1 fun x q z => nAl x q (List.mem_cons_of_mem _ z)) fun x q => by
          rcases sb x q with q | q
          · exact ⟨fun e => np (e ▸ q), .inl q⟩
          · exact ⟨fun e => nAl x q (e ▸ List.mem_cons_self ..), .inr (r1.2 x q)⟩
        exact hq' σ _ _ st (Keep.refl _ _)
    | _ => exact hq.elim) fun c hc => SX.now hc⟩
end
end PV

set_option Elab.async false
set_option linter.all false
set_option maxRecDepth 100000
set_option maxHeartbeats 1000000
set_option autoImplicit false
/-! PV, part l: defs. -/
namespace PV
open PySem PySem.Spec PyProof.Rows L2
/-- the slots at a def's entry -/
def rho0 (n : Nat) (ds : List PyData) : Env := ds.map some ++ List.replicate (n - ds.length) none
def endV : Fl → R PyData
  | .nx => .ok .none
  | .rt d => .ok d
  | _ => .no
/-- what a def gives -/
def runF (n : Nat) (f : FS) (ds : List PyData) : R PyData := f (rho0 n ds) >>= fun r => endV r.1
/-- .. and what it makes of its first parameter's list -/
def runM (n : Nat) (f : FS) (d0 : PyData) (ds : List PyData) : R (PyData × PyData) := f (rho0 n (d0 :: ds)) >>= fun r => endV r.1 >>= fun v => slot 0 r.2 >>= fun d => .ok (v, d)
section
variable {K : PySem.W.Frag} {H H' : Hp} {o : Bool} {vs : List V} {ds : List PyData} {n : List Addr}
theorem rho0_get {N i : Nat} {d : PyData} (h : (rho0 N ds)[i]? = some (some d)) : ds[i]? = some d := by
  unfold rho0 at h
  by_cases hi : i < (ds.map some).length
  · rw [List.getElem?_append_left hi, List.getElem?_map] at h
    cases e : ds[i]? with
    | none => rw [e] at h; cases h
    | some x => rw [e] at h; simp at h; rw [h]
  · rw [List.getElem?_append_right (by omega), List.getElem?_replicate] at h
    split at h <;> cases h
theorem start_get {N : List Str} {i : Nat} {v : V} (h : vs[i]? = some v) : (L2.start N vs)[i]? = some (some v) := by
  unfold L2.start
  have hi : i < vs.length := (List.getElem?_eq_some_iff.mp h).1
  rw [List.getElem?_append_left (by simpa using hi), List.getElem?_map, h]
  rfl
theorem AbL.fps (h : AbL K H o vs ds n) : ∃ fp : Nat → List Addr, (∀ i d, ds[i]? = some d → ∃ v, vs[i]? = some v ∧ Ab K H o v d (fp i)) ∧ ∀ i a, a ∈ fp i → a ∈ n := by
  have h1 : ∀ i : Nat, ∃ l : List Addr, (∀ d, ds[i]? = some d → ∃ v, vs[i]? = some v ∧ Ab K H o v d l) ∧ ∀ a ∈ l, a ∈ n := fun i => by
    cases e : ds[i]? with
    | none => exact ⟨[], (fun d h => by cases h), fun a q => nomatch q⟩
    | some d =>
      obtain ⟨v, l, e1, a, s⟩ := h.get e
      exact ⟨l, (fun d' h => by cases h; exact ⟨v, e1, a⟩), fun a q => s.subset q⟩
  exact ⟨fun i => Classical.choose (h1 i), fun i => (Classical.choose_spec (h1 i)).1, fun i => (Classical.choose_spec (h1 i)).2⟩
end
section
variable {P : Program} {w : World} {K : PySem.W.Frag} {mg : Str → Option Value} {base : Heap} {x qual : Str} {params : Arguments} {body : List Stmt} {scope : Scope} {f : Addr} {fd : FuncData} {N ps : List Str} {k : Nat} {κ : Kd} {ks : List Bool} {sem : FS}
/-- a def's body in its context: what the generated derivations show -/
abbrev BodyOk (P : Program) (w : World) (K : PySem.W.Frag) (mg : Str → Option Value) (base : Heap) (N : List Str) (qual : Str) (scope : Scope) (f : Addr) (k : Nat) (p : Cx → WX → Prop) : Prop :=
  ∀ (cdv : Value) (A : Around) (outer : List PySem.Env) (s : Shared) (H : Hp) (E : XK), RoomG k (A.deeper (envOfC qual scope s.heap.objs.size f cdv)) →
    Takes (cxOf (L2.CX P w) P w K mg base N qual scope f cdv A outer s H E) (fun cls d _ H => E cls d H) → PassesOwn (model P w) (A.deeper (envOfC qual scope s.heap.objs.size f cdv)) (envOfC qual scope s.heap.objs.size f cdv) (cxOf (L2.CX P w) P w K mg base N qual scope f cdv A outer s H E).xe →
    p (cxOf (L2.CX P w) P w K mg base N qual scope f cdv A outer s H E) (fun cls d _ H => E cls d H)
theorem fnP_core {vs : List V} {H : Hp} {Q : VK} {E : XK} (hks : ∀ i, i < ps.length → ks[i]? = some false) (hκ : κ ≠ .B) (hN : ps.length ≤ N.length) (h : spP K ps.length κ (runF N.length sem) vs H Q E) :
    tS K (fun cls d _ H => E cls d H) ks [] κ sem { nx := fun _ H' => Q .non H', rt := Q } (L2.start N vs) H := by
  obtain ⟨hl, ds, n, al, h⟩ := h
  obtain ⟨fp, h1, h2⟩ := al.fps
  have hld := al.len
  have nOwn : ∀ i d, own ks i → (rho0 N.length ds)[i]? = some (some d) → False := fun i d o e => by
    have hi := (List.getElem?_eq_some_iff.mp (rho0_get e)).1
    have := hks i (by omega)
    unfold own at o
    rw [this] at o; cases o
  have eo : EOk K H ks (L2.start N vs) (rho0 N.length ds) fp := ⟨by unfold rho0 L2.start; simp; omega, fun i d e => by
    obtain ⟨v, e1, a⟩ := h1 i d (rho0_get e)
    exact ⟨v, start_get e1, a.any _⟩, fun i d o e => (nOwn i d o e).elim, fun i j d e o _ e1 _ => (nOwn i d o e1).elim⟩
  have nOw : ∀ a, ¬ Ow ks (rho0 N.length ds) fp a := fun a ⟨i, d, o, e, _⟩ => nOwn i d o e
  have same : ∀ {H' : Hp}, Fr (Ow ks (rho0 N.length ds) fp) H H' → Same H H' := fun fr a o e => fr.1 a o e fun z => (nOw a z).elim
  have alN : ∀ a, Al (rho0 N.length ds) fp a → a ∈ n := fun a ⟨i, d, e, q⟩ => h2 i a q
  refine ⟨rho0 N.length ds, fp, eo, (Holds.bind h).mono (fun r hr => ?_) fun c hc σ' H' _ fr => hc H' (same fr)⟩
  obtain ⟨fl, ρ'⟩ := r
  cases fl with
  | nx => exact fun σ' H' fp' st _ => hr .non H' [] (same st.fr) .non (by
      cases κ with
      | B => exact absurd rfl hκ
      | V => exact fun _ q => nomatch q
      | F => exact New.nil)
  | bk => exact hr.elim
  | ct => exact hr.elim
  | rt d => exact fun σ' v H' fp' m st _ ab rc => hr v H' m (same st.fr) ab (by
      cases κ with
      | B => exact absurd rfl hκ
      | V => exact fun a q => ((rc a q).2).imp (alN a) id
      | F => exact ⟨rc.1, fun a q => ((rc.2 a q).2).elim (fun z => (nOw a z).elim) id⟩)
theorem fnP (F : FunD K x qual params body scope [] [] f fd) (S : FnScope N ps scope) (hks : ∀ i, i < ps.length → ks[i]? = some false) (hκ : κ ≠ .B) (hN : ps.length ≤ N.length)
    (hb : BodyOk P w K mg base N qual scope f k fun X W => DSs X W ks [] κ body sem) : FnG P w K mg base (L2.CX P w) (k + 1) f fd ps (spP K ps.length κ (runF N.length sem)) :=
  fnG_ok F S (fun vs H Q E h => h.1) fun cdv A outer s H vs Q E hr h => ⟨_, hb cdv A outer s H E hr (takes_of rfl rfl rfl rfl) (passes_of rfl), fnP_core hks hκ hN h⟩
theorem fnM {p0 : Str} (F : FunD K x qual params body scope [] [] f fd) (S : FnScope N (p0 :: ps) scope) (hk0 : ks[0]? = some true) (hks : ∀ i, i < ps.length → ks[i + 1]? = some false) (hκ : κ ≠ .B) (hN : ps.length + 1 ≤ N.length)
    (hb : BodyOk P w K mg base N qual scope f k fun X W => DSs X W ks [0] κ body sem) : FnG P w K mg base (L2.CX P w) (k + 1) f fd (p0 :: ps) (spM K (ps.length + 1) κ (runM N.length sem)) := by
  refine fnG_ok F S (fun vs H Q E h => h.1) fun cdv A outer s H vs Q E hr ⟨hl, v0, vr, d0, ds, m0, n, hvs, a0, nd0, al, hd, h⟩ => ⟨_, hb cdv A outer s H E hr (takes_of rfl rfl rfl rfl) (passes_of rfl), ?_⟩
  subst hvs
  obtain ⟨fp1, h1, h2⟩ := al.fps
  have hld := al.len
  let fp : Nat → List Addr := fun i => match i with | 0 => m0 | i + 1 => fp1 i
  have own0 : ∀ i d, own ks i → (rho0 N.length (d0 :: ds))[i]? = some (some d) → i = 0 := fun i d o e => by
    cases i with
    | zero => rfl
    | succ i =>
      have hi := (List.getElem?_eq_some_iff.mp (rho0_get e)).1
      have := hks i (by simp at hi hl; omega)
      unfold own at o
      rw [this] at o; cases o
  have eo : EOk K H ks (L2.start N (v0 :: vr)) (rho0 N.length (d0 :: ds)) fp := by
    refine ⟨by unfold rho0 L2.start; simp; omega, fun i d e => ?_, fun i d o e => ?_, fun i j d e o hne e1 e2 a q => ?_⟩
    · cases i with
      | zero =>
        have := rho0_get e
        cases this
        exact ⟨v0, start_get rfl, a0.any _⟩
      | succ i =>
        obtain ⟨v, e1, a⟩ := h1 i d (by simpa using rho0_get e)
        exact ⟨v, start_get (by simpa using e1), a.any _⟩
    · have := own0 i d o e
      subst this
      exact nd0
    · have := own0 i d o e1
      subst this
      cases j with
      | zero => exact absurd rfl hne
      | succ j => exact fun z => hd a (h2 j a z) q
  have ow0 : ∀ a, Ow ks (rho0 N.length (d0 :: ds)) fp a → a ∈ m0 := fun a ⟨i, d, o, e, q⟩ => by
    have := own0 i d o e
    subst this
    exact q
  have frM : ∀ {H' : Hp}, Fr (Ow ks (rho0 N.length (d0 :: ds)) fp) H H' → Fr (fun a => a ∈ m0) H H' := fun fr => ⟨fun a o e z => fr.1 a o e fun q => z (ow0 a q), fr.2⟩
  have alN : ∀ a, Al (rho0 N.length (d0 :: ds)) fp a → a ∈ n ∨ a ∈ m0 := fun a ⟨i, d, e, q⟩ => by
    cases i with
    | zero => exact .inr q
    | succ i => exact .inl (h2 i a q)
  have done : ∀ {fl : Fl} {d : PyData} {ρ' : PV.Env} {σ' : L2.St} {H' : Hp} {fp' : Nat → List Addr} {v : V} {m : List Addr}, endV fl = .ok d →
      Holds (endV fl >>= fun v => slot 0 ρ' >>= fun d => R.ok (v, d)) (fun r => ∀ v H' m0' l, Fr (fun a => a ∈ m0) H H' → Ab K H' true v0 r.2 m0' → m0'.Nodup → (∀ a ∈ m0', a ∈ m0 ∨ H a = none) → Ab K H' κ.ow v r.1 l →
        MC κ H n m0 m0' l → Q v H') (fun c => ∀ H', Fr (fun a => a ∈ m0) H H' → EEx K E c H') →
      Step K H H' ks σ' (rho0 N.length (d0 :: ds)) ρ' fp fp' → Keep [0] (L2.start N (v0 :: vr)) σ' → Ab K H' κ.ow v d m → RCe κ H ks (rho0 N.length (d0 :: ds)) fp ρ' fp' m → Q v H' := by
    intro fl d ρ' σ' H' fp' v m ed hh st kp ab rc
    rw [ed] at hh
    obtain ⟨d1, e1, hh⟩ := slot_ok (g := fun d2 => R.ok (d, d2)) hh
    obtain ⟨u, eu, a1, nd1⟩ := st.env.own hk0 e1
    have := kp.2 0 (List.mem_singleton.mpr rfl)
    rw [eu] at this
    have e0 : (L2.start N (v0 :: vr))[0]? = some (some v0) := start_get rfl
    rw [e0] at this
    cases this
    refine hh v H' (fp' 0) m (frM st.fr) a1 nd1 (fun a q => (st.subo a ⟨0, d1, hk0, e1, q⟩).imp (ow0 a) id) ab ?_
    cases κ with
    | B => exact absurd rfl hκ
    | V => exact fun a q => ⟨fun z => (rc a q).1 ⟨0, d1, hk0, e1, z⟩, (rc a q).2.elim (fun z => (alN a z).imp id .inl) fun z => .inr (.inr z)⟩
    | F => exact ⟨rc.1, fun a q => ⟨fun z => (rc.2 a q).1 ⟨0, d1, e1, z⟩, ((rc.2 a q).2).imp (ow0 a) id⟩⟩
  refine ⟨rho0 N.length (d0 :: ds), fp, eo, (Holds.bind h).mono (fun r hr => ?_) fun c hc σ' H' _ fr => hc H' (frM fr)⟩
  obtain ⟨fl, ρ'⟩ := r
  cases fl with
  | nx => exact fun σ' H' fp' st kp => done (fl := .nx) (v := .non) (m := []) rfl hr st kp .non (RCe.nil _)
  | bk => exact hr.elim
  | ct => exact hr.elim
  | rt d => exact fun σ' v H' fp' m st kp ab rc => done (fl := .rt d) rfl hr st kp ab rc
theorem FnG.never {m : List PyData → R PyData} (h : ∀ ds, m ds = .no) : FnG P w K mg base (L2.CX P w) k f fd ps (spP K ps.length κ m) := ⟨fun vs H Q E q => q.1, fun A outer s H args us vs Q E hr he hb hv ⟨_, ds, n, _, q⟩ => by rw [h] at q; exact q.elim⟩
theorem FnG.neverM {m : PyData → List PyData → R (PyData × PyData)} (h : ∀ d ds, m d ds = .no) : FnG P w K mg base (L2.CX P w) k f fd ps (spM K ps.length κ m) := ⟨fun vs H Q E q => q.1, fun A outer s H args us vs Q E hr he hb hv ⟨_, v0, vr, d0, ds, m0, n, _, _, _, _, _, q⟩ => by rw [h] at q; exact q.elim⟩
end
end PV

set_option Elab.async false
set_option linter.all false
set_option maxRecDepth 100000
set_option maxHeartbeats 1000000
set_option autoImplicit false
/-! PV, part m: operations on data. -/
namespace PV
open PySem PySem.Spec PyProof.Rows L2
section
variable {X : Cx} {K : PySem.W.Frag}
theorem Op2.or {r r' : R2} {f f' : PyData → PyData → Option PyData} (h : Op2 K r f) (h' : Op2 K r' f') : Op2 K (fun x y H Q => r x y H Q ∨ r' x y H Q) (fun a b => match f a b with | some d => some d | none => f' a b) :=
  ⟨fun H x y a b m n d Q a1 a2 e q => by
    cases ef : f a b with
    | some d' => simp only [ef] at e; cases e; exact .inl (h.run H x y a b m n _ Q a1 a2 ef q)
    | none => simp only [ef] at e; exact .inr (h'.run H x y a b m n _ Q a1 a2 e q)⟩
theorem OpB.or {r r' : R2} {f f' : PyData → PyData → Option Bool} (h : OpB K r f) (h' : OpB K r' f') : OpB K (fun x y H Q => r x y H Q ∨ r' x y H Q) (fun a b => match f a b with | some d => some d | none => f' a b) :=
  ⟨fun H x y a b m n d Q a1 a2 e q => by
    cases ef : f a b with
    | some d' => simp only [ef] at e; cases e; exact .inl (h.run H x y a b m n _ Q a1 a2 ef q)
    | none => simp only [ef] at e; exact .inr (h'.run H x y a b m n _ Q a1 a2 e q)⟩
theorem OpN.or {r r' : List V → Hp → VK → Prop} {f f' : List PyData → Option PyData} (h : OpN K r f) (h' : OpN K r' f') : OpN K (fun xs H Q => r xs H Q ∨ r' xs H Q) (fun a => match f a with | some d => some d | none => f' a) :=
  ⟨fun H x a m d Q a1 e q => by
    cases ef : f a with
    | some d' => simp only [ef] at e; cases e; exact .inl (h.run H x a m _ Q a1 ef q)
    | none => simp only [ef] at e; exact .inr (h'.run H x a m _ Q a1 e q)⟩
def iOp (c : Int → Int → Bool) (g : Int → Int → Int) : PyData → PyData → Option PyData
  | .int i, .int j => if c i j then some (.int (g i j)) else none
  | _, _ => none
def iCmp (g : Int → Int → Bool) : PyData → PyData → Option Bool
  | .int i, .int j => some (g i j)
  | _, _ => none
theorem opI0 {g : Int → Int → Int} : Op2 K (rI0 fun i j => .int (g i j)) (iOp (fun _ _ => true) g) := ⟨fun H x y a b m n d Q a1 a2 e q => by
  cases a <;> simp only [iOp, reduceCtorEq] at e
  cases b <;> simp only [iOp, reduceCtorEq, if_true, Option.some.injEq] at e
  obtain ⟨rfl, _⟩ := a1.eq_int
  obtain ⟨rfl, _⟩ := a2.eq_int
  subst e
  exact ⟨_, _, rfl, rfl, q.now (.int _)⟩⟩
theorem opI {C : Int → Int → Prop} {c : Int → Int → Bool} {g : Int → Int → Int} (hc : ∀ i j, c i j = true → C i j) : Op2 K (rI C fun i j => .int (g i j)) (iOp c g) := ⟨fun H x y a b m n d Q a1 a2 e q => by
  cases a <;> simp only [iOp, reduceCtorEq] at e
  cases b <;> simp only [iOp, reduceCtorEq] at e
  split at e
  · rename_i hh
    cases e
    obtain ⟨rfl, _⟩ := a1.eq_int
    obtain ⟨rfl, _⟩ := a2.eq_int
    exact ⟨_, _, rfl, rfl, hc _ _ hh, q.now (.int _)⟩
  · cases e⟩
theorem cmpI {g : Int → Int → Bool} : OpB K (rI0 fun i j => .bl (g i j)) (iCmp g) := ⟨fun H x y a b m n d Q a1 a2 e q => by
  cases a <;> simp only [iCmp, reduceCtorEq] at e
  cases b <;> simp only [iCmp, reduceCtorEq, Option.some.injEq] at e
  obtain ⟨rfl, _⟩ := a1.eq_int
  obtain ⟨rfl, _⟩ := a2.eq_int
  subst e
  exact ⟨_, _, rfl, rfl, q⟩⟩
/-! ### sums of sequences -/
def sCat : PyData → PyData → Option PyData
  | .str a, .str b => if a.length + b.length ≤ sizeLine then some (.str (a ++ b)) else none
  | _, _ => none
theorem op_sCat : Op2 K (fun x y H Q => ∃ i j, x = .str i ∧ y = .str j ∧ i.length + j.length ≤ sizeLine ∧ Q (.str (i ++ j)) H) sCat := ⟨fun H x y a b m n d Q a1 a2 e q => by
  cases a <;> simp only [sCat, reduceCtorEq] at e
  cases b <;> simp only [sCat, reduceCtorEq] at e
  split at e
  · rename_i hh
    cases e
    obtain ⟨rfl, _⟩ := a1.eq_str
    obtain ⟨rfl, _⟩ := a2.eq_str
    exact ⟨_, _, rfl, rfl, hh, q.now (.str _)⟩
  · cases e⟩
theorem flatL_append {xs ys : List PyData} (h : flatL xs = true) (h' : flatL ys = true) : flatL (xs ++ ys) = true := flatL_iff.mpr fun d q => (List.mem_append.mp q).elim (flatL_iff.mp h d) (flatL_iff.mp h' d)
theorem AbL.catF {H : Hp} {o o' o2 : Bool} {xs ys : List V} {ds es : List PyData} {m n : List Addr} (a : AbL K H o xs ds m) (b : AbL K H o' ys es n) (f : flatL ds = true) (g : flatL es = true) : AbL K H o2 (xs ++ ys) (ds ++ es) [] := by
  have h1 := a.flat f
  have h2 := b.flat g
  subst h1 h2
  exact (a.any o2).append (b.any o2)
def lCat : PyData → PyData → Option PyData
  | .list xs, .list ys => if flatL xs && flatL ys && decide (xs.length + ys.length ≤ sizeLine) then some (.list (xs ++ ys)) else none
  | _, _ => none
theorem op_lCat : Op2 K rCat lCat := ⟨fun H x y a b m n d Q a1 a2 e q => by
  cases a <;> simp only [lCat, reduceCtorEq] at e
  cases b <;> simp only [lCat, reduceCtorEq] at e
  split at e
  · rename_i hh
    cases e
    simp only [Bool.and_eq_true, decide_eq_true_eq] at hh
    obtain ⟨p1, v1, n1, rfl, h1, l1, _⟩ := a1.ownL
    obtain ⟨p2, v2, n2, rfl, h2, l2, _⟩ := a2.ownL
    exact ⟨p1, p2, v1, v2, rfl, rfl, h1, h2, by rw [l1.len, l2.len]; exact hh.2, q.lst (l1.catF l2 hh.1.1 hh.1.2)⟩
  · cases e⟩
def tCat : PyData → PyData → Option PyData
  | .tuple xs, .tuple ys => if flatL xs && flatL ys && decide (xs.length + ys.length ≤ sizeLine) then some (.tuple (xs ++ ys)) else none
  | _, _ => none
theorem op_tCat : Op2 K (rCatA K) tCat := ⟨fun H x y a b m n d Q a1 a2 e q => by
  cases a <;> simp only [tCat, reduceCtorEq] at e
  cases b <;> simp only [tCat, reduceCtorEq] at e
  split at e
  · rename_i hh
    cases e
    simp only [Bool.and_eq_true, decide_eq_true_eq] at hh
    obtain ⟨p1, v1, rfl, h1, l1⟩ := a1.tuple
    obtain ⟨p2, v2, rfl, h2, l2⟩ := a2.tuple
    have e1 := l1.flat hh.1.1
    have e2 := l2.flat hh.1.2
    subst e1 e2
    refine ⟨p1, p2, v1, v2, rfl, rfl, h1, h2, by rw [l1.len, l2.len]; exact hh.2, fun z => ?_, fun _ z => ?_, fun _ _ => q.tup (l1.catF l2 hh.1.1 hh.1.2)⟩
    · subst z
      have := l1.len
      have e : _ = [] := List.eq_nil_of_length_eq_zero this.symm
      subst e
      exact q.now (.tup h2 (l2.any _))
    · subst z
      have := l2.len
      have e : _ = [] := List.eq_nil_of_length_eq_zero this.symm
      subst e
      rw [List.append_nil] at q
      exact q.now (.tup h1 (l1.any _))
  · cases e⟩
def dAdd : PyData → PyData → Option PyData := fun a b => match iOp (fun _ _ => true) (fun i j => i + j) a b with
  | some d => some d
  | none => match sCat a b with
    | some d => some d
    | none => match lCat a b with
      | some d => some d
      | none => tCat a b
theorem o_add : ∃ r, OpR X (binaryOp .Add) r ∧ Op2 X.K r dAdd := ⟨_, (op_add).or ((op_add_str).or ((op_cat).or op_catA)), Op2.or opI0 (Op2.or op_sCat (Op2.or op_lCat op_tCat))⟩
theorem o_iadd : ∃ r, OpR X (inplaceOp .Add) r ∧ Op2 X.K r (fun a b => match iOp (fun _ _ => true) (fun i j => i + j) a b with | some d => some d | none => sCat a b) := ⟨_, (iop_add).or iop_add_str, Op2.or opI0 op_sCat⟩
def dSub := iOp (fun _ _ => true) fun i j => i - j
theorem o_sub : ∃ r, OpR X (binaryOp .Sub) r ∧ Op2 X.K r dSub := ⟨_, op_sub, opI0⟩
def cMul (i j : Int) : Bool := decide (i.natAbs.log2 + j.natAbs.log2 < 1000000)
def iMul := iOp cMul fun i j => i * j
theorem op_iMul : Op2 K (rI CMulW fun i j => .int (i * j)) iMul := opI fun i j h => by simpa [cMul, CMulW] using h
def lMul : PyData → PyData → Option PyData
  | .list xs, .int k => if flatL xs && decide (-(2 ^ 63) ≤ k) && decide (k < 2 ^ 63) && decide (xs.length * k.toNat ≤ sizeLine) then some (.list (List.replicate k.toNat xs).flatten) else none
  | _, _ => none
theorem AbL.rep {H : Hp} {o : Bool} {xs : List V} {ds : List PyData} (a : AbL K H o xs ds []) : ∀ k : Nat, AbL K H o (List.replicate k xs).flatten (List.replicate k ds).flatten []
  | 0 => .nil
  | k + 1 => by
    rw [List.replicate_succ, List.replicate_succ, List.flatten_cons, List.flatten_cons]
    have := a.append (a.rep k)
    exact this
theorem op_lMul : Op2 K rRep lMul := ⟨fun H x y a b m n d Q a1 a2 e q => by
  cases a <;> simp only [lMul, reduceCtorEq] at e
  cases b <;> simp only [lMul, reduceCtorEq] at e
  split at e
  · rename_i hh
    cases e
    simp only [Bool.and_eq_true, decide_eq_true_eq] at hh
    obtain ⟨p1, v1, n1, rfl, h1, l1, _⟩ := a1.ownL
    obtain ⟨rfl, _⟩ := a2.eq_int
    have e1 := l1.flat hh.1.1.1
    subst e1
    exact ⟨p1, _, v1, rfl, rfl, h1, hh.1.1.2, hh.1.2, by rw [l1.len]; exact hh.2, q.lst ((l1.any true).rep _)⟩
  · cases e⟩
def tMul : PyData → PyData → Option PyData
  | .tuple xs, .int k => if flatL xs && !xs.isEmpty && decide (2 ≤ k) && decide (k ≤ 1000) && decide (xs.length ≤ 1000) then some (.tuple (List.replicate k.toNat xs).flatten) else none
  | _, _ => none
theorem op_tMul : Op2 K (rRepT K) tMul := ⟨fun H x y a b m n d Q a1 a2 e q => by
  cases a <;> simp only [tMul, reduceCtorEq] at e
  cases b <;> simp only [tMul, reduceCtorEq] at e
  split at e
  · rename_i hh
    cases e
    simp only [Bool.and_eq_true, decide_eq_true_eq, Bool.not_eq_true', List.isEmpty_eq_false_iff] at hh
    obtain ⟨p1, v1, rfl, h1, l1⟩ := a1.tuple
    obtain ⟨rfl, _⟩ := a2.eq_int
    have e1 := l1.flat hh.1.1.1.1
    subst e1
    refine ⟨p1, _, v1, rfl, rfl, h1, fun z => hh.1.1.1.2 ?_, hh.1.1.2, hh.1.2, by rw [l1.len]; exact hh.2, q.tup ((l1.any true).rep _)⟩
    subst z
    exact List.eq_nil_of_length_eq_zero l1.len.symm
  · cases e⟩
def dMul : PyData → PyData → Option PyData := fun a b => match iMul a b with
  | some d => some d
  | none => match lMul a b with
    | some d => some d
    | none => tMul a b
theorem o_mul : ∃ r, OpR X (binaryOp .Mult) r ∧ Op2 X.K r dMul := ⟨_, (op_mulW).or ((op_rep).or op_repT), Op2.or op_iMul (Op2.or op_lMul op_tMul)⟩
def dDiv := iOp (fun _ j => decide (0 < j) && decide (j.natAbs.log2 < 9000)) fun i j => i / j
theorem o_div : ∃ r, OpR X (binaryOp .FloorDiv) r ∧ Op2 X.K r dDiv := ⟨_, op_fdivW, opI fun i j h => by simpa [CDivW] using h⟩
def dMod := iOp (fun _ j => decide (0 < j)) fun i j => i % j
theorem o_mod : ∃ r, OpR X (binaryOp .Mod) r ∧ Op2 X.K r dMod := ⟨_, op_mod, opI fun i j h => of_decide_eq_true h⟩
/-! ### comparisons -/
def sCmp (g : Str → Str → Bool) : PyData → PyData → Option Bool
  | .str a, .str b => some (g a b)
  | _, _ => none
theorem op_sCmp {g : Str → Str → Bool} : OpB K (fun x y H Q => ∃ i j, x = .str i ∧ y = .str j ∧ Q (.bl (g i j)) H) (sCmp g) := ⟨fun H x y a b m n d Q a1 a2 e q => by
  cases a <;> simp only [sCmp, reduceCtorEq] at e
  cases b <;> simp only [sCmp, reduceCtorEq, Option.some.injEq] at e
  obtain ⟨rfl, _⟩ := a1.eq_str
  obtain ⟨rfl, _⟩ := a2.eq_str
  subst e
  exact ⟨_, _, rfl, rfl, q⟩⟩
def dLt : PyData → PyData → Option Bool := fun a b => match iCmp (fun i j => decide (i < j)) a b with | some d => some d | none => sCmp (fun i j => decide (i.cps.toList < j.cps.toList)) a b
def dLe : PyData → PyData → Option Bool := fun a b => match iCmp (fun i j => decide (i ≤ j)) a b with | some d => some d | none => sCmp (fun i j => !decide (j.cps.toList < i.cps.toList)) a b
def dGt : PyData → PyData → Option Bool := fun a b => match iCmp (fun i j => decide (j < i)) a b with | some d => some d | none => sCmp (fun i j => decide (j.cps.toList < i.cps.toList)) a b
def dGe : PyData → PyData → Option Bool := fun a b => match iCmp (fun i j => decide (j ≤ i)) a b with | some d => some d | none => sCmp (fun i j => !decide (i.cps.toList < j.cps.toList)) a b
theorem o_lt : ∃ r, OpR X (compareOp .Lt) r ∧ OpB X.K r dLt := ⟨_, (op_lt).or op_lt_str, OpB.or cmpI op_sCmp⟩
theorem o_le : ∃ r, OpR X (compareOp .LtE) r ∧ OpB X.K r dLe := ⟨_, (op_le).or op_le_str, OpB.or cmpI op_sCmp⟩
theorem o_gt : ∃ r, OpR X (compareOp .Gt) r ∧ OpB X.K r dGt := ⟨_, (op_gt).or op_gt_str, OpB.or cmpI op_sCmp⟩
theorem o_ge : ∃ r, OpR X (compareOp .GtE) r ∧ OpB X.K r dGe := ⟨_, (op_ge).or op_ge_str, OpB.or cmpI op_sCmp⟩
def dEq (a b : PyData) : Option Bool := if SeqAt.shaped a && SeqAt.shaped b then some (PyData.eqv a b) else none
def dNe (a b : PyData) : Option Bool := if SeqAt.shaped a && SeqAt.shaped b then some (!PyData.eqv a b) else none
theorem o_eq (hu : X.A.units + 64 < cLine) : ∃ r, OpR X (compareOp .Eq) r ∧ OpB X.K r dEq := ⟨_, op_eqD hu, ⟨fun H x y a b m n d Q a1 a2 e q => by
  unfold dEq at e
  split at e
  · rename_i h
    cases e
    rw [Bool.and_eq_true] at h
    exact ⟨a, b, a1.dp h.1, a2.dp h.2, h.1, h.2, q⟩
  · cases e⟩⟩
theorem o_ne (hu : X.A.units + 64 < cLine) : ∃ r, OpR X (compareOp .NotEq) r ∧ OpB X.K r dNe := ⟨_, op_neD hu, ⟨fun H x y a b m n d Q a1 a2 e q => by
  unfold dNe at e
  split at e
  · rename_i h
    cases e
    rw [Bool.and_eq_true] at h
    exact ⟨a, b, a1.dp h.1, a2.dp h.2, h.1, h.2, q⟩
  · cases e⟩⟩
def lIn (neg : Bool) : PyData → PyData → Option Bool
  | d, .list ds => if SeqAt.shaped d && SeqAt.shaped (.list ds) then some (if neg then !(ds.any fun z => PyData.eqv z d) else ds.any fun z => PyData.eqv z d) else none
  | _, _ => none
theorem op_lIn {neg : Bool} : OpB K (if neg then rNotInD K else rInD K) (lIn neg) := ⟨fun H x y a b m n d Q a1 a2 e q => by
  cases b <;> simp only [lIn, reduceCtorEq] at e
  split at e
  · rename_i h
    cases e
    rw [Bool.and_eq_true] at h
    cases neg with
    | true => exact ⟨a, _, a1.dp h.1, a2.dp h.2, h.1, h.2, q⟩
    | false => exact ⟨a, _, a1.dp h.1, a2.dp h.2, h.1, h.2, q⟩
  · cases e⟩
def cIn (neg : Bool) : PyData → PyData → Option Bool
  | .str c, .str z => if c.cps.size = 1 then some (if neg then !decide (c.cps.getD 0 0 ∈ z.cps.toList) else decide (c.cps.getD 0 0 ∈ z.cps.toList)) else none
  | _, _ => none
theorem op_cIn {neg : Bool} : OpB K (fun x y H Q => ∃ (c : Nat) (z : Str), x = .str ⟨#[c]⟩ ∧ y = .str z ∧ Q (.bl (if neg then !decide (c ∈ z.cps.toList) else decide (c ∈ z.cps.toList))) H) (cIn neg) := ⟨fun H x y a b m n d Q a1 a2 e q => by
  cases a <;> simp only [cIn, reduceCtorEq] at e
  cases b <;> simp only [cIn, reduceCtorEq] at e
  split at e
  · rename_i c z h
    cases e
    obtain ⟨rfl, _⟩ := a1.eq_str
    obtain ⟨rfl, _⟩ := a2.eq_str
    obtain ⟨⟨l⟩⟩ := c
    match l, h, q with
    | [k], _, q => exact ⟨k, _, rfl, rfl, q⟩
  · cases e⟩
def fvD : PyData → Bool
  | .none => true
  | .bool _ => true
  | .int _ => true
  | .str _ => true
  | _ => false
def fvEq : PyData → PyData → Bool
  | .none, .none => true
  | .bool a, .bool b => a == b
  | .int a, .int b => a == b
  | .str a, .str b => a == b
  | .bool a, .int b => (if a then 1 else 0) == b
  | .int a, .bool b => a == (if b then 1 else 0)
  | _, _ => false
end
end PV

set_option Elab.async false
set_option linter.all false
set_option maxRecDepth 100000
set_option maxHeartbeats 1000000
set_option autoImplicit false
/-! PV, part n: built-in functions and methods on data. -/
namespace PV
open PySem PySem.Spec PyProof.Rows L2
section
variable {X : Cx} {K : PySem.W.Frag}
theorem AbL.nilL {H : Hp} {o : Bool} {vs : List V} {m : List Addr} (h : AbL K H o vs [] m) : vs = [] := by cases h; rfl
def dIn (neg : Bool) : PyData → PyData → Option Bool := fun a b => match lIn neg a b with | some d => some d | none => cIn neg a b
theorem o_in (hu : X.A.units + 65 < cLine) : ∃ r, OpR X (compareOp .In) r ∧ OpB X.K r (dIn false) := ⟨_, (op_inD hu).or op_in_sign, OpB.or (op_lIn (neg := false)) (op_cIn (neg := false))⟩
theorem o_notIn (hu : X.A.units + 65 < cLine) : ∃ r, OpR X (compareOp .NotIn) r ∧ OpB X.K r (dIn true) := ⟨_, (op_notInD hu).or op_notIn_sign, OpB.or (op_lIn (neg := true)) (op_cIn (neg := true))⟩
/-- x is None -/
def dIsN (neg : Bool) (a b : PyData) : Option Bool := match b with
  | .none => some (match a with | .none => !neg | _ => neg)
  | _ => none
theorem op_dIsN {neg : Bool} : OpB K (fun x y H Q => y = .non ∧ Q (.bl (if neg then !decide (x = .non) else decide (x = .non))) H) (dIsN neg) := ⟨fun H x y a b m n d Q a1 a2 e q => by
  cases b <;> simp only [dIsN, reduceCtorEq, Option.some.injEq] at e
  obtain ⟨rfl, _⟩ := a2.eq_non
  refine ⟨rfl, ?_⟩
  subst e
  have hd : decide (x = V.non) = (match a with | .none => true | _ => false) := by
    cases a1 <;> simp [frzD, adrD]
  rw [hd]
  cases neg <;> cases a <;> exact q⟩
def bIs (neg : Bool) : PyData → PyData → Option Bool
  | .bool a, .bool b => some (if neg then !decide (a = b) else decide (a = b))
  | _, _ => none
theorem op_bIs {neg : Bool} : OpB K (fun x y H Q => ∃ a b, x = .bl a ∧ y = .bl b ∧ Q (.bl (if neg then !decide (a = b) else decide (a = b))) H) (bIs neg) := ⟨fun H x y a b m n d Q a1 a2 e q => by
  cases a <;> simp only [bIs, reduceCtorEq] at e
  cases b <;> simp only [bIs, reduceCtorEq, Option.some.injEq] at e
  obtain ⟨rfl, _⟩ := a1.eq_bl
  obtain ⟨rfl, _⟩ := a2.eq_bl
  subst e
  exact ⟨_, _, rfl, rfl, q⟩⟩
def dIs (neg : Bool) : PyData → PyData → Option Bool := fun a b => match dIsN neg a b with | some d => some d | none => bIs neg a b
theorem o_is : ∃ r, OpR X (compareOp .Is) r ∧ OpB X.K r (dIs false) := ⟨_, (op_isN).or op_is_bl, OpB.or (op_dIsN (neg := false)) (op_bIs (neg := false))⟩
theorem o_isnot : ∃ r, OpR X (compareOp .IsNot) r ∧ OpB X.K r (dIs true) := ⟨_, (op_notN).or op_isnot_bl, OpB.or (op_dIsN (neg := true)) (op_bIs (neg := true))⟩
/-! ### truth -/
def dTru : PyData → Option Bool
  | .none => some false
  | .bool b => some b
  | .int i => some (i != 0)
  | .str x => if x.length ≤ sizeLine then some ((x.length : Int) != 0) else none
  | .list ds => some (!ds.isEmpty)
  | .tuple ds => some (!ds.isEmpty)
  | .dict _ => none
theorem AbL.isE {H : Hp} {o : Bool} {vs : List V} {ds : List PyData} {m : List Addr} (h : AbL K H o vs ds m) : vs.isEmpty = ds.isEmpty := by cases h <;> rfl
theorem o_tru : OpT K dTru := ⟨fun H x a m d a1 e => by
  cases a <;> simp only [dTru, reduceCtorEq, Option.some.injEq] at e
  · obtain ⟨rfl, _⟩ := a1.eq_non; exact e.symm
  · obtain ⟨rfl, _⟩ := a1.eq_bl; exact e.symm
  · obtain ⟨rfl, _⟩ := a1.eq_int; exact e.symm
  · obtain ⟨rfl, _⟩ := a1.eq_str
    split at e
    · rename_i h; cases e; exact ⟨h, rfl⟩
    · cases e
  · obtain ⟨p, vs, n, rfl, hp, al, _⟩ := a1.ownL
    exact .inl ⟨vs, .inl (.inl hp), by rw [al.isE]; exact e.symm⟩
  · obtain ⟨p, vs, rfl, hp, al⟩ := a1.tuple
    exact .inr (.inl ⟨vs, hp, by rw [al.isE]; exact e.symm⟩)⟩
/-! ### functions -/
def dLen : List PyData → Option PyData
  | [.str x] => if x.length ≤ sizeLine then some (.int x.length) else none
  | [.list ds] => some (.int ds.length)
  | [.tuple ds] => some (.int ds.length)
  | _ => none
theorem o_len : OpN K (fun xs H Q => ∃ x n, xs = [x] ∧ LenV K x H n ∧ Q (.int n) H) dLen := ⟨fun H x a m d Q a1 e q => by
  unfold dLen at e
  split at e
  · split at e
    · rename_i h
      cases e
      obtain ⟨v, rfl, a2⟩ := a1.one
      obtain ⟨rfl, _⟩ := a2.eq_str
      exact ⟨_, _, rfl, ⟨h, rfl⟩, q.now (.int _)⟩
    · cases e
  · cases e
    obtain ⟨v, rfl, a2⟩ := a1.one
    obtain ⟨p, vs, n, rfl, hp, al, _⟩ := a2.ownL
    rw [← al.len] at q
    exact ⟨_, _, rfl, .inl ⟨vs, .inl (.inl hp), rfl⟩, q.now (.int _)⟩
  · cases e
    obtain ⟨v, rfl, a2⟩ := a1.one
    obtain ⟨p, vs, rfl, hp, al⟩ := a2.tuple
    rw [← al.len] at q
    exact ⟨_, _, rfl, .inr ⟨vs, hp, rfl⟩, q.now (.int _)⟩
  · cases e⟩
def dAbs : List PyData → Option PyData
  | [.int i] => some (.int (if i < 0 then -i else i))
  | _ => none
theorem o_abs : OpN K (fun xs H Q => ∃ i, xs = [.int i] ∧ Q (.int (if i < 0 then -i else i)) H) dAbs := ⟨fun H x a m d Q a1 e q => by
  unfold dAbs at e
  split at e
  · cases e
    obtain ⟨v, rfl, a2⟩ := a1.one
    obtain ⟨rfl, _⟩ := a2.eq_int
    exact ⟨_, rfl, q.now (.int _)⟩
  · cases e⟩
def dInt : List PyData → Option PyData
  | [.int i] => some (.int i)
  | [.bool b] => some (.int (if b then 1 else 0))
  | [.str x] => if x.length ≤ 640 then (PySem.intText? x).map .int else none
  | _ => none
theorem o_int : ∃ r, CallR X (.type "int") r ∧ OpN X.K r dInt := ⟨_, (call_int1).or call_int_str, ⟨fun H x a m d Q a1 e q => by
  unfold dInt at e
  split at e
  · cases e
    obtain ⟨v, rfl, a2⟩ := a1.one
    obtain ⟨rfl, _⟩ := a2.eq_int
    exact .inl (.inl ⟨_, rfl, q.now (.int _)⟩)
  · cases e
    obtain ⟨v, rfl, a2⟩ := a1.one
    obtain ⟨rfl, _⟩ := a2.eq_bl
    exact .inl (.inr ⟨_, rfl, q.now (.int _)⟩)
  · split at e
    · rename_i h
      obtain ⟨n, e1, rfl⟩ := Option.map_eq_some_iff.mp e
      obtain ⟨v, rfl, a2⟩ := a1.one
      obtain ⟨rfl, _⟩ := a2.eq_str
      exact .inr ⟨_, n, rfl, e1, h, q.now (.int _)⟩
    · cases e
  · cases e⟩⟩
def dStr : List PyData → Option PyData
  | [.int i] => if i.natAbs.log2 < 1920 then some (.str (toString i)) else none
  | [.str x] => some (.str x)
  | _ => none
theorem o_str : ∃ r, CallR X (.type "str") r ∧ OpN X.K r dStr := ⟨_, (call_str_int).or SkE.call_str_str, ⟨fun H x a m d Q a1 e q => by
  unfold dStr at e
  split at e
  · split at e
    · rename_i h
      cases e
      obtain ⟨v, rfl, a2⟩ := a1.one
      obtain ⟨rfl, _⟩ := a2.eq_int
      exact .inl ⟨_, rfl, h, q.now (.str _)⟩
    · cases e
  · cases e
    obtain ⟨v, rfl, a2⟩ := a1.one
    obtain ⟨rfl, _⟩ := a2.eq_str
    exact .inr ⟨_, rfl, q.now (.str _)⟩
  · cases e⟩⟩
/-! ### all, any, sum, .. of a list -/
def asBools : List PyData → Option (List Bool)
  | [] => some []
  | .bool b :: ds => (asBools ds).map (b :: ·)
  | _ => none
def asInts : List PyData → Option (List Int)
  | [] => some []
  | .int b :: ds => (asInts ds).map (b :: ·)
  | _ => none
def asStrs : List PyData → Option (List Str)
  | [] => some []
  | .str b :: ds => (asStrs ds).map (b :: ·)
  | _ => none
theorem AbL.bools {H : Hp} {o : Bool} : ∀ {vs : List V} {ds : List PyData} {m : List Addr} {bs : List Bool}, AbL K H o vs ds m → asBools ds = some bs → vs = bs.map V.bl
  | [], ds, m, bs, h, e => by cases h; cases e; rfl
  | v :: vs, ds, m, bs, h, e => by
    cases h with
    | @cons _ _ d es m1 m2 h1 h2 =>
      cases d <;> simp only [asBools, reduceCtorEq] at e
      obtain ⟨cs, e1, rfl⟩ := Option.map_eq_some_iff.mp e
      obtain ⟨rfl, _⟩ := h1.eq_bl
      rw [AbL.bools h2 e1]; rfl
theorem AbL.ints {H : Hp} {o : Bool} : ∀ {vs : List V} {ds : List PyData} {m : List Addr} {bs : List Int}, AbL K H o vs ds m → asInts ds = some bs → vs = bs.map V.int
  | [], ds, m, bs, h, e => by cases h; cases e; rfl
  | v :: vs, ds, m, bs, h, e => by
    cases h with
    | @cons _ _ d es m1 m2 h1 h2 =>
      cases d <;> simp only [asInts, reduceCtorEq] at e
      obtain ⟨cs, e1, rfl⟩ := Option.map_eq_some_iff.mp e
      obtain ⟨rfl, _⟩ := h1.eq_int
      rw [AbL.ints h2 e1]; rfl
theorem AbL.strs {H : Hp} {o : Bool} : ∀ {vs : List V} {ds : List PyData} {m : List Addr} {bs : List Str}, AbL K H o vs ds m → asStrs ds = some bs → vs = bs.map V.str
  | [], ds, m, bs, h, e => by cases h; cases e; rfl
  | v :: vs, ds, m, bs, h, e => by
    cases h with
    | @cons _ _ d es m1 m2 h1 h2 =>
      cases d <;> simp only [asStrs, reduceCtorEq] at e
      obtain ⟨cs, e1, rfl⟩ := Option.map_eq_some_iff.mp e
      obtain ⟨rfl, _⟩ := h1.eq_str
      rw [AbL.strs h2 e1]; rfl
theorem AbL.ofStrs {H : Hp} {o : Bool} : ∀ (ys : List Str), AbL K H o (ys.map V.str) (ys.map PyData.str) []
  | [] => .nil
  | y :: ys => AbL.cons (m := []) (n := []) (.str y) (AbL.ofStrs ys)
theorem AbL.ofInts {H : Hp} {o : Bool} : ∀ (ys : List Int), AbL K H o (ys.map V.int) (ys.map PyData.int) []
  | [] => .nil
  | y :: ys => AbL.cons (m := []) (n := []) (.int y) (AbL.ofInts ys)
def dAll : List PyData → Option PyData
  | [.list ds] => (asBools ds).map fun bs => .bool (bs.all id)
  | _ => none
theorem o_all : OpN K (rAll K) dAll := ⟨fun H x a m d Q a1 e q => by
  unfold dAll at e
  split at e
  · obtain ⟨bs, e1, rfl⟩ := Option.map_eq_some_iff.mp e
    obtain ⟨v, rfl, a2⟩ := a1.one
    obtain ⟨p, vs, n, rfl, hp, al, _⟩ := a2.ownL
    rw [al.bools e1] at hp
    exact ⟨p, bs, rfl, .inl (.inl hp), q.now (.bl _)⟩
  · cases e⟩
def dAny : List PyData → Option PyData
  | [.list ds] => (asBools ds).map fun bs => .bool (bs.any id)
  | _ => none
theorem o_any : OpN K (rAny K) dAny := ⟨fun H x a m d Q a1 e q => by
  unfold dAny at e
  split at e
  · obtain ⟨bs, e1, rfl⟩ := Option.map_eq_some_iff.mp e
    obtain ⟨v, rfl, a2⟩ := a1.one
    obtain ⟨p, vs, n, rfl, hp, al, _⟩ := a2.ownL
    rw [al.bools e1] at hp
    exact ⟨p, bs, rfl, .inl (.inl hp), q.now (.bl _)⟩
  · cases e⟩
def dSum : List PyData → Option PyData
  | [.list ds] => (asInts ds).map fun bs => .int bs.sum
  | _ => none
theorem o_sum : OpN K (rSum K) dSum := ⟨fun H x a m d Q a1 e q => by
  unfold dSum at e
  split at e
  · obtain ⟨bs, e1, rfl⟩ := Option.map_eq_some_iff.mp e
    obtain ⟨v, rfl, a2⟩ := a1.one
    obtain ⟨p, vs, n, rfl, hp, al, _⟩ := a2.ownL
    rw [al.ints e1] at hp
    exact ⟨p, bs, rfl, .inl (.inl hp), q.now (.int _)⟩
  · cases e⟩
/-- tuple(xs) of flat items -/
def dTuple : List PyData → Option PyData
  | [.list ds] => if flatL ds then some (.tuple ds) else none
  | [.tuple ds] => if flatL ds then some (.tuple ds) else none
  | _ => none
theorem o_tuple : ∃ r, CallR X (.type "tuple") r ∧ OpN X.K r dTuple := ⟨_, call_tuple_of, ⟨fun H x a m d Q a1 e q => by
  unfold dTuple at e
  split at e
  · split at e
    · rename_i hf
      cases e
      obtain ⟨v, rfl, a2⟩ := a1.one
      obtain ⟨p, vs, n, rfl, hp, al, _⟩ := a2.ownL
      have := al.flat hf
      subst this
      exact ⟨p, vs, rfl, .inl ⟨.inl (.inl hp), q.tup (al.any _)⟩⟩
    · cases e
  · split at e
    · rename_i hf
      cases e
      obtain ⟨v, rfl, a2⟩ := a1.one
      obtain ⟨p, vs, rfl, hp, al⟩ := a2.tuple
      have := al.flat hf
      subst this
      exact ⟨p, vs, rfl, .inr ⟨hp, q.now (.tup hp (al.any _))⟩⟩
    · cases e
  · cases e⟩⟩
/-- list(xs) of flat items -/
def dList : List PyData → Option PyData
  | [.list ds] => if flatL ds then some (.list ds) else none
  | [.tuple ds] => if flatL ds then some (.list ds) else none
  | _ => none
theorem o_list : ∃ r, CallR X (.type "list") r ∧ OpN X.K r dList := ⟨_, call_list_of, ⟨fun H x a m d Q a1 e q => by
  unfold dList at e
  split at e
  · split at e
    · rename_i hf
      cases e
      obtain ⟨v, rfl, a2⟩ := a1.one
      obtain ⟨p, vs, n, rfl, hp, al, _⟩ := a2.ownL
      have := al.flat hf
      subst this
      exact ⟨p, vs, rfl, .inl (.inl (.inl hp)), q.lst (al.any _)⟩
    · cases e
  · split at e
    · rename_i hf
      cases e
      obtain ⟨v, rfl, a2⟩ := a1.one
      obtain ⟨p, vs, rfl, hp, al⟩ := a2.tuple
      have := al.flat hf
      subst this
      exact ⟨p, vs, rfl, .inr hp, q.lst (al.any _)⟩
    · cases e
  · cases e⟩⟩
/-- repr(x) -/
def dRepr : List PyData → Option PyData
  | [d] => if SeqAt.shaped d && d.showable && !d.hasDict && decide (d.shown.length ≤ sizeLine) then some (.str d.shown) else none
  | _ => none
def rRepr (K : PySem.W.Frag) : List V → Hp → VK → Prop := fun xs H Q => ∃ x d, xs = [x] ∧ Dp K H x d ∧ SeqAt.shaped d = true ∧ d.showable = true ∧ d.hasDict = false ∧ d.shown.length ≤ sizeLine ∧ Q (.str d.shown) H
theorem call_reprD (hg : X.A.guards = some []) (hu : X.A.units + 66 < cLine) : CallR X (.builtin "repr") (rRepr X.K) := by
  intro pins s σ H xs us Q I r h
  obtain ⟨x, d, rfl, hd, sh, hs, hn, hz, q⟩ := h
  obtain ⟨u, rfl, ru⟩ := vals1 r
  obtain ⟨as, rd⟩ := Dp.reads I d x u hd ru
  have hdep : d.depth ≤ 64 := by
    unfold SeqAt.shaped at sh
    rw [Bool.and_eq_true] at sh
    exact of_decide_eq_true sh.2
  cases hd with
  | non =>
    cases ru
    have e : PyData.none.shown = ("None" : Str) := by simp only [PyData.shown]
    rw [e] at q
    exact PySem.P.repr_of_none ⟨.str _, H, I.tok _, ⟨_, rfl⟩, q⟩
  | bl b =>
    cases ru
    have e : (PyData.bool b).shown = (if b then "True" else "False" : Str) := by simp only [PyData.shown]
    rw [e] at q
    exact PySem.P.repr_of_bool ⟨.str _, H, I.tok _, ⟨_, rfl⟩, q⟩
  | int i =>
    obtain ⟨t, rfl⟩ := ru
    have e : (PyData.int i).shown = toString i := by simp only [PyData.shown]
    rw [e] at q
    exact PySem.P.repr_of_int (by simpa [PyData.showable] using hs) ⟨.str _, H, I.tok _, ⟨_, rfl⟩, q⟩
  | str y =>
    obtain ⟨t, rfl⟩ := ru
    have e : (PyData.str y).shown = reprText y := by simp only [PyData.shown]
    rw [e] at q hz
    exact PySem.P.repr_of_str ⟨.str _, H, I.tok _, ⟨_, rfl⟩, q⟩ hz
  | tup hs' ha =>
    cases ru
    exact repr_of_reads' rd hs (PyData.noDict_hsm hn) hg (by omega) (fun _ _ e => e) (fun h' u tk hk => ⟨.str _, H, I.kept hk, ⟨_, rfl⟩, q⟩) hz
  | lst hs' ha =>
    cases ru
    exact repr_of_reads' rd hs (PyData.noDict_hsm hn) hg (by omega) (fun _ _ e => e) (fun h' u tk hk => ⟨.str _, H, I.kept hk, ⟨_, rfl⟩, q⟩) hz
theorem o_repr : OpN K (rRepr K) dRepr := ⟨fun H x a m d Q a1 e q => by
  unfold dRepr at e
  split at e
  · split at e
    · rename_i h
      cases e
      simp only [Bool.and_eq_true, decide_eq_true_eq, Bool.not_eq_true'] at h
      obtain ⟨v, rfl, a2⟩ := a1.one
      exact ⟨v, _, rfl, a2.dp h.1.1.1, h.1.1.1, h.1.1.2, h.1.2, h.2, q.now (.str _)⟩
    · cases e
  · cases e⟩
/-! ### methods -/
def isStr : PyData → Bool
  | .str _ => true
  | _ => false
def isList : PyData → Bool
  | .list _ => true
  | _ => false
theorem ty_str {H : Hp} {x : V} {a : PyData} {m : List Addr} (h : Ab K H false x a m) (e : isStr a = true) : tyV K "str" x H := by
  cases a <;> simp only [isStr, reduceCtorEq] at e
  obtain ⟨rfl, _⟩ := h.eq_str
  exact rfl
theorem ty_list {H : Hp} {x : V} {a : PyData} {m : List Addr} (h : Ab K H false x a m) (e : isList a = true) : tyV K "list" x H := by
  cases a <;> simp only [isList, reduceCtorEq] at e
  obtain ⟨p, vs, n, rfl, hp, _, _⟩ := h.ownL
  exact .inl ⟨rfl, vs, .inl (.inl hp)⟩
def dSplit : PyData → List PyData → Option PyData
  | .str a, [.str b] => if !(b.length == 0) && decide (a.length + 2 ≤ sizeLine) then some (.list ((Txt.split a b).map .str)) else none
  | _, _ => none
theorem o_split : ∃ r, MtR X "str.split" r ∧ OpM X.K "str" r isStr dSplit := ⟨_, mt_split, ⟨fun H x a m h e => ty_str h e, fun H x xs a as m n d Q h1 h2 _ e q => by
  unfold dSplit at e
  split at e
  · split at e
    · rename_i hh
      cases e
      simp only [Bool.and_eq_true, decide_eq_true_eq, Bool.not_eq_true'] at hh
      obtain ⟨rfl, _⟩ := h1.eq_str
      obtain ⟨v, rfl, a2⟩ := h2.one
      obtain ⟨rfl, _⟩ := a2.eq_str
      exact ⟨_, _, rfl, rfl, hh.1, hh.2, fun p hp => q.lst (AbL.ofStrs _) p hp⟩
    · cases e
  · cases e⟩⟩
def dJoin : PyData → List PyData → Option PyData
  | .str a, [.list ds] => match asStrs ds with
    | some ys => if (ys.map (·.length)).sum + ys.length * a.length ≤ 16777216 then some (.str (Txt.join a ys)) else none
    | none => none
  | _, _ => none
theorem o_join : ∃ r, MtR X "str.join" r ∧ OpM X.K "str" r isStr dJoin := ⟨_, mt_join, ⟨fun H x a m h e => ty_str h e, fun H x xs a as m n d Q h1 h2 _ e q => by
  unfold dJoin at e
  split at e
  · split at e
    · rename_i ys ey
      split at e
      · rename_i hh
        cases e
        obtain ⟨rfl, _⟩ := h1.eq_str
        obtain ⟨v, rfl, a2⟩ := h2.one
        obtain ⟨p, vs, n, rfl, hp, al, _⟩ := a2.ownL
        rw [al.strs ey] at hp
        exact ⟨_, p, ys, rfl, rfl, .inl (.inl (.inl hp)), hh, q.now (.str _)⟩
      · cases e
    · cases e
  · cases e⟩⟩
/-! ### list.index, list.count -/
def dIndex : PyData → List PyData → Option PyData
  | .list ds, [d] => if SeqAt.shaped (.list ds) && SeqAt.shaped d then (ds.findIdx? fun z => PyData.eqv z d).map fun (j : Nat) => .int (j : Int) else none
  | _, _ => none
theorem o_index (hu : X.A.units + 65 < cLine) : ∃ r, MtR X "list.index" r ∧ OpM X.K "list" r isList dIndex := ⟨_, mt_indexD hu, ⟨fun H x a m h e => ty_list h e, fun H x xs a as m n d Q h1 h2 _ e q => by
  unfold dIndex at e
  split at e
  · rename_i ds dd _
    split at e
    · rename_i hh
      rw [Bool.and_eq_true] at hh
      obtain ⟨j, ej, rfl⟩ := Option.map_eq_some_iff.mp e
      obtain ⟨v, rfl, a2⟩ := h2.one
      have h1d := h1.dp hh.1
      obtain ⟨p, vs, n', rfl, hp, al, _⟩ := h1.ownL
      obtain ⟨hj, hz, hno⟩ := List.findIdx?_eq_some_iff_getElem.mp ej
      refine ⟨p, v, dd, ds, j, ds[j], rfl, rfl, h1d, a2.dp hh.2, hh.1, hh.2, List.getElem?_eq_getElem hj, hz, fun m z' hm em => ?_, q.now (.int _)⟩
      have hm' : m < ds.length := by omega
      rw [List.getElem?_eq_getElem hm'] at em
      cases em
      simpa using hno m hm
    · cases e
  · cases e⟩⟩
def rCountV (K : PySem.W.Frag) : V → List V → Hp → VK → Prop := fun x xs H Q => ∃ (p : Addr) (ys : List V) (y : V), x = .ref p ∧ xs = [y] ∧ SqL K H p ys ∧ flatV y = true ∧ ys.all flatV = true ∧ Q (.int (ys.countP (fun z => eqV z y) : Nat)) H
theorem countP_eqU {x : V} : ∀ {ys : List V} {us : List Value}, Vals ys us → ys.all flatV = true → us.countP (eqU x) = ys.countP (fun z => eqV z x)
  | _, _, .nil, _ => rfl
  | y :: ys, u :: us, .cons r t, f => by
    rw [List.all_cons, Bool.and_eq_true] at f
    rw [List.countP_cons, List.countP_cons, eqU_of r f.1, countP_eqU t f.2]
theorem mt_countV : MtR X "list.count" (rCountV X.K) := by
  intro pins s σ H x xs v us Q I rx rxs h
  obtain ⟨p, ys, y, rfl, rfl, hs, fy, fys, q⟩ := h
  cases rx
  obtain ⟨u, rfl, ru⟩ := rxs.one
  obtain ⟨its, rv, ⟨⟨cls, dd, data, sl⟩, n, ho, hc, hdn, hd⟩, hlen⟩ := I.list hs
  simp only at hc hd
  subst hc hd
  refine call_meets PySem.F.slot_list_count ⟨_, ho, rfl⟩ PySem.F.entry_list_count (PySem.F.args_list_count_2 _ _)
    (SeqAt.list_countAt p its.toArray n dd sl u (eqU y)) ⟨ho, fun w hw => mem_eqAt ru fy rv fys w (by simpa using hw), ?_⟩
  have ec : its.toArray.toList.countP (eqU y) = ys.countP (fun z => eqV z y) := countP_eqU rv fys
  rw [ec]
  exact ⟨.int _, H, I.tok _, ⟨s.toks, rfl⟩, q⟩
def dCount : PyData → List PyData → Option PyData
  | .list ds, [.bool b] => (asBools ds).map fun bs => .int (bs.count b : Nat)
  | .list ds, [.int b] => (asInts ds).map fun bs => .int (bs.count b : Nat)
  | _, _ => none
theorem o_count : ∃ r, MtR X "list.count" r ∧ OpM X.K "list" r isList dCount := ⟨_, mt_countV, ⟨fun H x a m h e => ty_list h e, fun H x xs a as m n d Q h1 h2 _ e q => by
  unfold dCount at e
  split at e
  · rename_i ds b _
    obtain ⟨bs, eb, rfl⟩ := Option.map_eq_some_iff.mp e
    obtain ⟨v, rfl, a2⟩ := h2.one
    obtain ⟨rfl, _⟩ := a2.eq_bl
    obtain ⟨p, vs, n', rfl, hp, al, _⟩ := h1.ownL
    have ev := al.bools eb
    subst ev
    refine ⟨p, bs.map V.bl, .bl b, rfl, rfl, .inl (.inl hp), rfl, by simp [flatV], ?_⟩
    have : (bs.map V.bl).countP (fun z => eqV z (.bl b)) = bs.count b := by
      rw [List.countP_map]; rfl
    rw [this]
    exact q.now (.int _)
  · rename_i ds b _
    obtain ⟨bs, eb, rfl⟩ := Option.map_eq_some_iff.mp e
    obtain ⟨v, rfl, a2⟩ := h2.one
    obtain ⟨rfl, _⟩ := a2.eq_int
    obtain ⟨p, vs, n', rfl, hp, al, _⟩ := h1.ownL
    have ev := al.ints eb
    subst ev
    refine ⟨p, bs.map V.int, .int b, rfl, rfl, .inl (.inl hp), rfl, by simp [flatV], ?_⟩
    have : (bs.map V.int).countP (fun z => eqV z (.int b)) = bs.count b := by
      rw [List.countP_map]; rfl
    rw [this]
    exact q.now (.int _)
  · cases e⟩⟩
/-! ### isinstance(x, T), T a built-in type -/
def tyD : PyData → String
  | .none => "NoneType"
  | .bool _ => "bool"
  | .int _ => "int"
  | .str _ => "str"
  | .list _ => "list"
  | .tuple _ => "tuple"
  | .dict _ => "dict"
def isiD (T : String) (d : PyData) : Option Bool := match d with
  | .dict [(.dict [], .tuple _)] => none
  | .dict [(.dict [], .int _)] => none
  | d => kitB (tyD d) T
theorem SqT.ty {H : Hp} {a : Addr} {xs : List V} (h : SqT K H a xs) : TyX K H (.ref a) (.type "tuple") := by
  rcases h with (h | ⟨o, h⟩) | h
  · exact .base (.tup h)
  · exact .fTuple h
  · obtain ⟨o, its, n, e, c, _⟩ := h
    exact .kTuple e c
theorem Ab.ty {H : Hp} {o : Bool} {v : V} {d : PyData} {m : List Addr} (a : Ab K H o v d m) (h : ∀ ds, d ≠ frzD ds) (h' : ∀ a, d ≠ adrD a) : TyX K H v (.type (tyD d)) := by
  cases a with
  | non => exact .base .non
  | bl b => exact .base (.bl b)
  | int i => exact .base (.int i)
  | str x => exact .base (.str x)
  | tup hs _ => exact PV.SqT.ty hs
  | lst hs _ => exact .base (.lst hs)
  | dk hs _ _ => exact .base (.dK hs)
  | dt hs _ _ => exact .base (.dT hs)
  | frz hs _ => exact absurd rfl (h _)
  | adr a => exact absurd rfl (h' _)
end
section
variable {X : Cx} {W : WX} {ks : List Bool} {κ : Kd} {e : Expr} {p px pos : Pos} {T : String} {y : Str}
def fIsi (T : String) (f : Env → R PyData) : Env → R PyData := fun ρ => f ρ >>= fun x => ofO (isiD T x) >>= fun b => .ok (.bool b)
theorem isi_ok {K : PySem.W.Frag} {H : Hp} {v : V} {d : PyData} {m : List Addr} {b : Bool} {Q : VK} (a : Ab K H false v d m) (e : isiD T d = some b) (q : Q (.bl b) H) : rIsi K [v, .ty T] H Q := by
  have hn : ∀ ds, d ≠ frzD ds := fun ds z => by rw [z] at e; simp [isiD, frzD] at e
  have hn' : ∀ c, d ≠ adrD c := fun ds z => by rw [z] at e; simp [isiD, adrD] at e
  refine ⟨v, .ty T, .type (tyD d), .type T, b, rfl, .ty T, a.ty hn hn', kit_ty ?_, q⟩
  unfold isiD at e
  split at e
  · cases e
  · cases e
  · exact e
theorem p_isi {f : Env → R PyData} (hm : X.mg "isinstance" = none) (hmT : X.mg y = none) (hv : bootBuiltins y = some (.type T)) (he : DP X W ks .B e f) (hg : Gl X "isinstance" := by rfl) (hgT : Gl X y := by rfl) (hn : y ≠ "__name__" := by decide) (hd : (y == ("__debug__" : Str)) = false := by decide)
    (hs : starEach [e, .Name y p] X.env = (false, eval e X.env) :: starEach [.Name y p] X.env := by rfl) (hs2 : starEach [.Name y p] X.env = (false, eval (.Name y p) X.env) :: starEach [] X.env := by rfl) (hpl : (backTo pos (starEach [.Name y p] X.env)).any (·.1) = false := by rfl) :
    DP X W ks κ (.Call (.Name "isinstance" px) [e, .Name y p] [] pos) (fIsi T f) :=
  PE.imp (pe_callB call_isi hg hm PyProof.Rows.boot_isinstance (pa_cons he (pa_cons (pe_bltn hgT hmT hv (v := .ty T) rfl hn hd) pa_nil hs2) hs) (by decide) (by decide) hs hpl) fun σ H Q ⟨ρ, fp, eo, h⟩ => ⟨ρ, fp, eo, (Holds.bind h).mono (fun x hx v H1 m s1 a1 _ => by
    obtain ⟨b, eb, hx⟩ := Holds.ofO (Holds.bind hx)
    exact isi_ok (a1.any _) eb (hx _ H1 [] s1 (.bl b) (RCp.nil _))) fun c hc => hc⟩
def eIsi (T : String) (f : FE) : FE := fun ρ => f ρ >>= fun x => ofO (isiD T x.1) >>= fun b => .ok (.bool b, x.2)
theorem e_isi {f : FE} (hm : X.mg "isinstance" = none) (hmT : X.mg y = none) (hv : bootBuiltins y = some (.type T)) (he : DE X W ks .B e f) (hg : Gl X "isinstance" := by rfl) (hgT : Gl X y := by rfl) (hn : y ≠ "__name__" := by decide) (hd : (y == ("__debug__" : Str)) = false := by decide)
    (hs : starEach [e, .Name y p] X.env = (false, eval e X.env) :: starEach [.Name y p] X.env := by rfl) (hs2 : starEach [.Name y p] X.env = (false, eval (.Name y p) X.env) :: starEach [] X.env := by rfl) (hpl : (backTo pos (starEach [.Name y p] X.env)).any (·.1) = false := by rfl) :
    DE X W ks κ (.Call (.Name "isinstance" px) [e, .Name y p] [] pos) (eIsi T f) :=
  PE.imp (pe_callB call_isi hg hm PyProof.Rows.boot_isinstance (pa_cons he (pa_cons (pe_bltn hgT hmT hv (v := .ty T) rfl hn hd) pa_nil hs2) hs) (by decide) (by decide) hs hpl) fun σ H Q ⟨ρ, fp, eo, h⟩ => ⟨ρ, fp, eo, (Holds.bind h).mono (fun x hx v H1 fp1 m s1 a1 _ => by
    obtain ⟨b, eb, hx⟩ := Holds.ofO (Holds.bind hx)
    exact isi_ok (a1.any _) eb (hx _ H1 fp1 [] s1 (.bl b) (RCe.nil _))) fun c hc => hc⟩
end
end PV

set_option Elab.async false
set_option linter.all false
set_option maxRecDepth 100000
set_option maxHeartbeats 1000000
set_option autoImplicit false
/-! PV, part o: try; a def that is called while an exception is handled. -/
namespace PV
open PySem PySem.Spec PyProof.Rows L2
theorem Ab.eq_adr {K : PySem.W.Frag} {H : Hp} {o : Bool} {v : V} {a : Addr} {m : List Addr} (h : Ab K H o v (adrD a) m) : v = .ref a ∧ m = [] := by
  generalize hd : adrD a = d at h
  cases h with
  | dk hs hk al => unfold adrD at hd; injection hd with hd; exact (no_dk hk hd.symm).elim
  | dt hs hk al => unfold adrD at hd; injection hd with hd; exact (no_dt hk hd.symm).elim
  | frz hs al => unfold adrD frzD at hd; simp at hd
  | adr b =>
    have : a = b := by
      unfold adrD at hd
      injection hd with hd
      injection hd with hd _
      injection hd with _ hd
      injection hd with hd
      exact Int.ofNat.inj hd
    subst this
    exact ⟨rfl, rfl⟩
  | _ => unfold adrD at hd; cases hd
/-! ### the def -/
structure RoomHG (k : Nat) (A : Around) : Prop where
  rm : L2H.RoomH k A
  gd : A.guards = some []
theorem RoomHG.deeper {k : Nat} {A : Around} (r : RoomHG (k + 1) A) (env : PySem.Env) : RoomHG k (A.deeper env) := ⟨r.rm.deeper env, r.gd⟩
theorem RoomHG.u {k : Nat} {A : Around} (r : RoomHG k A) : A.units + 66 < cLine := by have := r.rm.un; omega
theorem RoomHG.u64 {k : Nat} {A : Around} (r : RoomHG k A) : A.units + 64 < cLine := by have := r.rm.un; omega
theorem RoomHG.u65 {k : Nat} {A : Around} (r : RoomHG k A) : A.units + 65 < cLine := by have := r.rm.un; omega
theorem RoomG.hot {k : Nat} {A : Around} {h : Option Value} (r : RoomG k A) : RoomHG k (A.mark h) := ⟨⟨r.rm.dp, r.rm.un⟩, r.gd⟩
theorem RoomHG.mono {j k : Nat} {A : Around} (r : RoomHG k A) (h : j ≤ k) : RoomHG j A := ⟨r.rm.mono h, r.gd⟩
/-- a def that is called with the handled exception; pp: what is known of its object -/
structure FnE (P : Program) (w : World) (K : PySem.W.Frag) (mg : Str → Option Value) (base : Heap) (CX : CXT) (k : Nat) (f : Addr) (fd : FuncData) (ps : List Str) (pp : Obj → Prop) (sp : Addr → Sp) : Prop where
  len : ∀ a vs H Q E, sp a vs H Q E → vs.length = ps.length
  run : ∀ (A : Around) (outer : List PySem.Env) (s : Shared) (H : Hp) (args : Args) (us : List Value) (vs : List V) (Q : VK) (E : XK) (p : Addr × Obj), RoomHG k A → pp p.2 → L2H.PinOk outer H s p → Env0 P w K mg base A outer s H → BindsTo s fd args (ps.zip us) → Vals vs us → sp p.1 vs H Q E →
    codeAny (model P w) A (.call (.ref f) args) (CR CX outer P w H s Q E) s
section
variable {P : Program} {w : World} {K : PySem.W.Frag} {mg : Str → Option Value} {base : Heap} {x qual : Str} {params : Arguments} {body : List Stmt} {scope : Scope} {f : Addr} {fd : FuncData} {N ps : List Str} {k : Nat} {pp : Obj → Prop}
theorem fnE_ok {CX : CXT} {sp : Addr → Sp} (F : FunD K x qual params body scope [] [] f fd) (S : FnScope N ps scope) (len : ∀ a vs H Q E, sp a vs H Q E → vs.length = ps.length)
    (hbody : ∀ (cdv : Value) (A : Around) (outer : List PySem.Env) (s : Shared) (H : Hp) (vs : List V) (Q : VK) (E : XK) (p : Addr × Obj), pp p.2 → RoomHG k (A.deeper (envOfC qual scope s.heap.objs.size f cdv)) → sp p.1 vs H Q E →
      ∃ t, PSs (L2H.cxH CX P w K mg base N qual scope f cdv A outer s H E p) body t ∧ t { nx := fun _ H' => Q .non H', rt := Q } (L2.start N vs) H) :
    FnE P w K mg base CX (k + 1) f fd ps pp sp := by
  obtain ⟨oc, od, dV, kV, doc, pm, an, cdv, ct, osl, rfl, lk, hcd, _, _⟩ := F.ex
  refine ⟨len, fun A outer s H args us vs Q E p hr hot hpin e0 hb r hsp => ?_⟩
  have hl := len _ _ _ _ _ hsp
  have KX : K.In s.heap := e0.mod.kin.keeps fun b o e => (e0.bs b o e).1
  have lim : s.heap.NoLimit := e0.mod.nolimit.keeps fun b o e => (e0.bs b o e).1
  have hkind : ∀ y ∈ ps.zip us, scope.names.lookup y.1 = some .local ∨ (scope.names.lookup y.1 = some .cell ∧ ((cellsFrom (s.heap.objs.size + 1) scope.names []).lookup y.1).isSome = true) := fun ⟨n, v⟩ hy => by
    rcases S.par n (List.of_mem_zip hy).1 with q | q
    · exact .inl q
    · exact .inr ⟨q, PySem.W.cellsFrom_some _ _ _ (.inl q)⟩
  refine codeAny_call_function hr.rm.depth (KX _ _ lk) rfl S.co S.gen rfl (PySem.W.codeRec_of KX hcd) (hb _ _ _ _ ?_)
  refine wpAny_newFunctionEnv_cells S.kind hkind fun env he s1 x => ?_
  subst he
  refine ⟨lim.keeps x.toInCall.keep, codeAny_func ?_⟩
  obtain ⟨t, ht, hq⟩ := hbody cdv A outer s H vs Q E p hot (hr.deeper _) hsp
  have I : Inv (L2H.cxH CX P w K mg base N qual scope f cdv A outer s H E p) [] (L2.start N vs) H s1 := L2H.inv_startH S hpin e0 hl r x
  refine wpAny_mono (ht.run [] s1 (L2.start N vs) H _ I hq) (fun fl s' hs => ?_) fun e s' hs => hs
  have fin : ∀ {σ' : L2.St} {H' : Hp} {v : V} {u : Value}, Inv (L2H.cxH CX P w K mg base N qual scope f cdv A outer s H E p) [] σ' H' s' → RelV v u → Q v H' → CE outer P w H s Q u s' :=
    fun {σ' H' v u} J rv q => ⟨v, H', J.os, J.bare, J.base, J.hok, rv, q⟩
  cases fl with
  | ret u =>
    obtain ⟨v, σ', H', J, rv, q⟩ := hs
    exact fin J rv q
  | next =>
    obtain ⟨σ', H', J, q⟩ := hs
    exact fin (v := V.non) (u := Value.none) J rfl q
  | brk =>
    obtain ⟨_, _, _, q⟩ := hs
    exact False.elim q
  | cont =>
    obtain ⟨_, _, _, q⟩ := hs
    exact False.elim q
end
section
variable {X : Cx} {W : WX} {ks : List Bool} {P : List Nat} {κ : Kd} {a b c e : Expr} {pos p px : Pos} {k : Nat} {x y : Str} {ps : List Str} {es : List Expr}
theorem run_fnE {CX : CXT} {E : L2.St → XK} {f : Addr} {fd : FuncData} {pp : Obj → Prop} {sp : Addr → Sp} {pins : List (Addr × Obj)} {σ : L2.St} {H : Hp} {s : Shared} {Q : VK} {us : List Value} {vs : List V} {q : Addr × Obj} (F : FnE X.prog X.w X.K X.mg X.base CX k f fd ps pp sp) (hr : RoomHG k X.A) (hq : q ∈ X.pn) (hpp : pp q.2) (hb : Binds X.K fd ps []) (hx : PassesAt CX X σ (E σ))
    (I : Inv X pins σ H s) (r : Vals vs us) (h : sp q.1 vs H Q (E σ)) : wpAny (model X.prog X.w) X.A (call (.ref f) us) (EP X pins σ Q) X.xe s := by
  have hl : us.length = ps.length := by rw [← r.length]; exact F.len _ _ _ _ _ h
  have b := hb s us I.kIn (by rw [List.append_nil]; exact hl)
  rw [List.append_nil] at b
  have P1 := I.pin q (List.mem_append_left _ hq)
  have hpin : L2H.PinOk X.stack H s q := ⟨P1.1, P1.2.1, fun hm => (List.mem_cons.mp (I.stkSub q.1 hm)).elim P1.2.2.1 P1.2.2.2.1, P1.2.2.2.2⟩
  refine wpAny_call (codeAny_mono (F.run X.A X.stack s H ⟨us, []⟩ us vs Q (E σ) q hr hpp hpin I.env0 b r h) fun r s' hq => ?_)
  cases r with
  | error e => exact hx pins H s e s' I hq
  | ok fl =>
    cases fl with
    | ret u => exact I.after hq
    | next => exact False.elim hq
    | brk => exact False.elim hq
    | cont => exact False.elim hq
theorem pe_callE {CX : CXT} {E : L2.St → XK} {f : Addr} {fd : FuncData} {pp : Obj → Prop} {sp : Addr → Sp} {t : TA} {q : Addr × Obj} (F : FnE X.prog X.w X.K X.mg X.base CX k f fd ps pp sp) (hr : RoomHG k X.A) (hq : q ∈ X.pn) (hpp : pp q.2) (hg : Gl X x) (hm : X.mg x = some (.ref f)) (hk : PySem.W.keepIn X.K (.ref f) = true) (hb : Binds X.K fd ps []) (hx : ∀ σ, PassesAt CX X σ (E σ))
    (ha : PA X (e :: es) t) (hdb : (x == ("__debug__" : Str)) = false := by decide) (he : starEach (e :: es) X.env = (false, eval e X.env) :: starEach es X.env := by rfl) (hpl : (backTo pos (starEach es X.env)).any (·.1) = false := by rfl) :
    PE X (.Call (.Name x p) (e :: es) [] pos) (tCallS (sp q.1) E t) := by
  refine ⟨fun pins s σ H Q I h => ?_⟩
  refine wpAny_Call_Name_kw (ld_glob I hg hm ?_ hdb)
  refine PySem.W.callWith_K (h₀ := X.base) I.ok.mod.kin hk (thn (ha.run pos pins s σ H _ I h) fun us s1 ⟨vs, H1, I1, r, q'⟩ => ⟨I1.kIn, ?_⟩) he hpl
  exact run_fnE F hr hq hpp hb (hx σ) I1 r q'
/-- the same by data; the result: new -/
structure FnEE (P : Program) (w : World) (K : PySem.W.Frag) (mg : Str → Option Value) (base : Heap) (k : Nat) (x : Str) (ps : List Str) (pp : Obj → Prop) (m : Addr → List PyData → R PyData) : Prop where
  ex : ∃ f fd, FnE P w K mg base (L2.CX P w) k f fd ps pp (fun a => spP K ps.length .F (m a)) ∧ mg x = some (.ref f) ∧ PySem.W.keepIn K (.ref f) = true ∧ Binds K fd ps []
abbrev FnEx (X : Cx) (k : Nat) (x : Str) (ps : List Str) (pp : Obj → Prop) (m : Addr → List PyData → R PyData) : Prop := FnEE X.prog X.w X.K X.mg X.base k x ps pp m
theorem fnE_core {P : Program} {w : World} {K : PySem.W.Frag} {mg : Str → Option Value} {base : Heap} {x qual : Str} {params : Arguments} {body : List Stmt} {scope : Scope} {f : Addr} {fd : FuncData} {N ps : List Str} {k : Nat} {pp : Obj → Prop} {ks : List Bool} {sem : Addr → FS}
    (F : FunD K x qual params body scope [] [] f fd) (S : FnScope N ps scope) (hks : ∀ i, i < ps.length → ks[i]? = some false) (hN : ps.length ≤ N.length)
    (hb : ∀ (cdv : Value) (A : Around) (outer : List PySem.Env) (s : Shared) (H : Hp) (E : XK) (p : Addr × Obj), pp p.2 → RoomHG k (A.deeper (envOfC qual scope s.heap.objs.size f cdv)) →
      Takes (L2H.cxH (L2.CX P w) P w K mg base N qual scope f cdv A outer s H E p) (fun cls d _ H => E cls d H) →
      DSs (L2H.cxH (L2.CX P w) P w K mg base N qual scope f cdv A outer s H E p) (fun cls d _ H => E cls d H) ks [] .F body (sem p.1)) :
    FnE P w K mg base (L2.CX P w) (k + 1) f fd ps pp (fun a => spP K ps.length .F (runF N.length (sem a))) :=
  fnE_ok F S (fun a vs H Q E h => h.1) fun cdv A outer s H vs Q E p hp hr h => ⟨_, hb cdv A outer s H E p hp hr (takes_of rfl rfl rfl rfl), fnP_core hks (by decide) hN h⟩
theorem p_callE {pp : Obj → Prop} {m : Addr → List PyData → R PyData} {f : Env → R (List PyData)} {q : Addr × Obj} (F : FnEx X k x ps pp m) (tk : Takes X W) (hr : RoomHG k X.A) (hq : q ∈ X.pn) (hpp : pp q.2) (ha : DPA X W ks .B (e :: es) f) (hlen : HL ps.length f := by repeat (first | exact HL.nil | refine HL.cons ?_)) (hg : Gl X x := by rfl) (hdb : (x == ("__debug__" : Str)) = false := by decide)
    (he : starEach (e :: es) X.env = (false, eval e X.env) :: starEach es X.env := by rfl) (hpl : (backTo pos (starEach es X.env)).any (·.1) = false := by rfl) : DP X W ks .F (.Call (.Name x p) (e :: es) [] pos) (fCall (m q.1) f) := by
  obtain ⟨fa, fd, G, hm, hk, hb⟩ := F.ex
  exact PE.imp (pe_callE G hr hq hpp hg hm hk hb (passAt tk) ha hdb he hpl) fun σ H Q ⟨ρ, fp, eo, h⟩ => ⟨ρ, fp, eo, call_core hlen (fun a => a) (fun s _ r => hκF (K := X.K) (κa := .B) (σ := σ) s r) eo h⟩
/-! ### isinstance(error, C) -/
def fIsE (a0 : Addr) (b : Bool) (f : Env → R PyData) : Env → R PyData := fun ρ => f ρ >>= fun d => match d with
  | .dict [(.dict [], .int a)] => if a = (a0 : Int) then .ok (.bool b) else .no
  | _ => .no
theorem call_isEq {a D : Addr} {oe : Obj} (hp : (a, oe) ∈ X.pn) (C : ExcC X.K D) (hz : Zc (.ref D) none oe) (hf : ∃ vs, oe.data = .fields vs) : CallR X (.builtin "isinstance") (rIsE X.K D a) := by
  intro pins s σ H xs us Q I r h
  obtain ⟨c, cv, b, rfl, hcv, e, q⟩ := h
  cases r with
  | cons rx rr =>
    cases rr with
    | cons rt rr =>
      cases rr
      cases rx
      have ec := hcv _ rt
      subst ec
      obtain ⟨hget, _⟩ := I.pin (a, oe) (List.mem_append_left _ hp)
      obtain ⟨vs, hv⟩ := hf
      have J : PySem.W.InstAt s.heap a oe D none := by
        obtain ⟨oc, od, oda, osl⟩ := oe
        obtain ⟨h1, h2⟩ := hz
        dsimp only at h1 h2 hv
        subst h1 h2 hv
        exact ⟨hget, rfl, rfl, trivial⟩
      exact PySem.W.kia_one (PySem.W.handS_kitx_exc C.hg C.hk C.hs C.hd C.ha C.hn C.ht C.hm) I.kIn J e (fun z => nomatch z) fun tk => ⟨.bl b, H, I.kept (t' := tk) fun _ _ z => z, rfl, q⟩
/-- what an exception of class D is like -/
def PpE (D : Addr) (o : Obj) : Prop := Zc (.ref D) none o ∧ ∃ vs, o.data = .fields vs
theorem p_isE {D : Addr} {q : Addr × Obj} {bb : Bool} {f : Env → R PyData} (hq : q ∈ X.pn) (hz : PpE D q.2) (C : ExcC X.K D) (hm : X.mg "isinstance" = none) (hmC : X.mg y = some (.ref (He.ga X.K y))) (hk : PySem.W.kitOne X.K (.ref D) (.ref (He.ga X.K y)) = some bb) (he : DP X W ks .B e f) (hg : Gl X "isinstance" := by rfl) (hgT : Gl X y := by rfl) (hd : (y == ("__debug__" : Str)) = false := by decide)
    (hs : starEach [e, .Name y p] X.env = (false, eval e X.env) :: starEach [.Name y p] X.env := by rfl) (hs2 : starEach [.Name y p] X.env = (false, eval (.Name y p) X.env) :: starEach [] X.env := by rfl) (hpl : (backTo pos (starEach [.Name y p] X.env)).any (·.1) = false := by rfl) :
    DP X W ks κ (.Call (.Name "isinstance" px) [e, .Name y p] [] pos) (fIsE q.1 bb f) :=
  PE.imp (pe_callB (call_isEq hq C hz.1 hz.2) hg hm PyProof.Rows.boot_isinstance (pa_cons he (pa_cons (pe_glob hgT hmC (v := .ref (He.ga X.K y)) rfl hd) pa_nil hs2) hs) (by decide) (by decide) hs hpl) fun σ H Q ⟨ρ, fp, eo, h⟩ => ⟨ρ, fp, eo, (Holds.bind h).mono (fun d hx v H1 m s1 a1 _ => by
    by_cases hd : ∃ i, d = .dict [(.dict [], .int i)]
    · obtain ⟨i, rfl⟩ := hd
      by_cases hi : i = (q.1 : Int)
      · subst hi
        have hx' : Holds (if ((q.1 : Nat) : Int) = (q.1 : Int) then R.ok (PyData.bool bb) else R.no) _ _ := hx
        rw [if_pos rfl] at hx'
        obtain ⟨rfl, _⟩ := Ab.eq_adr a1
        exact ⟨.ref (He.ga X.K y), .ref (He.ga X.K y), bb, rfl, fun u r => r, hk, hx' _ H1 [] s1 (.bl bb) (RCp.nil _)⟩
      · have hx' : Holds (if i = (q.1 : Int) then R.ok (PyData.bool bb) else R.no) _ _ := hx
        rw [if_neg hi] at hx'
        exact hx'.elim
    · exfalso
      revert hx
      split
      · rename_i i; exact fun _ => hd ⟨i, rfl⟩
      · exact fun z => z) fun c hc => hc⟩
end
end PV

set_option Elab.async false
set_option linter.all false
set_option maxRecDepth 100000
set_option maxHeartbeats 1000000
set_option autoImplicit false
/-! PV, part p: try .. except C as n. -/
namespace PV
open PySem PySem.Spec PyProof.Rows L2
def keepFrom (P : List Nat) : Nat → Env → Env
  | _, [] => []
  | n, x :: xs => (if n ∈ P then x else none) :: keepFrom P (n + 1) xs
abbrev keepE (P : List Nat) (ρ : Env) : Env := keepFrom P 0 ρ
theorem keepFrom_len {P : List Nat} : ∀ {n : Nat} {ρ : Env}, (keepFrom P n ρ).length = ρ.length
  | _, [] => rfl
  | n, x :: xs => by rw [keepFrom, List.length_cons, List.length_cons, keepFrom_len]
theorem keepFrom_get {P : List Nat} : ∀ {n : Nat} {ρ : Env} {i : Nat} {d : PyData}, (keepFrom P n ρ)[i]? = some (some d) → ρ[i]? = some (some d) ∧ n + i ∈ P
  | _, [], i, d, h => by simp [keepFrom] at h
  | n, x :: xs, 0, d, h => by
    rw [keepFrom, List.getElem?_cons_zero] at h
    by_cases q : n ∈ P
    · rw [if_pos q] at h; exact ⟨by simpa using h, q⟩
    · rw [if_neg q] at h; cases h
  | n, x :: xs, i + 1, d, h => by
    rw [keepFrom, List.getElem?_cons_succ] at h
    obtain ⟨h1, h2⟩ := keepFrom_get h
    exact ⟨by simpa using h1, by rw [show n + (i + 1) = n + 1 + i by omega]; exact h2⟩
open Classical in
noncomputable def allA {β : Type} (f : Addr → R β) : R β := if ∀ a, f a = f 0 then f 0 else .no
theorem Holds.allA {β : Type} {f : Addr → R β} {P : β → Prop} {U : Ex → Prop} (h : Holds (PV.allA f) P U) (a : Addr) : Holds (f a) P U := by
  unfold PV.allA at h
  split at h
  · rename_i q; rw [q a]; exact h
  · exact h.elim
@[simp] theorem allA_const {β : Type} (r : R β) : PV.allA (fun _ => r) = r := by unfold PV.allA; simp
noncomputable def sTry (xs : List Str) (i : Nat) (P : List Nat) (fb : FS) (fs : Addr → Str → FS) : FS := fun ρ => match fb ρ with
  | .ok r => .ok r
  | .no => .no
  | .ex c => if c.fld.isNone && decide (c.cls ∈ xs) then allA (fun a => noX (fs a c.cls ((keepE P ρ).set i (some (adrD a)))) >>= fun r => .ok (r.1, r.2.set i none)) else .no
section
variable {K : PySem.W.Frag} {W : WX} {ks : List Bool} {P P0 : List Nat} {κ : Kd} {D : Ends} {σ σ' σ1 : L2.St} {H H' H1 : Hp} {ρ ρ' ρ1 : Env} {fp fp' fp1 : Nat → List Addr} {i : Nat}
theorem EOk.unset (eo : EOk K H ks σ ρ fp) : EOk K H ks (σ.set i none) (ρ.set i none) fp where
  len := by rw [List.length_set, List.length_set]; exact eo.len
  ab := fun j d h => by
    rcases get_set h with ⟨_, _, e⟩ | ⟨hne, h⟩
    · cases e
    · rw [List.getElem?_set_ne (fun z => hne z.symm)]; exact eo.ab j d h
  nd := fun j d o h => by
    rcases get_set h with ⟨_, _, e⟩ | ⟨hne, h⟩
    · cases e
    · exact eo.nd j d o h
  dj := fun j l d e o n h1 h2 => by
    rcases get_set h1 with ⟨_, _, e1⟩ | ⟨_, h1⟩
    · cases e1
    rcases get_set h2 with ⟨_, _, e1⟩ | ⟨_, h2⟩
    · cases e1
    exact eo.dj j l d e o n h1 h2
theorem Step.unset (s : Step K H H' ks σ ρ ρ' fp fp') : Step K H H' ks (σ.set i none) ρ (ρ'.set i none) fp fp' := by
  refine ⟨s.env.unset, s.fr, fun a ⟨j, d, h, q⟩ => ?_, fun a ⟨j, d, o, h, q⟩ => ?_⟩
  · rcases get_set h with ⟨_, _, e⟩ | ⟨hne, h⟩
    · cases e
    · exact s.sub a ⟨j, d, h, q⟩
  · rcases get_set h with ⟨_, _, e⟩ | ⟨hne, h⟩
    · cases e
    · exact s.subo a ⟨j, d, o, h, q⟩
theorem RCe.unset {m : List Addr} (r : RCe κ H ks ρ fp ρ' fp' m) : RCe κ H ks ρ fp (ρ'.set i none) fp' m := by
  have ow : ∀ a, Ow ks (ρ'.set i none) fp' a → Ow ks ρ' fp' a := fun a ⟨j, d, o, h, q⟩ => by
    rcases get_set h with ⟨_, _, e⟩ | ⟨hne, h⟩
    · cases e
    · exact ⟨j, d, o, h, q⟩
  have al : ∀ a, Al (ρ'.set i none) fp' a → Al ρ' fp' a := fun a ⟨j, d, h, q⟩ => by
    rcases get_set h with ⟨_, _, e⟩ | ⟨hne, h⟩
    · cases e
    · exact ⟨j, d, h, q⟩
  cases κ with
  | B => trivial
  | V => exact fun a q => ⟨fun z => (r a q).1 (ow a z), (r a q).2⟩
  | F => exact ⟨r.1, fun a q => ⟨fun z => (r.2 a q).1 (al a z), (r.2 a q).2⟩⟩
theorem SE.weakP (h0 : ∀ j ∈ P0, j ∈ P) {r : Fl × Env} (h : SE K ks P0 κ D σ H ρ fp r) : SE K ks P κ D σ H ρ fp r := by
  obtain ⟨f, ρ2⟩ := r
  cases f with
  | nx => exact fun σ' H' fp' s k => h σ' H' fp' s (k.mono h0)
  | bk => exact fun σ' H' fp' s k => h σ' H' fp' s (k.mono h0)
  | ct => exact fun σ' H' fp' s k => h σ' H' fp' s (k.mono h0)
  | rt d => exact fun σ' v H' fp' m s k a r => h σ' v H' fp' m s (k.mono h0) a r
/-- the slots at the suite's start -/
theorem Step.hand (eo : EOk K H ks σ ρ fp) (hPk : ∀ j ∈ P, ks[j]? = some false) (k : Keep P σ σ') (fr : Fr (Ow ks ρ fp) H H') : Step K H H' ks σ' ρ (keepE P ρ) fp fp := by
  refine ⟨⟨by rw [keepFrom_len, k.1]; exact eo.len, fun j d h => ?_, fun j d o h => ?_, fun j l d e o n h1 h2 => ?_⟩, fr, fun a ⟨j, d, h, q⟩ => ?_, fun a ⟨j, d, o, h, q⟩ => ?_⟩
  · obtain ⟨h1, h2⟩ := keepFrom_get h
    rw [Nat.zero_add] at h2
    obtain ⟨v, e, a⟩ := eo.ab j d h1
    refine ⟨v, by rw [k.2 j h2]; exact e, a.fr fr fun x q ⟨l, g, o, hl, ql⟩ => ?_⟩
    have hne : l ≠ j := fun z => by unfold own at o; rw [z, hPk j h2] at o; cases o
    exact eo.dj l j g d o hne hl h1 x ql q
  · obtain ⟨h1, h2⟩ := keepFrom_get h
    exact eo.nd j d o h1
  · exact eo.dj j l d e o n (keepFrom_get h1).1 (keepFrom_get h2).1
  · exact .inl ⟨j, d, (keepFrom_get h).1, q⟩
  · exact .inl ⟨j, d, o, (keepFrom_get h).1, q⟩
end
section
variable {X : Cx} {W : WX} {ks : List Bool} {P P0 : List Nat} {κ : Kd} {pos pos' np : Pos} {i : Nat} {n x : Str} {body suite : List Stmt} {b₀ : Stmt} {xs : List Str}
theorem takes0' {X : Cx} : Takes X W0 := fun u s' ⟨a, B, sI, pins, σ, H, cls, d, e, I, nb, up, sky, na, os, ag, w⟩ => w.elim
theorem s_try {fb : FS} {fs : Addr → Str → FS} (hN : X.N.Nodup) (tk : Takes X W) (hmx : X.mg x = some (.ref (He.ga X.K x))) (hx : ∀ z ∈ xs, PySem.W.exmOne X.K (.ref (He.ga X.K z)) (.ref (He.ga X.K x)) = some true)
    (hb : ∀ (W : WX) (pn : List (Addr × Obj)) (xe : Value → Shared → Prop), Takes (X.tr pn xe) W → PassesOwn (model X.prog X.w) X.A X.env xe → DSs (X.tr pn xe) W ks P κ body fb)
    (hsu : ∀ (a : Addr) (oe : Obj) (z : Str) (pn : List (Addr × Obj)), z ∈ xs → PpE (He.ga X.K z) oe → DSs (X.suite a ((a, oe) :: pn)) W0 ks P0 κ (b₀ :: suite) (fs a z))
    (hki : ks[i]? = some false := by rfl) (hiP : i ∉ P0 := by decide) (hPk : ∀ j ∈ P, ks[j]? = some false := by decide) (hP0 : ∀ j ∈ P0, j ∈ P := by decide)
    (hs : X.stack = X.env :: X.outer := by rfl) (hf : X.env.frame = some X.env.locals := by rfl) (hi : X.N[i]? = some n := by rfl) (hln : X.env.kindOf n = some .local := by rfl) (hg : Gl X x := by rfl) (hd : (x == ("__debug__" : Str)) = false := by decide) :
    DS X W ks P0 κ (.Try body [.ExceptHandler (some (.Name x np)) (some n) (b₀ :: suite) pos'] [] [] pos) (sTry xs i P fb fs) := by
  refine PS.imp (ps_try_as (c := .ref (He.ga X.K x)) (i := i) (tb := fun W => tS X.K W ks P κ fb) (ts := fun a cls d => fun D σ H => ∃ z, z ∈ xs ∧ cls = .ref (He.ga X.K z) ∧ d = none ∧ tS X.K W0 ks P0 κ (fs a z) D σ H) (Wout := W) hs hf hN hi hln ⟨hg, hd, .inl hmx⟩ tk hb ?_) fun D σ H ⟨ρ, fp, eo, h⟩ => ?_
  · intro a oe cls d pn hz hfl
    refine ⟨fun pins s σ H D I ⟨z, hz1, hc, hd, q⟩ => ?_⟩
    subst hc hd
    exact (hsu a oe z pn hz1 ⟨hz, hfl⟩).run pins s σ H D I q
  · refine ⟨ρ, fp, eo, ?_⟩
    unfold sTry at h
    cases e : fb ρ with
    | ok r => rw [e] at h; exact SE.weakP hP0 h
    | no => rw [e] at h; exact h
    | ex c =>
      rw [e] at h
      have h' : Holds (if c.fld.isNone && decide (c.cls ∈ xs) then allA (fun a => noX (fs a c.cls ((keepE P ρ).set i (some (adrD a)))) >>= fun r => .ok (r.1, r.2.set i none)) else .no) (SE X.K ks P0 κ D σ H ρ fp) (SX X.K W ks P0 σ H ρ fp) := h
      by_cases hc : (c.fld.isNone && decide (c.cls ∈ xs)) = true
      · rw [if_pos hc] at h'
        rw [Bool.and_eq_true, decide_eq_true_eq] at hc
        obtain ⟨cc, cf⟩ := c
        cases cf with
        | some q => exact absurd hc.1 (by simp)
        | none =>
          intro σ' H' kp fr
          refine ⟨true, hx cc hc.2, fun _ a hna => ⟨cc, hc.2, rfl, rfl, ?_⟩, fun z => Bool.noConfusion z⟩
          have s1 := Step.hand eo hPk kp fr
          have s2 := Step.set (i := i) (b := false) hki s1 (Ab.adr a) (RCe.nil _)
          have kp2 : Keep P0 σ (σ'.set i (some (.ref a))) := (kp.mono hP0).trans (Keep.set hiP)
          refine ⟨_, _, s2.env, (Holds.noXb (h'.allA a)).mono (fun r hr => ?_) fun u hu => hu⟩
          · obtain ⟨fl, ρ2⟩ := r
            cases fl with
            | nx => exact fun σ2 H2 fp2 s3 k3 => hr _ H2 fp2 (s2.trans s3).unset ((kp2.trans k3).trans (Keep.set hiP))
            | bk => exact fun σ2 H2 fp2 s3 k3 => hr _ H2 fp2 (s2.trans s3).unset ((kp2.trans k3).trans (Keep.set hiP))
            | ct => exact fun σ2 H2 fp2 s3 k3 => hr _ H2 fp2 (s2.trans s3).unset ((kp2.trans k3).trans (Keep.set hiP))
            | rt d => exact fun σ2 v H2 fp2 m s3 k3 ab rc => hr _ v H2 fp2 m (s2.trans s3).unset ((kp2.trans k3).trans (Keep.set hiP)) ab (RCe.pre s2 rc).unset
      · rw [if_neg hc] at h'; exact h'.elim
end
end PV

set_option Elab.async false
set_option linter.all false
set_option maxRecDepth 100000
set_option maxHeartbeats 1000000
set_option autoImplicit false
/-! PV, part q: the rules as the printed derivations name them; the law's end. -/
namespace PV
open PySem PySem.Spec PyProof.Rows L2
theorem bt_len : bootBuiltins "len" = some (.builtin "len") := by decide +kernel
theorem bt_abs : bootBuiltins "abs" = some (.builtin "abs") := by decide +kernel
theorem bt_all : bootBuiltins "all" = some (.builtin "all") := by decide +kernel
theorem bt_any : bootBuiltins "any" = some (.builtin "any") := by decide +kernel
theorem bt_sum : bootBuiltins "sum" = some (.builtin "sum") := by decide +kernel
theorem bt_repr : bootBuiltins "repr" = some (.builtin "repr") := by decide +kernel
theorem bt_min : bootBuiltins "min" = some (.builtin "min") := by decide +kernel
theorem bt_max : bootBuiltins "max" = some (.builtin "max") := by decide +kernel
theorem bt_sorted : bootBuiltins "sorted" = some (.builtin "sorted") := by decide +kernel
theorem bt_int : bootBuiltins "int" = some (.type "int") := by decide +kernel
theorem bt_str : bootBuiltins "str" = some (.type "str") := by decide +kernel
theorem bt_tuple : bootBuiltins "tuple" = some (.type "tuple") := by decide +kernel
theorem bt_list : bootBuiltins "list" = some (.type "list") := by decide +kernel
theorem bt_bool : bootBuiltins "bool" = some (.type "bool") := by decide +kernel
theorem bt_dict : bootBuiltins "dict" = some (.type "dict") := by decide +kernel
theorem bt_set : bootBuiltins "set" = some (.type "set") := by decide +kernel
section
variable {X : Cx} {W : WX} {ks : List Bool} {P : List Nat} {κ : Kd} {a b c e : Expr} {pos : Pos} {o o' : PyData → PyData → Option PyData} {ob ob' : PyData → PyData → Option Bool}
theorem p_bin {op : Operator} {f g : Env → R PyData} (h : ∃ r, OpR X (binaryOp op) r ∧ Op2 X.K r o) (ha : DP X W ks .B a f) (hb : DP X W ks .B b g) : DP X W ks .F (.BinOp a op b pos) (fOp o f g) := let ⟨_, h1, h2⟩ := h; p_op h1 h2 ha hb
theorem e_bin {op : Operator} {f g : FE} (h : ∃ r, OpR X (binaryOp op) r ∧ Op2 X.K r o) (ha : DE X W ks .V a f) (hb : DE X W ks .B b g) : DE X W ks .F (.BinOp a op b pos) (eOp o f g) := let ⟨_, h1, h2⟩ := h; e_op h1 h2 ha hb
theorem p_cm {op : CmpOp} {f g : Env → R PyData} (h : ∃ r, OpR X (compareOp op) r ∧ OpB X.K r ob) (ha : DP X W ks .B a f) (hb : DP X W ks .B b g) (hm : behindInMarks op b = false := by with_unfolding_all rfl) : DP X W ks .F (.Compare a [op] [b] pos) (fOfB (gCmp ob f g)) := let ⟨_, h1, h2⟩ := h; p_cmp h1 h2 ha hb hm
theorem t_cm {op : CmpOp} {f g : Env → R PyData} (h : ∃ r, OpR X (compareOp op) r ∧ OpB X.K r ob) (ha : DP X W ks .B a f) (hb : DP X W ks .B b g) (hm : behindInMarks op b = false := by with_unfolding_all rfl) : DPT X W ks (.Compare a [op] [b] pos) (gCmp ob f g) := let ⟨_, h1, h2⟩ := h; t_cmp h1 h2 ha hb hm
theorem e_cm {op : CmpOp} {f g : FE} (h : ∃ r, OpR X (compareOp op) r ∧ OpB X.K r ob) (ha : DE X W ks .V a f) (hb : DE X W ks .B b g) (hm : behindInMarks op b = false := by with_unfolding_all rfl) : DE X W ks .F (.Compare a [op] [b] pos) (eOfB (eCmp ob f g)) := let ⟨_, h1, h2⟩ := h; e_cmpV h1 h2 ha hb hm
theorem et_cm {op : CmpOp} {f g : FE} (h : ∃ r, OpR X (compareOp op) r ∧ OpB X.K r ob) (ha : DE X W ks .V a f) (hb : DE X W ks .B b g) (hm : behindInMarks op b = false := by with_unfolding_all rfl) : DET X W ks (.Compare a [op] [b] pos) (eCmp ob f g) := let ⟨_, h1, h2⟩ := h; e_cmp h1 h2 ha hb hm
theorem t_ch {op op' : CmpOp} {f g k : Env → R PyData} (h : ∃ r, OpR X (compareOp op) r ∧ OpB X.K r ob) (h' : ∃ r, OpR X (compareOp op') r ∧ OpB X.K r ob') (ha : DP X W ks .B a f) (hb : DP X W ks .B b g) (hc : DP X W ks .B c k) (hm : lastMarks [op, op'] [b, c] = false := by with_unfolding_all rfl) : DPT X W ks (.Compare a [op, op'] [b, c] pos) (gChain ob ob' f g k) :=
  let ⟨_, h1, h2⟩ := h; let ⟨_, h3, h4⟩ := h'; t_chain h1 h2 h3 h4 ha hb hc hm
theorem p_ch {op op' : CmpOp} {f g k : Env → R PyData} (h : ∃ r, OpR X (compareOp op) r ∧ OpB X.K r ob) (h' : ∃ r, OpR X (compareOp op') r ∧ OpB X.K r ob') (ha : DP X W ks .B a f) (hb : DP X W ks .B b g) (hc : DP X W ks .B c k) (hm : lastMarks [op, op'] [b, c] = false := by with_unfolding_all rfl) : DP X W ks .F (.Compare a [op, op'] [b, c] pos) (fOfB (gChain ob ob' f g k)) :=
  let ⟨_, h1, h2⟩ := h; let ⟨_, h3, h4⟩ := h'; p_chain h1 h2 h3 h4 ha hb hc hm
theorem p_tyE {x : Str} {p : Pos} {es : List Expr} {id : String} {on : List PyData → Option PyData} {f : Env → R (List PyData)} (h : ∃ r, CallR X (.type id) r ∧ OpN X.K r on) (hm : X.mg x = none) (hv : bootBuiltins x = some (.type id)) (ha : DPA X W ks .B (e :: es) f) (hg : Gl X x := by rfl)
    (hn : x ≠ "__name__" := by decide) (hdb : (x == ("__debug__" : Str)) = false := by decide) (he : starEach (e :: es) X.env = (false, eval e X.env) :: starEach es X.env := by rfl) (hpl : (backTo pos (starEach es X.env)).any (·.1) = false := by rfl) : DP X W ks .F (.Call (.Name x p) (e :: es) [] pos) (fN on f) :=
  let ⟨_, h1, h2⟩ := h; p_ty h1 h2 hm hv ha hg hn hdb he hpl
theorem e_tyE {x : Str} {p : Pos} {es : List Expr} {id : String} {on : List PyData → Option PyData} {f : Env → R (List PyData × Env)} (h : ∃ r, CallR X (.type id) r ∧ OpN X.K r on) (hm : X.mg x = none) (hv : bootBuiltins x = some (.type id)) (ha : DEA X W ks κ (e :: es) f) (hg : Gl X x := by rfl)
    (hn : x ≠ "__name__" := by decide) (hdb : (x == ("__debug__" : Str)) = false := by decide) (he : starEach (e :: es) X.env = (false, eval e X.env) :: starEach es X.env := by rfl) (hpl : (backTo pos (starEach es X.env)).any (·.1) = false := by rfl) : DE X W ks .F (.Call (.Name x p) (e :: es) [] pos) (eN on f) :=
  let ⟨_, h1, h2⟩ := h; e_ty h1 h2 hm hv ha hg hn hdb he hpl
theorem p_biE {x : Str} {p : Pos} {es : List Expr} {id : String} {on : List PyData → Option PyData} {f : Env → R (List PyData)} (h : ∃ r, CallR X (.builtin id) r ∧ OpN X.K r on) (hm : X.mg x = none) (hv : bootBuiltins x = some (.builtin id)) (ha : DPA X W ks .B (e :: es) f) (hg : Gl X x := by rfl)
    (hn : x ≠ "__name__" := by decide) (hdb : (x == ("__debug__" : Str)) = false := by decide) (he : starEach (e :: es) X.env = (false, eval e X.env) :: starEach es X.env := by rfl) (hpl : (backTo pos (starEach es X.env)).any (·.1) = false := by rfl) : DP X W ks .F (.Call (.Name x p) (e :: es) [] pos) (fN on f) :=
  let ⟨_, h1, h2⟩ := h; p_bi h1 h2 hm hv ha hg hn hdb he hpl
theorem e_biE {x : Str} {p : Pos} {es : List Expr} {id : String} {on : List PyData → Option PyData} {f : Env → R (List PyData × Env)} (h : ∃ r, CallR X (.builtin id) r ∧ OpN X.K r on) (hm : X.mg x = none) (hv : bootBuiltins x = some (.builtin id)) (ha : DEA X W ks κ (e :: es) f) (hg : Gl X x := by rfl)
    (hn : x ≠ "__name__" := by decide) (hdb : (x == ("__debug__" : Str)) = false := by decide) (he : starEach (e :: es) X.env = (false, eval e X.env) :: starEach es X.env := by rfl) (hpl : (backTo pos (starEach es X.env)).any (·.1) = false := by rfl) : DE X W ks .F (.Call (.Name x p) (e :: es) [] pos) (eN on f) :=
  let ⟨_, h1, h2⟩ := h; e_bi h1 h2 hm hv ha hg hn hdb he hpl
theorem o_len' : ∃ r, CallR X (.builtin "len") r ∧ OpN X.K r dLen := ⟨_, call_len, o_len⟩
theorem o_abs' : ∃ r, CallR X (.builtin "abs") r ∧ OpN X.K r dAbs := ⟨_, call_abs, o_abs⟩
theorem o_all' (hc : X.calm = true) : ∃ r, CallR X (.builtin "all") r ∧ OpN X.K r dAll := ⟨_, cr_all hc, o_all⟩
theorem o_any' (hc : X.calm = true) : ∃ r, CallR X (.builtin "any") r ∧ OpN X.K r dAny := ⟨_, cr_any hc, o_any⟩
theorem o_sum' (hc : X.calm = true) : ∃ r, CallR X (.builtin "sum") r ∧ OpN X.K r dSum := ⟨_, cr_sum hc, o_sum⟩
theorem o_repr' (hg : X.A.guards = some []) (hu : X.A.units + 66 < cLine) : ∃ r, CallR X (.builtin "repr") r ∧ OpN X.K r dRepr := ⟨_, call_reprD hg hu, o_repr⟩
theorem p_meE {ob : Expr} {es : List Expr} {name : Str} {apos cpos : Pos} {T id : String} {isT : PyData → Bool} {om : PyData → List PyData → Option PyData} {f : Env → R PyData} {g : Env → R (List PyData)}
    (pa : PlainAttrs T) (slot : Slot T name id) (hty : typeOf (.builtin id) = pure (.type "method_descriptor")) (h : ∃ r, MtR X id r ∧ OpM X.K T r isT om) (ho : DP X W ks .B ob f) (ha : DPA X W ks .B (e :: es) g)
    (hbase : attributeBase ob name X.env (eval ob X.env) = eval ob X.env := by rfl)
    (hfew : ((backTo cpos (starEach (e :: es) X.env)).all (fun x => !x.1) && (backToKw cpos (keywordEach [] X.env)).all (fun x => x.1.isSome)
      && decide ((e :: es).length + ([] : List Keyword).length + (if ([] : List Keyword).isEmpty then 0 else 1) < 30)) = true := by rfl)
    (hline : (apos.endLine == cpos.line) = true := by rfl) (hs : starEach (e :: es) X.env = (false, eval e X.env) :: starEach es X.env := by rfl) (hplain : (backTo cpos (starEach es X.env)).any (·.1) = false := by rfl) :
    DP X W ks .F (.Call (.Attribute ob name apos) (e :: es) [] cpos) (fMe isT om f g) := let ⟨_, h1, h2⟩ := h; p_me pa slot hty h1 h2 ho ha hbase hfew hline hs hplain
theorem e_meE {ob : Expr} {es : List Expr} {name : Str} {apos cpos : Pos} {T id : String} {isT : PyData → Bool} {om : PyData → List PyData → Option PyData} {f : FE} {g : Env → R (List PyData × Env)}
    (pa : PlainAttrs T) (slot : Slot T name id) (hty : typeOf (.builtin id) = pure (.type "method_descriptor")) (h : ∃ r, MtR X id r ∧ OpM X.K T r isT om) (ho : DE X W ks .V ob f) (ha : DEA X W ks κ (e :: es) g)
    (hbase : attributeBase ob name X.env (eval ob X.env) = eval ob X.env := by rfl)
    (hfew : ((backTo cpos (starEach (e :: es) X.env)).all (fun x => !x.1) && (backToKw cpos (keywordEach [] X.env)).all (fun x => x.1.isSome)
      && decide ((e :: es).length + ([] : List Keyword).length + (if ([] : List Keyword).isEmpty then 0 else 1) < 30)) = true := by rfl)
    (hline : (apos.endLine == cpos.line) = true := by rfl) (hs : starEach (e :: es) X.env = (false, eval e X.env) :: starEach es X.env := by rfl) (hplain : (backTo cpos (starEach es X.env)).any (·.1) = false := by rfl) :
    DE X W ks .F (.Call (.Attribute ob name apos) (e :: es) [] cpos) (eMe isT om f g) := let ⟨_, h1, h2⟩ := h; e_me pa slot hty h1 h2 ho ha hbase hfew hline hs hplain
/-- an object of the module, by its place -/
theorem p_globR {x : Str} (hm : X.mg x = some (.ref (He.ga X.K x))) (hg : Gl X x := by rfl) (hd : (x == ("__debug__" : Str)) = false := by decide) : DP X W ks κ (.Name x pos) (fC (adrD (He.ga X.K x))) := p_glob (v := .ref (He.ga X.K x)) hm rfl (fun _ _ => .adr _) hg hd
theorem p_globS {x z : Str} (hm : ∃ t, X.mg x = some (.str z t)) (hg : Gl X x := by rfl) (hd : (x == ("__debug__" : Str)) = false := by decide) : DP X W ks κ (.Name x pos) (fC (.str z)) := let ⟨_, h⟩ := hm; p_glob (v := .str z) h ⟨_, rfl⟩ (fun _ _ => .str _) hg hd
theorem p_globI {x : Str} {z : Int} (hm : ∃ t, X.mg x = some (.int z t)) (hg : Gl X x := by rfl) (hd : (x == ("__debug__" : Str)) = false := by decide) : DP X W ks κ (.Name x pos) (fC (.int z)) := let ⟨_, h⟩ := hm; p_glob (v := .int z) h ⟨_, rfl⟩ (fun _ _ => .int _) hg hd
/-- an own slot's thing is given away -/
def sRetO (i : Nat) : FS := fun ρ => slot i ρ >>= fun d => .ok (.rt d, ρ.set i none)
theorem s_retO {i : Nat} {x : Str} {px : Pos} (hk : ks[i]? = some true) (hP : i ∉ P := by decide) (hN : X.N[i]? = some x := by rfl) (hv : Vis X.env.scope x := by first | exact Or.inl rfl | exact Or.inr (Or.inl rfl) | exact Or.inr (Or.inr rfl)) (hd : (x == ("__debug__" : Str)) = false := by decide) (hcd : (x == ("__classdict__" : Str)) = false := by decide) :
    DS X W ks P .F (.Return (some (.Name x px)) pos) (sRetO i) := PS.imp (ps_ret (pe_var hN hv hd hcd)) fun D σ H ⟨ρ, fp, eo, h⟩ => by
  obtain ⟨d, e, h⟩ := slot_ok h
  obtain ⟨v, ev, ab, nd⟩ := eo.own hk e
  refine ⟨v, ev, h σ v H fp (fp i) ?_ (Keep.refl _ _) ab ⟨nd, fun a q => ⟨fun ⟨j, g, hj, z⟩ => ?_, .inl ⟨i, d, hk, e, q⟩⟩⟩⟩
  · have s0 := Step.same eo (Same.refl H)
    refine ⟨⟨by rw [List.length_set]; exact eo.len, fun j g hj => ?_, fun j g o hj => ?_, fun j l g g' o n h1 h2 => ?_⟩, s0.fr, fun a ⟨j, g, hj, q⟩ => ?_, fun a ⟨j, g, o, hj, q⟩ => ?_⟩
    · rcases get_set hj with ⟨_, _, z⟩ | ⟨_, hj⟩
      · cases z
      · exact eo.ab j g hj
    · rcases get_set hj with ⟨_, _, z⟩ | ⟨_, hj⟩
      · cases z
      · exact eo.nd j g o hj
    · rcases get_set h1 with ⟨_, _, z⟩ | ⟨_, h1⟩
      · cases z
      rcases get_set h2 with ⟨_, _, z⟩ | ⟨_, h2⟩
      · cases z
      exact eo.dj j l g g' o n h1 h2
    · rcases get_set hj with ⟨_, _, z⟩ | ⟨_, hj⟩
      · cases z
      · exact .inl ⟨j, g, hj, q⟩
    · rcases get_set hj with ⟨_, _, z⟩ | ⟨_, hj⟩
      · cases z
      · exact .inl ⟨j, g, o, hj, q⟩
  · rcases get_set hj with ⟨_, _, y⟩ | ⟨hne, hj⟩
    · cases y
    · exact eo.dj i j _ _ hk (fun w => hne w.symm) e hj a q z
def dIadd : PyData → PyData → Option PyData := fun a b => match iOp (fun _ _ => true) (fun i j => i + j) a b with | some d => some d | none => sCat a b
theorem s_augE {i : Nat} {x : Str} {op : Operator} {f : FE} {bk : Bool} {pos' : Pos} (h : ∃ r, OpR X (inplaceOp op) r ∧ Op2 X.K r o) (he : DE X W ks .B e f) (hN : X.N.Nodup) (hk : ks[i]? = some bk := by rfl) (hP : i ∉ P := by decide) (hi : X.N[i]? = some x := by rfl) (hx : Loc X.env.scope x := by first | exact Or.inl rfl | exact Or.inr rfl)
    (hf : X.fn x = true ∨ X.env.scope.names.lookup x = some .local := by first | exact .inl rfl | exact .inr rfl | assumption) : DS X W ks P κ (.AugAssign (.Name x pos') op e pos) (sAug i o f) := let ⟨_, h1, h2⟩ := h; s_aug h1 h2 he hN hk hP hi hx hf
/-- what is known of an exception class of the program -/
structure ExK (K : PySem.W.Frag) (mg : Str → Option Value) (x : Str) : Prop where
  q : PySem.W.excIn K (He.ga K x) He.veBase "ValueError.__new__" = true
  g : mg x = some (.ref (He.ga K x))
  k : PySem.W.keepIn K (.ref (He.ga K x)) = true
  s : PySem.W.subIn K (.ref (He.ga K x)) (.type "BaseException") = some true
  t : PySem.W.typeIn K (.ref (He.ga K x)) = some (.type "type")
theorem exF {x : Str} (h : ExK X.K X.mg x) : ExcF X x := ⟨h.q, h.g, h.k, raises_own h.s h.t⟩
def excB (K : PySem.W.Frag) (D : Addr) : Bool := He.eqO (PySem.W.findIn K (.ref D) "__getattribute__") (some (some (.builtin "BaseException.__getattribute__"))) && (He.eqO (PySem.W.findIn K (.ref D) "__getattr__") (some none) &&
  (decide (PySem.W.subIn K (.ref D) (.type "BaseException") = some true) && (PySem.W.hasDictIn K D && (He.eqO (PySem.W.findIn K (.ref D) "__class__") (some (some (.builtin "object.__class__"))) &&
  (He.eqO (PySem.W.specialIn K (.builtin "object.__class__") "__get__") (some (some (.builtin "getset_descriptor.__get__"))) && (decide (PySem.W.takesIn K (.builtin "object.__class__") = some true) && decide (PySem.W.mroIn K D (.type "object") = some true)))))))
theorem excB_ok {K : PySem.W.Frag} {D : Addr} (h : excB K D = true) : ExcC K D := by
  unfold excB at h
  obtain ⟨h1, h⟩ := He.ba h
  obtain ⟨h2, h⟩ := He.ba h
  obtain ⟨h3, h⟩ := He.ba h
  obtain ⟨h4, h⟩ := He.ba h
  obtain ⟨h5, h⟩ := He.ba h
  obtain ⟨h6, h⟩ := He.ba h
  obtain ⟨h7, h8⟩ := He.ba h
  exact ⟨He.eqO_ok h1, He.eqO_ok h2, of_decide_eq_true h3, h4, He.eqO_ok h5, He.eqO_ok h6, of_decide_eq_true h7, of_decide_eq_true h8⟩
/-! ### a dict of the module: which of some texts stand in it -/
structure KdT (K : PySem.W.Frag) (w : World) (d : Addr) (tab : List (Str × Option Addr)) : Prop where
  ex : ∃ es n, KDict K w d es n
  at_ : ∀ q ∈ tab, PySem.W.nsIn K d q.1 = some (q.2.map Value.ref)
def kdIn (neg : Bool) (d : Addr) (tab : List (Str × Option Addr)) : PyData → PyData → Option Bool
  | .str z, .dict [(.dict [], .int a)] => if a = (d : Int) then (tab.lookup z).map fun r => if neg then !r.isSome else r.isSome else none
  | _, _ => none
theorem lookup_mem' {α : Type} {z : Str} {r : α} : ∀ {tab : List (Str × α)}, tab.lookup z = some r → (z, r) ∈ tab
  | [], h => by cases h
  | (k, v) :: t, h => by
    rw [List.lookup_cons] at h
    split at h
    · rename_i e
      cases h
      rw [eq_of_beq e]; exact List.mem_cons_self ..
    · exact List.mem_cons_of_mem _ (lookup_mem' h)
theorem o_kdNotIn {d : Addr} {tab : List (Str × Option Addr)} (D : KdT X.K X.w d tab) : ∃ r, OpR X (compareOp .NotIn) r ∧ OpB X.K r (kdIn true d tab) := by
  obtain ⟨es, n, kd⟩ := D.ex
  refine ⟨_, op_notIn_kd kd, ⟨fun H x y a b m n d' Q a1 a2 e q => ?_⟩⟩
  unfold kdIn at e
  split at e
  · rename_i z a
    split at e
    · rename_i ha
      subst ha
      obtain ⟨r, er, rfl⟩ := Option.map_eq_some_iff.mp e
      obtain ⟨rfl, _⟩ := a1.eq_str
      obtain ⟨rfl, _⟩ := Ab.eq_adr a2
      refine ⟨z, r.map Value.ref, rfl, rfl, D.at_ (z, r) (lookup_mem' er), ?_⟩
      cases r <;> exact q
    · cases e
  · cases e
def kdGet (d : Addr) (tab : List (Str × Option Addr)) : PyData → PyData → Option PyData
  | .dict [(.dict [], .int a)], .str z => if a = (d : Int) then match tab.lookup z with
    | some (some f) => some (adrD f)
    | _ => none else none
  | _, _ => none
theorem p_kd {d : Addr} {tab : List (Str × Option Addr)} {f g : Env → R PyData} (D : KdT X.K X.w d tab) (ha : DP X W ks .B a f) (hb : DP X W ks .B b g) (hs : PlainIx b := by exact fun _ _ => rfl) : DP X W ks κ (.Subscript a b pos) (fOp (kdGet d tab) f g) := by
  obtain ⟨es, n, kd⟩ := D.ex
  refine PE.imp (pe_ix ix_kdict ha hb hs) fun σ H Q ⟨ρ, fp, eo, h⟩ => ⟨ρ, fp, eo, (Holds.bind h).mono (fun x hx v H1 m s1 a1 r1 => ⟨ρ, fp, eo.same s1, (Holds.bind hx).mono (fun y hy u H2 n s2 a2 _ => ?_) fun c hc H' s' => hc H' (s1.trans s')⟩) fun c hc => hc⟩
  obtain ⟨r, er, hy⟩ := Holds.ofO hy
  unfold kdGet at er
  split at er
  · rename_i a z
    split at er
    · rename_i ha
      subst ha
      split at er
      · rename_i f e
        cases er
        obtain ⟨rfl, _⟩ := Ab.eq_adr a1
        obtain ⟨rfl, _⟩ := a2.eq_str
        exact ⟨_, _, .ref f, rfl, rfl, ⟨es, _, .ref f, kd.at_, kd.lit, D.at_ _ (lookup_mem' e), rfl⟩, hy _ H2 [] (s1.trans s2) (.adr f) (RCp.nil _)⟩
      · cases er
    · cases er
  · cases er
/-! ### a call of a def that an expression names -/
structure FnT (P : Program) (w : World) (K : PySem.W.Frag) (mg : Str → Option Value) (base : Heap) (k np : Nat) (κ : Kd) (tab : List (Addr × (List PyData → R PyData))) : Prop where
  at_ : ∀ q ∈ tab, ∃ fd ps, ps.length = np ∧ FnG P w K mg base (L2.CX P w) k q.1 fd ps (spP K ps.length κ q.2) ∧ PySem.W.keepIn K (.ref q.1) = true ∧ Binds K fd ps []
theorem FnT.nil {P : Program} {w : World} {K : PySem.W.Frag} {mg : Str → Option Value} {base : Heap} {k np : Nat} {κ : Kd} : FnT P w K mg base k np κ [] := ⟨fun _ q => nomatch q⟩
theorem FnT.cons {P : Program} {w : World} {K : PySem.W.Frag} {mg : Str → Option Value} {base : Heap} {k j : Nat} {κ : Kd} {tab : List (Addr × (List PyData → R PyData))} {x : Str} {ps : List Str} {m : List PyData → R PyData}
    (F : FnPP P w K mg base j x ps κ m) (hj : j ≤ k) (hx : mg x = some (.ref (He.ga K x))) (T : FnT P w K mg base k ps.length κ tab) : FnT P w K mg base k ps.length κ ((He.ga K x, m) :: tab) := ⟨fun q hq => by
  rcases List.mem_cons.mp hq with e | hq
  · obtain ⟨f, fd, G, hm, hk, hb⟩ := F.ex
    rw [hx] at hm
    cases hm
    subst e
    exact ⟨fd, ps, rfl, G.mono hj, hk, hb⟩
  · exact T.at_ q hq⟩
def adrOf : PyData → Option Int
  | .dict [(.dict [], .int a)] => some a
  | _ => none
def fCallX (tab : List (Addr × (List PyData → R PyData))) (g : Env → R PyData) (f : Env → R (List PyData)) : Env → R PyData := fun ρ => g ρ >>= fun d => ofO ((adrOf d).bind fun a => tab.find? fun q => a == (q.1 : Int)) >>= fun q => f ρ >>= q.2
theorem adrOf_eq {d : PyData} {a : Int} (h : adrOf d = some a) : d = .dict [(.dict [], .int a)] := by
  unfold adrOf at h
  split at h
  · cases h; rfl
  · cases h
theorem p_callX {np k : Nat} {tab : List (Addr × (List PyData → R PyData))} {fe : Expr} {es : List Expr} {g : Env → R PyData} {f : Env → R (List PyData)} (T : FnT X.prog X.w X.K X.mg X.base k np .F tab) (tk : Takes X W) (hr : RoomG k X.A) (hf : DP X W ks .B fe g) (ha : DPA X W ks .B (e :: es) f)
    (hlen : HL np f := by repeat (first | exact HL.nil | refine HL.cons ?_)) (ht : eval (.Call fe (e :: es) [] pos) X.env = (do callWith pos (← eval fe X.env) [] (backTo pos (starEach (e :: es) X.env)) (backToKw pos (keywordEach [] X.env))) := by rfl)
    (he : starEach (e :: es) X.env = (false, eval e X.env) :: starEach es X.env := by rfl) (hpl : (backTo pos (starEach es X.env)).any (·.1) = false := by rfl) : DP X W ks .F (.Call fe (e :: es) [] pos) (fCallX tab g f) := by
  refine ⟨fun pins s σ H Q I ⟨ρ, fp, eo, h⟩ => ?_⟩
  refine Call_ (thn (hf.run pins s σ H (fun v H1 => ∃ q, q ∈ tab ∧ v = .ref q.1 ∧ Same H H1 ∧ Holds (f ρ >>= q.2) (fun d => ∀ v H' m, Same H H' → Ab X.K H' Kd.F.ow v d m → RCp .F H ks ρ fp m → Q v H') fun c => ∀ H', Same H H' → WEx X.K W c σ H') I ⟨ρ, fp, eo, (Holds.bind h).mono (fun d hd v H1 m s1 a1 _ => ?_) fun c hc => hc⟩) fun u s1 ⟨v, H1, I1, rv, q, hq, ev, s1', hh⟩ => ?_) ht
  · obtain ⟨q, eq, hd2⟩ := Holds.ofO (Holds.bind hd)
    clear hd
    obtain ⟨a, ea, ef⟩ := Option.bind_eq_some_iff.mp eq
    have e1 := adrOf_eq ea
    have e2 := List.mem_of_find?_eq_some ef
    have e3 : a = (q.1 : Int) := by simpa using List.find?_some ef
    subst e1 e3
    obtain ⟨rfl, _⟩ := Ab.eq_adr a1
    exact ⟨q, e2, rfl, s1, hd2⟩
  · subst ev
    obtain rfl : u = Value.ref q.1 := rv
    obtain ⟨fd, ps, hps, G, hk, hb⟩ := T.at_ q hq
    subst hps
    refine PySem.W.callWith_K (h₀ := X.base) I1.ok.mod.kin hk (thn (ha.run pos pins s1 σ H1 (fun vs H2 => spP X.K ps.length .F q.2 vs H2 Q (WE W σ)) I1 ⟨ρ, fp, eo.same s1', ?_⟩) fun us s2 ⟨vs, H2, I2, r, q2⟩ => ⟨I2.kIn, run_fnG G hr hb (passAt tk σ) I2 r q2⟩) he hpl
    have := call_core (κa := .B) (κr := .F) (κf := .F) (W := W) (σ := σ) (Q := Q) hlen (fun a => a) (fun s _ r => hκF (K := X.K) (κa := .B) (σ := σ) s r) eo (m := q.2) (f := f) hh
    exact this.mono (fun ds hd v H' m' s2 al rc => hd v H' m' (s1'.trans s2) al trivial) fun c hc H' s2 => hc H' (s1'.trans s2)
end
/-! ### the end -/
theorem law_callG {P : Program} {w : World} {K : PySem.W.Frag} {mg mb : Str → Option Value} {CX : CXT} {k : Nat} {fa a : Addr} {fd : FuncData} {x : Str} {sp : Sp} {s₁ : Shared} {vs : List Value} {ns : List Int}
    (KX : K.In s₁.heap) (hns : s₁.heap.Ns mainGlobals mg) (hb : s₁.heap.Ns builtinsNs mb) (hbb : ∀ x : Str, x ≠ "__name__" → mb x = bootBuiltins x) (hlim : s₁.heap.NoLimit) (hg : s₁.gens = #[])
    (ha : s₁.heap.get? a = some { cls := .type "list", data := .seq vs.toArray }) (hi : IntsAre vs ns) (hl : ns.length ≤ sizeLine) (hr : RoomG k callerA)
    (F : ∀ base : Heap, K.In base → base.Ns mainGlobals mg → FnG P w K mg base CX k fa fd [x] sp) (hbind : Binds K fd [x] [])
    (hsp : ∀ H : Hp, Only H → SqL K H a (ns.map V.int) → sp [.ref a] H (fun v _ => v = .bl true) fun _ _ _ => False)
    (hCX : ∀ H e s', CX [] H s₁ (fun _ _ _ => False) e s' → False) :
    codeAny (model P w) callerA (.call (.ref fa) ⟨[.ref a], []⟩) (fun r s' => r = .ok (.ret (.bool true)) ∧ OldK s₁.heap s'.heap ∧ s'.os = s₁.os ∧ AllBare s'.gens) s₁ := by
  have rv := vals_ints hi
  have core : ∀ H : Hp, Only H → SqL K H a (ns.map V.int) → HOk P w H s₁.heap → (∀ b, H b ≠ none → b = a) → (H a ≠ none → K.lookup a = none) →
      codeAny (model P w) callerA (.call (.ref fa) ⟨[.ref a], []⟩) (fun r s' => r = .ok (.ret (.bool true)) ∧ OldK s₁.heap s'.heap ∧ s'.os = s₁.os ∧ AllBare s'.gens) s₁ := by
    intro H hO hS hok hA hK
    have free : ∀ {b : Addr}, b ≠ a → H b = none := fun {b} n => Classical.byContradiction fun z => n (hA b z)
    have hid : ∀ {b : Addr} {o : Obj}, s₁.heap.get? b = some o → H b = none → (hidT s₁.heap H).get? b = some o := fun e n => hidT_get e n
    have dic : ∀ {b : Addr} {o : Obj} {es : Array DictEntry} {ep : Nat}, s₁.heap.get? b = some o → o.data = .dict es ep → H b = none := fun {b o es ep} e d => free fun z => by
      rw [z, ha] at e
      cases e
      exact Data.noConfusion (show Data.seq vs.toArray _ = Data.dict es ep from d)
    have ns' : ∀ {b : Addr} {m : Str → Option Value}, s₁.heap.Ns b m → (hidT s₁.heap H).Ns b m := fun {b m} ⟨o, es, ep, e, d, r⟩ => ⟨o, es, ep, hid e (dic e d), d, r⟩
    have kin : K.In (hidT s₁.heap H) := fun b o e => hid (KX b o e) (by
      by_cases z : b = a
      · subst z
        exact Classical.byContradiction fun n => by rw [hK n] at e; cases e
      · exact free z)
    obtain ⟨mc, l1, l2⟩ := hlim
    have e0 : Env0 P w K mg (hidT s₁.heap H) callerA [] s₁ H := ⟨rfl, ⟨kin, ns' hns, ⟨mb, ns' hb, hbb⟩, ⟨mc, ns' l1, l2⟩⟩, fun b o e => of_hidT e, Nat.le_of_eq (hidT_size _ _), trivial, (fun b hb => nomatch hb), hok, .of_eq hg⟩
    refine codeAny_mono ((F _ kin (ns' hns)).run callerA [] s₁ H ⟨[.ref a], []⟩ [.ref a] [.ref a] _ _ hr e0 (hbind s₁ [.ref a] KX rfl) (.cons rfl .nil) (hsp H hO hS)) fun r s' h => ?_
    match r, h with
    | .error e, h => exact (hCX H e s' h).elim
    | .ok (.ret u), ⟨v, H', os, bare, un, hok', r', q⟩ =>
      have q' : v = .bl true := q
      subst q'
      obtain rfl : u = Value.bool true := r'
      refine ⟨rfl, OldK.of_keep fun b o e => ?_, os, bare⟩
      rcases hO b with z | ⟨ob, xs, z⟩
      · exact un.keep b o e z (fun z => nomatch (show b ∈ ([] : List Addr) from z)) (fun z => nomatch z)
      · obtain ⟨e1, _⟩ := hok b _ z
        obtain ⟨e2, _⟩ := hok' b _ (un.frzs b ob _ z)
        rw [e] at e1; cases e1
        exact e2
  cases hk : K.lookup a with
  | some o =>
    have e := KX a o hk
    rw [ha] at e
    cases e
    exact core (fun _ => none) (fun _ => .inl rfl) (.inr ⟨_, vs.toArray, _, hk, rfl, rfl, rfl, by rw [List.size_toArray, hi.length]; exact hl, by simpa using rv⟩) (fun b u z => nomatch z) (fun b z => absurd rfl z) fun z => absurd rfl z
  | none =>
    let H1 : Hp := upd (fun _ => none) a (.frz { cls := .type "list", data := .seq vs.toArray } (.lst (ns.map V.int)))
    have at1 : H1 a = some (.frz { cls := .type "list", data := .seq vs.toArray } (.lst (ns.map V.int))) := upd_same
    have off1 : ∀ b, b ≠ a → H1 b = none := fun b n => upd_ne n
    refine core H1 (fun b => ?_) (.inl (.inr ⟨_, at1⟩)) (fun b u z => ?_) (fun b z => Classical.byContradiction fun n => z (off1 b n)) fun _ => hk
    · by_cases n : b = a
      · subst n; exact .inr ⟨_, _, at1⟩
      · exact .inl (off1 b n)
    · by_cases n : b = a
      · subst n
        rw [at1] at z
        cases z
        exact ⟨ha, by rw [List.length_map]; exact hl, vs, _, rv, ha⟩
      · rw [off1 b n] at z; cases z
theorem walkG {l : PySem.W.OpenLaw} {n k : Nat} {q : Program} {loose : List Str} {XP : (Str → Option Value) → Heap → Prop} {YP : World → Heap → Prop} {d : DefRec} {x : Str}
    (hn : l.most = some n) (hn2 : n ≤ sizeLine) (hdf : d.params.defaults = []) (hr : Room k callerA)
    (F : ∀ (w : World) (mg : Str → Option Value) (fa : Addr) (h : Heap), YP w h → h.Ns mainGlobals mg → mg d.name = some (.ref fa) →
      ∃ (K : PySem.W.Frag) (fd : FuncData) (m : List PyData → R PyData), K.In h ∧ Binds K fd [x] [] ∧
        (∀ ns : List Int, ns.length ≤ n → m [frzD (ns.map .int)] = .ok (.bool true)) ∧
        ∀ base : Heap, K.In base → base.Ns mainGlobals mg → FnG l.prog w K mg base (L2.CX l.prog w) k fa fd [x] (spP K 1 .F m)) :
    PySem.W.WalkO q loose XP YP l.row.toRowW d [] (fun f vs => PySem.call f vs) := by
  refine Att.attach_call hn hdf fun w s₀ s₁ mg mb fa o pm cd doc a vs ns G Y ho hd hcd hmg hobj hints hlen hg => ?_
  obtain ⟨K, fd, m, KX, hb, hm, hF⟩ := F w mg fa _ Y G.T.g hmg
  refine law_callG KX G.T.g G.T.b G.T.builtins G.T.nolimit hg hobj hints (Nat.le_trans hlen hn2) ⟨hr, rfl⟩ hF hb (fun H hO hS => ?_) fun H e s' h => ?_
  · have hF : SqF K H a (ns.map V.int) := by
      rcases hS with (h | ⟨o, h⟩) | h
      · rcases hO a with z | ⟨ob, xs, z⟩
        · rw [h] at z; cases z
        · rw [h] at z; cases z
      · exact .inl ⟨o, h⟩
      · exact .inr h
    have al : AbL K H false [V.ref a] [frzD (ns.map .int)] ([] ++ []) := .cons (.frz hF (AbL.ofInts ns)) .nil
    refine ⟨rfl, _, _, al, ?_⟩
    rw [hm ns hlen]
    intro v H' l s ab _
    exact ab.eq_bl.1
  · obtain ⟨_, _, _, _, _, _, _, _, _, _, _, _, z⟩ := h
    exact z
end PV

set_option Elab.async false
set_option linter.all false
set_option maxRecDepth 100000
set_option maxHeartbeats 1000000
set_option autoImplicit false
/-! PV, part r: plain facts of the semantic functions; the helpers that the laws share. -/
namespace PV
open PySem PySem.Spec PyProof.Rows L2
@[simp] theorem fVar_zero {d : PyData} {ρ : Env} : fVar 0 (some d :: ρ) = .ok d := id rfl
@[simp] theorem fVar_succ {i : Nat} {x : Option PyData} {ρ : Env} : fVar (i + 1) (x :: ρ) = fVar i ρ := by simp [fVar]
@[simp] theorem slotL_zero {d : List PyData} {ρ : Env} : slotL 0 (some (.list d) :: ρ) = .ok d := id rfl
@[simp] theorem slotL_succ {i : Nat} {x : Option PyData} {ρ : Env} : slotL (i + 1) (x :: ρ) = slotL i ρ := by simp [slotL]
@[simp] theorem slot_zero {d : PyData} {ρ : Env} : slot 0 (some d :: ρ) = .ok d := id rfl
@[simp] theorem slot_succ {i : Nat} {x : Option PyData} {ρ : Env} : slot (i + 1) (x :: ρ) = slot i ρ := by simp [slot]
@[simp] theorem fC_ok {d : PyData} {ρ : Env} : fC d ρ = .ok d := id rfl
@[simp] theorem fNil_ok {ρ : Env} : fNil ρ = .ok [] := id rfl
@[simp] theorem fCons_ok {f : Env → R PyData} {g : Env → R (List PyData)} {ρ : Env} : fCons f g ρ = f ρ >>= fun x => g ρ >>= fun xs => .ok (x :: xs) := id rfl
@[simp] theorem fCall_ok {m : List PyData → R PyData} {f : Env → R (List PyData)} {ρ : Env} : fCall m f ρ = f ρ >>= m := id rfl
@[simp] theorem fN_ok {o : List PyData → Option PyData} {f : Env → R (List PyData)} {ρ : Env} : fN o f ρ = f ρ >>= fun xs => ofO (o xs) := id rfl
@[simp] theorem fOp_ok {o : PyData → PyData → Option PyData} {f g : Env → R PyData} {ρ : Env} : fOp o f g ρ = f ρ >>= fun x => g ρ >>= fun y => ofO (o x y) := id rfl
@[simp] theorem fLst_ok {f : Env → R (List PyData)} {ρ : Env} : fLst f ρ = f ρ >>= fun xs => if xs.length ≤ sizeLine then .ok (.list xs) else .no := id rfl
@[simp] theorem fTup_ok {f : Env → R (List PyData)} {ρ : Env} : fTup f ρ = f ρ >>= fun xs => if xs.length ≤ sizeLine then .ok (.tuple xs) else .no := id rfl
@[simp] theorem eL_ok {f : Env → R PyData} {ρ : Env} : eL f ρ = f ρ >>= fun d => .ok (d, ρ) := id rfl
@[simp] theorem eLA_ok {f : Env → R (List PyData)} {ρ : Env} : eLA f ρ = f ρ >>= fun d => .ok (d, ρ) := id rfl
@[simp] theorem eLT_ok {f : Env → R Bool} {ρ : Env} : eLT f ρ = f ρ >>= fun d => .ok (d, ρ) := id rfl
@[simp] theorem eNil_ok {ρ : Env} : eNil ρ = .ok ([], ρ) := id rfl
@[simp] theorem eCons_ok {f : FE} {g : Env → R (List PyData × Env)} {ρ : Env} : eCons f g ρ = f ρ >>= fun r => g r.2 >>= fun q => .ok (r.1 :: q.1, q.2) := id rfl
@[simp] theorem eOp_ok {o : PyData → PyData → Option PyData} {f g : FE} {ρ : Env} : eOp o f g ρ = f ρ >>= fun r => g r.2 >>= fun q => ofO (o r.1 q.1) >>= fun z => .ok (z, q.2) := id rfl
@[simp] theorem eN_ok {o : List PyData → Option PyData} {f : Env → R (List PyData × Env)} {ρ : Env} : eN o f ρ = f ρ >>= fun r => ofO (o r.1) >>= fun z => .ok (z, r.2) := id rfl
@[simp] theorem gCmp_ok {o : PyData → PyData → Option Bool} {f g : Env → R PyData} {ρ : Env} : gCmp o f g ρ = f ρ >>= fun x => g ρ >>= fun y => ofO (o x y) := id rfl
@[simp] theorem gTru_ok {t : PyData → Option Bool} {f : Env → R PyData} {ρ : Env} : gTru t f ρ = f ρ >>= fun x => ofO (t x) := id rfl
@[simp] theorem gNot_ok {f : Env → R Bool} {ρ : Env} : gNot f ρ = f ρ >>= fun c => .ok (!c) := id rfl
@[simp] theorem gAnd_ok {f g : Env → R Bool} {ρ : Env} : gAnd f g ρ = f ρ >>= fun c => if c then g ρ else .ok false := id rfl
@[simp] theorem gOr_ok {f g : Env → R Bool} {ρ : Env} : gOr f g ρ = f ρ >>= fun c => if c then .ok true else g ρ := id rfl
@[simp] theorem sNil_ok {ρ : Env} : sNil ρ = .ok (.nx, ρ) := id rfl
@[simp] theorem sSet_ok {i : Nat} {f : FE} {ρ : Env} : sSet i f ρ = f ρ >>= fun r => .ok (.nx, r.2.set i (some r.1)) := id rfl
@[simp] theorem sDrop_ok {f : FE} {ρ : Env} : sDrop f ρ = f ρ >>= fun r => .ok (.nx, r.2) := id rfl
@[simp] theorem sRet_ok {f : FE} {ρ : Env} : sRet f ρ = f ρ >>= fun r => .ok (.rt r.1, r.2) := id rfl
@[simp] theorem sIf_ok {t : Env → R (Bool × Env)} {f g : FS} {ρ : Env} : sIf t f g ρ = t ρ >>= fun r => if r.1 then f r.2 else g r.2 := id rfl
@[simp] theorem sSeq_ok {f g : FS} {ρ : Env} : sSeq f g ρ = f ρ >>= fun r => match r.1 with | .nx => g r.2 | .bk => .ok (.bk, r.2) | .ct => .ok (.ct, r.2) | .rt d => .ok (.rt d, r.2) := id rfl
@[simp] theorem sFor_ok {t : Tg} {fi : Env → R (List PyData × Env)} {f : FS} {ρ : Env} : sFor t fi f ρ = fi ρ >>= fun r => sForL t f r.1 r.2 := id rfl
@[simp] theorem eIt_ok {f : FE} {ρ : Env} : eIt f ρ = f ρ >>= fun r => ofO (itemsD r.1) >>= fun ds => .ok (ds, r.2) := id rfl
@[simp] theorem eRg_ok {f : Env → R (List PyData × Env)} {ρ : Env} : eRg f ρ = f ρ >>= fun r => ofO (rangeD r.1) >>= fun ds => .ok (ds, r.2) := id rfl
@[simp] theorem put_nm {i : Nat} {d : PyData} {ρ : Env} : put (.nm i) d ρ = .ok (ρ.set i (some d)) := by simp [put]
@[simp] theorem iOp_t {g : Int → Int → Int} {i j : Int} : iOp (fun _ _ => true) g (.int i) (.int j) = some (.int (g i j)) := id rfl
@[simp] theorem dAdd_int {i j : Int} : dAdd (.int i) (.int j) = some (.int (i + j)) := id rfl
@[simp] theorem dSub_int {i j : Int} : dSub (.int i) (.int j) = some (.int (i - j)) := id rfl
theorem dMod_int {i j : Int} (h : 0 < j) : dMod (.int i) (.int j) = some (.int (i % j)) := by simp [dMod, iOp, h]
theorem dDiv_int {i j : Int} (h : 0 < j) (h2 : j.natAbs.log2 < 9000) : dDiv (.int i) (.int j) = some (.int (i / j)) := by simp [dDiv, iOp, h, h2]
theorem dMul_int {i j : Int} (h : i.natAbs.log2 + j.natAbs.log2 < 1000000) : dMul (.int i) (.int j) = some (.int (i * j)) := by simp [dMul, iMul, iOp, cMul, h]
@[simp] theorem dLt_int {i j : Int} : dLt (.int i) (.int j) = some (decide (i < j)) := id rfl
@[simp] theorem dLe_int {i j : Int} : dLe (.int i) (.int j) = some (decide (i ≤ j)) := id rfl
@[simp] theorem dGt_int {i j : Int} : dGt (.int i) (.int j) = some (decide (j < i)) := id rfl
@[simp] theorem dGe_int {i j : Int} : dGe (.int i) (.int j) = some (decide (j ≤ i)) := id rfl
@[simp] theorem dInt_int {i : Int} : dInt [.int i] = some (.int i) := id rfl
theorem log2_lt {n k : Nat} (h : n < 2 ^ k) (hk : 0 < k) : n.log2 < k := by
  by_cases h0 : n = 0
  · subst h0; simpa using hk
  · exact (Nat.log2_lt h0).mpr h
/-! ### draws -/
def Dr (n : Nat) (ds : List PyData) : Prop := (∀ d ∈ ds, ∃ i : Int, d = .int i ∧ 0 ≤ i ∧ i < 1000) ∧ ds.length ≤ n
def semNext : FS :=
  (sSeq (sIf (eLT (gTru dTru (fVar 0))) (sRet (ePop 0))
  sNil)
  (sRet (eL (fC (.int 0)))))
def mNext : PyData → List PyData → R (PyData × PyData) := runM 1 semNext
theorem next_ok {n : Nat} {ds : List PyData} (h : Dr n ds) : ∃ (i : Int) (ds' : List PyData), mNext (.list ds) [] = .ok (.int i, .list ds') ∧ 0 ≤ i ∧ i < 1000 ∧ Dr n ds' := by
  rcases List.eq_nil_or_concat ds with rfl | ⟨l, d, rfl⟩
  · exact ⟨0, [], rfl, by omega, by omega, h⟩
  · rw [List.concat_eq_append] at h ⊢
    obtain ⟨i, rfl, h1, h2⟩ := h.1 d (by simp)
    refine ⟨i, l, ?_, h1, h2, fun x hx => h.1 x (by simp [hx]), by have := h.2; simp at this; omega⟩
    have e : (l ++ [PyData.int i]).isEmpty = false := by simp
    simp [mNext, runM, semNext, rho0, dTru, ePop, endV, e]
@[simp] theorem eCallM_ok {i : Nat} {m : PyData → List PyData → R (PyData × PyData)} {f : Env → R (List PyData × Env)} {ρ : Env} : eCallM i m f ρ = slot i ρ >>= fun _ => f ρ >>= fun r => slot i r.2 >>= fun d0 => m d0 r.1 >>= fun q => .ok (q.1, r.2.set i (some q.2)) := id rfl
@[simp] theorem eFlat_ok {f : FE} {ρ : Env} : eFlat f ρ = f ρ >>= fun r => if flat r.1 then .ok r else .no := id rfl
@[simp] theorem eApp_ok {i : Nat} {f : FE} {ρ : Env} : eApp i f ρ = slotL i ρ >>= fun _ => f ρ >>= fun r => slotL i r.2 >>= fun ds => if ds.length < sizeLine then .ok (.none, r.2.set i (some (.list (ds ++ [r.1])))) else .no := id rfl
@[simp] theorem eExt_ok {i : Nat} {f : FE} {ρ : Env} : eExt i f ρ = slotL i ρ >>= fun _ => f ρ >>= fun r => slotL i r.2 >>= fun ds => match r.1 with
  | .list es => if flatL es then (if ds.length + es.length ≤ sizeLine then .ok (.none, r.2.set i (some (.list (ds ++ es)))) else .no) else .no
  | _ => .no := id rfl
theorem sz : sizeLine = 16777216 := by decide
/-- an index within the list -/
theorem ixD_list {xs : List PyData} {i : Int} {d : PyData} (h0 : 0 ≤ i) (h : xs[i.toNat]? = some d) : ixD (.list xs) (.int i) = some d := by
  have hl := (List.getElem?_eq_some_iff.mp h).1
  have e : ixN xs.length i = some i.toNat := by
    unfold ixN
    rw [if_pos h0]
    exact if_pos (by omega)
  show atI xs i = some d
  unfold atI
  rw [e]
  exact h
def semPick : FS :=
  (sRet (eFlat (eOp ixD (eL (fVar 1)) (eOp dMod (eN dInt (eCons (eCallM 0 mNext (eLA fNil)) eNil)) (eL (fN dLen (fCons (fVar 1) fNil)))))))
def mPick : PyData → List PyData → R (PyData × PyData) := runM 2 semPick
theorem pick_ok {n : Nat} {ds xs : List PyData} (h : Dr n ds) (hx : xs ≠ []) (hf : flatL xs = true) : ∃ d ds', d ∈ xs ∧ mPick (.list ds) [.list xs] = .ok (d, .list ds') ∧ Dr n ds' := by
  obtain ⟨i, ds', e, h1, h2, hd⟩ := next_ok h
  have hl : 0 < (xs.length : Int) := by
    have := List.length_pos_iff.mpr hx; omega
  have m0 := Int.emod_nonneg i (show (xs.length : Int) ≠ 0 by omega)
  have m1 := Int.emod_lt_of_pos i hl
  have hlt : (i % (xs.length : Int)).toNat < xs.length := by omega
  refine ⟨xs[(i % (xs.length : Int)).toNat], ds', List.getElem_mem _, ?_, hd⟩
  have e1 : ixD (.list xs) (.int (i % (xs.length : Int))) = some (xs[(i % (xs.length : Int)).toNat]) := ixD_list m0 (List.getElem?_eq_getElem hlt)
  have e2 : flat (xs[(i % (xs.length : Int)).toNat]) = true := flatL_iff.mp hf _ (List.getElem_mem _)
  simp [mPick, runM, semPick, rho0, e, dLen, dMod_int hl, e1, e2, endV]
/-! ### loops -/
theorem for_inv {t : Tg} {f : FS} (I : Env → Prop) : ∀ (ds : List PyData), (∀ d ∈ ds, ∀ ρ, I ρ → ∃ ρ1 ρ2, put t d ρ = .ok ρ1 ∧ f ρ1 = .ok (.nx, ρ2) ∧ I ρ2) → ∀ ρ, I ρ → ∃ ρ', sForL t f ds ρ = .ok (.nx, ρ') ∧ I ρ'
  | [], _, ρ, h => ⟨ρ, rfl, h⟩
  | d :: ds, hs, ρ, h => by
    obtain ⟨ρ1, ρ2, e1, e2, h2⟩ := hs d (List.mem_cons_self ..) ρ h
    obtain ⟨ρ', e3, h3⟩ := for_inv I ds (fun x hx => hs x (List.mem_cons_of_mem _ hx)) ρ2 h2
    exact ⟨ρ', by simp [sForL, e1, e2, e3], h3⟩
/-- with a break -/
theorem for_brk {t : Tg} {f : FS} (I : Env → Prop) : ∀ (ds : List PyData), (∀ d ∈ ds, ∀ ρ, I ρ → ∃ ρ1 ρ2, put t d ρ = .ok ρ1 ∧ (f ρ1 = .ok (.nx, ρ2) ∨ f ρ1 = .ok (.bk, ρ2)) ∧ I ρ2) → ∀ ρ, I ρ → ∃ ρ', sForL t f ds ρ = .ok (.nx, ρ') ∧ I ρ'
  | [], _, ρ, h => ⟨ρ, rfl, h⟩
  | d :: ds, hs, ρ, h => by
    obtain ⟨ρ1, ρ2, e1, e2, h2⟩ := hs d (List.mem_cons_self ..) ρ h
    rcases e2 with e2 | e2
    · obtain ⟨ρ', e3, h3⟩ := for_brk I ds (fun x hx => hs x (List.mem_cons_of_mem _ hx)) ρ2 h2
      exact ⟨ρ', by simp [sForL, e1, e2, e3], h3⟩
    · exact ⟨ρ2, by simp [sForL, e1, e2], h2⟩
/-- an invariant that counts the turns -/
theorem for_cnt {t : Tg} {f : FS} (N : Nat) (I : Nat → Env → Prop) : ∀ (ds : List PyData), (∀ i d, d ∈ ds → i < N → ∀ ρ, I i ρ → ∃ ρ1 ρ2, put t d ρ = .ok ρ1 ∧ f ρ1 = .ok (.nx, ρ2) ∧ I (i + 1) ρ2) → ∀ i ρ, i + ds.length ≤ N → I i ρ → ∃ ρ', sForL t f ds ρ = .ok (.nx, ρ') ∧ I (i + ds.length) ρ'
  | [], _, i, ρ, _, h => ⟨ρ, rfl, h⟩
  | d :: ds, hs, i, ρ, hN, h => by
    rw [List.length_cons] at hN
    obtain ⟨ρ1, ρ2, e1, e2, h2⟩ := hs i d (List.mem_cons_self ..) (by omega) ρ h
    obtain ⟨ρ', e3, h3⟩ := for_cnt N I ds (fun i x hx => hs i x (List.mem_cons_of_mem _ hx)) (i + 1) ρ2 (by omega) h2
    exact ⟨ρ', by simp [sForL, e1, e2, e3], by rw [List.length_cons, show i + (ds.length + 1) = i + 1 + ds.length by omega]; exact h3⟩
/-- with a break, counting -/
theorem for_brkC {t : Tg} {f : FS} (N : Nat) (I : Nat → Env → Prop) (mono : ∀ i j ρ, i ≤ j → I i ρ → I j ρ) : ∀ (ds : List PyData), (∀ i d, d ∈ ds → i < N → ∀ ρ, I i ρ → ∃ ρ1 ρ2, put t d ρ = .ok ρ1 ∧ ((f ρ1 = .ok (.nx, ρ2) ∧ I (i + 1) ρ2) ∨ (f ρ1 = .ok (.bk, ρ2) ∧ I i ρ2))) → ∀ i ρ, i + ds.length ≤ N → I i ρ → ∃ ρ', sForL t f ds ρ = .ok (.nx, ρ') ∧ I (i + ds.length) ρ'
  | [], _, i, ρ, _, h => ⟨ρ, rfl, h⟩
  | d :: ds, hs, i, ρ, hN, h => by
    rw [List.length_cons] at hN
    obtain ⟨ρ1, ρ2, e1, e2⟩ := hs i d (List.mem_cons_self ..) (by omega) ρ h
    rcases e2 with ⟨e2, h2⟩ | ⟨e2, h2⟩
    · obtain ⟨ρ', e3, h3⟩ := for_brkC N I mono ds (fun i x hx => hs i x (List.mem_cons_of_mem _ hx)) (i + 1) ρ2 (by omega) h2
      exact ⟨ρ', by simp [sForL, e1, e2, e3], by rw [List.length_cons, show i + (ds.length + 1) = i + 1 + ds.length by omega]; exact h3⟩
    · exact ⟨ρ2, by simp [sForL, e1, e2], mono _ _ _ (by omega) h2⟩
/-- a comprehension that changes slots -/
theorem lc_inv {t : Tg} {own : List Nat} {fe : FE} (I : Env → Prop) (Q : PyData → Prop) : ∀ (ds : List PyData), (∀ d ∈ ds, ∀ ρ, I ρ → ∃ ρ1 y ρ2, put t d ρ = .ok ρ1 ∧ fe ρ1 = .ok (y, ρ2) ∧ Q y ∧ I (wipeE ρ2 own)) → ∀ ρ, I ρ → ∃ ys ρ', eLcL t own egYes fe ds ρ = .ok (ys, ρ') ∧ (∀ y ∈ ys, Q y) ∧ ys.length = ds.length ∧ I ρ'
  | [], _, ρ, h => ⟨[], ρ, rfl, fun _ q => (nomatch q), rfl, h⟩
  | d :: ds, hs, ρ, h => by
    obtain ⟨ρ1, y, ρ2, e1, e2, hy, h2⟩ := hs d (List.mem_cons_self ..) ρ h
    obtain ⟨ys, ρ', e3, q3, l3, h3⟩ := lc_inv I Q ds (fun x hx => hs x (List.mem_cons_of_mem _ hx)) _ h2
    refine ⟨y :: ys, ρ', by simp [eLcL, e1, egYes, noX, e2, e3], fun z hz => ?_, by simp [l3], h3⟩
    rcases List.mem_cons.mp hz with rfl | hz
    · exact hy
    · exact q3 z hz
/-- a pure comprehension without a condition -/
theorem plc_map {t : Tg} {own : List Nat} {fe : Env → R PyData} {ρ : Env} (g : PyData → PyData) : ∀ (ds : List PyData), (∀ d ∈ ds, ∃ ρ1, put t d (wipeE ρ own) = .ok ρ1 ∧ fe ρ1 = .ok (g d)) → fLcL t own gYes fe ρ ds = .ok (ds.map g)
  | [], _ => rfl
  | d :: ds, h => by
    obtain ⟨ρ1, e1, e2⟩ := h d (List.mem_cons_self ..)
    simp [fLcL, e1, gYes, noX, e2, plc_map g ds fun x hx => h x (List.mem_cons_of_mem _ hx)]
theorem shaped_int {i : Int} : SeqAt.shaped (.int i) = true := by simp [SeqAt.shaped, PyData.canLay0, PyData.depth]
theorem dEq_int {i j : Int} : dEq (.int i) (.int j) = some (i == j) := by simp [dEq, shaped_int, PyData.eqv]
def semNumber : FS :=
  (sSeq (sIf (eLT (gCmp dLt (fVar 0) (fC (.int 0)))) (sRet (eL (fOp dSub (fC (.int 0)) (fVar 0))))
  sNil)
  (sRet (eFlat (eL (fVar 0)))))
def mNumber : List PyData → R PyData := runF 1 semNumber
theorem number_ok (c : Int) : mNumber [.int c] = .ok (.int c.natAbs) := by
  by_cases h : c < 0
  · have e : 0 - c = (c.natAbs : Int) := by omega
    simp [mNumber, runF, semNumber, rho0, h, endV, e]
  · have e : c = (c.natAbs : Int) := by omega
    simp only [mNumber, runF, semNumber, rho0]
    simp [h, endV, flat]
    exact e
def semDraws : FS :=
  (sSeq (sSet 1 (eL (fLst fNil)))
  (sSeq (sFor (.nm 2) (eIt (eL (fVar 0))) (sSeq (sSet 3 (eL (fCall mNumber (fCons (fVar 2) fNil))))
  (sIf (eLT (gCmp dGe (fVar 3) (fC (.int 1000000000000000000)))) (sFor (.nm 4) (eRg (eLA (fCons (fC (.int 60)) fNil))) (sSeq (sIf (eLT (gCmp dEq (fVar 3) (fC (.int 0)))) (fun ρ => .ok (.bk, ρ))
  sNil)
  (sSeq (sDrop (eApp 1 (eL (fOp dMod (fN dInt (fCons (fVar 3) fNil)) (fC (.int 1000))))))
  (sSet 3 (eL (fOp dDiv (fVar 3) (fC (.int 1000))))))))
  (sSeq (sSet 5 (eL (fOp dMod (fN dInt (fCons (fOp dAdd (fOp dMul (fVar 3) (fC (.int 48271))) (fC (.int 11))) fNil)) (fC (.int 2147483647)))))
  (sSeq (sSet 6 (eL (fOp dMod (fN dInt (fCons (fOp dAdd (fOp dMul (fVar 5) (fC (.int 69621))) (fVar 3)) fNil)) (fC (.int 2147483629)))))
  (sDrop (eExt 1 (eL (fLst (fCons (fOp dMod (fN dInt (fCons (fVar 3) fNil)) (fC (.int 1000))) (fCons (fOp dMod (fN dInt (fCons (fVar 5) fNil)) (fC (.int 1000))) (fCons (fOp dMod (fN dInt (fCons (fVar 6) fNil)) (fC (.int 1000))) fNil))))))))))))
  (sSeq (sDrop (eRev 1))
  (sRetO 1))))
def mDraws : List PyData → R PyData := runF 7 semDraws
def Dv (ds : List PyData) : Prop := ∀ d ∈ ds, ∃ i : Int, d = .int i ∧ 0 ≤ i ∧ i < 1000
theorem Dv.flat {ds : List PyData} (h : Dv ds) : flatL ds = true := flatL_iff.mpr fun d q => by obtain ⟨i, rfl, _⟩ := h d q; rfl
theorem mod1000 (r : Int) : 0 ≤ r % 1000 ∧ r % 1000 < 1000 := ⟨Int.emod_nonneg _ (by decide), Int.emod_lt_of_pos _ (by decide)⟩
theorem Dv.snoc {ds : List PyData} (h : Dv ds) (r : Int) : Dv (ds ++ [.int (r % 1000)]) := fun d q => by
  rcases List.mem_append.mp q with q | q
  · exact h d q
  · rw [List.mem_singleton.mp q]; exact ⟨_, rfl, mod1000 r⟩
def EnvD (n : Nat) (ρ : Env) : Prop := ∃ a0 ds a2 a3 a4 a5 a6, ρ = [a0, some (.list ds), a2, a3, a4, a5, a6] ∧ Dv ds ∧ ds.length ≤ n
def EnvJ (b n : Nat) (ρ : Env) : Prop := ∃ a0 ds a2 r a4 a5 a6, ρ = [a0, some (.list ds), a2, some (.int r), a4, a5, a6] ∧ Dv ds ∧ ds.length ≤ b + n
theorem inner60 {b : Nat} (hb : b + 60 ≤ 100000) {ρ : Env} (h : EnvJ b 0 ρ) : ∃ ρ', sFor (.nm 4) (eRg (eLA (fCons (fC (.int 60)) fNil))) (sSeq (sIf (eLT (gCmp dEq (fVar 3) (fC (.int 0)))) (fun ρ => .ok (.bk, ρ))
  sNil)
  (sSeq (sDrop (eApp 1 (eL (fOp dMod (fN dInt (fCons (fVar 3) fNil)) (fC (.int 1000))))))
  (sSet 3 (eL (fOp dDiv (fVar 3) (fC (.int 1000))))))) ρ = .ok (.nx, ρ') ∧ EnvJ b 60 ρ' := by
  have key := for_brkC (t := .nm 4) (f := sSeq (sIf (eLT (gCmp dEq (fVar 3) (fC (.int 0)))) (fun ρ => .ok (.bk, ρ)) sNil) (sSeq (sDrop (eApp 1 (eL (fOp dMod (fN dInt (fCons (fVar 3) fNil)) (fC (.int 1000)))))) (sSet 3 (eL (fOp dDiv (fVar 3) (fC (.int 1000)))))))
    60 (fun i ρ => EnvJ b i ρ) (fun i j ρ hij h => by
      obtain ⟨a0, ds, a2, r, a4, a5, a6, e, d, l⟩ := h
      exact ⟨a0, ds, a2, r, a4, a5, a6, e, d, by omega⟩) (rangeL 0 60) ?_ 0 ρ (by decide) h
  · obtain ⟨ρ', e, h'⟩ := key
    refine ⟨ρ', ?_, h'⟩
    have e1 : rangeD [.int 60] = some (rangeL 0 60) := by simp [rangeD, smallI]
    simp only [sFor_ok, eRg_ok, eLA_ok, fCons_ok, fC_ok, fNil_ok, ok_bind, e1, ofO_some]
    exact e
  · intro i d hd hi ρ ⟨a0, ds, a2, r, a4, a5, a6, e, dv, hl⟩
    subst e
    refine ⟨[a0, some (.list ds), a2, some (.int r), some d, a5, a6], ?_⟩
    by_cases hr : r = 0
    · refine ⟨_, rfl, .inr ⟨?_, ⟨a0, ds, a2, r, some d, a5, a6, rfl, dv, by omega⟩⟩⟩
      subst hr
      simp [dEq_int]
    · refine ⟨[a0, some (.list (ds ++ [.int (r % 1000)])), a2, some (.int (r / 1000)), some d, a5, a6], rfl, .inl ⟨?_, ⟨a0, _, a2, _, some d, a5, a6, rfl, dv.snoc r, by simp; omega⟩⟩⟩
      have hz : ds.length < sizeLine := by rw [sz]; omega
      have e1 : (r == 0) = false := by simpa using hr
      simp [dEq_int, e1, dMod_int, dDiv_int, hz, show (1000 : Nat).log2 < 9000 by decide]
/-- int(x * m + a) % p and the like stay small -/
theorem log2_le18 {x : Int} (h0 : 0 ≤ x) (h : x < 1000000000000000000) : x.natAbs.log2 < 60 := log2_lt (by omega) (by decide)
theorem log2_le31 {x : Int} (h0 : 0 ≤ x) (h : x < 2147483647) : x.natAbs.log2 < 31 := log2_lt (by omega) (by decide)
theorem draws_ok (ns : List Int) (hn : ns.length ≤ 63) : ∃ ds, mDraws [frzD (ns.map .int)] = .ok (.list ds) ∧ Dr 3780 ds := by
  have key := for_cnt (t := .nm 2) (f := sSeq (sSet 3 (eL (fCall mNumber (fCons (fVar 2) fNil))))
  (sIf (eLT (gCmp dGe (fVar 3) (fC (.int 1000000000000000000)))) (sFor (.nm 4) (eRg (eLA (fCons (fC (.int 60)) fNil))) (sSeq (sIf (eLT (gCmp dEq (fVar 3) (fC (.int 0)))) (fun ρ => .ok (.bk, ρ))
  sNil)
  (sSeq (sDrop (eApp 1 (eL (fOp dMod (fN dInt (fCons (fVar 3) fNil)) (fC (.int 1000))))))
  (sSet 3 (eL (fOp dDiv (fVar 3) (fC (.int 1000))))))))
  (sSeq (sSet 5 (eL (fOp dMod (fN dInt (fCons (fOp dAdd (fOp dMul (fVar 3) (fC (.int 48271))) (fC (.int 11))) fNil)) (fC (.int 2147483647)))))
  (sSeq (sSet 6 (eL (fOp dMod (fN dInt (fCons (fOp dAdd (fOp dMul (fVar 5) (fC (.int 69621))) (fVar 3)) fNil)) (fC (.int 2147483629)))))
  (sDrop (eExt 1 (eL (fLst (fCons (fOp dMod (fN dInt (fCons (fVar 3) fNil)) (fC (.int 1000))) (fCons (fOp dMod (fN dInt (fCons (fVar 5) fNil)) (fC (.int 1000))) (fCons (fOp dMod (fN dInt (fCons (fVar 6) fNil)) (fC (.int 1000))) fNil))))))))))) 63 (fun i ρ => EnvD (60 * i) ρ) (ns.map .int) ?_ 0 [some (frzD (ns.map .int)), some (.list []), none, none, none, none, none] (by simpa using hn) ⟨_, [], _, _, _, _, _, rfl, (fun _ q => nomatch q), Nat.zero_le _⟩
  · obtain ⟨ρ', e, a0, ds, a2, a3, a4, a5, a6, rfl, dv, hl⟩ := key
    refine ⟨ds.reverse, ?_, fun d q => dv d (List.mem_reverse.mp q), by simp at hl ⊢; omega⟩
    have e0 : itemsD (frzD (ns.map .int)) = some (ns.map .int) := rfl
    simp only [mDraws, runF, semDraws, rho0, List.map_cons, List.map_nil, List.length_cons, List.length_nil, List.cons_append, List.nil_append]
    simp [e0, e, eRev, dv.flat, sRetO, endV, sz]
  · intro i d hd hi ρ ⟨a0, ds, a2, a3, a4, a5, a6, e, dv, hl⟩
    subst e
    obtain ⟨c, _, rfl⟩ := List.mem_map.mp hd
    refine ⟨[a0, some (.list ds), some (.int c), a3, a4, a5, a6], ?_⟩
    by_cases hc : (1000000000000000000 : Int) ≤ (c.natAbs : Int)
    · obtain ⟨ρ', e, a0', ds', a2', r', a4', a5', a6', rfl, dv', hl'⟩ := inner60 (b := 60 * i) (by omega) (ρ := [a0, some (.list ds), some (.int c), some (.int c.natAbs), a4, a5, a6]) ⟨a0, ds, _, _, a4, a5, a6, rfl, dv, by omega⟩
      refine ⟨[a0', some (.list ds'), a2', some (.int r'), a4', a5', a6'], rfl, ?_, a0', ds', a2', _, a4', a5', a6', rfl, dv', by omega⟩
      simp [number_ok, hc]
      simpa using e
    · have h18 : (c.natAbs : Int) < 1000000000000000000 := by omega
      generalize hr : (c.natAbs : Int) = r at hc h18
      have hr0 : 0 ≤ r := by omega
      generalize ho : (r * 48271 + 11) % 2147483647 = o
      have o0 : 0 ≤ o := by rw [← ho]; exact Int.emod_nonneg _ (by decide)
      have o1 : o < 2147483647 := by rw [← ho]; exact Int.emod_lt_of_pos _ (by decide)
      generalize ht : (o * 69621 + r) % 2147483629 = t
      refine ⟨[a0, some (.list (ds ++ [.int (r % 1000), .int (o % 1000), .int (t % 1000)])), some (.int c), some (.int r), a4, some (.int o), some (.int t)], rfl, ?_, a0, _, _, _, a4, _, _, rfl, fun d q => ?_, by simp; omega⟩
      · have m1 := dMul_int (i := r) (j := 48271) (by have := log2_le18 hr0 h18; have : (48271 : Nat).log2 < 60 := by decide
                                                      show r.natAbs.log2 + (48271 : Nat).log2 < 1000000; omega)
        have m2 := dMul_int (i := o) (j := 69621) (by have := log2_le31 o0 o1; have : (69621 : Nat).log2 < 60 := by decide
                                                      show o.natAbs.log2 + (69621 : Nat).log2 < 1000000; omega)
        have hz : ds.length + 3 ≤ sizeLine := by rw [sz]; omega
        simp [number_ok, hr, hc, m1, m2, dMod_int, ho, ht, sz, hz, flatL, flat]
        rw [if_pos (by omega)]
        rfl
      · rcases List.mem_append.mp q with q | q
        · exact dv d q
        · simp only [List.mem_cons, List.not_mem_nil, or_false] at q
          rcases q with rfl | rfl | rfl <;> exact ⟨_, rfl, mod1000 _⟩
def semMore : FS :=
  (sSeq (sSet 2 (eOp dAdd (eOp dAdd (eOp dMul (eL (fC (.int 1000))) (eCallM 0 mNext (eLA fNil))) (eCallM 0 mNext (eLA fNil))) (eL (fC (.int 1)))))
  (sSeq (sSet 3 (eL (fLst fNil)))
  (sSeq (sFor (.nm 4) (eRg (eLA (fCons (fVar 1) fNil))) (sSeq (sSet 2 (eL (fOp dMod (fN dInt (fCons (fOp dAdd (fOp dMul (fVar 2) (fC (.int 48271))) (fC (.int 12345))) fNil)) (fC (.int 2147483647)))))
  (sDrop (eApp 3 (eL (fOp dMod (fN dInt (fCons (fOp dDiv (fVar 2) (fC (.int 7))) fNil)) (fC (.int 1000))))))))
  (sRet (eL (fOp dAdd (fVar 3) (fVar 0)))))))
def mMore : PyData → List PyData → R (PyData × PyData) := runM 5 semMore
def EnvM (n : Nat) (ds : List PyData) (ρ : Env) : Prop := ∃ a1 s l a4, ρ = [some (.list ds), a1, some (.int s), some (.list l), a4] ∧ 0 ≤ s ∧ s < 2147483647 ∧ Dv l ∧ l.length ≤ n
theorem more_s1 {ds ds1 ds2 : List PyData} {i j m : Int} (e1 : mNext (.list ds) [] = .ok (.int i, .list ds1)) (e2 : mNext (.list ds1) [] = .ok (.int j, .list ds2)) (m1 : dMul (.int 1000) (.int i) = some (.int (1000 * i))) : sSet 2 (eOp dAdd (eOp dAdd (eOp dMul (eL (fC (.int 1000))) (eCallM 0 mNext (eLA fNil))) (eCallM 0 mNext (eLA fNil))) (eL (fC (.int 1)))) [some (.list ds), some (.int m), none, none, none] = .ok (.nx, [some (.list ds2), some (.int m), some (.int (1000 * i + j + 1)), none, none]) := by
      simp [e1, e2, m1]
theorem more_s2 {i : Int} (h0 : 0 ≤ i) (h1 : i < 1000) : dMul (.int 1000) (.int i) = some (.int (1000 * i)) := dMul_int (i := 1000) (j := i) (by
      have := log2_lt (n := i.natAbs) (k := 10) (by omega) (by decide)
      show (1000 : Nat).log2 + i.natAbs.log2 < 1000000
      have : (1000 : Nat).log2 < 60 := by decide
      omega)
theorem more_s3 {l ds2 : List PyData} {m s s' : Int} {a1 a4 : Option PyData} (hr : rangeD [.int m] = some (rangeL 0 m)) (f : FS) (e : sForL (.nm 4) f (rangeL 0 m) [some (.list ds2), some (.int m), some (.int s), some (.list []), none] = .ok (.nx, [some (.list ds2), a1, some (.int s'), some (.list l), a4])) (ca : dAdd (.list l) (.list ds2) = some (.list (l ++ ds2))) :
  (sSeq (sSet 3 (eL (fLst fNil))) (sSeq (sFor (.nm 4) (eRg (eLA (fCons (fVar 1) fNil))) f) (sRet (eL (fOp dAdd (fVar 3) (fVar 0))))) [some (.list ds2), some (.int m), some (.int s), none, none]) = .ok (.rt (.list (l ++ ds2)), [some (.list ds2), a1, some (.int s'), some (.list l), a4]) := by
    have z0 : (0 : Nat) ≤ sizeLine := Nat.zero_le _
    simp [z0, hr, e, ca]
theorem more_s4 {f g : FS} {ds ds2 r : List PyData} {m : PyData} {ρ1 ρ2 : Env} (h1 : f [some (.list ds), some m, none, none, none] = .ok (.nx, ρ1)) (h2 : g ρ1 = .ok (.rt (.list r), some (.list ds2) :: ρ2)) : runM 5 (sSeq f g) (.list ds) [m] = .ok (.list r, .list ds2) := by
  have e : rho0 5 [PyData.list ds, m] = [some (.list ds), some m, none, none, none] := rfl
  unfold runM
  rw [e, sSeq_ok, h1]
  simp only [ok_bind]
  rw [h2]
  simp [endV]
theorem more_ok {n : Nat} {ds : List PyData} (h : Dr n ds) (hn : n ≤ 100000) (m : Nat) (hm : m ≤ 100000) : ∃ r ds', mMore (.list ds) [.int m] = .ok (.list r, .list ds') ∧ Dr (n + m) r := by
  obtain ⟨i, ds1, e1, i0, i1, h1⟩ := next_ok h
  obtain ⟨j, ds2, e2, j0, j1, h2⟩ := next_ok h1
  have key := for_cnt (t := .nm 4) (f := sSeq (sSet 2 (eL (fOp dMod (fN dInt (fCons (fOp dAdd (fOp dMul (fVar 2) (fC (.int 48271))) (fC (.int 12345))) fNil)) (fC (.int 2147483647)))))
  (sDrop (eApp 3 (eL (fOp dMod (fN dInt (fCons (fOp dDiv (fVar 2) (fC (.int 7))) fNil)) (fC (.int 1000)))))))
    m (fun i ρ => EnvM i ds2 ρ) (rangeL 0 m) ?_ 0 [some (.list ds2), some (.int m), some (.int (1000 * i + j + 1)), some (.list []), none] (by simp [rangeL]) ⟨_, _, [], _, rfl, by omega, by omega, (fun _ q => nomatch q), Nat.zero_le _⟩
  · obtain ⟨ρ', e, a1, s, l, a4, rfl, s0, s1, dv, hl⟩ := key
    have hl' : l.length ≤ m := by simpa [rangeL] using hl
    have hr : rangeD [.int (m : Int)] = some (rangeL 0 m) := by
      have : smallI (m : Int) = true := by rw [smallI_iff]; omega
      simp [rangeD, this]
    refine ⟨l ++ ds2, ds2, ?_, fun d q => (List.mem_append.mp q).elim (dv d) (h2.1 d), by have := h2.2; simp; omega⟩
    have f2 : flatL ds2 = true := Dv.flat h2.1
    have ca : dAdd (.list l) (.list ds2) = some (.list (l ++ ds2)) := by
      have hh := h2.2
      have : l.length + ds2.length ≤ 16777216 := by omega
      simp [dAdd, iOp, sCat, lCat, dv.flat, f2, sz, this]
    exact more_s4 (more_s1 e1 e2 (more_s2 i0 i1)) (more_s3 hr _ e ca)
  · intro i d hd hi ρ ⟨a1, s, l, a4, e, s0, s1, dv, hl⟩
    subst e
    generalize ho : (s * 48271 + 12345) % 2147483647 = o
    have o0 : 0 ≤ o := by rw [← ho]; exact Int.emod_nonneg _ (by decide)
    have o1 : o < 2147483647 := by rw [← ho]; exact Int.emod_lt_of_pos _ (by decide)
    have m1 := dMul_int (i := s) (j := 48271) (by have := log2_le31 s0 s1; have : (48271 : Nat).log2 < 60 := by decide
                                                  show s.natAbs.log2 + (48271 : Nat).log2 < 1000000; omega)
    have hz : l.length < sizeLine := by rw [sz]; omega
    refine ⟨_, [some (.list ds2), a1, some (.int o), some (.list (l ++ [.int (o / 7 % 1000)])), some d], rfl, ?_, _, _, _, _, rfl, o0, o1, dv.snoc _, by simp; omega⟩
    simp [m1, ho, dMod_int, dDiv_int, hz, show (7 : Nat).log2 < 9000 by decide]
end PV

set_option Elab.async false
set_option linter.all false
set_option maxRecDepth 100000
set_option maxHeartbeats 1000000
set_option autoImplicit false
/-! PV, part s: zip and enumerate over lists and tuples, mixed. -/
namespace PV
open PySem PySem.Spec PyProof.Rows L2
/-- a list (true), a tuple (false) -/
def SqK (k : Bool) (K : PySem.W.Frag) (H : Hp) (a : Addr) (xs : List V) : Prop := match k with
  | true => SqL K H a xs
  | false => SqT K H a xs
def ItrOn (k : Bool) (h : Heap) (it l : Addr) (i : Nat) : Prop := match k with
  | true => h.IsListIter it l i
  | false => h.IsTupleIter it l i
def HasSq (k : Bool) (h : Heap) (l : Addr) (its : Array Value) : Prop := match k with
  | true => h.IsList l its
  | false => h.IsTuple l its
def itObj (k : Bool) (l : Addr) : Obj := match k with
  | true => { cls := .type "list_iterator", data := .fields #[.ref l, .int 0 0] }
  | false => { cls := .type "tuple_iterator", data := .fields #[.ref l, .int 0 0] }
theorem drawsOn {prog : Program} {w : World} {A : Around} (hh : A.handled = none) (k : Bool) (it l : Addr) (hne : l ≠ it) (items : Array Value) :
    Draws prog w A it [it, l] items.size (fun i v => items[i]? = some v) (fun i h => ItrOn k h it l i ∧ HasSq k h l items) := by
  cases k
  · exact Draws.tuple hh it l hne items
  · exact Draws.list hh it l hne items
theorem beginsOn (k : Bool) (l : Addr) (items : Array Value) : Begins (.ref l) (itObj k l) fun h => HasSq k h l items := by
  cases k
  · exact begins_tuple l items
  · exact begins_list l items
theorem itrOn_new {k : Bool} {h : Heap} {it l : Addr} (e : h.get? it = some (itObj k l)) : ItrOn k h it l 0 := by
  cases k
  · exact ⟨_, e, rfl, rfl⟩
  · exact ⟨_, e, rfl, rfl⟩
theorem itrOn_obj {k : Bool} {h : Heap} {it l : Addr} {i : Nat} (e : ItrOn k h it l i) : ∃ o, h.get? it = some o ∧ ∀ v, o.data ≠ .cell v := by
  cases k
  · obtain ⟨o, e1, _, d1⟩ := e; exact ⟨o, e1, fun v q => by rw [d1] at q; cases q⟩
  · obtain ⟨o, e1, _, d1⟩ := e; exact ⟨o, e1, fun v q => by rw [d1] at q; cases q⟩
theorem itrOn_at {k : Bool} {h h' : Heap} {it l : Addr} {i : Nat} (e : ItrOn k h it l i) (hk : ∀ o, h.get? it = some o → h'.get? it = some o) : ItrOn k h' it l i := by
  cases k
  · exact Heap.IsTupleIter.at e hk
  · exact Heap.IsListIter.at e hk
theorem itrOn_lt {k : Bool} {h : Heap} {it l : Addr} {i : Nat} (e : ItrOn k h it l i) : it < h.objs.size := by
  obtain ⟨o, e, _⟩ := itrOn_obj e
  exact Heap.lt_size e
section
variable {X : Cx} {pins : List (Addr × Obj)} {σ : L2.St} {H : Hp} {s : Shared} {k : Bool} {a : Addr} {xs ys : List V}
theorem inv_sq (I : Inv X pins σ H s) (h : SqK k X.K H a xs) : ∃ its : List Value, Vals xs its ∧ HasSq k s.heap a its.toArray ∧ a < s.heap.objs.size := by
  cases k
  · obtain ⟨its, rv, p, _⟩ := I.tuple h
    obtain ⟨o, ho, _⟩ := id p
    exact ⟨its, rv, p, Heap.lt_size ho⟩
  · obtain ⟨its, rv, p, _⟩ := I.list h
    exact ⟨its, rv, p.isList, p.lt⟩
theorem inv_sq_inj (I : Inv X pins σ H s) (h : SqK k X.K H a xs) (h' : SqK k X.K H a ys) : xs = ys := by
  cases k
  · exact I.tuple_inj h h'
  · exact I.list_inj h h'
end
/-! ### zip -/
def ItZK (k1 k2 : Bool) (K : PySem.W.Frag) (a b : Addr) : It :=
  ⟨fun i H => ∃ (xs ys : List V) (x y : V), SqK k1 K H a xs ∧ SqK k2 K H b ys ∧ xs[i]? = some x ∧ ys[i]? = some y,
    fun i H v H' => ∃ T x y, v = .ref T ∧ H T = none ∧ H' = upd H T (.tup [x, y]) ∧ (∀ xs, SqK k1 K H a xs → xs[i]? = some x) ∧ ∀ ys, SqK k2 K H b ys → ys[i]? = some y,
    fun i H => ∃ xs ys : List V, SqK k1 K H a xs ∧ SqK k2 K H b ys ∧ i ≤ xs.length ∧ i ≤ ys.length ∧ (i = xs.length ∨ i = ys.length)⟩
structure ZSep (z TI TO i1 i2 a b : Addr) : Prop where
  d1 : TI ≠ z
  d2 : TO ≠ z
  d3 : TI ≠ TO
  d4 : TI ≠ i1
  d5 : TI ≠ i2
  e1 : z ∉ [i1, a]
  e2 : TO ∉ [i1, a]
  e3 : z ∉ [i2, b]
  e4 : TO ∉ [i2, b]
  e5 : i1 ∉ [i2, b]
  e6 : i2 ∉ [i1, a]
theorem ZSep.sep {z TI TO i1 i2 a b : Addr} (D : ZSep z TI TO i1 i2 a b) : ZipSep2 z TI TO i1 i2 [i1, a] [i2, b] :=
  ⟨D.d1, D.d2, D.d3, D.d4, by simp, D.e1, D.e2, D.d5, by simp, D.e3, D.e4, D.e5, D.e6⟩
theorem zsep_nat (N a b : Nat) (ha : a < N) (hb : b < N) : (N + 2 ≠ N + 4 ∧ N + 3 ≠ N + 4 ∧ N + 2 ≠ N + 3 ∧ N + 2 ≠ N ∧ N + 2 ≠ N + 1) ∧ (N + 4 ∉ [N, a] ∧ N + 3 ∉ [N, a] ∧ N + 4 ∉ [N + 1, b] ∧ N + 3 ∉ [N + 1, b] ∧ N ∉ [N + 1, b] ∧ N + 1 ∉ [N, a]) := by
  simp
  omega
theorem zsep_new {N a b : Addr} (ha : a < N) (hb : b < N) : ZSep (N + 4) (N + 2) (N + 3) N (N + 1) a b :=
  let ⟨⟨a1, a2, a3, a4, a5⟩, b1, b2, b3, b4, b5, b6⟩ := zsep_nat N a b ha hb
  ⟨a1, a2, a3, a4, a5, b1, b2, b3, b4, b5, b6⟩
theorem five_le (N c : Nat) (h : c = N + 4 ∨ c = N + 2 ∨ c = N + 3 ∨ c = N ∨ c = N + 1) : N ≤ c := by omega
theorem apart_on {k : Bool} {h : Heap} {it l l' : Addr} {i : Nat} {its : Array Value} (e : ItrOn k h it l i) (p : HasSq k h l' its) : l' ≠ it := fun q => by
  subst q
  cases k
  · obtain ⟨o, e1, c1, _⟩ := e
    obtain ⟨o', e2, c2, _⟩ := p
    rw [e1] at e2; cases e2; rw [c1] at c2; exact absurd c2 (by decide)
  · obtain ⟨o, e1, c1, _⟩ := e
    obtain ⟨o', e2, c2, _⟩ := p
    rw [e1] at e2; cases e2; rw [c1] at c2; exact absurd c2 (by decide)
theorem turn_zipK {P : Program} {w : World} {K : PySem.W.Frag} {elts : List Expr} {kk : Nat} {tpos : Pos} {k1 k2 : Bool} {a b z TI TO i1 i2 : Addr} (D : ZSep z TI TO i1 i2 a b) :
    Turn P w K (.Tuple elts kk tpos) (ItZK k1 k2 K a b) [z, TI, TO, i1, i2] z (fun i h => IsZip h z TI TO .none ∧ IsTupOf2 h TI (.ref i1) (.ref i2) ∧ (∃ x y, IsTupOf2 h TO x y) ∧ ItrOn k1 h i1 a i ∧ ItrOn k2 h i2 b i) where
  mem := by simp
  obj := fun i h st c hc => by
    obtain ⟨hz, hTI, ⟨x, y, hTO⟩, h1, h2⟩ := st
    simp only [List.mem_cons, List.not_mem_nil, or_false] at hc
    rcases hc with rfl | rfl | rfl | rfl | rfl
    · exact ⟨_, hz, fun v q => nomatch q⟩
    · exact ⟨_, hTI, fun v q => nomatch q⟩
    · exact ⟨_, hTO, fun v q => nomatch q⟩
    · exact itrOn_obj h1
    · exact itrOn_obj h2
  keep := fun i h h' st k => by
    obtain ⟨hz, hTI, ⟨x, y, hTO⟩, h1, h2⟩ := st
    exact ⟨k z (by simp) _ hz, k TI (by simp) _ hTI, ⟨x, y, k TO (by simp) _ hTO⟩, itrOn_at h1 fun o q => k i1 (by simp) o q, itrOn_at h2 fun o q => k i2 (by simp) o q⟩
  item := by
    intro X hP hw hK hc i pins s σ H E I hf st hg
    subst hP hw hK
    obtain ⟨hz, hTI, ⟨x0, y0, hTO⟩, h1, h2⟩ := st
    obtain ⟨xs, ys, x, y, hqx, hqy, hx, hy⟩ := hg
    obtain ⟨its, rv, p, pa⟩ := inv_sq I hqx
    obtain ⟨its2, rv2, p2, pb⟩ := inv_sq I hqy
    have hzl : z < s.heap.objs.size := Heap.lt_size hz
    have hh : X.A.in1.handled = none := I.ok.hd hc
    have n1 : a ≠ i1 := apart_on h1 p
    have n2 : b ≠ i2 := apart_on h2 p2
    have li1 : i < its.toArray.size := by
      rw [List.size_toArray, ← rv.length]; exact (List.getElem?_eq_some_iff.mp hx).1
    have li2 : i < its2.toArray.size := by
      rw [List.size_toArray, ← rv2.length]; exact (List.getElem?_eq_some_iff.mp hy).1
    refine wpAny_pyNext_zipD2_item D.sep (drawsOn hh k1 i1 a n1 its.toArray) (drawsOn hh k2 i2 b n2 its2.toArray) hz hTI hTO ⟨h1, p⟩ ⟨h2, p2⟩ li1 li2 fun u u2 h' tk hu hu2 z' TO' h1' h2' hT hsz hk => ?_
    obtain ⟨u', hu', ru⟩ := rv.get hx
    obtain ⟨u2', hu2', ru2⟩ := rv2.get hy
    have eu : u = u' := by
      rw [List.getElem?_toArray, hu'] at hu; exact (Option.some.inj hu).symm
    have eu2 : u2 = u2' := by
      rw [List.getElem?_toArray, hu2'] at hu2; exact (Option.some.inj hu2).symm
    subst eu eu2
    refine ⟨_, rfl, wpAny_letOwnedTupleGo_zip (s := { s with heap := h', toks := tk }) z' fun h'' z'' sb => ?_⟩
    have hT2 : h''.get? s.heap.objs.size = some { cls := .type "tuple", data := .seq #[u, u2] } := (sb.2 _ (Nat.ne_of_gt hzl)).trans hT
    have nu : ObjOk X.prog X.w (upd H s.heap.objs.size (.tup [x, y])) h'' s.heap.objs.size (.tup [x, y]) :=
      ⟨by show 2 ≤ sizeLine; decide, [u, u2], .cons ru (.cons ru2 .nil), ⟨_, hT2, rfl, _, rfl⟩⟩
    have J1 : Inv X pins σ (upd H s.heap.objs.size (.tup [x, y])) { s with heap := h'', toks := tk } :=
      I.turnedNew (t' := tk) (ch := [z, TI, TO, i1, i2]) (fun c o hb q => by
        simp only [List.mem_cons, List.not_mem_nil, or_false, not_or] at hb
        exact (sb.2 c hb.1).trans (hk c o hb.1 hb.2.2.1 hb.2.2.2.1 hb.2.2.2.2 q)) hf (Nat.le_refl _) nu
    have zi1 : i1 ≠ z := fun q => D.e1 (by simp [q])
    have zi2 : i2 ≠ z := fun q => D.e3 (by simp [q])
    refine ⟨.ref s.heap.objs.size, _, J1, rfl, ⟨_, x, y, rfl, I.hok.fresh (Nat.le_refl _), rfl, fun l hl => by rw [inv_sq_inj I hl hqx]; exact hx, fun l hl => by rw [inv_sq_inj I hl hqy]; exact hy⟩, ⟨z'', ?_, ⟨u, u2, ?_⟩, ?_, ?_⟩, fun c hcm => ?_⟩
    · exact (sb.2 _ D.d1).trans (hk _ _ D.d1 D.d3 D.d4 D.d5 hTI)
    · exact (sb.2 _ D.d2).trans TO'
    · exact itrOn_at h1'.1 fun o q => (sb.2 _ zi1).trans q
    · exact itrOn_at h2'.1 fun o q => (sb.2 _ zi2).trans q
    · have hlt : c < s.heap.objs.size := by
        simp only [List.mem_cons, List.not_mem_nil, or_false] at hcm
        rcases hcm with rfl | rfl | rfl | rfl | rfl
        · exact hzl
        · exact Heap.lt_size hTI
        · exact Heap.lt_size hTO
        · exact itrOn_lt h1
        · exact itrOn_lt h2
      rw [upd_ne (Nat.ne_of_lt hlt)]
      exact (hf c hcm).1
  done := by
    intro X hP hw hK hc i pins s σ H E I hf st hg
    subst hP hw hK
    obtain ⟨hz, hTI, ⟨x0, y0, hTO⟩, h1, h2⟩ := st
    obtain ⟨xs, ys, hqx, hqy, g1, g2, hend⟩ := hg
    obtain ⟨its, rv, p, _⟩ := inv_sq I hqx
    obtain ⟨its2, rv2, p2, _⟩ := inv_sq I hqy
    have hh : X.A.in1.handled = none := I.ok.hd hc
    have l1 : its.toArray.size = xs.length := by rw [List.size_toArray, rv.length]
    have l2 : its2.toArray.size = ys.length := by rw [List.size_toArray, rv2.length]
    have n1 : a ≠ i1 := apart_on h1 p
    have n2 : b ≠ i2 := apart_on h2 p2
    exact wpAny_pyNext_zipD2_end D.sep (drawsOn hh k1 i1 a n1 its.toArray) (drawsOn hh k2 i2 b n2 its2.toArray) hz hTI hTO ⟨h1, p⟩ ⟨h2, p2⟩ (by omega) (by omega) (by omega) fun h' tk hk => ⟨rfl, I.turnedL (t' := tk) (ch := [z, TI, TO, i1, i2]) (fun c o hb q => by
      simp only [List.mem_cons, List.not_mem_nil, or_false, not_or] at hb
      exact hk c o hb.1 hb.2.2.1 hb.2.2.2.1 hb.2.2.2.2 q) hf⟩
  self := fun A i s Q E st h => wpAny_pyIter_zip st.1 h
def iZipK (K : PySem.W.Frag) (ta : TA) : TI := fun σ H R => ta σ H fun vs H1 => ∃ k1 k2 a b xs ys, vs = [.ref a, .ref b] ∧ SqK k1 K H1 a xs ∧ SqK k2 K H1 b ys ∧ R (ItZK k1 k2 K a b) H1
theorem pi_zipK {X : Cx} {e e2 : Expr} {ta : TA} {p pos tpos : Pos} {elts : List Expr} {kk : Nat} (hg : Gl X "zip") (hm : X.mg "zip" = none) (ha : PA X [e, e2] ta)
    (hs : starEach [e, e2] X.env = (false, eval e X.env) :: starEach [e2] X.env := by rfl) (hpl : (backTo pos (starEach [e2] X.env)).any (·.1) = false := by rfl) :
    PI X (.Tuple elts kk tpos) (.Call (.Name "zip" p) [e, e2] [] pos) (iZipK X.K ta) := by
  refine ⟨fun pins s σ H R I h => ?_⟩
  refine Call_ (ld_blt I hg hm PyProof.Rows.boot_zip (PyProof.Rows.callWith_type1 (thn (ha.run pos pins s σ H _ I h) fun us s1 ⟨vs, H1, I1, r1, q1⟩ => ?_) hs hpl))
  obtain ⟨k1, k2, a, b, xs, ys, ex, hqx, hqy, q⟩ := q1
  subst ex
  cases r1 with
  | cons r rr =>
    cases rr with
    | cons r' rr =>
      cases rr
      cases r
      cases r'
      obtain ⟨its, rv, p1, la⟩ := inv_sq I1 hqx
      obtain ⟨its2, rv2, p2, lb⟩ := inv_sq I1 hqy
      refine zip_begins2 (beginsOn k1 a its.toArray) (beginsOn k2 b its2.toArray) p1 p2 fun h' hz hTI hTO h1 h2 hsz hk => wpAny_pyIter_zip hz ?_
      have I2 : Inv X pins σ H1 { s1 with heap := h' } := I1.kept (t' := s1.toks) hk
      refine ⟨s1.heap.objs.size + 4, [s1.heap.objs.size + 4, s1.heap.objs.size + 2, s1.heap.objs.size + 3, s1.heap.objs.size, s1.heap.objs.size + 1], _, _, H1, rfl, I2, turn_zipK (zsep_new la lb), ⟨hz, hTI, ⟨_, _, hTO⟩, itrOn_new h1, itrOn_new h2⟩, fun c hcm => ?_, q⟩
      have hle : s1.heap.objs.size ≤ c := by
        simp only [List.mem_cons, List.not_mem_nil, or_false] at hcm
        exact five_le _ _ hcm
      exact I1.fpOk hle (I1.hok.fresh hle)
/-! ### enumerate -/
def ItEK (k : Bool) (K : PySem.W.Frag) (a : Addr) : It :=
  ⟨fun i H => ∃ (xs : List V) (x : V), SqK k K H a xs ∧ xs[i]? = some x, fun i H v H' => ∃ T x, v = .ref T ∧ H T = none ∧ H' = upd H T (.tup [.int (i : Nat), x]) ∧ ∀ xs, SqK k K H a xs → xs[i]? = some x, fun i H => ∃ xs : List V, SqK k K H a xs ∧ i = xs.length⟩
theorem turn_enumK {P : Program} {w : World} {K : PySem.W.Frag} {elts : List Expr} {kk : Nat} {tpos : Pos} {k : Bool} {a e it : Addr} (ne : e ≠ it) (nea : e ≠ a) :
    Turn P w K (.Tuple elts kk tpos) (ItEK k K a) [e, it] e (fun i h => (∃ old, IsEnum h e it ((i : Nat) : Int) old) ∧ ItrOn k h it a i) where
  mem := by simp
  obj := fun i h st b hb => by
    obtain ⟨⟨old, he⟩, hi⟩ := st
    simp only [List.mem_cons, List.not_mem_nil, or_false] at hb
    rcases hb with rfl | rfl
    · exact ⟨_, he, fun v q => nomatch q⟩
    · exact itrOn_obj hi
  keep := fun i h h' st k => let ⟨⟨old, he⟩, hi⟩ := st; ⟨⟨old, k e (by simp) _ he⟩, itrOn_at hi fun o q => k it (by simp) o q⟩
  item := by
    intro X hP hw hK hc i pins s σ H E I hf st hg
    subst hP hw hK
    obtain ⟨⟨old, he⟩, hit⟩ := st
    obtain ⟨xs, x, hq, hx⟩ := hg
    obtain ⟨its, rv, p, pa⟩ := inv_sq I hq
    have hel : e < s.heap.objs.size := Heap.lt_size he
    have hh : X.A.in1.handled = none := I.ok.hd hc
    have li : i < its.toArray.size := by
      rw [List.size_toArray, ← rv.length]; exact (List.getElem?_eq_some_iff.mp hx).1
    refine wpAny_pyNext_enum_itemD (drawsOn hh k it a (apart_on hit p) its.toArray) he ⟨hit, p⟩ li ne (by simp [ne, nea]) fun u h' tk hu ho hit' hT hsz hk => ?_
    obtain ⟨u', hu', ru⟩ := rv.get hx
    have eu : u = u' := by
      rw [List.getElem?_toArray, hu'] at hu; exact (Option.some.inj hu).symm
    subst eu
    refine ⟨_, rfl, wpAny_letOwnedTupleGo_enum (s := { s with heap := h', toks := tk + 1 }) ho fun h'' he' sb => ?_⟩
    have hT2 : h''.get? s.heap.objs.size = some { cls := .type "tuple", data := .seq #[.int i tk, u] } := (sb.2 _ (Nat.ne_of_gt hel)).trans hT
    have nu : ObjOk X.prog X.w (upd H s.heap.objs.size (.tup [.int (i : Nat), x])) h'' s.heap.objs.size (.tup [.int (i : Nat), x]) :=
      ⟨by show 2 ≤ sizeLine; decide, [.int i tk, u], .cons ⟨_, rfl⟩ (.cons ru .nil), ⟨_, hT2, rfl, _, rfl⟩⟩
    have J1 : Inv X pins σ (upd H s.heap.objs.size (.tup [.int (i : Nat), x])) { s with heap := h'', toks := tk + 1 } :=
      I.turnedNew (t' := tk + 1) (ch := [e, it]) (fun b ob hb q => by
        simp only [List.mem_cons, List.not_mem_nil, or_false, not_or] at hb
        exact (sb.2 b hb.1).trans (hk b ob hb.1 hb.2 q)) hf (Nat.le_refl _) nu
    refine ⟨.ref s.heap.objs.size, _, J1, rfl, ⟨_, x, rfl, I.hok.fresh (Nat.le_refl _), rfl, fun ys hy => by rw [inv_sq_inj I hy hq]; exact hx⟩, ⟨⟨u, ?_⟩, itrOn_at hit'.1 fun o q => (sb.2 it (Ne.symm ne)).trans q⟩, fun b hb => ?_⟩
    · have e1 : ((i + 1 : Nat) : Int) = (i : Int) + 1 := by omega
      rw [e1]; exact he'
    · have hb' : b < s.heap.objs.size := by
        simp only [List.mem_cons, List.not_mem_nil, or_false] at hb
        rcases hb with rfl | rfl
        · exact hel
        · exact itrOn_lt hit
      rw [upd_ne (Nat.ne_of_lt hb')]
      exact (hf b hb).1
  done := by
    intro X hP hw hK hc i pins s σ H E I hf st hg
    subst hP hw hK
    obtain ⟨⟨old, he⟩, hit⟩ := st
    obtain ⟨xs, hq, hx⟩ := hg
    obtain ⟨its, rv, p, pa⟩ := inv_sq I hq
    have hh : X.A.in1.handled = none := I.ok.hd hc
    obtain ⟨f0, f1, f2, f3, f4, f5⟩ := hf it (by simp)
    have hl : its.toArray.size = i := by rw [List.size_toArray, ← rv.length, hx]
    refine wpAny_pyNext_enum_endD (drawsOn hh k it a (apart_on hit p) its.toArray) he (by rw [hl]; exact ⟨hit, p⟩) fun h' eb => ⟨rfl, I.turned (t' := s.toks) (fun b o hb q => eb b o hb q) f0 f1 f3 f4 f5⟩
  self := fun A i s Q E st h => let ⟨⟨_, he⟩, _⟩ := st; wpAny_pyIter_enum he h
set_option maxHeartbeats 2000000 in
theorem meets_enum1 {v : Value} {o : Obj} {H : Heap → Prop} (B : Begins v o H) :
    Meets (Builtin.«enumerate.__new__» ⟨[.type "enumerate", v], []⟩) (fun _ R s => H s.heap ∧
      R (.ok (.ret (.ref (s.heap.push o).objs.size))) { s with heap := (s.heap.push o).push { cls := .type "enumerate", data := .fields #[.none, .bool false, .ref s.heap.objs.size, rawInt 0, .none, .none] } }) :=
  .of_wp fun prog w A R s h => by
    obtain ⟨hp, gn, dr, tk, ot⟩ := s; obtain ⟨h1, h⟩ := h
    have isE := sub_enumerate
    have q1 : ∀ {A' : Around} {E : Value → Shared → Prop} {Q : Value → Shared → Prop}, Q (.ref hp.objs.size) ⟨hp.push o, gn, dr, tk, ot⟩ → wpAny (model prog w) A' (pyIter v) Q E ⟨hp, gn, dr, tk, ot⟩ :=
      fun q => B.iter prog w _ _ ⟨hp, gn, dr, tk, ot⟩ _ h1 q
    wp_walk using q1
    refine wpAny_stack_any fun st => wpAny_pure ?_
    split
    · rename_i c _ _ _ _ _
      cases (c == Value.type "enumerate") <;> (wp_walk using q1; exact ⟨_, rfl, h⟩)
    · wp_walk using q1
      exact ⟨_, rfl, h⟩
theorem enum_begins1 {prog : Program} {w : World} {A : Around} {E : Value → Shared → Prop} {s : Shared} {v : Value} {o : Obj} {H : Heap → Prop} {Q : Value → Shared → Prop} (B : Begins v o H) (h1 : H s.heap)
    (h : ∀ h', IsEnum h' (s.heap.objs.size + 1) s.heap.objs.size 0 .none → h'.get? s.heap.objs.size = some o → (∀ b o, s.heap.get? b = some o → h'.get? b = some o) → Q (.ref (s.heap.objs.size + 1)) { s with heap := h' }) :
    wpAny (model prog w) A (call (.type "enumerate") [v]) Q E s := by
  refine callType_new F.called_enumerate (by decide) (F.typeCall_enumerate_1 _) (F.newCall_enumerate_1 _) (fun obj => F.args_object_init_2 obj _) F.entry_enumerate_new (meets_enum1 B) ⟨h1, ?_⟩
  have hz : (s.heap.push o).objs.size = s.heap.objs.size + 1 := Heap.size_push ..
  show _ ∧ _
  rw [hz]
  have he : IsEnum ((s.heap.push o).push { cls := .type "enumerate", data := .fields #[.none, .bool false, .ref s.heap.objs.size, rawInt 0, .none, .none] }) (s.heap.objs.size + 1) s.heap.objs.size 0 .none := by
    have q := Heap.get?_push_size (s.heap.push o) (o := { cls := .type "enumerate", data := .fields #[.none, .bool false, .ref s.heap.objs.size, rawInt 0, .none, .none] }) rfl
    rw [hz] at q; exact q
  exact ⟨⟨_, he, rfl⟩, h _ he (Heap.get?_push_of_some _ (Heap.get?_push_size _ B.free)) fun b o x => Heap.get?_push_of_some _ (Heap.get?_push_of_some _ x)⟩
def iEnumK (K : PySem.W.Frag) (ta : TA) : TI := fun σ H R => ta σ H fun vs H1 => ∃ k a xs, vs = [.ref a] ∧ SqK k K H1 a xs ∧ R (ItEK k K a) H1
theorem two_le (N c : Nat) (h : c = N + 1 ∨ c = N) : N ≤ c := by omega
theorem pi_enumK {X : Cx} {e : Expr} {ta : TA} {p pos tpos : Pos} {elts : List Expr} {kk : Nat} (hg : Gl X "enumerate") (hm : X.mg "enumerate" = none) (ha : PA X [e] ta) (hs : starEach [e] X.env = [(false, eval e X.env)] := by rfl) :
    PI X (.Tuple elts kk tpos) (.Call (.Name "enumerate" p) [e] [] pos) (iEnumK X.K ta) := by
  refine ⟨fun pins s σ H R I h => ?_⟩
  refine Call_ (ld_blt I hg hm boot_enumerate (PyProof.Rows.callWith_type1 (thn (ha.run pos pins s σ H _ I h) fun us s1 ⟨vs, H1, I1, r1, q1⟩ => ?_) hs rfl))
  obtain ⟨k, a, xs, ex, hq, q⟩ := q1
  subst ex
  cases r1 with
  | cons r rr =>
    cases rr
    cases r
    obtain ⟨its, rv, p', la⟩ := inv_sq I1 hq
    refine enum_begins1 (beginsOn k a its.toArray) p' fun h' he hit hk => wpAny_pyIter_enum he ?_
    have I2 : Inv X pins σ H1 { s1 with heap := h' } := I1.kept (t' := s1.toks) hk
    refine ⟨s1.heap.objs.size + 1, [s1.heap.objs.size + 1, s1.heap.objs.size], _, _, H1, rfl, I2, turn_enumK (Nat.succ_ne_self _) (Nat.ne_of_gt (Nat.lt_succ_of_lt la)), ⟨⟨.none, he⟩, itrOn_new hit⟩, fun b hb => ?_, q⟩
    simp only [List.mem_cons, List.not_mem_nil, or_false] at hb
    have hle := two_le _ _ hb
    exact I1.fpOk hle (I1.hok.fresh hle)
end PV

set_option Elab.async false
set_option linter.all false
set_option maxRecDepth 100000
set_option maxHeartbeats 1000000
set_option autoImplicit false
/-! PV, part t: zip and enumerate over data. -/
namespace PV
open PySem PySem.Spec PyProof.Rows L2
def seqD : PyData → Option (List PyData)
  | .str _ => none
  | d => itemsD d
theorem Pr.sub {m n : List Addr} {H H1 : Hp} (p : Pr m H H1) (h : ∀ a ∈ n, a ∈ m) : Pr n H H1 := fun a o e q => p a o e (q.imp (h a) fun z => z)
theorem seq_core {K : PySem.W.Frag} {H : Hp} {v : V} {d : PyData} {m : List Addr} {o : Bool} {ds : List PyData} (a : Ab K H o v d m) (e : seqD d = some ds) :
    ∃ k p xs n, v = .ref p ∧ SqK k K H p xs ∧ AbL K H o xs ds n ∧ (∀ x ∈ n, x ∈ m) ∧ ∀ H1, Pr m H H1 → SqK k K H1 p xs ∧ AbL K H1 o xs ds n := by
  cases d <;> simp only [seqD, itemsD, reduceCtorEq, Option.some.injEq] at e
  · subst e
    obtain ⟨p, vs, n, rfl, hp, al, rfl⟩ := a.ownL
    exact ⟨true, p, vs, n, rfl, .inl (.inl hp), al, fun x q => List.mem_cons_of_mem _ q, fun H1 g => ⟨g.sqL (List.mem_cons_self ..) (.inl (.inl hp)), al.pr g fun x q => List.mem_cons_of_mem _ q⟩⟩
  · subst e
    obtain ⟨p, vs, rfl, hp, al⟩ := a.tuple
    exact ⟨false, p, vs, m, rfl, hp, al, fun x q => q, fun H1 g => ⟨g.sqT hp, al.pr g fun x q => q⟩⟩
  · have := itemsD_dict e
    subst this
    obtain ⟨p, xs, rfl, hp, al, rfl⟩ := a.frzL
    exact ⟨true, p, xs, [], rfl, hp.l, al, fun x q => q, fun H1 g => ⟨(g.sqF hp).l, al.pr g fun x q => q⟩⟩
def pair (x y : PyData) : PyData := .tuple [x, y]
def zipD : List PyData → Option (List PyData)
  | [a, b] => match seqD a with
    | some xs => (seqD b).map fun ys => List.zipWith pair xs ys
    | none => none
  | _ => none
def enumD : List PyData → Option (List PyData)
  | [a] => (seqD a).map fun xs => List.zipWith pair (rangeL 0 xs.length) xs
  | _ => none
theorem same_upd {H : Hp} {T : Addr} {o : HO} (h : H T = none) : Same H (upd H T o) := fun b o' e => by
  rw [upd_ne (fun q => by rw [q, h] at e; cases e)]; exact e
theorem ab_pair {K : PySem.W.Frag} {H : Hp} {T : Addr} {x y : V} {d e : PyData} {m n : List Addr} (h : H T = none) (a : Ab K H false x d m) (b : Ab K H false y e n) : Ab K (upd H T (.tup [x, y])) false (.ref T) (pair d e) (m ++ (n ++ [])) :=
  .tup (.inl (.inl upd_same)) (.cons (a.same (same_upd h)) (.cons (b.same (same_upd h)) .nil))
theorem walks_zip {K : PySem.W.Frag} {k1 k2 : Bool} {a b : Addr} {xs ys : List V} {ds es : List PyData} {n1 n2 m : List Addr} {o : Bool} (h1 : ∀ x ∈ n1, x ∈ m) (h2 : ∀ x ∈ n2, x ∈ m) {G : Hp → Prop}
    (hG : ∀ H1, G H1 → (SqK k1 K H1 a xs ∧ AbL K H1 o xs ds n1) ∧ SqK k2 K H1 b ys ∧ AbL K H1 o ys es n2) : Walks K (ItZK k1 k2 K a b) (List.zipWith pair ds es) m G where
  go := fun i H1 p hi => by
    obtain ⟨⟨q1, a1⟩, q2, a2⟩ := hG H1 p
    rw [List.length_zipWith] at hi
    have l1 := a1.len
    have l2 := a2.len
    exact ⟨xs, ys, xs[i]'(by omega), ys[i]'(by omega), q1, q2, List.getElem?_eq_getElem _, List.getElem?_eq_getElem _⟩
  stop := fun i H1 p hi => by
    obtain ⟨⟨q1, a1⟩, q2, a2⟩ := hG H1 p
    rw [List.length_zipWith] at hi
    have l1 := a1.len
    have l2 := a2.len
    exact ⟨xs, ys, q1, q2, by omega, by omega, by omega⟩
  yld := fun i H1 x H' p hi y => by
    obtain ⟨⟨q1, a1⟩, q2, a2⟩ := hG H1 p
    obtain ⟨T, u, v, rfl, hT, rfl, f1, f2⟩ := y
    obtain ⟨d, m1, e1, b1, s1⟩ := a1.getV (f1 xs q1)
    obtain ⟨e, m2, e2, b2, s2⟩ := a2.getV (f2 ys q2)
    refine ⟨same_upd hT, pair d e, m1 ++ (m2 ++ []), by rw [List.getElem?_zipWith, e1, e2], ab_pair hT (b1.any _) (b2.any _), fun b q => ?_⟩
    rw [List.append_nil] at q
    exact (List.mem_append.mp q).elim (fun z => h1 b (s1.subset z)) fun z => h2 b (s2.subset z)
theorem rangeL_get {n i : Nat} (h : i < n) : (rangeL 0 (n : Int))[i]? = some (.int (i : Int)) := by
  unfold rangeL
  have e : ((n : Int) - 0).toNat = n := by omega
  rw [e, List.getElem?_map, List.getElem?_range h]
  simp
theorem rangeL_len {n : Nat} : (rangeL 0 (n : Int)).length = n := by simp [rangeL]
theorem walks_enum {K : PySem.W.Frag} {k : Bool} {a : Addr} {xs : List V} {ds : List PyData} {n m : List Addr} {o : Bool} (h1 : ∀ x ∈ n, x ∈ m) {G : Hp → Prop}
    (hG : ∀ H1, G H1 → SqK k K H1 a xs ∧ AbL K H1 o xs ds n) : Walks K (ItEK k K a) (List.zipWith pair (rangeL 0 ds.length) ds) m G where
  go := fun i H1 p hi => by
    obtain ⟨q1, a1⟩ := hG H1 p
    rw [List.length_zipWith, rangeL_len] at hi
    have l1 := a1.len
    exact ⟨xs, xs[i]'(by omega), q1, List.getElem?_eq_getElem _⟩
  stop := fun i H1 p hi => by
    obtain ⟨q1, a1⟩ := hG H1 p
    rw [List.length_zipWith, rangeL_len] at hi
    have l1 := a1.len
    exact ⟨xs, q1, by omega⟩
  yld := fun i H1 x H' p hi y => by
    obtain ⟨q1, a1⟩ := hG H1 p
    rw [List.length_zipWith, rangeL_len] at hi
    obtain ⟨T, u, rfl, hT, rfl, f1⟩ := y
    obtain ⟨d, m1, e1, b1, s1⟩ := a1.getV (f1 xs q1)
    refine ⟨same_upd hT, pair (.int i) d, [] ++ (m1 ++ []), by rw [List.getElem?_zipWith, e1, rangeL_get (by omega)], ab_pair hT (.int _) (b1.any _), fun b q => ?_⟩
    rw [List.append_nil] at q
    exact h1 b (s1.subset q)
section
variable {X : Cx} {W : WX} {ks : List Bool} {e e2 : Expr} {tpos : Pos} {elts : List Expr} {kk : Nat}
def eZip (f : Env → R (List PyData × Env)) : Env → R (List PyData × Env) := fun ρ => f ρ >>= fun r => ofO (zipD r.1) >>= fun ds => .ok (ds, r.2)
def fZip (f : Env → R (List PyData)) : Env → R (List PyData) := fun ρ => f ρ >>= fun r => ofO (zipD r)
def eEnum (f : Env → R (List PyData × Env)) : Env → R (List PyData × Env) := fun ρ => f ρ >>= fun r => ofO (enumD r.1) >>= fun ds => .ok (ds, r.2)
def fEnum (f : Env → R (List PyData)) : Env → R (List PyData) := fun ρ => f ρ >>= fun r => ofO (enumD r)
theorem zip_core {K : PySem.W.Frag} {H : Hp} {o : Bool} {vs : List V} {d ds : List PyData} {m : List Addr} (hl : d.length = 2) (al : AbL K H o vs d m) (e : zipD d = some ds) :
    ∃ k1 k2 a b xs ys, vs = [.ref a, .ref b] ∧ SqK k1 K H a xs ∧ SqK k2 K H b ys ∧ Walks K (ItZK k1 k2 K a b) ds m (Pr m H) := by
  match d, hl with
  | [x, y], _ =>
    obtain ⟨v, w, m1, m2, rfl, a1, a2, rfl⟩ := al.two
    simp only [zipD] at e
    cases ex : seqD x with
    | none => rw [ex] at e; cases e
    | some xs =>
    rw [ex] at e
    obtain ⟨ys, ey, rfl⟩ := Option.map_eq_some_iff.mp e
    obtain ⟨k1, p1, us, n1, rfl, q1, al1, h1, g1⟩ := seq_core a1 ex
    obtain ⟨k2, p2, ws, n2, rfl, q2, al2, h2, g2⟩ := seq_core a2 ey
    exact ⟨k1, k2, p1, p2, us, ws, rfl, q1, q2, walks_zip (fun x q => List.mem_append_left _ (h1 x q)) (fun x q => List.mem_append_right _ (h2 x q)) fun H1 g => ⟨g1 H1 (g.sub fun a q => List.mem_append_left _ q), g2 H1 (g.sub fun a q => List.mem_append_right _ q)⟩⟩
theorem enum_core {K : PySem.W.Frag} {H : Hp} {o : Bool} {vs : List V} {d ds : List PyData} {m : List Addr} (hl : d.length = 1) (al : AbL K H o vs d m) (e : enumD d = some ds) :
    ∃ k a xs, vs = [.ref a] ∧ SqK k K H a xs ∧ Walks K (ItEK k K a) ds m (Pr m H) := by
  match d, hl with
  | [x], _ =>
    obtain ⟨v, rfl, a1⟩ := al.one
    obtain ⟨xs, ex, rfl⟩ := Option.map_eq_some_iff.mp e
    obtain ⟨k1, p1, us, n1, rfl, q1, al1, h1, g1⟩ := seq_core a1 ex
    exact ⟨k1, p1, us, rfl, q1, walks_enum h1 fun H1 g => g1 H1 g⟩
theorem i_zip {f : Env → R (List PyData × Env)} {p pos : Pos} (hm : X.mg "zip" = none) (ha : DEA X W ks .V [e, e2] f) (hl : HLe 2 f := by repeat (first | exact HLe.nil | exact HLe.lift (by repeat (first | exact HL.nil | refine HL.cons ?_)) | refine HLe.cons ?_)) (hg : Gl X "zip" := by rfl)
    (hs : starEach [e, e2] X.env = (false, eval e X.env) :: starEach [e2] X.env := by rfl) (hpl : (backTo pos (starEach [e2] X.env)).any (·.1) = false := by rfl) :
    PI X (.Tuple elts kk tpos) (.Call (.Name "zip" p) [e, e2] [] pos) (tI X.K W ks (eZip f)) :=
  PI.imp (pi_zipK hg hm ha hs hpl) fun σ H R ⟨ρ, fp, eo, h⟩ => by
    refine ⟨ρ, fp, eo, ?_⟩
    have h1 := Holds.bind h
    cases ef : f ρ with
    | ex c => rw [ef] at h1; exact h1
    | no => rw [ef] at h1; exact h1
    | ok r =>
      rw [ef] at h1
      intro v H' fp' m s al rc
      obtain ⟨ds, e, hr⟩ := Holds.ofO (Holds.bind h1)
      obtain ⟨k1, k2, a, b, xs, ys, rfl, q1, q2, wk⟩ := zip_core (hl ρ r ef) al e
      exact ⟨k1, k2, a, b, xs, ys, rfl, q1, q2, hr _ H' fp' m s rc (fun a q => al.tr q) wk⟩
theorem i_zipP {f : Env → R (List PyData)} {p pos : Pos} (hm : X.mg "zip" = none) (ha : DPA X W ks .V [e, e2] f) (hl : HL 2 f := by repeat (first | exact HL.nil | refine HL.cons ?_)) (hg : Gl X "zip" := by rfl)
    (hs : starEach [e, e2] X.env = (false, eval e X.env) :: starEach [e2] X.env := by rfl) (hpl : (backTo pos (starEach [e2] X.env)).any (·.1) = false := by rfl) :
    PI X (.Tuple elts kk tpos) (.Call (.Name "zip" p) [e, e2] [] pos) (tIp X.K W ks (fZip f)) :=
  PI.imp (pi_zipK hg hm ha hs hpl) fun σ H R ⟨ρ, fp, eo, h⟩ => by
    refine ⟨ρ, fp, eo, ?_⟩
    have h1 := Holds.bind h
    cases ef : f ρ with
    | ex c => rw [ef] at h1; exact h1
    | no => rw [ef] at h1; exact h1
    | ok r =>
      rw [ef] at h1
      intro v H' m s al rc
      obtain ⟨ds, e, hr⟩ := Holds.ofO h1
      obtain ⟨k1, k2, a, b, xs, ys, rfl, q1, q2, wk⟩ := zip_core (hl ρ r ef) al e
      exact ⟨k1, k2, a, b, xs, ys, rfl, q1, q2, hr _ H' m s rc (fun a q => al.tr q) (wk.weak fun H2 s2 => Pr.of s2 m)⟩
theorem i_enum {f : Env → R (List PyData × Env)} {p pos : Pos} (hm : X.mg "enumerate" = none) (ha : DEA X W ks .V [e] f) (hl : HLe 1 f := by repeat (first | exact HLe.nil | exact HLe.lift (by repeat (first | exact HL.nil | refine HL.cons ?_)) | refine HLe.cons ?_)) (hg : Gl X "enumerate" := by rfl) (hs : starEach [e] X.env = [(false, eval e X.env)] := by rfl) :
    PI X (.Tuple elts kk tpos) (.Call (.Name "enumerate" p) [e] [] pos) (tI X.K W ks (eEnum f)) :=
  PI.imp (pi_enumK hg hm ha hs) fun σ H R ⟨ρ, fp, eo, h⟩ => by
    refine ⟨ρ, fp, eo, ?_⟩
    have h1 := Holds.bind h
    cases ef : f ρ with
    | ex c => rw [ef] at h1; exact h1
    | no => rw [ef] at h1; exact h1
    | ok r =>
      rw [ef] at h1
      intro v H' fp' m s al rc
      obtain ⟨ds, e, hr⟩ := Holds.ofO (Holds.bind h1)
      obtain ⟨k, a, xs, rfl, q1, wk⟩ := enum_core (hl ρ r ef) al e
      exact ⟨k, a, xs, rfl, q1, hr _ H' fp' m s rc (fun a q => al.tr q) wk⟩
theorem i_enumP {f : Env → R (List PyData)} {p pos : Pos} (hm : X.mg "enumerate" = none) (ha : DPA X W ks .V [e] f) (hl : HL 1 f := by repeat (first | exact HL.nil | refine HL.cons ?_)) (hg : Gl X "enumerate" := by rfl) (hs : starEach [e] X.env = [(false, eval e X.env)] := by rfl) :
    PI X (.Tuple elts kk tpos) (.Call (.Name "enumerate" p) [e] [] pos) (tIp X.K W ks (fEnum f)) :=
  PI.imp (pi_enumK hg hm ha hs) fun σ H R ⟨ρ, fp, eo, h⟩ => by
    refine ⟨ρ, fp, eo, ?_⟩
    have h1 := Holds.bind h
    cases ef : f ρ with
    | ex c => rw [ef] at h1; exact h1
    | no => rw [ef] at h1; exact h1
    | ok r =>
      rw [ef] at h1
      intro v H' m s al rc
      obtain ⟨ds, e, hr⟩ := Holds.ofO h1
      obtain ⟨k, a, xs, rfl, q1, wk⟩ := enum_core (hl ρ r ef) al e
      exact ⟨k, a, xs, rfl, q1, hr _ H' m s rc (fun a q => al.tr q) (wk.weak fun H2 s2 => Pr.of s2 m)⟩
end
end PV

set_option Elab.async false
set_option linter.all false
set_option maxRecDepth 100000
set_option maxHeartbeats 1000000
set_option autoImplicit false
/-! PV, part u: -x, xs[::-1]. -/
namespace HT
open PySem PySem.Spec PyProof.Rows L2 PySem.W
section
variable {prog : Program} {w : World} {A : Around} {E : Value → Shared → Prop} {s : Shared}
theorem sliceApplied_rev {sl : Addr} {vs : Value} {n : Nat} {Q : Int × Int × Nat → Shared → Prop} (hs : s.heap.IsSliceOf sl .none .none vs) (ps : IsPart vs (some (-1)))
    (h : Q ((n : Int) - 1, -1, n) s) : wpAny (model prog w) A (Builtin.Slice.sliceApplied (.ref sl) (pure (n : Int))) Q E s := by
  obtain ⟨os, hos, hcs, hds⟩ := id hs
  unfold Builtin.Slice.sliceApplied Builtin.Slice.sliceFields
  refine wpAny_bind (wpAny_bind (wpAny_field hos hds (x := .none) rfl (wpAny_bind (wpAny_field hos hds (x := .none) rfl (wpAny_bind (wpAny_field hos hds (x := vs) rfl (wpAny_pure ?_)))))))
  refine wpAny_bind (slicePart_ ps ?_)
  show wpAny _ _ (if ((-1 : Int) == 0) = true then _ else _) _ _ s
  rw [if_neg (by decide)]
  refine wpAny_bind (slicePart_none (wpAny_bind (slicePart_none (wpAny_bind (wpAny_pure ?_)))))
  show wpAny _ _ (pure ((n : Int) - 1, (-1 : Int), Builtin.Slice.slicePlaces ((n : Int) - 1) (-1) (-1))) _ _ s
  have e : Builtin.Slice.slicePlaces ((n : Int) - 1) (-1) (-1) = n := by
    unfold Builtin.Slice.slicePlaces
    have h1 : ¬ ((-1 : Int) > 0) := by decide
    rw [if_neg h1]
    have h2 : -(-1 : Int) = 1 := by decide
    rw [h2, Int.ediv_one]
    split <;> omega
  rw [e]
  exact wpAny_pure h
theorem fm_congr {α β : Type} {f g : α → Option β} : ∀ {l : List α}, (∀ a ∈ l, f a = g a) → l.filterMap f = l.filterMap g
  | [], _ => rfl
  | a :: l, h => by
    have e := fm_congr (l := l) fun b hb => h b (List.mem_cons_of_mem _ hb)
    rw [List.filterMap_cons, List.filterMap_cons, h a (List.mem_cons_self ..), e]
theorem pick_rev (xs : Array Value) : ((List.range xs.size).filterMap fun (m : Nat) => xs[((xs.size : Int) - 1 + (m : Int) * (-1)).toNat]?).toArray = xs.toList.reverse.toArray := by
  rw [← krv_pick]
  unfold slicePick
  rw [krv_bounds]
  show _ = ((sliceRange ((xs.size : Int) - 1) (-1) (-1)).filterMap (xs[·]?)).toArray
  rw [krv_sliceRange, List.filterMap_map]
  refine congrArg List.toArray ?_
  refine fm_congr fun m hm => ?_
  have := List.mem_range.mp hm
  show xs[((xs.size : Int) - 1 + (m : Int) * (-1)).toNat]? = xs[xs.size - 1 - m]?
  congr 1
  omega
theorem getItem_tuple_rev {t sl : Addr} {items : Array Value} {vs : Value} {Q : Value → Shared → Prop} (ht : IsTup s.heap t items) (hs : s.heap.IsSliceOf sl .none .none vs) (ps : IsPart vs (some (-1)))
    (h : Q (.ref s.heap.objs.size) { s with heap := s.heap.push { cls := .type "tuple", data := .seq items.toList.reverse.toArray } })
    (hsz : items.size ≤ sizeLine) : wpAny (model prog w) A (getItem (.ref t) (.ref sl)) Q E s := by
  have htake : sizeOk (.seq items.toList.reverse.toArray) := by
    show items.toList.reverse.toArray.size ≤ sizeLine
    rw [List.size_toArray, List.length_reverse, Array.length_toList]
    exact hsz
  obtain ⟨os, hos, hcs, hds⟩ := id hs
  have hTs : s.TypeIs (.ref sl) "slice" := ⟨os, hos, hcs⟩
  unfold getItem
  try with_reducible refine wpAny_holding ?_
  first | refine wpAny_bind (wpAny_pure ?_) | skip
  refine wpAny_bind (wpAny_sequenceKey ht.typeIs (by decide) ?_)
  refine wpAny_bind (wpAny_callSpecial?_slot (name := Str.ofString "__getitem__") ht.typeIs PyProof.Rows.slot_tuple_getitem
    (wpAny_call_entry PyProof.Rows.slot_tuple_getitem ht.typeIs entry_tuple_getitem ?_ (args_tuple_getitem _ _)))
  show wpAny _ _ (Builtin.Tuple.tupleItemsOf (.ref t) >>= _) _ _ s
  refine wpAny_bind (tupleItemsOf_ ht ?_)
  refine wpAny_bind (wpAny_typeOf hTs ?_)
  rw [if_pos (by decide)]
  refine wpAny_bind (sliceApplied_rev hs ps ?_)
  have hno : ¬ ((((items.size : Int) - 1) == 0 && (-1 : Int) == 1 && items.size == items.size) = true) := by
    intro q
    rw [Bool.and_eq_true, Bool.and_eq_true] at q
    exact absurd q.1.2 (by decide)
  show wpAny _ _ (if (((items.size : Int) - 1) == 0 && (-1 : Int) == 1 && items.size == items.size) = true then _ else _) _ _ s
  rw [if_neg hno, pick_rev]
  first
    | exact wpAny_bind (m := Builtin.Tuple.tupleExact _) (wpAny_newObj_type (wpAny_pure ⟨_, rfl, wpAny_pure h⟩) htake)
    | exact wpAny_bind (m := Builtin.Tuple.tupleExact _) (wpAny_newObj_type (wpAny_bind (wpAny_pure (wpAny_pure ⟨_, rfl, wpAny_pure h⟩))) htake)
    | exact wpAny_bind (wpAny_bind (m := Builtin.Tuple.tupleExact _) (wpAny_newObj_type (wpAny_pure (wpAny_pure ⟨_, rfl, wpAny_pure h⟩)) htake))
    | exact wpAny_bind (wpAny_bind (m := Builtin.Tuple.tupleExact _) (wpAny_newObj_type (wpAny_pure ⟨_, rfl, wpAny_pure h⟩) htake))
end
end HT
namespace PV
open PySem PySem.Spec PyProof.Rows L2
/-! ### xs[::-1] -/
def tRevS (K : PySem.W.Frag) (te : TE) : TE := fun σ H Q => te σ H fun x H1 => ∃ a xs, x = .ref a ∧ ((SqL K H1 a xs ∧ ∀ p, H1 p = none → Q (.ref p) (upd H1 p (.lst xs.reverse))) ∨ (SqT K H1 a xs ∧ ∀ p, H1 p = none → Q (.ref p) (upd H1 p (.tup xs.reverse))))
theorem pe_revS {X : Cx} {e : Expr} {te : TE} {k : Nat} {p1 p2 p3 pos : Pos} (he : PE X e te) : PE X (.Subscript e (.Slice none none (some (.UnaryOp .USub (.Constant (.int 1) k p1) p2)) p3) pos) (tRevS X.K te) := by
  refine ⟨fun pins s σ H Q I h => ?_⟩
  refine Subscript_ (thn (he.run pins s σ H _ I h) fun v s1 ⟨x, H1, I1, r1, q1⟩ => ?_)
  obtain ⟨a, xs, ex, q1⟩ := q1
  subst ex
  cases r1
  have st : PO X (some (.UnaryOp .USub (.Constant (.int 1) k p1) p2)) (tPart (tUn (rU fun i => .int (-i)) (tC (.int 1)))) := po_some (pe_un un_neg pe_int)
  refine wpAny_Slice (thn (po_none.run pins s1 σ H1 (fun o H2 => o = none ∧ H2 = H1) I1 ⟨rfl, rfl⟩) fun vl s2 ⟨l, H2, I2, pl, el, e2⟩ => ?_)
  subst el e2
  refine thn (po_none.run pins s2 σ H2 (fun o H3 => o = none ∧ H3 = H2) I2 ⟨rfl, rfl⟩) fun vu s3 ⟨u, H3, I3, pu, eu, e3⟩ => ?_
  subst eu e3
  refine thn (st.run pins s3 σ H3 (fun o H4 => o = some (-1) ∧ H4 = H3) I3 ⟨1, rfl, -1, rfl, rfl, rfl⟩) fun vs s4 ⟨o, H4, I4, ps, eo, e4⟩ => ?_
  subst eo e4
  have I5 : Inv X pins σ H4 { s4 with heap := s4.heap.push { cls := .type "slice", data := .fields #[vl, vu, vs] } } := I4.kept (t' := s4.toks) fun b ob q => Heap.get?_push_of_some _ q
  show wpAny (model X.prog X.w) X.A (subscriptTail e (.Slice none none (some (.UnaryOp .USub (.Constant (.int 1) k p1) p2)) p3) (.ref a) (.ref s4.heap.objs.size)) (EP X pins σ Q) X.xe { s4 with heap := s4.heap.push { cls := .type "slice", data := .fields #[vl, vu, vs] } }
  rcases q1 with ⟨hx, q⟩ | ⟨hx, q⟩
  · obtain ⟨its, r, ht, hz⟩ := I5.list hx
    have hlen := r.length
    refine tail_any (ops := [.ref a, .ref s4.heap.objs.size]) ht.isList.typeIs (PySem.slot_list_getitem.lookup) ?_ (by with_unfolding_all rfl)
    refine wpAny_getItem_list_slice ht.isList (Heap.IsSliceOf.new _ vl vu vs) pl pu ps (by decide) ?_ (by rw [List.size_toArray]; omega)
    rw [PySem.W.krv_pick]
    refine ⟨.ref _, _, I5.laid (t' := s4.toks) (o := .lst xs.reverse) (fun b ob q => Heap.get?_push_of_some _ q) (Nat.le_refl _) ?_, rfl, q _ (I5.hok.fresh (Nat.le_refl _))⟩
    exact ⟨by rw [List.length_reverse]; exact hz, _, 0, r.reverse, Heap.get?_push_size _ rfl⟩
  · obtain ⟨its, r, ht, hz⟩ := I5.tuple hx
    have hlen := r.length
    refine tail_any (ops := [.ref a, .ref s4.heap.objs.size]) ht.typeIs (PyProof.Rows.slot_tuple_getitem.lookup) ?_ (by with_unfolding_all rfl)
    cases pl
    cases pu
    refine HT.getItem_tuple_rev ht (Heap.IsSliceOf.new _ .none .none vs) ps ?_ (by rw [List.size_toArray]; omega)
    refine ⟨.ref _, _, I5.laid (t' := s4.toks) (o := .tup xs.reverse) (fun b ob q => Heap.get?_push_of_some _ q) (Nat.le_refl _) ?_, rfl, q _ (I5.hok.fresh (Nat.le_refl _))⟩
    exact ⟨by rw [List.length_reverse]; exact hz, _, r.reverse, ⟨_, Heap.get?_push_size _ rfl, rfl, _, rfl⟩⟩
theorem app_nil {m n : List Addr} (h : m ++ n = []) : m = [] ∧ n = [] := List.append_eq_nil_iff.mp h
theorem AbL.rev {K : PySem.W.Frag} {H : Hp} {o : Bool} : ∀ {vs : List V} {ds : List PyData} {m : List Addr}, AbL K H o vs ds m → m = [] → AbL K H o vs.reverse ds.reverse []
  | _, _, _, .nil, _ => .nil
  | _, _, _, .cons a al, h => by
    obtain ⟨h1, h2⟩ := app_nil h
    subst h1
    rw [List.reverse_cons, List.reverse_cons]
    have := (AbL.rev al h2).append (.cons a .nil)
    exact this
def revD : PyData → Option PyData
  | .list ds => some (.list ds.reverse)
  | .tuple ds => some (.tuple ds.reverse)
  | _ => none
section
variable {X : Cx} {W : WX} {ks : List Bool} {κ : Kd} {a b c e tg : Expr} {pos : Pos} {st : Stmt} {rest : List Stmt}
def fRev (f : Env → R PyData) : Env → R PyData := fun ρ => f ρ >>= fun x => match x with
  | .list ds => if flatL ds then .ok (.list ds.reverse) else .no
  | .tuple ds => if flatL ds then .ok (.tuple ds.reverse) else .no
  | _ => .no
theorem p_rev {f : Env → R PyData} {k : Nat} {p1 p2 p3 : Pos} (ha : DP X W ks .B a f) : DP X W ks .F (.Subscript a (.Slice none none (some (.UnaryOp .USub (.Constant (.int 1) k p1) p2)) p3) pos) (fRev f) :=
  PE.imp (pe_revS ha) fun σ H Q ⟨ρ, fp, eo, h⟩ => ⟨ρ, fp, eo, (Holds.bind h).mono (fun x hx v H1 m s1 a1 r1 => by
    cases x with
    | list ds =>
      obtain ⟨p, vs, n, rfl, hp, al, rfl⟩ := a1.ownL
      dsimp only at hx
      by_cases hf : flatL ds = true
      · rw [if_pos hf] at hx
        have en := al.flat hf
        subst en
        refine ⟨p, vs, rfl, .inl ⟨.inl (.inl hp), fun q hq => ?_⟩⟩
        refine hx (.ref q) _ [q] (s1.trans (same_new hq)) (.lst upd_same ((al.rev rfl).any true |>.same (same_new hq))) ⟨by simp, fun z hz => ?_⟩
        rw [List.mem_singleton.mp hz]
        exact Same.back s1 hq
      · rw [if_neg hf] at hx; exact hx.elim
    | tuple ds =>
      obtain ⟨p, vs, rfl, hp, al⟩ := a1.tuple
      dsimp only at hx
      by_cases hf : flatL ds = true
      · rw [if_pos hf] at hx
        have en := al.flat hf
        subst en
        refine ⟨p, vs, rfl, .inr ⟨hp, fun q hq => ?_⟩⟩
        exact hx (.ref q) _ [] (s1.trans (same_new hq)) (.tup (.inl (.inl upd_same)) ((al.rev rfl).any true |>.same (same_new hq))) (RCp.nil _)
      · rw [if_neg hf] at hx; exact hx.elim
    | _ => exact hx.elim) fun c hc => hc⟩
/-! ### -x -/
def dNeg : PyData → Option PyData
  | .int i => some (.int (-i))
  | _ => none
theorem o_neg {K : PySem.W.Frag} : Op1 K (rU fun i => .int (-i)) dNeg := ⟨fun H x a m d Q a1 e q => by
  cases a <;> simp only [dNeg, reduceCtorEq, Option.some.injEq] at e
  subst e
  obtain ⟨rfl, _⟩ := a1.eq_int
  exact ⟨_, rfl, q _ H [] (Same.refl H) (.int _) ⟨.nil, fun _ z => nomatch z⟩⟩⟩
theorem p_neg {f : Env → R PyData} (ha : DP X W ks .B a f) : DP X W ks .F (.UnaryOp .USub a pos) (fUn dNeg f) := p_un un_neg o_neg ha
theorem e_neg {f : FE} (ha : DE X W ks .B a f) : DE X W ks .F (.UnaryOp .USub a pos) (eUn dNeg f) := e_un un_neg o_neg ha
end
/-! ### f() -/
section
variable {X : Cx} {CX : CXT} {k : Nat} {f C : Addr} {fd : FuncData} {ps : List Str} {sp : Sp} {E : L2.St → XK} {x m : Str} {p pos apos : Pos}
theorem pe_callG0 (F : FnG X.prog X.w X.K X.mg X.base CX k f fd ps sp) (hr : RoomG k X.A) (hg : Gl X x) (hm : X.mg x = some (.ref f)) (hk : PySem.W.keepIn X.K (.ref f) = true) (hb : Binds X.K fd ps []) (hx : ∀ σ, PassesAt CX X σ (E σ))
    (hdb : (x == ("__debug__" : Str)) = false := by decide) : PE X (.Call (.Name x p) [] [] pos) (tCallS sp E tNil) := by
  refine ⟨fun pins s σ H Q I h => ?_⟩
  refine wpAny_Call_Name_kw (ld_glob I hg hm ?_ hdb)
  exact PySem.W.callWith_K0 I.kIn hk (run_fnG (us := []) F hr hb (hx σ) I .nil h)
end
section
variable {X : Cx} {W : WX} {ks : List Bool} {pos : Pos} {x : Str} {p : Pos} {k : Nat} {m : List PyData → R PyData}
theorem p_callF0 (F : FnP X k x [] .F m) (tk : Takes X W) (hr : RoomG k X.A) (hg : Gl X x := by rfl) (hdb : (x == ("__debug__" : Str)) = false := by decide) : DP X W ks .F (.Call (.Name x p) [] [] pos) (fCall m fNil) := by
  obtain ⟨fa, fd, G, hm, hk, hb⟩ := F.ex
  exact PE.imp (pe_callG0 G hr hg hm hk hb (passAt tk) hdb) fun σ H Q ⟨ρ, fp, eo, h⟩ => (call_core (f := fNil) (np := 0) (κa := .B) HL.nil (fun a => a) (fun s _ r => hκF (K := X.K) (κa := .B) (σ := σ) s r) eo h) [] H [] (Same.refl H) .nil trivial
end
/-! ### t * 1 -/
set_option maxHeartbeats 4000000 in
theorem tuple_mul1 (l : Addr) (items : Array Value) (n : Nat) (dd : Option Addr) (sl : Array (Option Value)) (u : Tok) :
    Meets (Builtin.«tuple.__mul__» ⟨[.ref l, .int 1 u], []⟩) (fun _ R s => s.heap.get? l = some { cls := .type "tuple", dict := dd, data := .seq items n, slots := sl } ∧ R (.ok (.ret (.ref l))) s) :=
  .of_wp fun prog w A R s h => by
    obtain ⟨hp, gn, dr, tk, ot⟩ := s
    obtain ⟨hl, h⟩ := h
    have ii := AutoSeq1.idx_int
    have c1 : (items.isEmpty || (1 : Int) == 1) = true := by rw [show ((1 : Int) == 1) = true by decide, Bool.or_true]
    wp_walk using wpAny_loadPart' hl
    repeat (first
      | (refine wpAny_ite_false (by decide) ?_; wp_walk using wpAny_loadPart' hl)
      | (refine wpAny_ite_true (by rw [c1]) ?_; wp_walk using wpAny_loadPart' hl)
      | (refine wpAny_ite_true (by decide) ?_; wp_walk using wpAny_loadPart' hl))
    exact ⟨_, rfl, h⟩
def rRepT1 (K : PySem.W.Frag) : R2 := fun x y H Q => ∃ l xs, x = .ref l ∧ y = .int 1 ∧ SqT K H l xs ∧ Q (.ref l) H
theorem op_repT1 {X : Cx} : OpR X (binaryOp .Mult) (rRepT1 X.K) := by
  intro pins s σ H x y v u Q I rx ry h
  obtain ⟨l, xs, rfl, rfl, hT, q⟩ := h
  cases rx
  obtain ⟨t, rfl⟩ := ry
  obtain ⟨its, r, ⟨⟨cls, dd, data, sl⟩, ho, hc, n, hd⟩, hs⟩ := I.tuple hT
  simp only at hc hd
  subst hc hd
  refine wpAny_binaryOp_repeat_ref (T := "tuple") (U := "int") (by decide) ⟨_, ho, rfl⟩ (fun s' => typeIs_int s' 1 t) noFill_tuple_mul F.fills_int_mul F.slot_int_rmul repeat_tuple F.slot_int_index.lookup
    (call_meets F.slot_int_rmul (typeIs_int s 1 t) F.entry_int_rmul (F.args_int_rmul_2 _ _) (int_rmul_tuple 1 t l its.toArray n dd sl)
      ⟨ho, rfl, ⟨_, ho, rfl⟩, call_meets F.slot_tuple_mul ⟨_, ho, rfl⟩ F.entry_tuple_mul (F.args_tuple_mul_2 _ _) (tuple_mul1 l its.toArray n dd sl t) ⟨ho, ?_⟩⟩)
  exact ⟨.ref l, H, I, rfl, q⟩
def tMul1 : PyData → PyData → Option PyData
  | .tuple xs, .int k => if flatL xs && decide (k = 1) then some (.tuple xs) else none
  | _, _ => none
theorem op_tMul1 {K : PySem.W.Frag} : Op2 K (rRepT1 K) tMul1 := ⟨fun H x y a b m n d Q a1 a2 e q => by
  cases a <;> simp only [tMul1, reduceCtorEq] at e
  cases b <;> simp only [tMul1, reduceCtorEq] at e
  split at e
  · rename_i hh
    cases e
    simp only [Bool.and_eq_true, decide_eq_true_eq] at hh
    obtain ⟨hh1, rfl⟩ := hh
    obtain ⟨p1, v1, rfl, h1, l1⟩ := a1.tuple
    obtain ⟨rfl, _⟩ := a2.eq_int
    have e1 := l1.flat hh1
    subst e1
    exact ⟨p1, _, rfl, rfl, h1, q _ H [] (Same.refl H) (.tup h1 (l1.any true)) ⟨.nil, fun _ z => nomatch z⟩⟩
  · cases e⟩
def dMulT : PyData → PyData → Option PyData := fun a b => match dMul a b with
  | some d => some d
  | none => tMul1 a b
theorem o_mulT {X : Cx} : ∃ r, OpR X (binaryOp .Mult) r ∧ Op2 X.K r dMulT := let ⟨_, h1, h2⟩ := o_mul (X := X); ⟨_, h1.or op_repT1, Op2.or h2 op_tMul1⟩
end PV

set_option Elab.async false
set_option linter.all false
set_option maxRecDepth 100000
set_option maxHeartbeats 1000000
set_option autoImplicit false
/-! FR: exact fractions as pairs of ints. -/
noncomputable section
namespace PV
open PySem PySem.Spec PyProof.Rows L2
def qs_common : FS :=
  (sSeq (sWhile (eLT (gTru dTru (fVar 1))) (sPar 0 1 (eLA (fCons (fVar 1) (fCons (fOp dMod (fVar 0) (fVar 1)) fNil)))))
  (sRet (eFlat (eL (fVar 0)))))
def q_common : List PyData → R PyData := runF 2 (qs_common)
def qs_least_terms : FS :=
  (sSeq (sSet 2 (eL (fCall q_common (fCons (fN dAbs (fCons (fVar 0) fNil)) (fCons (fVar 1) fNil)))))
  (sRet (eL (fTup (fCons (fOp dDiv (fVar 0) (fVar 2)) (fCons (fOp dDiv (fVar 1) (fVar 2)) fNil))))))
def q_least_terms : List PyData → R PyData := runF 3 (qs_least_terms)
def qs_add : FS :=
  (sRet (eL (fCall q_least_terms (fCons (fOp dAdd (fOp dMul (fOp ixD (fVar 0) (fC (.int 0))) (fOp ixD (fVar 1) (fC (.int 1)))) (fOp dMul (fOp ixD (fVar 1) (fC (.int 0))) (fOp ixD (fVar 0) (fC (.int 1))))) (fCons (fOp dMul (fOp ixD (fVar 0) (fC (.int 1))) (fOp ixD (fVar 1) (fC (.int 1)))) fNil)))))
def q_add : List PyData → R PyData := runF 2 (qs_add)
def qs_less : FS :=
  (sRet (eL (fCall q_least_terms (fCons (fOp dSub (fOp dMul (fOp ixD (fVar 0) (fC (.int 0))) (fOp ixD (fVar 1) (fC (.int 1)))) (fOp dMul (fOp ixD (fVar 1) (fC (.int 0))) (fOp ixD (fVar 0) (fC (.int 1))))) (fCons (fOp dMul (fOp ixD (fVar 0) (fC (.int 1))) (fOp ixD (fVar 1) (fC (.int 1)))) fNil)))))
def q_less : List PyData → R PyData := runF 2 (qs_less)
def qs_times : FS :=
  (sRet (eL (fCall q_least_terms (fCons (fOp dMul (fOp ixD (fVar 0) (fC (.int 0))) (fOp ixD (fVar 1) (fC (.int 0)))) (fCons (fOp dMul (fOp ixD (fVar 0) (fC (.int 1))) (fOp ixD (fVar 1) (fC (.int 1)))) fNil)))))
def q_times : List PyData → R PyData := runF 2 (qs_times)
def qs_by : FS :=
  (sSeq (sSet 2 (eL (fIf (gCmp dGt (fOp ixD (fVar 1) (fC (.int 0))) (fC (.int 0))) (fC (.int 1)) (fUn dNeg (fC (.int 1))))))
  (sRet (eL (fCall q_least_terms (fCons (fOp dMul (fOp dMul (fVar 2) (fOp ixD (fVar 0) (fC (.int 0)))) (fOp ixD (fVar 1) (fC (.int 1)))) (fCons (fOp dMul (fOp ixD (fVar 0) (fC (.int 1))) (fN dAbs (fCons (fOp ixD (fVar 1) (fC (.int 0))) fNil))) fNil))))))
def q_by : List PyData → R PyData := runF 3 (qs_by)
def qs_total : FS :=
  (sSeq (sSet 1 (eL (fTup (fCons (fC (.int 0)) (fCons (fC (.int 1)) fNil)))))
  (sSeq (sFor (.nm 2) (eIt (eL (fVar 0))) (sSet 1 (eL (fCall q_add (fCons (fVar 1) (fCons (fVar 2) fNil))))))
  (sRet (eFlat (eL (fVar 1))))))
def q_total : List PyData → R PyData := runF 3 (qs_total)
def qs_is_fraction : FS :=
  (sRet (eL (fAnd (fOfB (gCmp dEq (fN dLen (fCons (fVar 0) fNil)) (fC (.int 2)))) (fAnd (fOfB (gCmp dGt (fOp ixD (fVar 0) (fC (.int 1))) (fC (.int 0)))) (fOfB (gCmp dEq (fCall q_common (fCons (fN dAbs (fCons (fOp ixD (fVar 0) (fC (.int 0))) fNil)) (fCons (fOp ixD (fVar 0) (fC (.int 1))) fNil))) (fC (.int 1))))))))
def q_is_fraction : List PyData → R PyData := runF 1 (qs_is_fraction)
def qs__law_common : FS :=
  (sSeq (sFor (.nm 2) (eRg (eLA (fCons (fC (.int 100000)) fNil))) (sSeq (sIf (eLT (gCmp dEq (fVar 1) (fC (.int 0)))) (fun ρ => .ok (.bk, ρ))
  sNil)
  (sPar 0 1 (eLA (fCons (fVar 1) (fCons (fOp dMod (fN dInt (fCons (fVar 0) fNil)) (fVar 1)) fNil))))))
  (sRet (eFlat (eL (fVar 0)))))
def q__law_common : List PyData → R PyData := runF 3 (qs__law_common)
def qs__law_least : FS :=
  (sSeq (sSet 2 (eL (fCall q__law_common (fCons (fN dAbs (fCons (fVar 0) fNil)) (fCons (fVar 1) fNil)))))
  (sRet (eL (fTup (fCons (fOp dDiv (fVar 0) (fVar 2)) (fCons (fOp dDiv (fVar 1) (fVar 2)) fNil))))))
def q__law_least : List PyData → R PyData := runF 3 (qs__law_least)
def qs__law_add : FS :=
  (sRet (eL (fCall q__law_least (fCons (fOp dAdd (fOp dMul (fOp ixD (fVar 0) (fC (.int 0))) (fOp ixD (fVar 1) (fC (.int 1)))) (fOp dMul (fOp ixD (fVar 1) (fC (.int 0))) (fOp ixD (fVar 0) (fC (.int 1))))) (fCons (fOp dMul (fOp ixD (fVar 0) (fC (.int 1))) (fOp ixD (fVar 1) (fC (.int 1)))) fNil)))))
def q__law_add : List PyData → R PyData := runF 2 (qs__law_add)
def qs__law_times : FS :=
  (sRet (eL (fCall q__law_least (fCons (fOp dMul (fOp ixD (fVar 0) (fC (.int 0))) (fOp ixD (fVar 1) (fC (.int 0)))) (fCons (fOp dMul (fOp ixD (fVar 0) (fC (.int 1))) (fOp ixD (fVar 1) (fC (.int 1)))) fNil)))))
def q__law_times : List PyData → R PyData := runF 2 (qs__law_times)
def qs__law_is_less : FS :=
  (sRet (eL (fOfB (gCmp dLt (fOp dMul (fOp ixD (fVar 0) (fC (.int 0))) (fOp ixD (fVar 1) (fC (.int 1)))) (fOp dMul (fOp ixD (fVar 1) (fC (.int 0))) (fOp ixD (fVar 0) (fC (.int 1))))))))
def q__law_is_less : List PyData → R PyData := runF 2 (qs__law_is_less)
def qs__law_total : FS :=
  (sSeq (sSet 1 (eL (fTup (fCons (fC (.int 0)) (fCons (fC (.int 1)) fNil)))))
  (sSeq (sFor (.nm 2) (eIt (eL (fVar 0))) (sSet 1 (eL (fCall q__law_add (fCons (fVar 1) (fCons (fVar 2) fNil))))))
  (sRet (eFlat (eL (fVar 1))))))
def q__law_total : List PyData → R PyData := runF 3 (qs__law_total)
def qs__law_is_fraction : FS :=
  (sRet (eL (fAnd (fOfB (gCmp dEq (fN dLen (fCons (fVar 0) fNil)) (fC (.int 2)))) (fAnd (fOfB (gCmp dGt (fOp ixD (fVar 0) (fC (.int 1))) (fC (.int 0)))) (fOfB (gCmp dEq (fCall q__law_least (fCons (fOp ixD (fVar 0) (fC (.int 0))) (fCons (fOp ixD (fVar 0) (fC (.int 1))) fNil))) (fVar 0)))))))
def q__law_is_fraction : List PyData → R PyData := runF 1 (qs__law_is_fraction)
/-! ### Euclid -/
theorem mod_half {a b : Nat} (h0 : 0 < b) (h : b ≤ a) : 2 * (a % b) < a := by
  have h1 := Nat.mod_lt a h0
  have h2 := Nat.mod_add_div a b
  have h3 : 1 ≤ a / b := Nat.div_pos h h0
  have h4 : b * 1 ≤ b * (a / b) := Nat.mul_le_mul_left b h3
  omega
def gcdF : FS := sPar 0 1 (eLA (fCons (fVar 1) (fCons (fOp dMod (fVar 0) (fVar 1)) fNil)))
theorem emod_nat (a b : Nat) : ((a : Int) % (b : Int)) = ((a % b : Nat) : Int) := by omega
theorem gcd_step {a b : Nat} (hb : 0 < b) : gcdF [some (.int a), some (.int b)] = .ok (.nx, [some (.int b), some (.int (a % b : Nat))]) := by
  have : dMod (.int (a : Int)) (.int (b : Int)) = some (.int (a % b : Nat)) := by
    rw [dMod_int (by omega), emod_nat]
  simp [gcdF, sPar, this]
theorem dTru_int {i : Int} : dTru (.int i) = some (decide (i ≠ 0)) := by
  by_cases h : i = 0
  · subst h; rfl
  · simp [dTru, h]
theorem gcd_while : ∀ (k n a b : Nat), b < 2 ^ k → 2 * k < n → sWhileN (eLT (gTru dTru (fVar 1))) gcdF n [some (.int a), some (.int b)] = .ok (.nx, [some (.int (Nat.gcd a b)), some (.int 0)]) := by
  have stop : ∀ (n a : Nat), 0 < n → sWhileN (eLT (gTru dTru (fVar 1))) gcdF n [some (.int a), some (.int (0 : Nat))] = .ok (.nx, [some (.int (Nat.gcd a 0)), some (.int 0)]) := fun n a hn => by
    obtain ⟨m, rfl⟩ : ∃ m, n = m + 1 := ⟨n - 1, by omega⟩
    simp [sWhileN, dTru_int]
  have go : ∀ (n a b : Nat), 0 < b → sWhileN (eLT (gTru dTru (fVar 1))) gcdF (n + 1) [some (.int a), some (.int b)] = sWhileN (eLT (gTru dTru (fVar 1))) gcdF n [some (.int b), some (.int (a % b : Nat))] := fun n a b hb => by
    have hb' : b ≠ 0 := by omega
    simp [sWhileN, dTru_int, hb', gcd_step hb]
  intro k
  induction k with
  | zero =>
    intro n a b hb hn
    have : b = 0 := by simpa using hb
    subst this
    exact stop n a (by omega)
  | succ k ih =>
    intro n a b hb hn
    by_cases h0 : b = 0
    · subst h0; exact stop n a (by omega)
    · obtain ⟨m, rfl⟩ : ∃ m, n = m + 2 := ⟨n - 2, by omega⟩
      rw [go (m + 1) a b (by omega), Nat.gcd_comm, Nat.gcd_rec]
      by_cases h1 : a % b = 0
      · rw [h1]
        have := stop (m + 1) b (by omega)
        rw [this, Nat.gcd_comm]
      · rw [go m b (a % b) (by omega)]
        have hlt := Nat.mod_lt a (show 0 < b by omega)
        have hh := mod_half (show 0 < a % b by omega) (Nat.le_of_lt hlt)
        rw [ih m (a % b) (b % (a % b)) (by rw [Nat.pow_succ] at hb; omega) (by omega)]
        congr 4
        rw [Nat.gcd_comm, ← Nat.gcd_rec, Nat.gcd_comm]
theorem lt_two_pow_log {b : Nat} : b < 2 ^ (b.log2 + 1) := by
  by_cases h : b = 0
  · subst h; simp
  · exact Nat.lt_log2_self
theorem common_ok (a b : Nat) (h : b.log2 < 100000000) : q_common [.int a, .int b] = .ok (.int (Nat.gcd a b)) := by
  have w := gcd_while (b.log2 + 1) turns a b lt_two_pow_log (by unfold turns; omega)
  show (qs_common [some (.int a), some (.int b)] >>= fun r => endV r.1) = _
  unfold qs_common
  rw [sSeq_ok]
  have e : sWhile (eLT (gTru dTru (fVar 1))) (sPar 0 1 (eLA (fCons (fVar 1) (fCons (fOp dMod (fVar 0) (fVar 1)) fNil)))) [some (.int a), some (.int b)] = .ok (.nx, [some (.int (Nat.gcd a b)), some (.int 0)]) := w
  rw [e]
  simp [flat, endV]
def gcdB : FS := sSeq (sIf (eLT (gCmp dEq (fVar 1) (fC (.int 0)))) (fun ρ => .ok (.bk, ρ)) sNil) (sPar 0 1 (eLA (fCons (fVar 1) (fCons (fOp dMod (fN dInt (fCons (fVar 0) fNil)) (fVar 1)) fNil))))
theorem gcd_for : ∀ (k : Nat) (ds : List PyData) (a b : Nat) (t : Option PyData), b < 2 ^ k → 2 * k < ds.length → ∃ t', sForL (.nm 2) gcdB ds [some (.int a), some (.int b), t] = .ok (.nx, [some (.int (Nat.gcd a b)), some (.int 0), t']) := by
  have stop : ∀ (ds : List PyData) (a : Nat) (t : Option PyData), 0 < ds.length → ∃ t', sForL (.nm 2) gcdB ds [some (.int a), some (.int (0 : Nat)), t] = .ok (.nx, [some (.int (Nat.gcd a 0)), some (.int 0), t']) := fun ds a t hn => by
    match ds, hn with
    | d :: ds, _ => exact ⟨some d, by simp [sForL, gcdB, dEq_int]⟩
  have go : ∀ (d : PyData) (ds : List PyData) (a b : Nat) (t : Option PyData), 0 < b → sForL (.nm 2) gcdB (d :: ds) [some (.int a), some (.int b), t] = sForL (.nm 2) gcdB ds [some (.int b), some (.int (a % b : Nat)), some d] := fun d ds a b t hb => by
    have hb' : ((b : Int) == 0) = false := by simp; omega
    have hm : dMod (.int (a : Int)) (.int (b : Int)) = some (.int (a % b : Nat)) := by
      rw [dMod_int (by omega), emod_nat]
    simp [sForL, gcdB, dEq_int, hb', sPar, hm]
  intro k
  induction k with
  | zero =>
    intro ds a b t hb hn
    have : b = 0 := by simpa using hb
    subst this
    exact stop ds a t (by omega)
  | succ k ih =>
    intro ds a b t hb hn
    by_cases h0 : b = 0
    · subst h0; exact stop ds a t (by omega)
    · match ds, hn with
      | d :: e :: ds, hn =>
        rw [go d (e :: ds) a b t (by omega), Nat.gcd_comm, Nat.gcd_rec]
        by_cases h1 : a % b = 0
        · rw [h1]
          obtain ⟨t', h⟩ := stop (e :: ds) b (some d) (by simp)
          exact ⟨t', by rw [h, Nat.gcd_comm]⟩
        · rw [go e ds b (a % b) (some d) (by omega)]
          have hlt := Nat.mod_lt a (show 0 < b by omega)
          have hh := mod_half (show 0 < a % b by omega) (Nat.le_of_lt hlt)
          obtain ⟨t', h⟩ := ih ds (a % b) (b % (a % b)) (some e) (by rw [Nat.pow_succ] at hb; omega) (by simp at hn; omega)
          refine ⟨t', ?_⟩
          rw [h]
          congr 4
          rw [Nat.gcd_comm, ← Nat.gcd_rec, Nat.gcd_comm]
      | [d], hn => exact absurd hn (by simp)
theorem rangeL_nat {n : Nat} : (rangeL 0 (n : Int)).length = n := by simp [rangeL]
theorem lcommon_ok (a b : Nat) (h : b.log2 < 40000) : q__law_common [.int a, .int b] = .ok (.int (Nat.gcd a b)) := by
  obtain ⟨t', w⟩ := gcd_for (b.log2 + 1) (rangeL 0 100000) a b none lt_two_pow_log (by rw [show (100000 : Int) = ((100000 : Nat) : Int) by decide, rangeL_nat]; omega)
  show (qs__law_common [some (.int a), some (.int b), none] >>= fun r => endV r.1) = _
  have hr : rangeD [.int 100000] = some (rangeL 0 100000) := by simp [rangeD, smallI]
  unfold qs__law_common
  have e : (sFor (.nm 2) (eRg (eLA (fCons (fC (.int 100000)) fNil))) gcdB) [some (.int a), some (.int b), none] = .ok (.nx, [some (.int (Nat.gcd a b)), some (.int 0), t']) := by
    rw [sFor_ok, eRg_ok, eLA_ok]
    simp only [fCons_ok, fC_ok, fNil_ok, ok_bind, hr, ofO_some]
    exact w
  rw [sSeq_ok]
  unfold gcdB at e
  rw [e]
  simp [flat, endV]
/-! ### fractions -/
def encQ (q : Rat) : PyData := .tuple [.int q.num, .int q.den]
/-- at most n bits -/
def QB (n : Nat) (q : Rat) : Prop := q.num.natAbs < 2 ^ n ∧ q.den < 2 ^ n
theorem QB.mono {n m : Nat} {q : Rat} (h : QB n q) (hn : n ≤ m) : QB m q := ⟨Nat.lt_of_lt_of_le h.1 (Nat.pow_le_pow_right (by decide) hn), Nat.lt_of_lt_of_le h.2 (Nat.pow_le_pow_right (by decide) hn)⟩
theorem log2_of_lt {a n : Nat} (h : a < 2 ^ n) : a.log2 ≤ n := by
  by_cases h0 : a = 0
  · subst h0; simp
  · exact Nat.le_of_lt ((Nat.log2_lt h0).mpr h)
theorem ix0 {q : Rat} : ixD (encQ q) (.int 0) = some (.int q.num) := rfl
theorem ix1 {q : Rat} : ixD (encQ q) (.int 1) = some (.int q.den) := rfl
theorem fTup2 {f g : Env → R PyData} {ρ : Env} {x y : PyData} (hf : f ρ = .ok x) (hg : g ρ = .ok y) : fTup (fCons f (fCons g fNil)) ρ = .ok (.tuple [x, y]) := by
  have : ([x, y] : List PyData).length ≤ sizeLine := by rw [sz]; exact of_decide_eq_true rfl
  simp only [fTup_ok, fCons_ok, hf, hg, fNil_ok, ok_bind, if_pos this]
theorem dAbs_int {i : Int} : dAbs [.int i] = some (.int (i.natAbs : Nat)) := by
  show some (PyData.int (if i < 0 then -i else i)) = _
  congr 2
  split <;> omega
theorem least_core {a : Int} {b : Nat} (hb : b ≠ 0) (h : b.log2 < 8999) {c : List PyData → R PyData} (hc : c [.int (a.natAbs : Nat), .int (b : Int)] = .ok (.int (Nat.gcd a.natAbs b : Nat))) :
    runF 3 (sSeq (sSet 2 (eL (fCall c (fCons (fN dAbs (fCons (fVar 0) fNil)) (fCons (fVar 1) fNil))))) (sRet (eL (fTup (fCons (fOp dDiv (fVar 0) (fVar 2)) (fCons (fOp dDiv (fVar 1) (fVar 2)) fNil)))))) [.int a, .int b] = .ok (encQ (Rat.normalize a b hb)) := by
  have g0 : 0 < Nat.gcd a.natAbs b := Nat.gcd_pos_of_pos_right _ (by omega)
  have gl : (((Nat.gcd a.natAbs b : Nat) : Int)).natAbs.log2 < 9000 := by
    have h1 : Nat.gcd a.natAbs b ≤ b := Nat.gcd_le_right _ (by omega)
    have h2 := lt_two_pow_log (b := b)
    have := log2_of_lt (Nat.lt_of_le_of_lt h1 h2)
    simp only [Int.natAbs_natCast]
    omega
  have d1 := dDiv_int (i := a) (j := (Nat.gcd a.natAbs b : Nat)) (by omega) gl
  have d2 := dDiv_int (i := b) (j := (Nat.gcd a.natAbs b : Nat)) (by omega) gl
  have e : rho0 3 [.int a, .int (b : Int)] = [some (.int a), some (.int b), none] := rfl
  unfold runF
  rw [e, sSeq_ok, sSet_ok, eL_ok, fCall_ok]
  simp only [fCons_ok, fN_ok, fVar_zero, fVar_succ, fNil_ok, ok_bind, dAbs_int, ofO_some, hc, List.set_cons_succ, List.set_cons_zero, sRet_ok, eL_ok]
  rw [fTup2 (x := .int (a / (Nat.gcd a.natAbs b : Nat))) (y := .int (b / (Nat.gcd a.natAbs b : Nat) : Nat)) (by simp [d1]) (by
    simp [d2])]
  simp only [ok_bind, endV]
  rw [Rat.normalize_eq]
  rfl
theorem least_ok {a : Int} {b : Nat} (hb : b ≠ 0) (h : b.log2 < 8999) : q_least_terms [.int a, .int b] = .ok (encQ (Rat.normalize a b hb)) := least_core hb h (common_ok _ _ (by omega))
theorem lleast_ok {a : Int} {b : Nat} (hb : b ≠ 0) (h : b.log2 < 8999) : q__law_least [.int a, .int b] = .ok (encQ (Rat.normalize a b hb)) := least_core hb h (lcommon_ok _ _ (by omega))
theorem norm_bits {a : Int} {b n : Nat} (hb : b ≠ 0) (h1 : a.natAbs < 2 ^ n) (h2 : b < 2 ^ n) : QB n (Rat.normalize a b hb) := by
  rw [Rat.normalize_eq]
  refine ⟨?_, Nat.lt_of_le_of_lt (Nat.div_le_self _ _) h2⟩
  refine Nat.lt_of_le_of_lt ?_ h1
  show (a / (a.natAbs.gcd b : Nat)).natAbs ≤ a.natAbs
  have hd : ((a.natAbs.gcd b : Nat) : Int) ∣ a := Int.natAbs_dvd_natAbs.mp (by simpa using Nat.gcd_dvd_left a.natAbs b)
  obtain ⟨c, hc⟩ := hd
  have g0 : 0 < Nat.gcd a.natAbs b := Nat.gcd_pos_of_pos_right _ (by omega)
  generalize (a.natAbs.gcd b) = g at hc g0
  subst hc
  rw [Int.mul_ediv_cancel_left _ (by omega), Int.natAbs_mul]
  simp only [Int.natAbs_natCast]
  exact Nat.le_mul_of_pos_left _ g0
theorem norm_div {a : Int} {b : Nat} (hb : b ≠ 0) : Rat.normalize a b hb = (a : Rat) / (b : Rat) := by
  rw [Rat.normalize_eq_mkRat, Rat.mkRat_eq_div]
end PV
end

set_option Elab.async false
set_option linter.all false
set_option maxRecDepth 100000
set_option maxHeartbeats 1000000
set_option autoImplicit false
/-! FR, part b: the four operations, comparisons. -/
noncomputable section
namespace PV
open PySem PySem.Spec PyProof.Rows L2
theorem mul_bits {a b k l : Nat} (ha : a < 2 ^ k) (hb : b < 2 ^ l) : a * b < 2 ^ (k + l) := by
  rw [Nat.pow_add]
  exact Nat.mul_lt_mul'' ha hb
theorem mul_int {a b : Int} {k l : Nat} (ha : a.natAbs < 2 ^ k) (hb : b.natAbs < 2 ^ l) (h : k + l < 1000000) : dMul (.int a) (.int b) = some (.int (a * b)) :=
  dMul_int (by have := log2_of_lt ha; have := log2_of_lt hb; omega)
theorem add_bits {a b : Int} {n : Nat} (ha : a.natAbs < 2 ^ n) (hb : b.natAbs < 2 ^ n) : (a + b).natAbs < 2 ^ (n + 1) := by
  rw [Nat.pow_succ]; omega
theorem sub_bits {a b : Int} {n : Nat} (ha : a.natAbs < 2 ^ n) (hb : b.natAbs < 2 ^ n) : (a - b).natAbs < 2 ^ (n + 1) := by
  rw [Nat.pow_succ]; omega
theorem imul_bits {a b : Int} {k l : Nat} (ha : a.natAbs < 2 ^ k) (hb : b.natAbs < 2 ^ l) : (a * b).natAbs < 2 ^ (k + l) := by
  rw [Int.natAbs_mul]; exact mul_bits ha hb
theorem natAbs_den {q : Rat} : ((q.den : Int)).natAbs = q.den := by simp
theorem lt_succ_pow {a n : Nat} (h : a < 2 ^ n) : a < 2 ^ (n + 1) := by rw [Nat.pow_succ]; omega
section
variable {p q : Rat} {k l : Nat}
theorem QB.dl (h : QB k p) : ((p.den : Int)).natAbs < 2 ^ k := by rw [natAbs_den]; exact h.2
/-- the shape of add, less, times -/
theorem cross_core (hp : QB k p) (hq : QB l q) (hb : k + l ≤ 8000) {c : List PyData → R PyData} (hc : ∀ (a : Int) (b : Nat) (hb : b ≠ 0), b.log2 < 8999 → c [.int a, .int b] = .ok (encQ (Rat.normalize a b hb)))
    {o : PyData → PyData → Option PyData} {g : Int → Int → Int} (ho : ∀ i j, o (.int i) (.int j) = some (.int (g i j))) (hg : ∀ {a b : Int} {n : Nat}, a.natAbs < 2 ^ n → b.natAbs < 2 ^ n → (g a b).natAbs < 2 ^ (n + 1)) :
    runF 2 (sRet (eL (fCall c (fCons (fOp o (fOp dMul (fOp ixD (fVar 0) (fC (.int 0))) (fOp ixD (fVar 1) (fC (.int 1)))) (fOp dMul (fOp ixD (fVar 1) (fC (.int 0))) (fOp ixD (fVar 0) (fC (.int 1))))) (fCons (fOp dMul (fOp ixD (fVar 0) (fC (.int 1))) (fOp ixD (fVar 1) (fC (.int 1)))) fNil))))) [encQ p, encQ q]
      = .ok (encQ (Rat.normalize (g (p.num * q.den) (q.num * p.den)) (p.den * q.den) (Nat.mul_ne_zero p.den_nz q.den_nz))) ∧ QB (k + l + 1) (Rat.normalize (g (p.num * q.den) (q.num * p.den)) (p.den * q.den) (Nat.mul_ne_zero p.den_nz q.den_nz)) := by
  have m1 : dMul (.int p.num) (.int (q.den : Int)) = some (.int (p.num * q.den)) := mul_int hp.1 hq.dl (by omega)
  have m2 : dMul (.int q.num) (.int (p.den : Int)) = some (.int (q.num * p.den)) := mul_int hq.1 hp.dl (by omega)
  have m3 : dMul (.int (p.den : Int)) (.int (q.den : Int)) = some (.int ((p.den * q.den : Nat) : Int)) := by rw [mul_int hp.dl hq.dl (by omega)]; simp
  have b3 := mul_bits hp.2 hq.2
  have b1 := imul_bits hp.1 hq.dl
  have b2 := imul_bits hq.1 hp.dl
  rw [Nat.add_comm l k] at b2
  have hd : p.den * q.den ≠ 0 := Nat.mul_ne_zero p.den_nz q.den_nz
  refine ⟨?_, norm_bits hd (hg b1 b2) (lt_succ_pow b3)⟩
  have e : rho0 2 [encQ p, encQ q] = [some (encQ p), some (encQ q)] := rfl
  unfold runF
  rw [e, sRet_ok, eL_ok, fCall_ok]
  simp only [fCons_ok, fOp_ok, fVar_zero, fVar_succ, fC_ok, fNil_ok, ok_bind, ix0, ix1, ofO_some, m1, m2, m3, ho]
  rw [hc _ _ hd (by have := log2_of_lt b3; omega)]
  rfl
theorem add_ok (hp : QB k p) (hq : QB l q) (hb : k + l ≤ 8000) : q_add [encQ p, encQ q] = .ok (encQ (p + q)) ∧ QB (k + l + 1) (p + q) := by
  have h := cross_core hp hq hb (c := q_least_terms) (fun a b hb h => least_ok hb h) (o := dAdd) (g := fun i j => i + j) (fun i j => rfl) add_bits
  rw [Rat.add_def]; exact h
theorem ladd_ok (hp : QB k p) (hq : QB l q) (hb : k + l ≤ 8000) : q__law_add [encQ p, encQ q] = .ok (encQ (p + q)) := by
  have h := cross_core hp hq hb (c := q__law_least) (fun a b hb h => lleast_ok hb h) (o := dAdd) (g := fun i j => i + j) (fun i j => rfl) add_bits
  rw [Rat.add_def]; exact h.1
theorem less_ok (hp : QB k p) (hq : QB l q) (hb : k + l ≤ 8000) : q_less [encQ p, encQ q] = .ok (encQ (p - q)) ∧ QB (k + l + 1) (p - q) := by
  have h := cross_core hp hq hb (c := q_least_terms) (fun a b hb h => least_ok hb h) (o := dSub) (g := fun i j => i - j) (fun i j => rfl) sub_bits
  rw [Rat.sub_def]; exact h
theorem times_core (hp : QB k p) (hq : QB l q) (hb : k + l ≤ 8000) {c : List PyData → R PyData} (hc : ∀ (a : Int) (b : Nat) (hb : b ≠ 0), b.log2 < 8999 → c [.int a, .int b] = .ok (encQ (Rat.normalize a b hb))) :
    runF 2 (sRet (eL (fCall c (fCons (fOp dMul (fOp ixD (fVar 0) (fC (.int 0))) (fOp ixD (fVar 1) (fC (.int 0)))) (fCons (fOp dMul (fOp ixD (fVar 0) (fC (.int 1))) (fOp ixD (fVar 1) (fC (.int 1)))) fNil))))) [encQ p, encQ q] = .ok (encQ (p * q)) ∧ QB (k + l) (p * q) := by
  have m1 : dMul (.int p.num) (.int q.num) = some (.int (p.num * q.num)) := mul_int hp.1 hq.1 (by omega)
  have m3 : dMul (.int (p.den : Int)) (.int (q.den : Int)) = some (.int ((p.den * q.den : Nat) : Int)) := by rw [mul_int hp.dl hq.dl (by omega)]; simp
  have b3 := mul_bits hp.2 hq.2
  have b1 := imul_bits hp.1 hq.1
  have hd : p.den * q.den ≠ 0 := Nat.mul_ne_zero p.den_nz q.den_nz
  rw [Rat.mul_def]
  refine ⟨?_, norm_bits hd b1 b3⟩
  have e : rho0 2 [encQ p, encQ q] = [some (encQ p), some (encQ q)] := rfl
  unfold runF
  rw [e, sRet_ok, eL_ok, fCall_ok]
  simp only [fCons_ok, fOp_ok, fVar_zero, fVar_succ, fC_ok, fNil_ok, ok_bind, ix0, ix1, ofO_some, m1, m3]
  rw [hc _ _ hd (by have := log2_of_lt b3; omega)]
  rfl
theorem times_ok (hp : QB k p) (hq : QB l q) (hb : k + l ≤ 8000) : q_times [encQ p, encQ q] = .ok (encQ (p * q)) ∧ QB (k + l) (p * q) := times_core hp hq hb fun a b hb h => least_ok hb h
theorem ltimes_ok (hp : QB k p) (hq : QB l q) (hb : k + l ≤ 8000) : q__law_times [encQ p, encQ q] = .ok (encQ (p * q)) := (times_core hp hq hb fun a b hb h => lleast_ok hb h).1
theorem cast_div (q : Rat) : (q.num : Rat) / (q.den : Rat) = q := by
  rw [← Rat.mkRat_eq_div, Rat.mkRat_self]
theorem den_ne (q : Rat) : (q.den : Rat) ≠ 0 := by
  have := q.den_nz
  exact_mod_cast this
theorem num_ne {q : Rat} (h : q ≠ 0) : (q.num : Rat) ≠ 0 := by
  have : q.num ≠ 0 := fun e => h (Rat.num_eq_zero.mp e)
  exact_mod_cast this
theorem num_eq (q : Rat) : (q.num : Rat) = q * q.den := by
  have h := cast_div q
  have h2 := den_ne q
  grind
theorem num_pos {q : Rat} : 0 < q.num ↔ 0 < q := by
  have h1 := Rat.num_nonneg (q := q)
  have h2 := Rat.num_eq_zero (q := q)
  constructor
  · intro h
    have h3 : 0 ≤ q := h1.mp (by omega)
    have h4 : q ≠ 0 := fun e => by have := h2.mpr e; omega
    grind
  · intro h
    have h3 : 0 ≤ q.num := h1.mpr (by grind)
    have h4 : q.num ≠ 0 := fun e => by have := h2.mp e; grind
    omega
theorem num_neg {q : Rat} : q.num < 0 ↔ q < 0 := by
  have h1 := Rat.num_nonneg (q := q)
  constructor
  · intro h
    have : ¬ 0 ≤ q := fun e => by have := h1.mpr e; omega
    grind
  · intro h
    have : ¬ 0 ≤ q.num := fun e => by have := h1.mp e; grind
    omega
theorem num_nonpos {q : Rat} : q.num ≤ 0 ↔ q ≤ 0 := by
  have h1 := num_pos (q := q)
  constructor
  · intro h
    have : ¬ 0 < q := fun e => by have := h1.mpr e; omega
    grind
  · intro h
    have : ¬ 0 < q.num := fun e => by have := h1.mp e; grind
    omega
theorem dGt0 : dGt (.int p.num) (.int 0) = some (decide (0 < p)) := by rw [dGt_int]; congr 1; exact decide_eq_decide.mpr num_pos
theorem dLt0 : dLt (.int p.num) (.int 0) = some (decide (p < 0)) := by rw [dLt_int]; congr 1; exact decide_eq_decide.mpr num_neg
theorem dGe0 : dGe (.int p.num) (.int 0) = some (decide (0 ≤ p)) := by rw [dGe_int]; congr 1; exact decide_eq_decide.mpr Rat.num_nonneg
theorem dLe0 : dLe (.int p.num) (.int 0) = some (decide (p ≤ 0)) := by rw [dLe_int]; congr 1; exact decide_eq_decide.mpr num_nonpos
theorem dLe00 : dLe (.int 0) (.int p.num) = some (decide (0 ≤ p)) := by rw [dLe_int]; congr 1; exact decide_eq_decide.mpr Rat.num_nonneg
theorem dEq0 : dEq (.int p.num) (.int 0) = some (decide (p = 0)) := by
  rw [dEq_int]; congr 1
  by_cases h : p = 0
  · subst h; rfl
  · have : p.num ≠ 0 := fun e => h (Rat.num_eq_zero.mp e)
    simp [h]
theorem dNe0 : dNe (.int p.num) (.int 0) = some (decide (p ≠ 0)) := by
  have h := dEq0 (p := p)
  unfold dEq at h
  unfold dNe
  simp only [shaped_int, Bool.and_self, if_true, Option.some.injEq] at h ⊢
  rw [h]; simp
theorem shapedQ : SeqAt.shaped (encQ p) = true := by simp [encQ, SeqAt.shaped, PyData.canLay0, PyData.canLayAll0, PyData.depth, PyData.depthAll]
theorem eqvQ : PyData.eqv (encQ p) (encQ q) = decide (p = q) := by
  simp only [encQ, PyData.eqv, PyData.eqvAll, Bool.and_true]
  by_cases h : p = q
  · subst h; simp
  · have : ¬ (p.num = q.num ∧ p.den = q.den) := fun e => h (Rat.ext e.1 e.2)
    simp [h]
    intro e1 e2
    exact this ⟨e1, by omega⟩
theorem dEqQ : dEq (encQ p) (encQ q) = some (decide (p = q)) := by simp [dEq, shapedQ, eqvQ]
theorem dNeQ : dNe (encQ p) (encQ q) = some (decide (p ≠ q)) := by simp [dNe, shapedQ, eqvQ]
theorem flatQ : flat (encQ p) = true := rfl
theorem by_ok (hp : QB k p) (hq : QB l q) (hb : k + l ≤ 8000) (hz : q ≠ 0) : q_by [encQ p, encQ q] = .ok (encQ (p / q)) ∧ QB (k + l) (p / q) := by
  have hn : q.num ≠ 0 := fun e => hz (Rat.num_eq_zero.mp e)
  generalize hs : (if 0 < q then (1 : Int) else -1) = s
  have s1 : s.natAbs < 2 ^ 1 := by rw [← hs]; split <;> decide
  have sn : s * p.num = if 0 < q then p.num else -p.num := by rw [← hs]; split <;> simp
  have snb : (s * p.num).natAbs < 2 ^ k := by rw [sn]; split <;> simp [hp.1]
  have m1 : dMul (.int s) (.int p.num) = some (.int (s * p.num)) := mul_int s1 hp.1 (by omega)
  have m2 : dMul (.int (s * p.num)) (.int (q.den : Int)) = some (.int (s * p.num * q.den)) := mul_int snb hq.dl (by omega)
  have m3 : dMul (.int (p.den : Int)) (.int (q.num.natAbs : Int)) = some (.int ((p.den * q.num.natAbs : Nat) : Int)) := by rw [mul_int hp.dl (by simpa using hq.1) (by omega)]; simp
  have b1 := imul_bits snb hq.dl
  have b3 := mul_bits hp.2 hq.1
  have hd : p.den * q.num.natAbs ≠ 0 := Nat.mul_ne_zero p.den_nz (fun e => hn (Int.natAbs_eq_zero.mp e))
  have key : Rat.normalize (s * p.num * q.den) (p.den * q.num.natAbs) hd = p / q := by
    rw [norm_div]
    have e1 := num_eq p
    have e2 := num_eq q
    have n1 := den_ne p
    have n2 := den_ne q
    have n3 := num_ne hz
    have c1 : ((s * p.num * q.den : Int) : Rat) = (s : Rat) * (p.num : Rat) * (q.den : Rat) := by push_cast; rfl
    have c2 : ((p.den * q.num.natAbs : Nat) : Rat) = (p.den : Rat) * (q.num.natAbs : Rat) := by push_cast; rfl
    have c3 : (q.num.natAbs : Rat) = (s : Rat) * (q.num : Rat) := by
      rw [← hs]
      have h4 : ((q.num.natAbs : Int) : Rat) = (q.num.natAbs : Rat) := by push_cast; rfl
      rw [← h4]
      by_cases h0 : 0 < q
      · have := num_pos.mpr h0
        rw [if_pos h0, show (q.num.natAbs : Int) = q.num by omega]; push_cast; grind
      · have : ¬ 0 < q.num := fun e => h0 (num_pos.mp e)
        rw [if_neg h0, show (q.num.natAbs : Int) = -q.num by omega]; push_cast; grind
    have s2 : (s : Rat) * (s : Rat) = 1 := by
      rw [← hs]; split <;> (push_cast; grind)
    have s3 : (s : Rat) ≠ 0 := by grind
    rw [c1, c2, c3]
    generalize (p.num : Rat) = pn at *
    generalize (q.num : Rat) = qn at *
    generalize (p.den : Rat) = pd at *
    generalize (q.den : Rat) = qd at *
    generalize (s : Rat) = t at *
    grind
  rw [← key]
  refine ⟨?_, norm_bits hd b1 b3⟩
  show (qs_by [some (encQ p), some (encQ q), none] >>= fun r => endV r.1) = _
  unfold qs_by
  have es : fIf (gCmp dGt (fOp ixD (fVar 1) (fC (.int 0))) (fC (.int 0))) (fC (.int 1)) (fUn dNeg (fC (.int 1))) [some (encQ p), some (encQ q), none] = .ok (.int s) := by
    unfold fIf fUn
    rw [gCmp_ok]
    simp only [fOp_ok, fVar_succ, fVar_zero, fC_ok, ok_bind, ix0, ofO_some, dGt0, dNeg]
    rw [← hs]
    by_cases h0 : 0 < q <;> simp [h0]
  rw [sSeq_ok, sSet_ok, eL_ok, es]
  simp only [ok_bind, List.set_cons_succ, List.set_cons_zero, sRet_ok, eL_ok, fCall_ok, fCons_ok, fOp_ok, fVar_zero, fVar_succ, fC_ok, fNil_ok, fN_ok, ix0, ix1, ofO_some, m1, m2, dAbs_int, m3]
  rw [least_ok hd (by have := log2_of_lt b3; omega)]
  rfl
theorem isless_ok (hp : QB k p) (hq : QB l q) (hb : k + l ≤ 8000) : q__law_is_less [encQ p, encQ q] = .ok (.bool (decide (p < q))) := by
  have m1 : dMul (.int p.num) (.int (q.den : Int)) = some (.int (p.num * q.den)) := mul_int hp.1 hq.dl (by omega)
  have m2 : dMul (.int q.num) (.int (p.den : Int)) = some (.int (q.num * p.den)) := mul_int hq.1 hp.dl (by omega)
  show (qs__law_is_less [some (encQ p), some (encQ q)] >>= fun r => endV r.1) = _
  unfold qs__law_is_less fOfB
  rw [sRet_ok, eL_ok, gCmp_ok]
  simp only [fOp_ok, fVar_zero, fVar_succ, fC_ok, ok_bind, ix0, ix1, ofO_some, m1, m2, dLt_int, endV]
  congr 2
  exact decide_eq_decide.mpr (Rat.lt_iff p q).symm
end
end PV
end

set_option Elab.async false
set_option linter.all false
set_option maxRecDepth 100000
set_option maxHeartbeats 1000000
set_option autoImplicit false
/-! FR, part c: sums, what a fraction is. -/
noncomputable section
namespace PV
open PySem PySem.Spec PyProof.Rows L2
section
variable {p q : Rat} {k l : Nat}
/-- found = (0, 1); for fraction in ..: found = add(found, fraction) -/
theorem total_loop {c : List PyData → R PyData} (hc : ∀ {p q : Rat} {k l : Nat}, QB k p → QB l q → k + l ≤ 8000 → c [encQ p, encQ q] = .ok (encQ (p + q)) ∧ QB (k + l + 1) (p + q)) : ∀ (qs : List Rat) (x : PyData) (p : Rat) (t : Option PyData) (b : Nat), QB b p → (∀ q ∈ qs, QB k q) → b + qs.length * (k + 1) ≤ 8000 →
    ∃ t', sForL (.nm 2) (sSet 1 (eL (fCall c (fCons (fVar 1) (fCons (fVar 2) fNil))))) (qs.map encQ) [some x, some (encQ p), t] = .ok (.nx, [some x, some (encQ (p + qs.sum)), t']) ∧ QB (b + qs.length * (k + 1)) (p + qs.sum)
  | [], x, p, t, b, hp, _, _ => ⟨t, by
      have : p + (List.sum ([] : List Rat)) = p := by rw [List.sum_nil]; grind
      rw [this]; exact ⟨rfl, hp.mono (by simp)⟩⟩
  | q :: qs, x, p, t, b, hp, hq, hb => by
    rw [List.length_cons, Nat.succ_mul] at hb
    obtain ⟨e, h⟩ := hc hp (hq q (List.mem_cons_self ..)) (by omega)
    obtain ⟨t', e2, h2⟩ := total_loop hc qs x (p + q) (some (encQ q)) (b + k + 1) h (fun r hr => hq r (List.mem_cons_of_mem _ hr)) (by omega)
    have ea : p + q + qs.sum = p + (q :: qs).sum := by rw [List.sum_cons]; grind
    rw [ea] at e2 h2
    refine ⟨t', ?_, h2.mono (by rw [List.length_cons, Nat.succ_mul]; omega)⟩
    rw [List.map_cons]
    unfold sForL
    simp only [put_nm, ok_bind, List.set_cons_succ, List.set_cons_zero, sSet_ok, eL_ok, fCall_ok, fCons_ok, fVar_succ, fVar_zero, fNil_ok, e]
    exact e2
theorem zeroQ : (PyData.tuple [.int 0, .int 1]) = encQ 0 := rfl
theorem oneQ : (PyData.tuple [.int 1, .int 1]) = encQ 1 := rfl
theorem QB0 : QB 1 0 := ⟨by decide, by decide⟩
theorem QB1 : QB 1 1 := ⟨by decide, by decide⟩
theorem total_core {c : List PyData → R PyData} (hc : ∀ {p q : Rat} {k l : Nat}, QB k p → QB l q → k + l ≤ 8000 → c [encQ p, encQ q] = .ok (encQ (p + q)) ∧ QB (k + l + 1) (p + q)) {qs : List Rat} {x : PyData} (hx : itemsD x = some (qs.map encQ)) (hq : ∀ q ∈ qs, QB k q) (hb : 1 + qs.length * (k + 1) ≤ 8000) :
    runF 3 (sSeq (sSet 1 (eL (fTup (fCons (fC (.int 0)) (fCons (fC (.int 1)) fNil))))) (sSeq (sFor (.nm 2) (eIt (eL (fVar 0))) (sSet 1 (eL (fCall c (fCons (fVar 1) (fCons (fVar 2) fNil)))))) (sRet (eFlat (eL (fVar 1)))))) [x] = .ok (encQ qs.sum) ∧ QB (1 + qs.length * (k + 1)) qs.sum := by
  obtain ⟨t', e, h⟩ := total_loop hc qs x 0 none 1 QB0 hq hb
  have ez : (0 : Rat) + qs.sum = qs.sum := by grind
  rw [ez] at e h
  refine ⟨?_, h⟩
  have e0 : rho0 3 [x] = [some x, none, none] := rfl
  unfold runF
  rw [e0, sSeq_ok, sSet_ok, eL_ok, fTup2 rfl rfl]
  simp only [ok_bind, List.set_cons_succ, List.set_cons_zero]
  rw [sSeq_ok, sFor_ok, eIt_ok, eL_ok, fVar_zero]
  simp only [ok_bind, hx, ofO_some, zeroQ, e]
  rw [sRet_ok, eFlat_ok, eL_ok, fVar_succ, fVar_zero]
  simp only [ok_bind, flatQ, if_true, endV]
theorem total_ok {qs : List Rat} {x : PyData} (hx : itemsD x = some (qs.map encQ)) (hq : ∀ q ∈ qs, QB k q) (hb : 1 + qs.length * (k + 1) ≤ 8000) : q_total [x] = .ok (encQ qs.sum) ∧ QB (1 + qs.length * (k + 1)) qs.sum :=
  total_core (c := q_add) (fun hp hq h => add_ok hp hq h) hx hq hb
theorem ltotal_ok {qs : List Rat} {x : PyData} (hx : itemsD x = some (qs.map encQ)) (hq : ∀ q ∈ qs, QB k q) (hb : 1 + qs.length * (k + 1) ≤ 8000) : q__law_total [x] = .ok (encQ qs.sum) :=
  (total_core (c := q__law_add) (fun hp hq h => ⟨ladd_ok hp hq h, (add_ok hp hq h).2⟩) hx hq hb).1
theorem lenT {xs : List PyData} (h : xs.length ≤ 1000000) : dLen [.tuple xs] = some (.int xs.length) := by
  have : xs.length ≤ sizeLine := by rw [sz]; omega
  simp [dLen, this]
theorem lenL {xs : List PyData} (h : xs.length ≤ 1000000) : dLen [.list xs] = some (.int xs.length) := by
  have : xs.length ≤ sizeLine := by rw [sz]; omega
  simp [dLen, this]
theorem den_pos (q : Rat) : 0 < q.den := by have := q.den_nz; omega
theorem isfr_ok (hp : QB k p) (hk : k ≤ 100000) : q_is_fraction [encQ p] = .ok (.bool true) := by
  have h1 : dLen [encQ p] = some (.int 2) := lenT (by simp)
  have h2 : decide ((0 : Int) < (p.den : Int)) = true := by have := den_pos p; simp; omega
  have h3 : q_common [.int (p.num.natAbs : Nat), .int (p.den : Int)] = .ok (.int 1) := by
    rw [common_ok _ _ (by have := log2_of_lt hp.2; omega)]
    have := p.reduced
    rw [Nat.Coprime] at this
    rw [this]; rfl
  show (qs_is_fraction [some (encQ p)] >>= fun r => endV r.1) = _
  unfold qs_is_fraction fAnd fOfB
  rw [sRet_ok, eL_ok, gCmp_ok]
  simp only [fN_ok, fCons_ok, fVar_zero, fNil_ok, ok_bind, h1, ofO_some, fC_ok, dEq_int, asB, gCmp_ok, fOp_ok, ix0, ix1, dGt_int, h2, fCall_ok, dAbs_int, h3]
  rfl
theorem lisfr_ok (hp : QB k p) (hk : k ≤ 8000) : q__law_is_fraction [encQ p] = .ok (.bool true) := by
  have h1 : dLen [encQ p] = some (.int 2) := lenT (by simp)
  have h2 : decide ((0 : Int) < (p.den : Int)) = true := by have := den_pos p; simp; omega
  have h3 : q__law_least [.int p.num, .int (p.den : Int)] = .ok (encQ p) := by
    rw [lleast_ok p.den_nz (by have := log2_of_lt hp.2; omega), Rat.normalize_self]
  show (qs__law_is_fraction [some (encQ p)] >>= fun r => endV r.1) = _
  unfold qs__law_is_fraction fAnd fOfB
  rw [sRet_ok, eL_ok, gCmp_ok]
  simp only [fN_ok, fCons_ok, fVar_zero, fNil_ok, ok_bind, h1, ofO_some, fC_ok, dEq_int, asB, gCmp_ok, fOp_ok, ix0, ix1, dGt_int, h2, fCall_ok, h3, dEqQ]
  rfl
end
/-! ### comprehensions over encoded lists -/
section
variable {α β : Type} {t : Tg} {own : List Nat} {ρ : Env}
theorem plc_enc {fe : Env → R PyData} (enc : α → PyData) (g : α → PyData) : ∀ (xs : List α), (∀ x ∈ xs, ∃ ρ1, put t (enc x) (wipeE ρ own) = .ok ρ1 ∧ fe ρ1 = .ok (g x)) → fLcL t own gYes fe ρ (xs.map enc) = .ok (xs.map g)
  | [], _ => rfl
  | d :: ds, h => by
    obtain ⟨ρ1, e1, e2⟩ := h d (List.mem_cons_self ..)
    simp [fLcL, e1, gYes, noX, e2, plc_enc enc g ds fun x hx => h x (List.mem_cons_of_mem _ hx)]
theorem lc_enc {fi : Env → R (List PyData)} {fe : Env → R PyData} (enc : α → PyData) (g : α → PyData) (xs : List α) (hi : fi ρ = .ok (xs.map enc)) (hl : xs.length ≤ 1000000) (h : ∀ x ∈ xs, ∃ ρ1, put t (enc x) (wipeE ρ own) = .ok ρ1 ∧ fe ρ1 = .ok (g x)) : fLc t own fi gYes fe ρ = .ok (.list (xs.map g)) := by
  have e := plc_enc enc g xs h
  have z : (xs.map g).length ≤ sizeLine := by rw [List.length_map, sz]; omega
  unfold fLc
  rw [hi]
  simp only [ok_bind, e]
  exact if_pos z
/-- with a condition -/
theorem plc_filt {ft : Env → R Bool} {fe : Env → R PyData} (enc : α → PyData) (c : α → Bool) (g : α → PyData) : ∀ (xs : List α), (∀ x ∈ xs, ∃ ρ1, put t (enc x) (wipeE ρ own) = .ok ρ1 ∧ ft ρ1 = .ok (c x) ∧ (c x = true → fe ρ1 = .ok (g x))) → fLcL t own ft fe ρ (xs.map enc) = .ok ((xs.filter c).map g)
  | [], _ => rfl
  | d :: ds, h => by
    obtain ⟨ρ1, e1, e2, e3⟩ := h d (List.mem_cons_self ..)
    have ih := plc_filt enc c g ds fun x hx => h x (List.mem_cons_of_mem _ hx)
    cases hc : c d with
    | true => rw [hc] at e2; simp [fLcL, e1, e2, noX, e3 hc, ih, hc]
    | false => rw [hc] at e2; simp [fLcL, e1, e2, noX, ih, hc]
theorem lc_filt {fi : Env → R (List PyData)} {ft : Env → R Bool} {fe : Env → R PyData} (enc : α → PyData) (c : α → Bool) (g : α → PyData) (xs : List α) (hi : fi ρ = .ok (xs.map enc)) (hl : xs.length ≤ 1000000) (h : ∀ x ∈ xs, ∃ ρ1, put t (enc x) (wipeE ρ own) = .ok ρ1 ∧ ft ρ1 = .ok (c x) ∧ (c x = true → fe ρ1 = .ok (g x))) : fLc t own fi ft fe ρ = .ok (.list ((xs.filter c).map g)) := by
  have e := plc_filt enc c g xs h
  have z : ((xs.filter c).map g).length ≤ sizeLine := by
    rw [List.length_map, sz]
    have := List.length_filter_le c xs
    omega
  unfold fLc
  rw [hi]
  simp only [ok_bind, e]
  exact if_pos z
theorem asBools_enc {g : α → Bool} : ∀ (xs : List α), asBools (xs.map fun e => .bool (g e)) = some (xs.map g)
  | [] => rfl
  | d :: ds => by simp [asBools, asBools_enc ds]
theorem all_enc {fi : Env → R (List PyData)} {fe : Env → R PyData} (enc : α → PyData) (g : α → Bool) (xs : List α) (hi : fi ρ = .ok (xs.map enc)) (hl : xs.length ≤ 1000000) (h : ∀ x ∈ xs, ∃ ρ1, put t (enc x) (wipeE ρ own) = .ok ρ1 ∧ fe ρ1 = .ok (.bool (g x))) :
    fN dAll (fCons (fLc t own fi gYes fe) fNil) ρ = .ok (.bool (xs.all g)) := by
  have e := lc_enc enc (fun x => .bool (g x)) xs hi hl h
  simp [e, dAll, asBools_enc, Function.comp_def]
theorem any_enc {fi : Env → R (List PyData)} {fe : Env → R PyData} (enc : α → PyData) (g : α → Bool) (xs : List α) (hi : fi ρ = .ok (xs.map enc)) (hl : xs.length ≤ 1000000) (h : ∀ x ∈ xs, ∃ ρ1, put t (enc x) (wipeE ρ own) = .ok ρ1 ∧ fe ρ1 = .ok (.bool (g x))) :
    fN dAny (fCons (fLc t own fi gYes fe) fNil) ρ = .ok (.bool (xs.any g)) := by
  have e := lc_enc enc (fun x => .bool (g x)) xs hi hl h
  simp [e, dAny, asBools_enc, Function.comp_def]
/-- e-form of a pure comprehension (stored within itself) -/
theorem elcL_pure {fi : Env → R (List PyData × Env)} {fe : FE} (enc : α → PyData) (g : α → PyData) : ∀ (xs : List α), (∀ x ∈ xs, ∃ ρ1 ρ2, put t (enc x) ρ = .ok ρ1 ∧ fe ρ1 = .ok (g x, ρ2) ∧ wipeE ρ2 own = ρ) → eLcL t own egYes fe (xs.map enc) ρ = .ok (xs.map g, ρ)
  | [], _ => rfl
  | d :: ds, h => by
    obtain ⟨ρ1, ρ2, e1, e2, e3⟩ := h d (List.mem_cons_self ..)
    simp [eLcL, e1, egYes, noX, e2, e3, elcL_pure (fi := fi) enc g ds fun x hx => h x (List.mem_cons_of_mem _ hx)]
theorem elcL_filt {ft : Env → R (Bool × Env)} {fe : FE} (enc : α → PyData) (c : α → Bool) (g : α → PyData) : ∀ (xs : List α), (∀ x ∈ xs, ∃ ρ1 ρ2, put t (enc x) ρ = .ok ρ1 ∧ ft ρ1 = .ok (c x, ρ2) ∧ wipeE ρ2 own = ρ ∧ (c x = true → ∃ ρ3, fe ρ2 = .ok (g x, ρ3) ∧ wipeE ρ3 own = ρ)) → eLcL t own ft fe (xs.map enc) ρ = .ok ((xs.filter c).map g, ρ)
  | [], _ => rfl
  | d :: ds, h => by
    obtain ⟨ρ1, ρ2, e1, e2, e3, e4⟩ := h d (List.mem_cons_self ..)
    have ih := elcL_filt enc c g ds fun x hx => h x (List.mem_cons_of_mem _ hx)
    cases hc : c d with
    | true =>
      obtain ⟨ρ3, e5, e6⟩ := e4 hc
      rw [hc] at e2
      simp [eLcL, e1, e2, noX, e5, e6, ih, hc]
    | false => rw [hc] at e2; simp [eLcL, e1, e2, noX, e3, ih, hc]
end
end PV
end

set_option Elab.async false
set_option linter.all false
set_option maxRecDepth 100000
set_option maxHeartbeats 1000000
set_option autoImplicit false
/-! FR, part d: one step at a time. -/
noncomputable section
namespace PV
open PySem PySem.Spec PyProof.Rows L2
theorem gTru_ok' {f : Env → R PyData} {ρ : Env} {b : Bool} (h : f ρ = .ok (.bool b)) : gTru dTru f ρ = .ok b := by
  rw [gTru_ok, h]; rfl
theorem if_yes {t : Env → R Bool} {f : FS} {ρ : Env} (h : t ρ = .ok true) : sIf (eLT t) f sNil ρ = f ρ := by rw [sIf_ok, eLT_ok, h]; rfl
theorem seq_nx {f g : FS} {ρ ρ' : Env} (h : f ρ = .ok (.nx, ρ')) : sSeq f g ρ = g ρ' := by rw [sSeq_ok, h]; rfl
theorem seq_rt {f g : FS} {ρ ρ' : Env} {d : PyData} (h : f ρ = .ok (.rt d, ρ')) : sSeq f g ρ = .ok (.rt d, ρ') := by rw [sSeq_ok, h]; rfl
theorem seq_ex {f g : FS} {ρ : Env} {c : Ex} (h : f ρ = .ex c) : sSeq f g ρ = .ex c := by rw [sSeq_ok, h]; rfl
theorem if_no {t : Env → R Bool} {f : FS} {ρ : Env} (h : t ρ = .ok false) : sIf (eLT t) f sNil ρ = .ok (.nx, ρ) := by rw [sIf_ok, eLT_ok, h]; rfl
theorem gNot_ok' {t : Env → R Bool} {ρ : Env} {b : Bool} (h : t ρ = .ok b) : gNot t ρ = .ok (!b) := by rw [gNot_ok, h]; rfl
theorem gOr_ok' {t u : Env → R Bool} {ρ : Env} {b c : Bool} (h : t ρ = .ok b) (h2 : u ρ = .ok c) : gOr t u ρ = .ok (b || c) := by
  rw [gOr_ok, h]; cases b <;> simp [h2]
theorem gAnd_ok' {t u : Env → R Bool} {ρ : Env} {b c : Bool} (h : t ρ = .ok b) (h2 : u ρ = .ok c) : gAnd t u ρ = .ok (b && c) := by
  rw [gAnd_ok, h]; cases b <;> simp [h2]
theorem fAnd_ok' {t u : Env → R PyData} {ρ : Env} {b c : Bool} (h : t ρ = .ok (.bool b)) (h2 : u ρ = .ok (.bool c)) : fAnd t u ρ = .ok (.bool (b && c)) := by
  unfold fAnd; rw [h]; cases b <;> simp [asB, h2]
theorem fOr_ok' {t u : Env → R PyData} {ρ : Env} {b c : Bool} (h : t ρ = .ok (.bool b)) (h2 : u ρ = .ok (.bool c)) : fOr t u ρ = .ok (.bool (b || c)) := by
  unfold fOr; rw [h]; cases b <;> simp [asB, h2]
theorem fCmp_ok' {o : PyData → PyData → Option Bool} {f g : Env → R PyData} {ρ : Env} {a b : PyData} {c : Bool} (hf : f ρ = .ok a) (hg : g ρ = .ok b) (h : o a b = some c) : fOfB (gCmp o f g) ρ = .ok (.bool c) := by
  unfold fOfB; rw [gCmp_ok, hf]; simp [hg, h]
theorem gCmp_ok' {o : PyData → PyData → Option Bool} {f g : Env → R PyData} {ρ : Env} {a b : PyData} {c : Bool} (hf : f ρ = .ok a) (hg : g ρ = .ok b) (h : o a b = some c) : gCmp o f g ρ = .ok c := by
  rw [gCmp_ok, hf]; simp [hg, h]
theorem fIx_ok' {f g : Env → R PyData} {ρ : Env} {a b c : PyData} (hf : f ρ = .ok a) (hg : g ρ = .ok b) (h : ixD a b = some c) : fOp ixD f g ρ = .ok c := by
  rw [fOp_ok, hf]; simp [hg, h]
theorem fCall1 {m : List PyData → R PyData} {f : Env → R PyData} {ρ : Env} {a : PyData} {r : R PyData} (hf : f ρ = .ok a) (h : m [a] = r) : fCall m (fCons f fNil) ρ = r := by
  rw [fCall_ok, fCons_ok, hf]; simp [h]
theorem fCall2 {m : List PyData → R PyData} {f g : Env → R PyData} {ρ : Env} {a b : PyData} {r : R PyData} (hf : f ρ = .ok a) (hg : g ρ = .ok b) (h : m [a, b] = r) : fCall m (fCons f (fCons g fNil)) ρ = r := by
  rw [fCall_ok, fCons_ok, hf]; simp [hg, h]
theorem fCall3 {m : List PyData → R PyData} {f g j : Env → R PyData} {ρ : Env} {a b c : PyData} {r : R PyData} (hf : f ρ = .ok a) (hg : g ρ = .ok b) (hj : j ρ = .ok c) (h : m [a, b, c] = r) : fCall m (fCons f (fCons g (fCons j fNil))) ρ = r := by
  rw [fCall_ok, fCons_ok, hf]; simp [hg, hj, h]
theorem fN1 {o : List PyData → Option PyData} {f : Env → R PyData} {ρ : Env} {a b : PyData} (hf : f ρ = .ok a) (h : o [a] = some b) : fN o (fCons f fNil) ρ = .ok b := by
  rw [fN_ok, fCons_ok, hf]; simp [h]
/-- a def that gives a value back at once -/
theorem run_ret {n : Nat} {f : Env → R PyData} {ds : List PyData} {d : PyData} (h : f (rho0 n ds) = .ok d) : runF n (sRet (eL f)) ds = .ok d := by
  unfold runF; rw [sRet_ok, eL_ok, h]; rfl
theorem len2 {a b : PyData} : dLen [.tuple [a, b]] = some (.int 2) := rfl
theorem put2 {ρ : Env} {i j : Nat} {a b : PyData} : put (.tp [.nm i, .nm j]) (.tuple [a, b]) ρ = .ok ((ρ.set i (some a)).set j (some b)) := by simp [put, puts]
theorem gChain_ok' {o p : PyData → PyData → Option Bool} {f g h : Env → R PyData} {ρ : Env} {a b c : PyData} {x y : Bool} (hf : f ρ = .ok a) (hg : g ρ = .ok b) (hh : h ρ = .ok c) (ho : o a b = some x) (hp : p b c = some y) : gChain o p f g h ρ = .ok (x && y) := by
  unfold gChain; rw [hf]; simp only [ok_bind, hg, ho, ofO_some, hh, hp]; cases x <;> simp
theorem fChain_ok' {o p : PyData → PyData → Option Bool} {f g h : Env → R PyData} {ρ : Env} {a b c : PyData} {x y : Bool} (hf : f ρ = .ok a) (hg : g ρ = .ok b) (hh : h ρ = .ok c) (ho : o a b = some x) (hp : p b c = some y) : fOfB (gChain o p f g h) ρ = .ok (.bool (x && y)) := by
  unfold fOfB; rw [gChain_ok' hf hg hh ho hp]; rfl
theorem fIf_ok' {t : Env → R Bool} {f g : Env → R PyData} {ρ : Env} {b : Bool} {x y : PyData} (ht : t ρ = .ok b) (hf : b = true → f ρ = .ok x) (hg : b = false → g ρ = .ok y) : fIf t f g ρ = .ok (if b then x else y) := by
  unfold fIf; rw [ht]; cases b <;> simp [hf, hg]
theorem fIf_yes {t : Env → R Bool} {f g : Env → R PyData} {ρ : Env} (ht : t ρ = .ok true) : fIf t f g ρ = f ρ := by unfold fIf; rw [ht]; rfl
theorem fIf_no {t : Env → R Bool} {f g : Env → R PyData} {ρ : Env} (ht : t ρ = .ok false) : fIf t f g ρ = g ρ := by unfold fIf; rw [ht]; rfl
theorem set_ok' {i : Nat} {f : Env → R PyData} {ρ : Env} {d : PyData} (h : f ρ = .ok d) : sSet i (eL f) ρ = .ok (.nx, ρ.set i (some d)) := by rw [sSet_ok, eL_ok, h]; rfl
theorem fOp_ok' {o : PyData → PyData → Option PyData} {f g : Env → R PyData} {ρ : Env} {a b c : PyData} (hf : f ρ = .ok a) (hg : g ρ = .ok b) (h : o a b = some c) : fOp o f g ρ = .ok c := by
  rw [fOp_ok, hf]; simp [hg, h]
theorem ret_ok' {f : Env → R PyData} {ρ : Env} {d : PyData} (h : f ρ = .ok d) : sRet (eL f) ρ = .ok (.rt d, ρ) := by rw [sRet_ok, eL_ok, h]; rfl
theorem app_ok' {i : Nat} {f : Env → R PyData} {ρ : Env} {d : PyData} {ds : List PyData} (hs : slotL i ρ = .ok ds) (h : f ρ = .ok d) (hl : ds.length < 1000000) : sDrop (eApp i (eL f)) ρ = .ok (.nx, ρ.set i (some (.list (ds ++ [d])))) := by
  have : ds.length < sizeLine := by rw [sz]; omega
  rw [sDrop_ok, eApp_ok, hs]
  simp only [ok_bind, eL_ok, h, hs, if_pos this]
theorem dTupleL {ds : List PyData} (h : flatL ds = true) : dTuple [.list ds] = some (.tuple ds) := by simp [dTuple, h]
theorem dTupleT {ds : List PyData} (h : flatL ds = true) : dTuple [.tuple ds] = some (.tuple ds) := by simp [dTuple, h, flat]
section
variable {α : Type} {t : Tg} {own : List Nat} {ρ ρw : Env}
theorem eLc_filt {fi : Env → R (List PyData × Env)} {ft : Env → R Bool} {fe : Env → R PyData} (enc : α → PyData) (c : α → Bool) (g : α → PyData) (xs : List α) (hi : fi ρ = .ok (xs.map enc, ρ)) (hw : wipeE ρ own = ρw) (hl : xs.length ≤ 1000000)
    (h : ∀ x ∈ xs, ∃ ρ1, put t (enc x) ρw = .ok ρ1 ∧ ft ρ1 = .ok (c x) ∧ wipeE ρ1 own = ρw ∧ (c x = true → fe ρ1 = .ok (g x))) : eLc t own fi (eLT ft) (eL fe) ρ = .ok (.list ((xs.filter c).map g), ρw) := by
  have e := elcL_filt (t := t) (own := own) (ρ := ρw) (ft := eLT ft) (fe := eL fe) enc c g xs fun x hx => by
    obtain ⟨ρ1, e1, e2, e3, e4⟩ := h x hx
    exact ⟨ρ1, ρ1, e1, by rw [eLT_ok, e2]; rfl, e3, fun hc => ⟨ρ1, by rw [eL_ok, e4 hc]; rfl, e3⟩⟩
  have z : ((xs.filter c).map g).length ≤ sizeLine := by
    rw [List.length_map, sz]
    have := List.length_filter_le c xs
    omega
  unfold eLc
  simp only [hi, ok_bind, hw, e, lstE, if_pos z]
theorem eLc_map {fi : Env → R (List PyData × Env)} {fe : Env → R PyData} (enc : α → PyData) (g : α → PyData) (xs : List α) (hi : fi ρ = .ok (xs.map enc, ρ)) (hw : wipeE ρ own = ρw) (hl : xs.length ≤ 1000000)
    (h : ∀ x ∈ xs, ∃ ρ1, put t (enc x) ρw = .ok ρ1 ∧ wipeE ρ1 own = ρw ∧ fe ρ1 = .ok (g x)) : eLc t own fi egYes (eL fe) ρ = .ok (.list (xs.map g), ρw) := by
  have e := elcL_pure (t := t) (own := own) (ρ := ρw) (fi := fi) (fe := eL fe) enc g xs fun x hx => by
    obtain ⟨ρ1, e1, e3, e4⟩ := h x hx
    exact ⟨ρ1, ρ1, e1, by rw [eL_ok, e4]; rfl, e3⟩
  have z : (xs.map g).length ≤ sizeLine := by
    rw [List.length_map, sz]
    omega
  unfold eLc
  simp only [hi, ok_bind, hw, e, lstE, if_pos z]
theorem eIt_ok' {f : Env → R PyData} {ρ : Env} {d : PyData} {ds : List PyData} (h : f ρ = .ok d) (hi : itemsD d = some ds) : eIt (eL f) ρ = .ok (ds, ρ) := by
  rw [eIt_ok, eL_ok, h]; simp [hi]
theorem fIt_ok' {f : Env → R PyData} {ρ : Env} {d : PyData} {ds : List PyData} (h : f ρ = .ok d) (hi : itemsD d = some ds) : fIt f ρ = .ok ds := by
  unfold fIt; rw [h]; simp [hi]
end
theorem getElem?_zipIdx' {α : Type} (xs : List α) (n i : Nat) : (xs.zipIdx n)[i]? = xs[i]?.map fun x => (x, n + i) := by
  rw [List.getElem?_zipIdx]
theorem enum_enc {α : Type} {enc : α → PyData} {xs : List α} : List.zipWith pair (rangeL 0 xs.length) (xs.map enc) = xs.zipIdx.map fun z => pair (.int (z.2 : Nat)) (enc z.1) := by
  refine List.ext_getElem? fun i => ?_
  rw [List.getElem?_zipWith, List.getElem?_map, List.getElem?_map, getElem?_zipIdx']
  by_cases h : i < xs.length
  · rw [rangeL_get h, List.getElem?_eq_getElem h]
    simp
  · have e : xs[i]? = none := List.getElem?_eq_none (by omega)
    rw [e]
    cases (rangeL 0 (xs.length : Int))[i]? <;> rfl
theorem zip_enc {α β : Type} {enc : α → PyData} {enc2 : β → PyData} : ∀ {xs : List α} {ys : List β}, List.zipWith pair (xs.map enc) (ys.map enc2) = (xs.zip ys).map fun z => pair (enc z.1) (enc2 z.2)
  | [], _ => by simp
  | _ :: _, [] => by simp
  | x :: xs, y :: ys => by simp [zip_enc (xs := xs) (ys := ys)]
theorem fZip_ok' {f g : Env → R PyData} {ρ : Env} {a b : PyData} {xs ys : List PyData} (hf : f ρ = .ok a) (hg : g ρ = .ok b) (ha : seqD a = some xs) (hb : seqD b = some ys) : fZip (fCons f (fCons g fNil)) ρ = .ok (List.zipWith pair xs ys) := by
  unfold fZip; rw [fCons_ok, hf]; simp [hg, zipD, ha, hb]
theorem eZip_ok' {f g : Env → R PyData} {ρ : Env} {a b : PyData} {xs ys : List PyData} (hf : f ρ = .ok a) (hg : g ρ = .ok b) (ha : seqD a = some xs) (hb : seqD b = some ys) : eZip (eLA (fCons f (fCons g fNil))) ρ = .ok (List.zipWith pair xs ys, ρ) := by
  unfold eZip; rw [eLA_ok, fCons_ok, hf]; simp [hg, zipD, ha, hb]
theorem fEnum_ok' {f : Env → R PyData} {ρ : Env} {a : PyData} {xs : List PyData} (hf : f ρ = .ok a) (ha : seqD a = some xs) : fEnum (fCons f fNil) ρ = .ok (List.zipWith pair (rangeL 0 xs.length) xs) := by
  unfold fEnum; rw [fCons_ok, hf]; simp [enumD, ha]
theorem seqD_items {X : PyData} {xs : List PyData} (h : seqD X = some xs) : itemsD X = some xs := by
  cases X <;> simp only [seqD, reduceCtorEq] at h <;> exact h
theorem first_hit {α : Type} {c : α → Bool} : ∀ {xs : List α} (n : Nat), (∃ x ∈ xs, c x = true) → ∃ rest, ((xs.zipIdx n).filter fun z => c z.1).map (fun z => PyData.int (z.2 : Nat)) = .int ((n + xs.findIdx c : Nat)) :: rest
  | [], _, h => by simp at h
  | x :: xs, n, h => by
    by_cases hc : c x = true
    · exact ⟨_, by simp [List.zipIdx_cons, hc, List.findIdx_cons]; rfl⟩
    · have h' : ∃ y ∈ xs, c y = true := by
        obtain ⟨y, hy, hy2⟩ := h
        rcases List.mem_cons.mp hy with rfl | hy
        · exact absurd hy2 hc
        · exact ⟨y, hy, hy2⟩
      obtain ⟨rest, e⟩ := first_hit (n + 1) h'
      refine ⟨rest, ?_⟩
      have : n + 1 + xs.findIdx c = n + (xs.findIdx c + 1) := by omega
      rw [this] at e
      simp only [List.zipIdx_cons, List.filter_cons, hc, List.findIdx_cons, cond_false, if_false, Bool.false_eq_true]
      exact e
theorem store_ok' {i : Nat} {f g : Env → R PyData} {ρ : Env} {d : PyData} {ds : List PyData} {j : Nat} (hf : f ρ = .ok d) (hd : flat d = true) (hs : slotL i ρ = .ok ds) (hg : g ρ = .ok (.int (j : Nat))) (hj : j < ds.length) : sStore i (eFlat (eL f)) g ρ = .ok (.nx, ρ.set i (some (.list (ds.set j d)))) := by
  unfold sStore
  rw [eFlat_ok, eL_ok, hf]
  have e : ixN ds.length (j : Int) = some j := by
    unfold ixN
    rw [if_pos (by omega)]
    simp [hj]
  simp only [ok_bind, hd, if_true, hs, hg, e]
end PV
end

set_option Elab.async false
set_option linter.all false
set_option maxRecDepth 100000
set_option maxHeartbeats 1000000
set_option autoImplicit false
/-! FR, part e: repr of fractions and bools. -/
noncomputable section
namespace PV
open PySem PySem.Spec PyProof.Rows L2
theorem strOk_iff' {x : Str} : PyData.strOk x = true ↔ ∀ c ∈ x.cps.toList, c < 0x110000 := by
  unfold PyData.strOk
  rw [Array.all_eq_true']
  simp
theorem strOk_app' {x y : Str} (hx : PyData.strOk x = true) (hy : PyData.strOk y = true) : PyData.strOk (x ++ y) = true := by
  rw [strOk_iff'] at *
  intro c hc
  rcases mem_cps_append.mp hc with h | h
  · exact hx c h
  · exact hy c h
theorem strOk_int (i : Int) : PyData.strOk (Str.ofString (toString i)) = true := by
  rw [strOk_iff']
  intro c hc
  rw [signs_ofString] at hc
  obtain ⟨ch, _, rfl⟩ := List.mem_map.mp hc
  have h1 : ch.val.toNat < 0x110000 := by
    rcases ch.valid with h | h
    · omega
    · omega
  exact h1
theorem strOk_join {sep : Str} (hs : PyData.strOk sep = true) {ts : List Str} (h : ∀ t ∈ ts, PyData.strOk t = true) : PyData.strOk (Str.join sep ts) = true := by
  rw [strOk_iff']
  intro c hc
  rcases (mem_join _ _ _).mp hc with ⟨t, ht, hc⟩ | ⟨_, hc⟩
  · exact strOk_iff'.mp (h t ht) c hc
  · exact strOk_iff'.mp hs c hc
theorem strOk_tuple {ts : List Str} (h : ∀ t ∈ ts, PyData.strOk t = true) : PyData.strOk (tupleText ts) = true := by
  unfold tupleText
  refine strOk_app' (strOk_app' (by kernel_rfl) (strOk_join (by kernel_rfl) h)) ?_
  split <;> kernel_rfl
theorem dNe_str {r : Str} (h : PyData.strOk r = true) : dNe (.str r) (.str r) = some false := by
  have e : PyData.eqv (.str r) (.str r) = true := by simp [PyData.eqv]
  have s : SeqAt.shaped (.str r) = true := by simp [SeqAt.shaped, PyData.canLay0, PyData.depth, h]
  simp [dNe, s, e]
theorem repr_Q {q : Rat} {n : Nat} (h : QB n q) (hn : n ≤ 1900) : ∃ r, dRepr [encQ q] = some (.str r) ∧ PyData.strOk r = true := by
  have l1 : q.num.natAbs.log2 < 1920 := by have := log2_of_lt h.1; omega
  have l2 : q.den.log2 < 1920 := by have := log2_of_lt h.2; omega
  have t1 := int_text_length_le (k := 1920) (by decide) l1
  have t2 := int_text_length_le (k := 1920) (a := (q.den : Int)) (by decide) (by simpa using l2)
  have e : (encQ q).shown = tupleText [Str.ofString (toString q.num), Str.ofString (toString (q.den : Int))] := by
    simp only [encQ, PyData.shown, PyData.shownAll]
    try rfl
  have hl : (encQ q).shown.length ≤ sizeLine := by
    rw [e, sz]
    have h3 := tupleText_len_le [Str.ofString (toString q.num), Str.ofString (toString (q.den : Int))]
    simp only [List.map_cons, List.map_nil, List.sum_cons, List.sum_nil, List.length_cons, List.length_nil] at h3
    have l3 : ∀ s : String, (Str.ofString s).length = s.length := fun s => by
      simp only [Str.length, Str.ofString_eq_toList, List.size_toArray, List.length_map]
      exact String.length_toList ..
    rw [l3, l3] at h3
    omega
  have a1 : (encQ q).showable = true := by simp [encQ, PyData.showable, PyData.showableAll, l1, l2]
  have a2 : (encQ q).hasDict = false := by simp [encQ, PyData.hasDict, PyData.hasDictAll]
  refine ⟨(encQ q).shown, by simp [dRepr, shapedQ, a1, a2, hl], ?_⟩
  rw [e]
  refine strOk_tuple fun t ht => ?_
  simp only [List.mem_cons, List.not_mem_nil, or_false] at ht
  rcases ht with rfl | rfl <;> exact strOk_int _
theorem repr_B (b : Bool) : ∃ r, dRepr [.bool b] = some (.str r) ∧ PyData.strOk r = true := by
  cases b
  · exact ⟨"False", by kernel_rfl, by kernel_rfl⟩
  · exact ⟨"True", by kernel_rfl, by kernel_rfl⟩
/-- repr(x) != repr(x) -/
theorem repr_same {f g : Env → R PyData} {ρ : Env} {d : PyData} (hr : ∃ r, dRepr [d] = some (.str r) ∧ PyData.strOk r = true) (hf : f ρ = .ok d) (hg : g ρ = .ok d) : gCmp dNe (fN dRepr (fCons f fNil)) (fN dRepr (fCons g fNil)) ρ = .ok false := by
  obtain ⟨r, h1, h2⟩ := hr
  exact gCmp_ok' (fN1 hf h1) (fN1 hg h1) (dNe_str h2)
end PV
end

set_option Elab.async false
set_option linter.all false
set_option maxRecDepth 100000
set_option maxHeartbeats 0
set_option autoImplicit false
/-! printed by gen.py for stakestold_k52_streams_side_by_side -/
noncomputable section
namespace PV
open PySem PySem.Spec PyProof.Rows L2

def top (i : Nat) : Stmt := PySem.Challenge.pw_stakestold_k52_streams_side_by_side.main.body.getD i (.Pass ⟨0, 0, 0, 0⟩)
def exNames : List Str := ["StakeError", "NotStakes", "NotTable", "NotMix", "NotPaper", "BadNumber", "NoAnswer", "TooLarge"]
def isC (z y : Str) : Bool := decide (z = y) || decide (y = "StakeError")
abbrev st__law_number : Stmt := top 40
abbrev st__law_draws : Stmt := top 41
abbrev st__law_next : Stmt := top 42
abbrev st__law_more : Stmt := top 43
abbrev st__law_common : Stmt := top 46
abbrev st__law_least : Stmt := top 47
abbrev st__law_add : Stmt := top 48
abbrev st__law_times : Stmt := top 49
abbrev st__law_costs : Stmt := top 60
abbrev st_common : Stmt := top 10
abbrev st_least_terms : Stmt := top 11
abbrev st_add : Stmt := top 12
abbrev st_total : Stmt := top 16
abbrev st_times : Stmt := top 14
abbrev st_sum_by : Stmt := top 33
abbrev st_is_fraction : Stmt := top 17
abbrev st_is_cost : Stmt := top 21
abbrev st_are_roads : Stmt := top 22
abbrev st_is_parting : Stmt := top 30
abbrev st_parting_sum : Stmt := top 34
abbrev st_is_amount : Stmt := top 23
abbrev st_check_amount : Stmt := top 24
abbrev st_less : Stmt := top 13
abbrev st_is_even : Stmt := top 31
abbrev st_is_level_paper : Stmt := top 32
abbrev st__law_kind : Stmt := top 52
abbrev st_least_of : Stmt := top 25
abbrev st_by : Stmt := top 15
abbrev st_told_level : Stmt := top 26
abbrev st_level : Stmt := top 28
abbrev st_parting_of : Stmt := top 27
abbrev st_level_paper : Stmt := top 29
abbrev st_doubled : Stmt := top 35
abbrev st_best_parting : Stmt := top 36
abbrev st_least_stream_sum : Stmt := top 37
abbrev st_tolls : Stmt := top 38
abbrev st__law_asked : Stmt := top 63
abbrev st__law_pick : Stmt := top 44
abbrev st__law_flat : Stmt := top 45
abbrev st__law_part_of : Stmt := top 55
abbrev st__law_roads : Stmt := top 56
abbrev st__law_is_less : Stmt := top 50
abbrev st__law_drawn : Stmt := top 64
abbrev st__law_wrong_roads : Stmt := top 59
abbrev st__law_total : Stmt := top 51
abbrev st__law_is_fraction : Stmt := top 53
abbrev st__law_is_parting : Stmt := top 58
abbrev st__law_even : Stmt := top 57
abbrev st__law_is_right : Stmt := top 62
abbrev st__law_sum : Stmt := top 61
abbrev st__law_greatest : Stmt := top 54
abbrev st_law : Stmt := top 65
structure Ctx (w : World) (K : PySem.W.Frag) (mg : Str → Option Value) : Prop where
  f_abs : mg "abs" = none
  f_all : mg "all" = none
  f_any : mg "any" = none
  f_enumerate : mg "enumerate" = none
  f_int : mg "int" = none
  f_isinstance : mg "isinstance" = none
  f_len : mg "len" = none
  f_list : mg "list" = none
  f_range : mg "range" = none
  f_repr : mg "repr" = none
  f_sum : mg "sum" = none
  f_tuple : mg "tuple" = none
  f_zip : mg "zip" = none
  g_BadNumber : mg "BadNumber" = some (.ref (He.ga K "BadNumber"))
  g_NoAnswer : mg "NoAnswer" = some (.ref (He.ga K "NoAnswer"))
  g_NotMix : mg "NotMix" = some (.ref (He.ga K "NotMix"))
  g_NotPaper : mg "NotPaper" = some (.ref (He.ga K "NotPaper"))
  g_NotStakes : mg "NotStakes" = some (.ref (He.ga K "NotStakes"))
  g_NotTable : mg "NotTable" = some (.ref (He.ga K "NotTable"))
  g_StakeError : mg "StakeError" = some (.ref (He.ga K "StakeError"))
  g_TooLarge : mg "TooLarge" = some (.ref (He.ga K "TooLarge"))
  g__law_add : mg "_law_add" = some (.ref (He.ga K "_law_add"))
  g__law_asked : mg "_law_asked" = some (.ref (He.ga K "_law_asked"))
  g__law_common : mg "_law_common" = some (.ref (He.ga K "_law_common"))
  g__law_costs : mg "_law_costs" = some (.ref (He.ga K "_law_costs"))
  g__law_drawn : mg "_law_drawn" = some (.ref (He.ga K "_law_drawn"))
  g__law_draws : mg "_law_draws" = some (.ref (He.ga K "_law_draws"))
  g__law_even : mg "_law_even" = some (.ref (He.ga K "_law_even"))
  g__law_flat : mg "_law_flat" = some (.ref (He.ga K "_law_flat"))
  g__law_greatest : mg "_law_greatest" = some (.ref (He.ga K "_law_greatest"))
  g__law_is_fraction : mg "_law_is_fraction" = some (.ref (He.ga K "_law_is_fraction"))
  g__law_is_less : mg "_law_is_less" = some (.ref (He.ga K "_law_is_less"))
  g__law_is_parting : mg "_law_is_parting" = some (.ref (He.ga K "_law_is_parting"))
  g__law_is_right : mg "_law_is_right" = some (.ref (He.ga K "_law_is_right"))
  g__law_kind : mg "_law_kind" = some (.ref (He.ga K "_law_kind"))
  g__law_least : mg "_law_least" = some (.ref (He.ga K "_law_least"))
  g__law_more : mg "_law_more" = some (.ref (He.ga K "_law_more"))
  g__law_next : mg "_law_next" = some (.ref (He.ga K "_law_next"))
  g__law_number : mg "_law_number" = some (.ref (He.ga K "_law_number"))
  g__law_part_of : mg "_law_part_of" = some (.ref (He.ga K "_law_part_of"))
  g__law_pick : mg "_law_pick" = some (.ref (He.ga K "_law_pick"))
  g__law_roads : mg "_law_roads" = some (.ref (He.ga K "_law_roads"))
  g__law_sum : mg "_law_sum" = some (.ref (He.ga K "_law_sum"))
  g__law_times : mg "_law_times" = some (.ref (He.ga K "_law_times"))
  g__law_total : mg "_law_total" = some (.ref (He.ga K "_law_total"))
  g__law_wrong_roads : mg "_law_wrong_roads" = some (.ref (He.ga K "_law_wrong_roads"))
  g_add : mg "add" = some (.ref (He.ga K "add"))
  g_are_roads : mg "are_roads" = some (.ref (He.ga K "are_roads"))
  g_best_parting : mg "best_parting" = some (.ref (He.ga K "best_parting"))
  g_by : mg "by" = some (.ref (He.ga K "by"))
  g_check_amount : mg "check_amount" = some (.ref (He.ga K "check_amount"))
  g_common : mg "common" = some (.ref (He.ga K "common"))
  g_doubled : mg "doubled" = some (.ref (He.ga K "doubled"))
  g_is_amount : mg "is_amount" = some (.ref (He.ga K "is_amount"))
  g_is_cost : mg "is_cost" = some (.ref (He.ga K "is_cost"))
  g_is_even : mg "is_even" = some (.ref (He.ga K "is_even"))
  g_is_fraction : mg "is_fraction" = some (.ref (He.ga K "is_fraction"))
  g_is_level_paper : mg "is_level_paper" = some (.ref (He.ga K "is_level_paper"))
  g_is_parting : mg "is_parting" = some (.ref (He.ga K "is_parting"))
  g_law : mg "law" = some (.ref (He.ga K "law"))
  g_least_of : mg "least_of" = some (.ref (He.ga K "least_of"))
  g_least_stream_sum : mg "least_stream_sum" = some (.ref (He.ga K "least_stream_sum"))
  g_least_terms : mg "least_terms" = some (.ref (He.ga K "least_terms"))
  g_less : mg "less" = some (.ref (He.ga K "less"))
  g_level : mg "level" = some (.ref (He.ga K "level"))
  g_level_paper : mg "level_paper" = some (.ref (He.ga K "level_paper"))
  g_parting_of : mg "parting_of" = some (.ref (He.ga K "parting_of"))
  g_parting_sum : mg "parting_sum" = some (.ref (He.ga K "parting_sum"))
  g_sum_by : mg "sum_by" = some (.ref (He.ga K "sum_by"))
  g_times : mg "times" = some (.ref (He.ga K "times"))
  g_told_level : mg "told_level" = some (.ref (He.ga K "told_level"))
  g_tolls : mg "tolls" = some (.ref (He.ga K "tolls"))
  g_total : mg "total" = some (.ref (He.ga K "total"))
  i_MOST_COST : ∃ t, mg "MOST_COST" = some (.int 1000 t)
  i_MOST_ROADS : ∃ t, mg "MOST_ROADS" = some (.int 8 t)
  e_BadNumber : ExK K mg "BadNumber"
  e_NotTable : ExK K mg "NotTable"
  tr_StakeError : ∀ z ∈ exNames, PySem.W.exmOne K (.ref (He.ga K z)) (.ref (He.ga K "StakeError")) = some true
  hI : ∀ z ∈ exNames, ∀ y ∈ exNames, PySem.W.kitOne K (.ref (He.ga K z)) (.ref (He.ga K y)) = some (isC z y)
  hC : ∀ z ∈ exNames, ExcC K (He.ga K z)
  nd__law_asked : ([He.ga K "level", He.ga K "level_paper", He.ga K "best_parting", He.ga K "least_stream_sum", He.ga K "tolls"] : List Addr).Nodup
  d__law_number : ∃ fd, FunD K "_law_number" "_law_number" (defArgs st__law_number) (defBody st__law_number) (defScope st__law_number) [] [] (He.ga K "_law_number") fd
  d__law_draws : ∃ fd, FunD K "_law_draws" "_law_draws" (defArgs st__law_draws) (defBody st__law_draws) (defScope st__law_draws) [] [] (He.ga K "_law_draws") fd
  d__law_next : ∃ fd, FunD K "_law_next" "_law_next" (defArgs st__law_next) (defBody st__law_next) (defScope st__law_next) [] [] (He.ga K "_law_next") fd
  d__law_more : ∃ fd, FunD K "_law_more" "_law_more" (defArgs st__law_more) (defBody st__law_more) (defScope st__law_more) [] [] (He.ga K "_law_more") fd
  d__law_common : ∃ fd, FunD K "_law_common" "_law_common" (defArgs st__law_common) (defBody st__law_common) (defScope st__law_common) [] [] (He.ga K "_law_common") fd
  d__law_least : ∃ fd, FunD K "_law_least" "_law_least" (defArgs st__law_least) (defBody st__law_least) (defScope st__law_least) [] [] (He.ga K "_law_least") fd
  d__law_add : ∃ fd, FunD K "_law_add" "_law_add" (defArgs st__law_add) (defBody st__law_add) (defScope st__law_add) [] [] (He.ga K "_law_add") fd
  d__law_times : ∃ fd, FunD K "_law_times" "_law_times" (defArgs st__law_times) (defBody st__law_times) (defScope st__law_times) [] [] (He.ga K "_law_times") fd
  d__law_costs : ∃ fd, FunD K "_law_costs" "_law_costs" (defArgs st__law_costs) (defBody st__law_costs) (defScope st__law_costs) [] [] (He.ga K "_law_costs") fd
  d_common : ∃ fd, FunD K "common" "common" (defArgs st_common) (defBody st_common) (defScope st_common) [] [] (He.ga K "common") fd
  d_least_terms : ∃ fd, FunD K "least_terms" "least_terms" (defArgs st_least_terms) (defBody st_least_terms) (defScope st_least_terms) [] [] (He.ga K "least_terms") fd
  d_add : ∃ fd, FunD K "add" "add" (defArgs st_add) (defBody st_add) (defScope st_add) [] [] (He.ga K "add") fd
  d_total : ∃ fd, FunD K "total" "total" (defArgs st_total) (defBody st_total) (defScope st_total) [] [] (He.ga K "total") fd
  d_times : ∃ fd, FunD K "times" "times" (defArgs st_times) (defBody st_times) (defScope st_times) [] [] (He.ga K "times") fd
  d_sum_by : ∃ fd, FunD K "sum_by" "sum_by" (defArgs st_sum_by) (defBody st_sum_by) (defScope st_sum_by) [] [] (He.ga K "sum_by") fd
  d_is_fraction : ∃ fd, FunD K "is_fraction" "is_fraction" (defArgs st_is_fraction) (defBody st_is_fraction) (defScope st_is_fraction) [] [] (He.ga K "is_fraction") fd
  d_is_cost : ∃ fd, FunD K "is_cost" "is_cost" (defArgs st_is_cost) (defBody st_is_cost) (defScope st_is_cost) [] [] (He.ga K "is_cost") fd
  d_are_roads : ∃ fd, FunD K "are_roads" "are_roads" (defArgs st_are_roads) (defBody st_are_roads) (defScope st_are_roads) [] [] (He.ga K "are_roads") fd
  d_is_parting : ∃ fd, FunD K "is_parting" "is_parting" (defArgs st_is_parting) (defBody st_is_parting) (defScope st_is_parting) [] [] (He.ga K "is_parting") fd
  d_parting_sum : ∃ fd, FunD K "parting_sum" "parting_sum" (defArgs st_parting_sum) (defBody st_parting_sum) (defScope st_parting_sum) [] [] (He.ga K "parting_sum") fd
  d_is_amount : ∃ fd, FunD K "is_amount" "is_amount" (defArgs st_is_amount) (defBody st_is_amount) (defScope st_is_amount) [] [] (He.ga K "is_amount") fd
  d_check_amount : ∃ fd, FunD K "check_amount" "check_amount" (defArgs st_check_amount) (defBody st_check_amount) (defScope st_check_amount) [] [] (He.ga K "check_amount") fd
  d_less : ∃ fd, FunD K "less" "less" (defArgs st_less) (defBody st_less) (defScope st_less) [] [] (He.ga K "less") fd
  d_is_even : ∃ fd, FunD K "is_even" "is_even" (defArgs st_is_even) (defBody st_is_even) (defScope st_is_even) [] [] (He.ga K "is_even") fd
  d_is_level_paper : ∃ fd, FunD K "is_level_paper" "is_level_paper" (defArgs st_is_level_paper) (defBody st_is_level_paper) (defScope st_is_level_paper) [] [] (He.ga K "is_level_paper") fd
  d__law_kind : ∃ fd, FunD K "_law_kind" "_law_kind" (defArgs st__law_kind) (defBody st__law_kind) (defScope st__law_kind) [] [] (He.ga K "_law_kind") fd
  d_least_of : ∃ fd, FunD K "least_of" "least_of" (defArgs st_least_of) (defBody st_least_of) (defScope st_least_of) [] [] (He.ga K "least_of") fd
  d_by : ∃ fd, FunD K "by" "by" (defArgs st_by) (defBody st_by) (defScope st_by) [] [] (He.ga K "by") fd
  d_told_level : ∃ fd, FunD K "told_level" "told_level" (defArgs st_told_level) (defBody st_told_level) (defScope st_told_level) [] [] (He.ga K "told_level") fd
  d_level : ∃ fd, FunD K "level" "level" (defArgs st_level) (defBody st_level) (defScope st_level) [] [] (He.ga K "level") fd
  d_parting_of : ∃ fd, FunD K "parting_of" "parting_of" (defArgs st_parting_of) (defBody st_parting_of) (defScope st_parting_of) [] [] (He.ga K "parting_of") fd
  d_level_paper : ∃ fd, FunD K "level_paper" "level_paper" (defArgs st_level_paper) (defBody st_level_paper) (defScope st_level_paper) [] [] (He.ga K "level_paper") fd
  d_doubled : ∃ fd, FunD K "doubled" "doubled" (defArgs st_doubled) (defBody st_doubled) (defScope st_doubled) [] [] (He.ga K "doubled") fd
  d_best_parting : ∃ fd, FunD K "best_parting" "best_parting" (defArgs st_best_parting) (defBody st_best_parting) (defScope st_best_parting) [] [] (He.ga K "best_parting") fd
  d_least_stream_sum : ∃ fd, FunD K "least_stream_sum" "least_stream_sum" (defArgs st_least_stream_sum) (defBody st_least_stream_sum) (defScope st_least_stream_sum) [] [] (He.ga K "least_stream_sum") fd
  d_tolls : ∃ fd, FunD K "tolls" "tolls" (defArgs st_tolls) (defBody st_tolls) (defScope st_tolls) [] [] (He.ga K "tolls") fd
  d__law_asked : ∃ fd, FunD K "_law_asked" "_law_asked" (defArgs st__law_asked) (defBody st__law_asked) (defScope st__law_asked) [] [] (He.ga K "_law_asked") fd
  d__law_pick : ∃ fd, FunD K "_law_pick" "_law_pick" (defArgs st__law_pick) (defBody st__law_pick) (defScope st__law_pick) [] [] (He.ga K "_law_pick") fd
  d__law_flat : ∃ fd, FunD K "_law_flat" "_law_flat" (defArgs st__law_flat) (defBody st__law_flat) (defScope st__law_flat) [] [] (He.ga K "_law_flat") fd
  d__law_part_of : ∃ fd, FunD K "_law_part_of" "_law_part_of" (defArgs st__law_part_of) (defBody st__law_part_of) (defScope st__law_part_of) [] [] (He.ga K "_law_part_of") fd
  d__law_roads : ∃ fd, FunD K "_law_roads" "_law_roads" (defArgs st__law_roads) (defBody st__law_roads) (defScope st__law_roads) [] [] (He.ga K "_law_roads") fd
  d__law_is_less : ∃ fd, FunD K "_law_is_less" "_law_is_less" (defArgs st__law_is_less) (defBody st__law_is_less) (defScope st__law_is_less) [] [] (He.ga K "_law_is_less") fd
  d__law_drawn : ∃ fd, FunD K "_law_drawn" "_law_drawn" (defArgs st__law_drawn) (defBody st__law_drawn) (defScope st__law_drawn) [] [] (He.ga K "_law_drawn") fd
  d__law_wrong_roads : ∃ fd, FunD K "_law_wrong_roads" "_law_wrong_roads" (defArgs st__law_wrong_roads) (defBody st__law_wrong_roads) (defScope st__law_wrong_roads) [] [] (He.ga K "_law_wrong_roads") fd
  d__law_total : ∃ fd, FunD K "_law_total" "_law_total" (defArgs st__law_total) (defBody st__law_total) (defScope st__law_total) [] [] (He.ga K "_law_total") fd
  d__law_is_fraction : ∃ fd, FunD K "_law_is_fraction" "_law_is_fraction" (defArgs st__law_is_fraction) (defBody st__law_is_fraction) (defScope st__law_is_fraction) [] [] (He.ga K "_law_is_fraction") fd
  d__law_is_parting : ∃ fd, FunD K "_law_is_parting" "_law_is_parting" (defArgs st__law_is_parting) (defBody st__law_is_parting) (defScope st__law_is_parting) [] [] (He.ga K "_law_is_parting") fd
  d__law_even : ∃ fd, FunD K "_law_even" "_law_even" (defArgs st__law_even) (defBody st__law_even) (defScope st__law_even) [] [] (He.ga K "_law_even") fd
  d__law_is_right : ∃ fd, FunD K "_law_is_right" "_law_is_right" (defArgs st__law_is_right) (defBody st__law_is_right) (defScope st__law_is_right) [] [] (He.ga K "_law_is_right") fd
  d__law_sum : ∃ fd, FunD K "_law_sum" "_law_sum" (defArgs st__law_sum) (defBody st__law_sum) (defScope st__law_sum) [] [] (He.ga K "_law_sum") fd
  d__law_greatest : ∃ fd, FunD K "_law_greatest" "_law_greatest" (defArgs st__law_greatest) (defBody st__law_greatest) (defScope st__law_greatest) [] [] (He.ga K "_law_greatest") fd
  d_law : ∃ fd, FunD K "law" "law" (defArgs st_law) (defBody st_law) (defScope st_law) [] [] (He.ga K "law") fd
variable {P : Program} {w : World} {K : PySem.W.Frag} {mg : Str → Option Value} {base : Heap}

/-! ### _law_number -/
theorem sc__law_number : FnScope ["cell"] ["cell"] (defScope st__law_number) := ⟨rfl, rfl, rfl, by decide +kernel, rfl, by decide +kernel, by decide +kernel⟩
def sem__law_number : FS :=
  (sSeq (sIf (eLT (gCmp dLt (fVar 0) (fC (.int 0)))) (sRet (eL (fOp dSub (fC (.int 0)) (fVar 0))))
  sNil)
  (sRet (eFlat (eL (fVar 0)))))
def m__law_number : List PyData → R PyData := runF 1 (sem__law_number)
theorem body__law_number (c : Ctx w K mg)  : BodyOk P w K mg base ["cell"] "_law_number" (defScope st__law_number) (He.ga K "_law_number") 0 fun X W => DSs X W [false] [] .F (defBody st__law_number) (sem__law_number) := by
  intro cdv A outer s H E hr tk hp
  exact (ss_cons (s_if (et_lift (t_cm o_lt (p_toB (p_varV (i := 0))) p_int)) (ss_one (s_ret (e_lift (p_bin o_sub p_int (p_toB (p_varV (i := 0)))))))
  ss_nil)
  (ss_one (s_ret (e_flat (e_toB (e_lift (p_varV (i := 0))))))))
theorem fp__law_number (c : Ctx w K mg)  : FnPP P w K mg base 1 "_law_number" ["cell"] .F (m__law_number) := by
  obtain ⟨fd, F⟩ := c.d__law_number
  have h : FnG P w K mg base (L2.CX P w) (0 + 1) (He.ga K "_law_number") fd ["cell"] (spP K (["cell"] : List Str).length .F (runF (["cell"] : List Str).length (sem__law_number))) := fnP (P := P) (w := w) (base := base) (mg := mg) (ks := [false]) (k := 0) F sc__law_number (by decide) (by decide) (by decide) (body__law_number c )
  have b : Binds K fd ["cell"] [] := F.bindsN (fun _ _ _ _ _ _ us hl => match us, hl with | [_], _ => rfl)
  exact ⟨_, fd, h, c.g__law_number, F.kp, b⟩

/-! ### _law_draws -/
theorem sc__law_draws : FnScope ["script", "draws", "cell", "rest", "k", "once", "twice"] ["script"] (defScope st__law_draws) := ⟨rfl, rfl, rfl, by decide +kernel, rfl, by decide +kernel, by decide +kernel⟩
def sem__law_draws : FS :=
  (sSeq (sSet 1 (eL (fLst fNil)))
  (sSeq (sFor (.nm 2) (eIt (eL (fVar 0))) (sSeq (sSet 3 (eL (fCall m__law_number (fCons (fVar 2) fNil))))
  (sIf (eLT (gCmp dGe (fVar 3) (fC (.int 1000000000000000000)))) (sFor (.nm 4) (eRg (eLA (fCons (fC (.int 60)) fNil))) (sSeq (sIf (eLT (gCmp dEq (fVar 3) (fC (.int 0)))) (fun ρ => .ok (.bk, ρ))
  sNil)
  (sSeq (sDrop (eApp 1 (eL (fOp dMod (fN dInt (fCons (fVar 3) fNil)) (fC (.int 1000))))))
  (sSet 3 (eL (fOp dDiv (fVar 3) (fC (.int 1000))))))))
  (sSeq (sSet 5 (eL (fOp dMod (fN dInt (fCons (fOp dAdd (fOp dMul (fVar 3) (fC (.int 48271))) (fC (.int 11))) fNil)) (fC (.int 2147483647)))))
  (sSeq (sSet 6 (eL (fOp dMod (fN dInt (fCons (fOp dAdd (fOp dMul (fVar 5) (fC (.int 69621))) (fVar 3)) fNil)) (fC (.int 2147483629)))))
  (sDrop (eExt 1 (eL (fLst (fCons (fOp dMod (fN dInt (fCons (fVar 3) fNil)) (fC (.int 1000))) (fCons (fOp dMod (fN dInt (fCons (fVar 5) fNil)) (fC (.int 1000))) (fCons (fOp dMod (fN dInt (fCons (fVar 6) fNil)) (fC (.int 1000))) fNil))))))))))))
  (sSeq (sDrop (eRev 1))
  (sRetO 1))))
def m__law_draws : List PyData → R PyData := runF 7 (sem__law_draws)
theorem body__law_draws (c : Ctx w K mg) (F__law_number : FnPP P w K mg base 1 "_law_number" ["cell"] .F (m__law_number)) : BodyOk P w K mg base ["script", "draws", "cell", "rest", "k", "once", "twice"] "_law_draws" (defScope st__law_draws) (He.ga K "_law_draws") 1 fun X W => DSs X W [false, true, false, false, false, false, false] [] .F (defBody st__law_draws) (sem__law_draws) := by
  intro cdv A outer s H E hr tk hp
  exact (ss_cons (s_set (i := 1) (bk := true) (e_lift (p_lst a_nil)) rfl (by decide) sc__law_draws.nd)
  (ss_cons (s_for (t := (.nm 2)) hp rfl (i_seq (e_lift (p_varV (i := 0)))) (pg_name (i := 2) sc__law_draws.nd rfl (by first | exact Or.inl rfl | exact Or.inr rfl)) (ss_cons (s_set (i := 3) (bk := false) (e_toV (e_lift (p_callF F__law_number tk (hr.mono (by omega)) (a_cons (p_toB (p_varV (i := 2))) a_nil)))) rfl (by decide) sc__law_draws.nd)
  (ss_one (s_if (et_lift (t_cm o_ge (p_toB (p_varV (i := 3))) p_int)) (ss_one (s_for (t := (.nm 4)) hp rfl (i_range1 (κ := .V) c.f_range (ea_lift (a_cons p_int a_nil)) (HLe.lift (by repeat (first | exact HL.nil | refine HL.cons ?_)))) (pg_name (i := 4) sc__law_draws.nd rfl (by first | exact Or.inl rfl | exact Or.inr rfl)) (ss_cons (s_if (et_lift (t_cm (o_eq hr.u64) (p_toB (p_varV (i := 3))) p_int)) (ss_one s_brk)
  ss_nil)
  (ss_cons (s_expr (e_append (i := 1) rfl (e_lift (p_bin o_mod (p_toB (p_tyE o_int c.f_int bt_int (a_cons (p_toB (p_varV (i := 3))) a_nil))) p_int))))
  (ss_one (s_set (i := 3) (bk := false) (e_toV (e_lift (p_bin o_div (p_toB (p_varV (i := 3))) p_int))) rfl (by decide) sc__law_draws.nd))))))
  (ss_cons (s_set (i := 5) (bk := false) (e_toV (e_lift (p_bin o_mod (p_toB (p_tyE o_int c.f_int bt_int (a_cons (p_toB (p_bin o_add (p_toB (p_bin o_mul (p_toB (p_varV (i := 3))) p_int)) p_int)) a_nil))) p_int))) rfl (by decide) sc__law_draws.nd)
  (ss_cons (s_set (i := 6) (bk := false) (e_toV (e_lift (p_bin o_mod (p_toB (p_tyE o_int c.f_int bt_int (a_cons (p_toB (p_bin o_add (p_toB (p_bin o_mul (p_toB (p_varV (i := 5))) p_int)) (p_toB (p_varV (i := 3))))) a_nil))) p_int))) rfl (by decide) sc__law_draws.nd)
  (ss_one (s_expr (e_extend (i := 1) rfl (e_toB (e_lift (p_lst (κ := .F) (a_cons (p_bin o_mod (p_toB (p_tyE o_int c.f_int bt_int (a_cons (p_toB (p_varV (i := 3))) a_nil))) p_int) (a_cons (p_bin o_mod (p_toB (p_tyE o_int c.f_int bt_int (a_cons (p_toB (p_varV (i := 5))) a_nil))) p_int) (a_cons (p_bin o_mod (p_toB (p_tyE o_int c.f_int bt_int (a_cons (p_toB (p_varV (i := 6))) a_nil))) p_int) a_nil)))))))))))))))
  (ss_cons (s_expr (e_reverse (i := 1) rfl))
  (ss_one (s_retO (i := 1) rfl)))))
theorem fp__law_draws (c : Ctx w K mg) (F__law_number : FnPP P w K mg base 1 "_law_number" ["cell"] .F (m__law_number)) : FnPP P w K mg base 2 "_law_draws" ["script"] .F (m__law_draws) := by
  obtain ⟨fd, F⟩ := c.d__law_draws
  have h : FnG P w K mg base (L2.CX P w) (1 + 1) (He.ga K "_law_draws") fd ["script"] (spP K (["script"] : List Str).length .F (runF (["script", "draws", "cell", "rest", "k", "once", "twice"] : List Str).length (sem__law_draws))) := fnP (P := P) (w := w) (base := base) (mg := mg) (ks := [false, true, false, false, false, false, false]) (k := 1) F sc__law_draws (by decide) (by decide) (by decide) (body__law_draws c F__law_number)
  have b : Binds K fd ["script"] [] := F.bindsN (fun _ _ _ _ _ _ us hl => match us, hl with | [_], _ => rfl)
  exact ⟨_, fd, h, c.g__law_draws, F.kp, b⟩

/-! ### _law_next -/
theorem sc__law_next : FnScope ["draws"] ["draws"] (defScope st__law_next) := ⟨rfl, rfl, rfl, by decide +kernel, rfl, by decide +kernel, by decide +kernel⟩
def sem__law_next : FS :=
  (sSeq (sIf (eLT (gTru dTru (fVar 0))) (sRet (ePop 0))
  sNil)
  (sRet (eL (fC (.int 0)))))
def m__law_next : PyData → List PyData → R (PyData × PyData) := runM 1 (sem__law_next)
theorem body__law_next (c : Ctx w K mg)  : BodyOk P w K mg base ["draws"] "_law_next" (defScope st__law_next) (He.ga K "_law_next") 0 fun X W => DSs X W [true] [0] .F (defBody st__law_next) (sem__law_next) := by
  intro cdv A outer s H E hr tk hp
  exact (ss_cons (s_if (et_lift (t_truth o_tru (p_varB (i := 0)))) (ss_one (s_ret (e_pop (i := 0) rfl)))
  ss_nil)
  (ss_one (s_ret (e_lift p_int))))
theorem fp__law_next (c : Ctx w K mg)  : FnMM P w K mg base 1 "_law_next" ["draws"] .F (m__law_next) := by
  obtain ⟨fd, F⟩ := c.d__law_next
  have h : FnG P w K mg base (L2.CX P w) (0 + 1) (He.ga K "_law_next") fd ["draws"] (spM K (([] : List Str).length + 1) .F (runM (["draws"] : List Str).length (sem__law_next))) := fnM (P := P) (w := w) (base := base) (mg := mg) (ks := [true]) (k := 0) F sc__law_next rfl (by decide) (by decide) (by decide) (body__law_next c )
  have b : Binds K fd ["draws"] [] := F.bindsN (fun _ _ _ _ _ _ us hl => match us, hl with | [_], _ => rfl)
  exact ⟨_, fd, h, c.g__law_next, F.kp, b⟩

/-! ### _law_more -/
theorem sc__law_more : FnScope ["draws", "many", "seed", "more", "k"] ["draws", "many"] (defScope st__law_more) := ⟨rfl, rfl, rfl, by decide +kernel, rfl, by decide +kernel, by decide +kernel⟩
def sem__law_more : FS :=
  (sSeq (sSet 2 (eOp dAdd (eOp dAdd (eOp dMul (eL (fC (.int 1000))) (eCallM 0 m__law_next (eLA fNil))) (eCallM 0 m__law_next (eLA fNil))) (eL (fC (.int 1)))))
  (sSeq (sSet 3 (eL (fLst fNil)))
  (sSeq (sFor (.nm 4) (eRg (eLA (fCons (fVar 1) fNil))) (sSeq (sSet 2 (eL (fOp dMod (fN dInt (fCons (fOp dAdd (fOp dMul (fVar 2) (fC (.int 48271))) (fC (.int 12345))) fNil)) (fC (.int 2147483647)))))
  (sDrop (eApp 3 (eL (fOp dMod (fN dInt (fCons (fOp dDiv (fVar 2) (fC (.int 7))) fNil)) (fC (.int 1000))))))))
  (sRet (eL (fOp dAdd (fVar 3) (fVar 0)))))))
def m__law_more : PyData → List PyData → R (PyData × PyData) := runM 5 (sem__law_more)
theorem body__law_more (c : Ctx w K mg) (F__law_next : FnMM P w K mg base 1 "_law_next" ["draws"] .F (m__law_next)) : BodyOk P w K mg base ["draws", "many", "seed", "more", "k"] "_law_more" (defScope st__law_more) (He.ga K "_law_more") 1 fun X W => DSs X W [true, false, false, true, false] [0] .F (defBody st__law_more) (sem__law_more) := by
  intro cdv A outer s H E hr tk hp
  exact (ss_cons (s_set (i := 2) (bk := false) (e_toV (e_bin o_add (e_toV (e_bin o_add (e_toV (e_bin o_mul (e_lift p_int) (e_toB (e_callM (i := 0) F__law_next tk (hr.mono (by omega)) rfl (ea_lift a_nil) (HLe.lift (by repeat (first | exact HL.nil | refine HL.cons ?_))))))) (e_toB (e_callM (i := 0) F__law_next tk (hr.mono (by omega)) rfl (ea_lift a_nil) (HLe.lift (by repeat (first | exact HL.nil | refine HL.cons ?_))))))) (e_lift p_int))) rfl (by decide) sc__law_more.nd)
  (ss_cons (s_set (i := 3) (bk := true) (e_lift (p_lst a_nil)) rfl (by decide) sc__law_more.nd)
  (ss_cons (s_for (t := (.nm 4)) hp rfl (i_range1 (κ := .V) c.f_range (ea_lift (a_cons (p_varV (i := 1)) a_nil)) (HLe.lift (by repeat (first | exact HL.nil | refine HL.cons ?_)))) (pg_name (i := 4) sc__law_more.nd rfl (by first | exact Or.inl rfl | exact Or.inr rfl)) (ss_cons (s_set (i := 2) (bk := false) (e_toV (e_lift (p_bin o_mod (p_toB (p_tyE o_int c.f_int bt_int (a_cons (p_toB (p_bin o_add (p_toB (p_bin o_mul (p_toB (p_varV (i := 2))) p_int)) p_int)) a_nil))) p_int))) rfl (by decide) sc__law_more.nd)
  (ss_one (s_expr (e_append (i := 3) rfl (e_lift (p_bin o_mod (p_toB (p_tyE o_int c.f_int bt_int (a_cons (p_toB (p_bin o_div (p_toB (p_varV (i := 2))) p_int)) a_nil))) p_int)))))))
  (ss_one (s_ret (e_lift (p_bin o_add (p_varB (i := 3)) (p_varB (i := 0)))))))))
theorem fp__law_more (c : Ctx w K mg) (F__law_next : FnMM P w K mg base 1 "_law_next" ["draws"] .F (m__law_next)) : FnMM P w K mg base 2 "_law_more" ["draws", "many"] .F (m__law_more) := by
  obtain ⟨fd, F⟩ := c.d__law_more
  have h : FnG P w K mg base (L2.CX P w) (1 + 1) (He.ga K "_law_more") fd ["draws", "many"] (spM K ((["many"] : List Str).length + 1) .F (runM (["draws", "many", "seed", "more", "k"] : List Str).length (sem__law_more))) := fnM (P := P) (w := w) (base := base) (mg := mg) (ks := [true, false, false, true, false]) (k := 1) F sc__law_more rfl (by decide) (by decide) (by decide) (body__law_more c F__law_next)
  have b : Binds K fd ["draws", "many"] [] := F.bindsN (fun _ _ _ _ _ _ us hl => match us, hl with | [_, _], _ => rfl)
  exact ⟨_, fd, h, c.g__law_more, F.kp, b⟩

/-! ### _law_common -/
theorem sc__law_common : FnScope ["one", "other", "turn"] ["one", "other"] (defScope st__law_common) := ⟨rfl, rfl, rfl, by decide +kernel, rfl, by decide +kernel, by decide +kernel⟩
def sem__law_common : FS :=
  (sSeq (sFor (.nm 2) (eRg (eLA (fCons (fC (.int 100000)) fNil))) (sSeq (sIf (eLT (gCmp dEq (fVar 1) (fC (.int 0)))) (fun ρ => .ok (.bk, ρ))
  sNil)
  (sPar 0 1 (eLA (fCons (fVar 1) (fCons (fOp dMod (fN dInt (fCons (fVar 0) fNil)) (fVar 1)) fNil))))))
  (sRet (eFlat (eL (fVar 0)))))
def m__law_common : List PyData → R PyData := runF 3 (sem__law_common)
theorem body__law_common (c : Ctx w K mg)  : BodyOk P w K mg base ["one", "other", "turn"] "_law_common" (defScope st__law_common) (He.ga K "_law_common") 0 fun X W => DSs X W [false, false, false] [] .F (defBody st__law_common) (sem__law_common) := by
  intro cdv A outer s H E hr tk hp
  exact (ss_cons (s_for (t := (.nm 2)) hp rfl (i_range1 (κ := .V) c.f_range (ea_lift (a_cons p_int a_nil)) (HLe.lift (by repeat (first | exact HL.nil | refine HL.cons ?_)))) (pg_name (i := 2) sc__law_common.nd rfl (by first | exact Or.inl rfl | exact Or.inr rfl)) (ss_cons (s_if (et_lift (t_cm (o_eq hr.u64) (p_toB (p_varV (i := 1))) p_int)) (ss_one s_brk)
  ss_nil)
  (ss_one (s_par (i := 0) (j := 1) rfl (ea_lift (a_cons (p_varV (i := 1)) (a_cons (p_toV (p_bin o_mod (p_toB (p_tyE o_int c.f_int bt_int (a_cons (p_toB (p_varV (i := 0))) a_nil))) (p_toB (p_varV (i := 1))))) a_nil))) sc__law_common.nd))))
  (ss_one (s_ret (e_flat (e_toB (e_lift (p_varV (i := 0))))))))
theorem fp__law_common (c : Ctx w K mg)  : FnPP P w K mg base 1 "_law_common" ["one", "other"] .F (m__law_common) := by
  obtain ⟨fd, F⟩ := c.d__law_common
  have h : FnG P w K mg base (L2.CX P w) (0 + 1) (He.ga K "_law_common") fd ["one", "other"] (spP K (["one", "other"] : List Str).length .F (runF (["one", "other", "turn"] : List Str).length (sem__law_common))) := fnP (P := P) (w := w) (base := base) (mg := mg) (ks := [false, false, false]) (k := 0) F sc__law_common (by decide) (by decide) (by decide) (body__law_common c )
  have b : Binds K fd ["one", "other"] [] := F.bindsN (fun _ _ _ _ _ _ us hl => match us, hl with | [_, _], _ => rfl)
  exact ⟨_, fd, h, c.g__law_common, F.kp, b⟩

/-! ### _law_least -/
theorem sc__law_least : FnScope ["top", "low", "part"] ["top", "low"] (defScope st__law_least) := ⟨rfl, rfl, rfl, by decide +kernel, rfl, by decide +kernel, by decide +kernel⟩
def sem__law_least : FS :=
  (sSeq (sSet 2 (eL (fCall m__law_common (fCons (fN dAbs (fCons (fVar 0) fNil)) (fCons (fVar 1) fNil)))))
  (sRet (eL (fTup (fCons (fOp dDiv (fVar 0) (fVar 2)) (fCons (fOp dDiv (fVar 1) (fVar 2)) fNil))))))
def m__law_least : List PyData → R PyData := runF 3 (sem__law_least)
theorem body__law_least (c : Ctx w K mg) (F__law_common : FnPP P w K mg base 1 "_law_common" ["one", "other"] .F (m__law_common)) : BodyOk P w K mg base ["top", "low", "part"] "_law_least" (defScope st__law_least) (He.ga K "_law_least") 1 fun X W => DSs X W [false, false, false] [] .F (defBody st__law_least) (sem__law_least) := by
  intro cdv A outer s H E hr tk hp
  exact (ss_cons (s_set (i := 2) (bk := false) (e_toV (e_lift (p_callF F__law_common tk (hr.mono (by omega)) (a_cons (p_toB (p_biE o_abs' c.f_abs bt_abs (a_cons (p_toB (p_varV (i := 0))) a_nil))) (a_cons (p_toB (p_varV (i := 1))) a_nil))))) rfl (by decide) sc__law_least.nd)
  (ss_one (s_ret (e_lift (p_tup (κ := .F) (a_cons (p_bin o_div (p_toB (p_varV (i := 0))) (p_toB (p_varV (i := 2)))) (a_cons (p_bin o_div (p_toB (p_varV (i := 1))) (p_toB (p_varV (i := 2)))) a_nil)))))))
theorem fp__law_least (c : Ctx w K mg) (F__law_common : FnPP P w K mg base 1 "_law_common" ["one", "other"] .F (m__law_common)) : FnPP P w K mg base 2 "_law_least" ["top", "low"] .F (m__law_least) := by
  obtain ⟨fd, F⟩ := c.d__law_least
  have h : FnG P w K mg base (L2.CX P w) (1 + 1) (He.ga K "_law_least") fd ["top", "low"] (spP K (["top", "low"] : List Str).length .F (runF (["top", "low", "part"] : List Str).length (sem__law_least))) := fnP (P := P) (w := w) (base := base) (mg := mg) (ks := [false, false, false]) (k := 1) F sc__law_least (by decide) (by decide) (by decide) (body__law_least c F__law_common)
  have b : Binds K fd ["top", "low"] [] := F.bindsN (fun _ _ _ _ _ _ us hl => match us, hl with | [_, _], _ => rfl)
  exact ⟨_, fd, h, c.g__law_least, F.kp, b⟩

/-! ### _law_add -/
theorem sc__law_add : FnScope ["one", "other"] ["one", "other"] (defScope st__law_add) := ⟨rfl, rfl, rfl, by decide +kernel, rfl, by decide +kernel, by decide +kernel⟩
def sem__law_add : FS :=
  (sRet (eL (fCall m__law_least (fCons (fOp dAdd (fOp dMul (fOp ixD (fVar 0) (fC (.int 0))) (fOp ixD (fVar 1) (fC (.int 1)))) (fOp dMul (fOp ixD (fVar 1) (fC (.int 0))) (fOp ixD (fVar 0) (fC (.int 1))))) (fCons (fOp dMul (fOp ixD (fVar 0) (fC (.int 1))) (fOp ixD (fVar 1) (fC (.int 1)))) fNil)))))
def m__law_add : List PyData → R PyData := runF 2 (sem__law_add)
theorem body__law_add (c : Ctx w K mg) (F__law_least : FnPP P w K mg base 2 "_law_least" ["top", "low"] .F (m__law_least)) : BodyOk P w K mg base ["one", "other"] "_law_add" (defScope st__law_add) (He.ga K "_law_add") 2 fun X W => DSs X W [false, false] [] .F (defBody st__law_add) (sem__law_add) := by
  intro cdv A outer s H E hr tk hp
  exact (ss_one (s_ret (e_lift (p_callF F__law_least tk (hr.mono (by omega)) (a_cons (p_toB (p_bin o_add (p_toB (p_bin o_mul (p_toB (p_ix (p_varV (i := 0)) p_int)) (p_toB (p_ix (p_varV (i := 1)) p_int)))) (p_toB (p_bin o_mul (p_toB (p_ix (p_varV (i := 1)) p_int)) (p_toB (p_ix (p_varV (i := 0)) p_int)))))) (a_cons (p_toB (p_bin o_mul (p_toB (p_ix (p_varV (i := 0)) p_int)) (p_toB (p_ix (p_varV (i := 1)) p_int)))) a_nil))))))
theorem fp__law_add (c : Ctx w K mg) (F__law_least : FnPP P w K mg base 2 "_law_least" ["top", "low"] .F (m__law_least)) : FnPP P w K mg base 3 "_law_add" ["one", "other"] .F (m__law_add) := by
  obtain ⟨fd, F⟩ := c.d__law_add
  have h : FnG P w K mg base (L2.CX P w) (2 + 1) (He.ga K "_law_add") fd ["one", "other"] (spP K (["one", "other"] : List Str).length .F (runF (["one", "other"] : List Str).length (sem__law_add))) := fnP (P := P) (w := w) (base := base) (mg := mg) (ks := [false, false]) (k := 2) F sc__law_add (by decide) (by decide) (by decide) (body__law_add c F__law_least)
  have b : Binds K fd ["one", "other"] [] := F.bindsN (fun _ _ _ _ _ _ us hl => match us, hl with | [_, _], _ => rfl)
  exact ⟨_, fd, h, c.g__law_add, F.kp, b⟩

/-! ### _law_times -/
theorem sc__law_times : FnScope ["one", "other"] ["one", "other"] (defScope st__law_times) := ⟨rfl, rfl, rfl, by decide +kernel, rfl, by decide +kernel, by decide +kernel⟩
def sem__law_times : FS :=
  (sRet (eL (fCall m__law_least (fCons (fOp dMul (fOp ixD (fVar 0) (fC (.int 0))) (fOp ixD (fVar 1) (fC (.int 0)))) (fCons (fOp dMul (fOp ixD (fVar 0) (fC (.int 1))) (fOp ixD (fVar 1) (fC (.int 1)))) fNil)))))
def m__law_times : List PyData → R PyData := runF 2 (sem__law_times)
theorem body__law_times (c : Ctx w K mg) (F__law_least : FnPP P w K mg base 2 "_law_least" ["top", "low"] .F (m__law_least)) : BodyOk P w K mg base ["one", "other"] "_law_times" (defScope st__law_times) (He.ga K "_law_times") 2 fun X W => DSs X W [false, false] [] .F (defBody st__law_times) (sem__law_times) := by
  intro cdv A outer s H E hr tk hp
  exact (ss_one (s_ret (e_lift (p_callF F__law_least tk (hr.mono (by omega)) (a_cons (p_toB (p_bin o_mul (p_toB (p_ix (p_varV (i := 0)) p_int)) (p_toB (p_ix (p_varV (i := 1)) p_int)))) (a_cons (p_toB (p_bin o_mul (p_toB (p_ix (p_varV (i := 0)) p_int)) (p_toB (p_ix (p_varV (i := 1)) p_int)))) a_nil))))))
theorem fp__law_times (c : Ctx w K mg) (F__law_least : FnPP P w K mg base 2 "_law_least" ["top", "low"] .F (m__law_least)) : FnPP P w K mg base 3 "_law_times" ["one", "other"] .F (m__law_times) := by
  obtain ⟨fd, F⟩ := c.d__law_times
  have h : FnG P w K mg base (L2.CX P w) (2 + 1) (He.ga K "_law_times") fd ["one", "other"] (spP K (["one", "other"] : List Str).length .F (runF (["one", "other"] : List Str).length (sem__law_times))) := fnP (P := P) (w := w) (base := base) (mg := mg) (ks := [false, false]) (k := 2) F sc__law_times (by decide) (by decide) (by decide) (body__law_times c F__law_least)
  have b : Binds K fd ["one", "other"] [] := F.bindsN (fun _ _ _ _ _ _ us hl => match us, hl with | [_, _], _ => rfl)
  exact ⟨_, fd, h, c.g__law_times, F.kp, b⟩

/-! ### _law_costs -/
theorem sc__law_costs : FnScope ["roads", "parting", "at"] ["roads", "parting"] (defScope st__law_costs) := ⟨rfl, rfl, rfl, by decide +kernel, rfl, by decide +kernel, by decide +kernel⟩
def sem__law_costs : FS :=
  (sRet (eL (fLc (.nm 2) [2] (fRg (fCons (fN dLen (fCons (fVar 0) fNil)) fNil)) gYes (fCall m__law_add (fCons (fOp ixD (fOp ixD (fVar 0) (fVar 2)) (fC (.int 0))) (fCons (fCall m__law_times (fCons (fOp ixD (fOp ixD (fVar 0) (fVar 2)) (fC (.int 1))) (fCons (fOp ixD (fVar 1) (fVar 2)) fNil))) fNil))))))
def m__law_costs : List PyData → R PyData := runF 3 (sem__law_costs)
theorem body__law_costs (c : Ctx w K mg) (F__law_add : FnPP P w K mg base 3 "_law_add" ["one", "other"] .F (m__law_add)) (F__law_times : FnPP P w K mg base 3 "_law_times" ["one", "other"] .F (m__law_times)) : BodyOk P w K mg base ["roads", "parting", "at"] "_law_costs" (defScope st__law_costs) (He.ga K "_law_costs") 3 fun X W => DSs X W [false, false, false] [] .F (defBody st__law_costs) (sem__law_costs) := by
  intro cdv A outer s H E hr tk hp
  exact (ss_one (s_ret (e_lift (p_lc (κ := .F) (own := [("at", 2)]) (t := (.nm 2)) rfl sc__law_costs.nd (i_range1P (κ := .B) c.f_range (a_cons (p_toB (p_biE o_len' c.f_len bt_len (a_cons (p_toB (p_varV (i := 0))) a_nil))) a_nil)) (blkOk_by (N := ["roads", "parting", "at"]) (sc := defScope st__law_costs) (by decide +kernel)) (by decide) (by decide) (fun _ _ _ _ _ => (pg_name (i := 2) sc__law_costs.nd rfl (by first | exact Or.inl rfl | exact Or.inr rfl))) (fun _ _ _ _ _ => ts_nil) (fun _ _ _ _ _ => (p_callF F__law_add takes0' (hr.mono (by omega)) (a_cons (p_toB (p_ix (p_ix (p_varV (i := 0)) (p_toB (p_varV (i := 2)))) p_int)) (a_cons (p_toB (p_callF F__law_times takes0' (hr.mono (by omega)) (a_cons (p_toB (p_ix (p_ix (p_varV (i := 0)) (p_toB (p_varV (i := 2)))) p_int)) (a_cons (p_toB (p_ix (p_varV (i := 1)) (p_toB (p_varV (i := 2))))) a_nil)))) a_nil))))))))
theorem fp__law_costs (c : Ctx w K mg) (F__law_add : FnPP P w K mg base 3 "_law_add" ["one", "other"] .F (m__law_add)) (F__law_times : FnPP P w K mg base 3 "_law_times" ["one", "other"] .F (m__law_times)) : FnPP P w K mg base 4 "_law_costs" ["roads", "parting"] .F (m__law_costs) := by
  obtain ⟨fd, F⟩ := c.d__law_costs
  have h : FnG P w K mg base (L2.CX P w) (3 + 1) (He.ga K "_law_costs") fd ["roads", "parting"] (spP K (["roads", "parting"] : List Str).length .F (runF (["roads", "parting", "at"] : List Str).length (sem__law_costs))) := fnP (P := P) (w := w) (base := base) (mg := mg) (ks := [false, false, false]) (k := 3) F sc__law_costs (by decide) (by decide) (by decide) (body__law_costs c F__law_add F__law_times)
  have b : Binds K fd ["roads", "parting"] [] := F.bindsN (fun _ _ _ _ _ _ us hl => match us, hl with | [_, _], _ => rfl)
  exact ⟨_, fd, h, c.g__law_costs, F.kp, b⟩

/-! ### common -/
theorem sc_common : FnScope ["one", "other"] ["one", "other"] (defScope st_common) := ⟨rfl, rfl, rfl, by decide +kernel, rfl, by decide +kernel, by decide +kernel⟩
def sem_common : FS :=
  (sSeq (sWhile (eLT (gTru dTru (fVar 1))) (sPar 0 1 (eLA (fCons (fVar 1) (fCons (fOp dMod (fVar 0) (fVar 1)) fNil)))))
  (sRet (eFlat (eL (fVar 0)))))
def m_common : List PyData → R PyData := runF 2 (sem_common)
theorem body_common (c : Ctx w K mg)  : BodyOk P w K mg base ["one", "other"] "common" (defScope st_common) (He.ga K "common") 0 fun X W => DSs X W [false, false] [] .F (defBody st_common) (sem_common) := by
  intro cdv A outer s H E hr tk hp
  exact (ss_cons (s_while hp (et_lift (t_truth o_tru (p_toB (p_varV (i := 1))))) (ss_one (s_par (i := 0) (j := 1) rfl (ea_lift (a_cons (p_varV (i := 1)) (a_cons (p_toV (p_bin o_mod (p_toB (p_varV (i := 0))) (p_toB (p_varV (i := 1))))) a_nil))) sc_common.nd)))
  (ss_one (s_ret (e_flat (e_toB (e_lift (p_varV (i := 0))))))))
theorem fp_common (c : Ctx w K mg)  : FnPP P w K mg base 1 "common" ["one", "other"] .F (m_common) := by
  obtain ⟨fd, F⟩ := c.d_common
  have h : FnG P w K mg base (L2.CX P w) (0 + 1) (He.ga K "common") fd ["one", "other"] (spP K (["one", "other"] : List Str).length .F (runF (["one", "other"] : List Str).length (sem_common))) := fnP (P := P) (w := w) (base := base) (mg := mg) (ks := [false, false]) (k := 0) F sc_common (by decide) (by decide) (by decide) (body_common c )
  have b : Binds K fd ["one", "other"] [] := F.bindsN (fun _ _ _ _ _ _ us hl => match us, hl with | [_, _], _ => rfl)
  exact ⟨_, fd, h, c.g_common, F.kp, b⟩

/-! ### least_terms -/
theorem sc_least_terms : FnScope ["top", "low", "part"] ["top", "low"] (defScope st_least_terms) := ⟨rfl, rfl, rfl, by decide +kernel, rfl, by decide +kernel, by decide +kernel⟩
def sem_least_terms : FS :=
  (sSeq (sSet 2 (eL (fCall m_common (fCons (fN dAbs (fCons (fVar 0) fNil)) (fCons (fVar 1) fNil)))))
  (sRet (eL (fTup (fCons (fOp dDiv (fVar 0) (fVar 2)) (fCons (fOp dDiv (fVar 1) (fVar 2)) fNil))))))
def m_least_terms : List PyData → R PyData := runF 3 (sem_least_terms)
theorem body_least_terms (c : Ctx w K mg) (F_common : FnPP P w K mg base 1 "common" ["one", "other"] .F (m_common)) : BodyOk P w K mg base ["top", "low", "part"] "least_terms" (defScope st_least_terms) (He.ga K "least_terms") 1 fun X W => DSs X W [false, false, false] [] .F (defBody st_least_terms) (sem_least_terms) := by
  intro cdv A outer s H E hr tk hp
  exact (ss_cons (s_set (i := 2) (bk := false) (e_toV (e_lift (p_callF F_common tk (hr.mono (by omega)) (a_cons (p_toB (p_biE o_abs' c.f_abs bt_abs (a_cons (p_toB (p_varV (i := 0))) a_nil))) (a_cons (p_toB (p_varV (i := 1))) a_nil))))) rfl (by decide) sc_least_terms.nd)
  (ss_one (s_ret (e_lift (p_tup (κ := .F) (a_cons (p_bin o_div (p_toB (p_varV (i := 0))) (p_toB (p_varV (i := 2)))) (a_cons (p_bin o_div (p_toB (p_varV (i := 1))) (p_toB (p_varV (i := 2)))) a_nil)))))))
theorem fp_least_terms (c : Ctx w K mg) (F_common : FnPP P w K mg base 1 "common" ["one", "other"] .F (m_common)) : FnPP P w K mg base 2 "least_terms" ["top", "low"] .F (m_least_terms) := by
  obtain ⟨fd, F⟩ := c.d_least_terms
  have h : FnG P w K mg base (L2.CX P w) (1 + 1) (He.ga K "least_terms") fd ["top", "low"] (spP K (["top", "low"] : List Str).length .F (runF (["top", "low", "part"] : List Str).length (sem_least_terms))) := fnP (P := P) (w := w) (base := base) (mg := mg) (ks := [false, false, false]) (k := 1) F sc_least_terms (by decide) (by decide) (by decide) (body_least_terms c F_common)
  have b : Binds K fd ["top", "low"] [] := F.bindsN (fun _ _ _ _ _ _ us hl => match us, hl with | [_, _], _ => rfl)
  exact ⟨_, fd, h, c.g_least_terms, F.kp, b⟩

/-! ### add -/
theorem sc_add : FnScope ["one", "other"] ["one", "other"] (defScope st_add) := ⟨rfl, rfl, rfl, by decide +kernel, rfl, by decide +kernel, by decide +kernel⟩
def sem_add : FS :=
  (sRet (eL (fCall m_least_terms (fCons (fOp dAdd (fOp dMul (fOp ixD (fVar 0) (fC (.int 0))) (fOp ixD (fVar 1) (fC (.int 1)))) (fOp dMul (fOp ixD (fVar 1) (fC (.int 0))) (fOp ixD (fVar 0) (fC (.int 1))))) (fCons (fOp dMul (fOp ixD (fVar 0) (fC (.int 1))) (fOp ixD (fVar 1) (fC (.int 1)))) fNil)))))
def m_add : List PyData → R PyData := runF 2 (sem_add)
theorem body_add (c : Ctx w K mg) (F_least_terms : FnPP P w K mg base 2 "least_terms" ["top", "low"] .F (m_least_terms)) : BodyOk P w K mg base ["one", "other"] "add" (defScope st_add) (He.ga K "add") 2 fun X W => DSs X W [false, false] [] .F (defBody st_add) (sem_add) := by
  intro cdv A outer s H E hr tk hp
  exact (ss_one (s_ret (e_lift (p_callF F_least_terms tk (hr.mono (by omega)) (a_cons (p_toB (p_bin o_add (p_toB (p_bin o_mul (p_toB (p_ix (p_varV (i := 0)) p_int)) (p_toB (p_ix (p_varV (i := 1)) p_int)))) (p_toB (p_bin o_mul (p_toB (p_ix (p_varV (i := 1)) p_int)) (p_toB (p_ix (p_varV (i := 0)) p_int)))))) (a_cons (p_toB (p_bin o_mul (p_toB (p_ix (p_varV (i := 0)) p_int)) (p_toB (p_ix (p_varV (i := 1)) p_int)))) a_nil))))))
theorem fp_add (c : Ctx w K mg) (F_least_terms : FnPP P w K mg base 2 "least_terms" ["top", "low"] .F (m_least_terms)) : FnPP P w K mg base 3 "add" ["one", "other"] .F (m_add) := by
  obtain ⟨fd, F⟩ := c.d_add
  have h : FnG P w K mg base (L2.CX P w) (2 + 1) (He.ga K "add") fd ["one", "other"] (spP K (["one", "other"] : List Str).length .F (runF (["one", "other"] : List Str).length (sem_add))) := fnP (P := P) (w := w) (base := base) (mg := mg) (ks := [false, false]) (k := 2) F sc_add (by decide) (by decide) (by decide) (body_add c F_least_terms)
  have b : Binds K fd ["one", "other"] [] := F.bindsN (fun _ _ _ _ _ _ us hl => match us, hl with | [_, _], _ => rfl)
  exact ⟨_, fd, h, c.g_add, F.kp, b⟩

/-! ### total -/
theorem sc_total : FnScope ["fractions", "found", "fraction"] ["fractions"] (defScope st_total) := ⟨rfl, rfl, rfl, by decide +kernel, rfl, by decide +kernel, by decide +kernel⟩
def sem_total : FS :=
  (sSeq (sSet 1 (eL (fTup (fCons (fC (.int 0)) (fCons (fC (.int 1)) fNil)))))
  (sSeq (sFor (.nm 2) (eIt (eL (fVar 0))) (sSet 1 (eL (fCall m_add (fCons (fVar 1) (fCons (fVar 2) fNil))))))
  (sRet (eFlat (eL (fVar 1))))))
def m_total : List PyData → R PyData := runF 3 (sem_total)
theorem body_total (c : Ctx w K mg) (F_add : FnPP P w K mg base 3 "add" ["one", "other"] .F (m_add)) : BodyOk P w K mg base ["fractions", "found", "fraction"] "total" (defScope st_total) (He.ga K "total") 3 fun X W => DSs X W [false, false, false] [] .F (defBody st_total) (sem_total) := by
  intro cdv A outer s H E hr tk hp
  exact (ss_cons (s_set (i := 1) (bk := false) (e_toV (e_lift (p_tup (κ := .F) (a_cons p_int (a_cons p_int a_nil))))) rfl (by decide) sc_total.nd)
  (ss_cons (s_for (t := (.nm 2)) hp rfl (i_seq (e_lift (p_varV (i := 0)))) (pg_name (i := 2) sc_total.nd rfl (by first | exact Or.inl rfl | exact Or.inr rfl)) (ss_one (s_set (i := 1) (bk := false) (e_toV (e_lift (p_callF F_add tk (hr.mono (by omega)) (a_cons (p_toB (p_varV (i := 1))) (a_cons (p_toB (p_varV (i := 2))) a_nil))))) rfl (by decide) sc_total.nd)))
  (ss_one (s_ret (e_flat (e_toB (e_lift (p_varV (i := 1)))))))))
theorem fp_total (c : Ctx w K mg) (F_add : FnPP P w K mg base 3 "add" ["one", "other"] .F (m_add)) : FnPP P w K mg base 4 "total" ["fractions"] .F (m_total) := by
  obtain ⟨fd, F⟩ := c.d_total
  have h : FnG P w K mg base (L2.CX P w) (3 + 1) (He.ga K "total") fd ["fractions"] (spP K (["fractions"] : List Str).length .F (runF (["fractions", "found", "fraction"] : List Str).length (sem_total))) := fnP (P := P) (w := w) (base := base) (mg := mg) (ks := [false, false, false]) (k := 3) F sc_total (by decide) (by decide) (by decide) (body_total c F_add)
  have b : Binds K fd ["fractions"] [] := F.bindsN (fun _ _ _ _ _ _ us hl => match us, hl with | [_], _ => rfl)
  exact ⟨_, fd, h, c.g_total, F.kp, b⟩

/-! ### times -/
theorem sc_times : FnScope ["one", "other"] ["one", "other"] (defScope st_times) := ⟨rfl, rfl, rfl, by decide +kernel, rfl, by decide +kernel, by decide +kernel⟩
def sem_times : FS :=
  (sRet (eL (fCall m_least_terms (fCons (fOp dMul (fOp ixD (fVar 0) (fC (.int 0))) (fOp ixD (fVar 1) (fC (.int 0)))) (fCons (fOp dMul (fOp ixD (fVar 0) (fC (.int 1))) (fOp ixD (fVar 1) (fC (.int 1)))) fNil)))))
def m_times : List PyData → R PyData := runF 2 (sem_times)
theorem body_times (c : Ctx w K mg) (F_least_terms : FnPP P w K mg base 2 "least_terms" ["top", "low"] .F (m_least_terms)) : BodyOk P w K mg base ["one", "other"] "times" (defScope st_times) (He.ga K "times") 2 fun X W => DSs X W [false, false] [] .F (defBody st_times) (sem_times) := by
  intro cdv A outer s H E hr tk hp
  exact (ss_one (s_ret (e_lift (p_callF F_least_terms tk (hr.mono (by omega)) (a_cons (p_toB (p_bin o_mul (p_toB (p_ix (p_varV (i := 0)) p_int)) (p_toB (p_ix (p_varV (i := 1)) p_int)))) (a_cons (p_toB (p_bin o_mul (p_toB (p_ix (p_varV (i := 0)) p_int)) (p_toB (p_ix (p_varV (i := 1)) p_int)))) a_nil))))))
theorem fp_times (c : Ctx w K mg) (F_least_terms : FnPP P w K mg base 2 "least_terms" ["top", "low"] .F (m_least_terms)) : FnPP P w K mg base 3 "times" ["one", "other"] .F (m_times) := by
  obtain ⟨fd, F⟩ := c.d_times
  have h : FnG P w K mg base (L2.CX P w) (2 + 1) (He.ga K "times") fd ["one", "other"] (spP K (["one", "other"] : List Str).length .F (runF (["one", "other"] : List Str).length (sem_times))) := fnP (P := P) (w := w) (base := base) (mg := mg) (ks := [false, false]) (k := 2) F sc_times (by decide) (by decide) (by decide) (body_times c F_least_terms)
  have b : Binds K fd ["one", "other"] [] := F.bindsN (fun _ _ _ _ _ _ us hl => match us, hl with | [_, _], _ => rfl)
  exact ⟨_, fd, h, c.g_times, F.kp, b⟩

/-! ### sum_by -/
theorem sc_sum_by : FnScope ["roads", "parting", "stream", "a", "b"] ["roads", "parting"] (defScope st_sum_by) := ⟨rfl, rfl, rfl, by decide +kernel, rfl, by decide +kernel, by decide +kernel⟩
def sem_sum_by : FS :=
  (sRet (eL (fCall m_total (fCons (fLc (.tp [(.tp [(.nm 3), (.nm 4)]), (.nm 2)]) [3, 4, 2] (fZip (fCons (fVar 0) (fCons (fVar 1) fNil))) gYes (fCall m_times (fCons (fVar 2) (fCons (fCall m_add (fCons (fVar 3) (fCons (fCall m_times (fCons (fVar 4) (fCons (fVar 2) fNil))) fNil))) fNil)))) fNil))))
def m_sum_by : List PyData → R PyData := runF 5 (sem_sum_by)
theorem body_sum_by (c : Ctx w K mg) (F_add : FnPP P w K mg base 3 "add" ["one", "other"] .F (m_add)) (F_total : FnPP P w K mg base 4 "total" ["fractions"] .F (m_total)) (F_times : FnPP P w K mg base 3 "times" ["one", "other"] .F (m_times)) : BodyOk P w K mg base ["roads", "parting", "stream", "a", "b"] "sum_by" (defScope st_sum_by) (He.ga K "sum_by") 4 fun X W => DSs X W [false, false, false, false, false] [] .F (defBody st_sum_by) (sem_sum_by) := by
  intro cdv A outer s H E hr tk hp
  exact (ss_one (s_ret (e_lift (p_callF F_total tk (hr.mono (by omega)) (a_cons (p_toB (p_lc (κ := .F) (own := [("a", 3), ("b", 4), ("stream", 2)]) (t := (.tp [(.tp [(.nm 3), (.nm 4)]), (.nm 2)])) rfl sc_sum_by.nd (i_zipP c.f_zip (a_cons (p_varV (i := 0)) (a_cons (p_varV (i := 1)) a_nil))) (blkOk_by (N := ["roads", "parting", "stream", "a", "b"]) (sc := defScope st_sum_by) (by decide +kernel)) (by decide) (by decide) (fun _ _ _ _ _ => (pg_tup rfl (pgs_cons (pg_tup rfl (pgs_cons (pg_name (i := 3) sc_sum_by.nd rfl (by first | exact Or.inl rfl | exact Or.inr rfl)) (pgs_cons (pg_name (i := 4) sc_sum_by.nd rfl (by first | exact Or.inl rfl | exact Or.inr rfl)) pgs_nil)) rfl rfl) (pgs_cons (pg_name (i := 2) sc_sum_by.nd rfl (by first | exact Or.inl rfl | exact Or.inr rfl)) pgs_nil)) rfl rfl)) (fun _ _ _ _ _ => ts_nil) (fun _ _ _ _ _ => (p_callF F_times takes0' (hr.mono (by omega)) (a_cons (p_toB (p_varV (i := 2))) (a_cons (p_toB (p_callF F_add takes0' (hr.mono (by omega)) (a_cons (p_toB (p_varV (i := 3))) (a_cons (p_toB (p_callF F_times takes0' (hr.mono (by omega)) (a_cons (p_toB (p_varV (i := 4))) (a_cons (p_toB (p_varV (i := 2))) a_nil)))) a_nil)))) a_nil)))))) a_nil)))))
theorem fp_sum_by (c : Ctx w K mg) (F_add : FnPP P w K mg base 3 "add" ["one", "other"] .F (m_add)) (F_total : FnPP P w K mg base 4 "total" ["fractions"] .F (m_total)) (F_times : FnPP P w K mg base 3 "times" ["one", "other"] .F (m_times)) : FnPP P w K mg base 5 "sum_by" ["roads", "parting"] .F (m_sum_by) := by
  obtain ⟨fd, F⟩ := c.d_sum_by
  have h : FnG P w K mg base (L2.CX P w) (4 + 1) (He.ga K "sum_by") fd ["roads", "parting"] (spP K (["roads", "parting"] : List Str).length .F (runF (["roads", "parting", "stream", "a", "b"] : List Str).length (sem_sum_by))) := fnP (P := P) (w := w) (base := base) (mg := mg) (ks := [false, false, false, false, false]) (k := 4) F sc_sum_by (by decide) (by decide) (by decide) (body_sum_by c F_add F_total F_times)
  have b : Binds K fd ["roads", "parting"] [] := F.bindsN (fun _ _ _ _ _ _ us hl => match us, hl with | [_, _], _ => rfl)
  exact ⟨_, fd, h, c.g_sum_by, F.kp, b⟩

/-! ### is_fraction -/
theorem sc_is_fraction : FnScope ["pair"] ["pair"] (defScope st_is_fraction) := ⟨rfl, rfl, rfl, by decide +kernel, rfl, by decide +kernel, by decide +kernel⟩
def sem_is_fraction : FS :=
  (sRet (eL (fAnd (fOfB (gCmp dEq (fN dLen (fCons (fVar 0) fNil)) (fC (.int 2)))) (fAnd (fOfB (gCmp dGt (fOp ixD (fVar 0) (fC (.int 1))) (fC (.int 0)))) (fOfB (gCmp dEq (fCall m_common (fCons (fN dAbs (fCons (fOp ixD (fVar 0) (fC (.int 0))) fNil)) (fCons (fOp ixD (fVar 0) (fC (.int 1))) fNil))) (fC (.int 1))))))))
def m_is_fraction : List PyData → R PyData := runF 1 (sem_is_fraction)
theorem body_is_fraction (c : Ctx w K mg) (F_common : FnPP P w K mg base 1 "common" ["one", "other"] .F (m_common)) : BodyOk P w K mg base ["pair"] "is_fraction" (defScope st_is_fraction) (He.ga K "is_fraction") 1 fun X W => DSs X W [false] [] .F (defBody st_is_fraction) (sem_is_fraction) := by
  intro cdv A outer s H E hr tk hp
  exact (ss_one (s_ret (e_lift (p_and (p_toB (p_cm (o_eq hr.u64) (p_toB (p_biE o_len' c.f_len bt_len (a_cons (p_toB (p_varV (i := 0))) a_nil))) p_int)) (p_and (p_toB (p_cm o_gt (p_toB (p_ix (p_varV (i := 0)) p_int)) p_int)) (p_one (p_cm (o_eq hr.u64) (p_toB (p_callF F_common tk (hr.mono (by omega)) (a_cons (p_toB (p_biE o_abs' c.f_abs bt_abs (a_cons (p_toB (p_ix (p_varV (i := 0)) p_int)) a_nil))) (a_cons (p_toB (p_ix (p_varV (i := 0)) p_int)) a_nil)))) p_int)))))))
theorem fp_is_fraction (c : Ctx w K mg) (F_common : FnPP P w K mg base 1 "common" ["one", "other"] .F (m_common)) : FnPP P w K mg base 2 "is_fraction" ["pair"] .F (m_is_fraction) := by
  obtain ⟨fd, F⟩ := c.d_is_fraction
  have h : FnG P w K mg base (L2.CX P w) (1 + 1) (He.ga K "is_fraction") fd ["pair"] (spP K (["pair"] : List Str).length .F (runF (["pair"] : List Str).length (sem_is_fraction))) := fnP (P := P) (w := w) (base := base) (mg := mg) (ks := [false]) (k := 1) F sc_is_fraction (by decide) (by decide) (by decide) (body_is_fraction c F_common)
  have b : Binds K fd ["pair"] [] := F.bindsN (fun _ _ _ _ _ _ us hl => match us, hl with | [_], _ => rfl)
  exact ⟨_, fd, h, c.g_is_fraction, F.kp, b⟩

/-! ### is_cost -/
theorem sc_is_cost : FnScope ["pair"] ["pair"] (defScope st_is_cost) := ⟨rfl, rfl, rfl, by decide +kernel, rfl, by decide +kernel, by decide +kernel⟩
def sem_is_cost : FS :=
  (sRet (eL (fAnd (fCall m_is_fraction (fCons (fVar 0) fNil)) (fAnd (fOfB (gChain dLe dLe (fC (.int 0)) (fOp ixD (fVar 0) (fC (.int 0))) (fC (.int 1000)))) (fOfB (gCmp dLe (fOp ixD (fVar 0) (fC (.int 1))) (fC (.int 1000))))))))
def m_is_cost : List PyData → R PyData := runF 1 (sem_is_cost)
theorem body_is_cost (c : Ctx w K mg) (F_is_fraction : FnPP P w K mg base 2 "is_fraction" ["pair"] .F (m_is_fraction)) : BodyOk P w K mg base ["pair"] "is_cost" (defScope st_is_cost) (He.ga K "is_cost") 2 fun X W => DSs X W [false] [] .F (defBody st_is_cost) (sem_is_cost) := by
  intro cdv A outer s H E hr tk hp
  exact (ss_one (s_ret (e_lift (p_and (p_toB (p_callF F_is_fraction tk (hr.mono (by omega)) (a_cons (p_toB (p_varV (i := 0))) a_nil))) (p_and (p_toB (p_ch o_le o_le p_int (p_toB (p_ix (p_varV (i := 0)) p_int)) (p_globI c.i_MOST_COST))) (p_one (p_cm o_le (p_toB (p_ix (p_varV (i := 0)) p_int)) (p_globI c.i_MOST_COST))))))))
theorem fp_is_cost (c : Ctx w K mg) (F_is_fraction : FnPP P w K mg base 2 "is_fraction" ["pair"] .F (m_is_fraction)) : FnPP P w K mg base 3 "is_cost" ["pair"] .F (m_is_cost) := by
  obtain ⟨fd, F⟩ := c.d_is_cost
  have h : FnG P w K mg base (L2.CX P w) (2 + 1) (He.ga K "is_cost") fd ["pair"] (spP K (["pair"] : List Str).length .F (runF (["pair"] : List Str).length (sem_is_cost))) := fnP (P := P) (w := w) (base := base) (mg := mg) (ks := [false]) (k := 2) F sc_is_cost (by decide) (by decide) (by decide) (body_is_cost c F_is_fraction)
  have b : Binds K fd ["pair"] [] := F.bindsN (fun _ _ _ _ _ _ us hl => match us, hl with | [_], _ => rfl)
  exact ⟨_, fd, h, c.g_is_cost, F.kp, b⟩

/-! ### are_roads -/
theorem sc_are_roads : FnScope ["roads", "a", "b", "road"] ["roads"] (defScope st_are_roads) := ⟨rfl, rfl, rfl, by decide +kernel, rfl, by decide +kernel, by decide +kernel⟩
def sem_are_roads : FS :=
  (sSeq (sIf (eLT (gOr (gNot (gChain dLe dLe (fC (.int 1)) (fN dLen (fCons (fVar 0) fNil)) (fC (.int 8)))) (gNot (gTru dTru (fN dAll (fCons (fLc (.nm 3) [3] (fIt (fVar 0)) gYes (fOfB (gCmp dEq (fN dLen (fCons (fVar 3) fNil)) (fC (.int 2))))) fNil)))))) (sRet (eL (fC (.bool false))))
  sNil)
  (sRet (eL (fN dAll (fCons (fLc (.tp [(.nm 1), (.nm 2)]) [1, 2] (fIt (fVar 0)) gYes (fAnd (fCall m_is_cost (fCons (fVar 1) fNil)) (fAnd (fCall m_is_cost (fCons (fVar 2) fNil)) (fOr (fOfB (gCmp dGt (fOp ixD (fVar 1) (fC (.int 0))) (fC (.int 0)))) (fOfB (gCmp dGt (fOp ixD (fVar 2) (fC (.int 0))) (fC (.int 0)))))))) fNil)))))
def m_are_roads : List PyData → R PyData := runF 4 (sem_are_roads)
theorem body_are_roads (c : Ctx w K mg) (F_is_cost : FnPP P w K mg base 3 "is_cost" ["pair"] .F (m_is_cost)) : BodyOk P w K mg base ["roads", "a", "b", "road"] "are_roads" (defScope st_are_roads) (He.ga K "are_roads") 3 fun X W => DSs X W [false, false, false, false] [] .F (defBody st_are_roads) (sem_are_roads) := by
  intro cdv A outer s H E hr tk hp
  exact (ss_cons (s_if (et_lift (t_w (w_or (t_not (t_ch o_le o_le p_int (p_toB (p_biE o_len' c.f_len bt_len (a_cons (p_toB (p_varV (i := 0))) a_nil))) (p_globI c.i_MOST_ROADS))) (w_or1 (t_not (t_truth o_tru (p_toB (p_biE (o_all' rfl) c.f_all bt_all (a_cons (p_toB (p_lc (κ := .F) (own := [("road", 3)]) (t := (.nm 3)) rfl sc_are_roads.nd (i_seqP (p_varV (i := 0))) (blkOk_by (N := ["roads", "a", "b", "road"]) (sc := defScope st_are_roads) (by decide +kernel)) (by decide) (by decide) (fun _ _ _ _ _ => (pg_name (i := 3) sc_are_roads.nd rfl (by first | exact Or.inl rfl | exact Or.inr rfl))) (fun _ _ _ _ _ => ts_nil) (fun _ _ _ _ _ => (p_cm (o_eq hr.u64) (p_toB (p_biE o_len' c.f_len bt_len (a_cons (p_toB (p_varV (i := 3))) a_nil))) p_int)))) a_nil))))))))) (ss_one (s_ret (e_lift p_bl)))
  ss_nil)
  (ss_one (s_ret (e_lift (p_biE (o_all' rfl) c.f_all bt_all (a_cons (p_toB (p_lc (κ := .F) (own := [("a", 1), ("b", 2)]) (t := (.tp [(.nm 1), (.nm 2)])) rfl sc_are_roads.nd (i_seqP (p_varV (i := 0))) (blkOk_by (N := ["roads", "a", "b", "road"]) (sc := defScope st_are_roads) (by decide +kernel)) (by decide) (by decide) (fun _ _ _ _ _ => (pg_tup rfl (pgs_cons (pg_name (i := 1) sc_are_roads.nd rfl (by first | exact Or.inl rfl | exact Or.inr rfl)) (pgs_cons (pg_name (i := 2) sc_are_roads.nd rfl (by first | exact Or.inl rfl | exact Or.inr rfl)) pgs_nil)) rfl rfl)) (fun _ _ _ _ _ => ts_nil) (fun _ _ _ _ _ => (p_and (p_toB (p_callF F_is_cost takes0' (hr.mono (by omega)) (a_cons (p_toB (p_varV (i := 1))) a_nil))) (p_and (p_toB (p_callF F_is_cost takes0' (hr.mono (by omega)) (a_cons (p_toB (p_varV (i := 2))) a_nil))) (p_one (p_or (p_toB (p_cm o_gt (p_toB (p_ix (p_varV (i := 1)) p_int)) p_int)) (p_one (p_cm o_gt (p_toB (p_ix (p_varV (i := 2)) p_int)) p_int))))))))) a_nil))))))
theorem fp_are_roads (c : Ctx w K mg) (F_is_cost : FnPP P w K mg base 3 "is_cost" ["pair"] .F (m_is_cost)) : FnPP P w K mg base 4 "are_roads" ["roads"] .F (m_are_roads) := by
  obtain ⟨fd, F⟩ := c.d_are_roads
  have h : FnG P w K mg base (L2.CX P w) (3 + 1) (He.ga K "are_roads") fd ["roads"] (spP K (["roads"] : List Str).length .F (runF (["roads", "a", "b", "road"] : List Str).length (sem_are_roads))) := fnP (P := P) (w := w) (base := base) (mg := mg) (ks := [false, false, false, false]) (k := 3) F sc_are_roads (by decide) (by decide) (by decide) (body_are_roads c F_is_cost)
  have b : Binds K fd ["roads"] [] := F.bindsN (fun _ _ _ _ _ _ us hl => match us, hl with | [_], _ => rfl)
  exact ⟨_, fd, h, c.g_are_roads, F.kp, b⟩

/-! ### is_parting -/
theorem sc_is_parting : FnScope ["many", "parting", "pair"] ["many", "parting"] (defScope st_is_parting) := ⟨rfl, rfl, rfl, by decide +kernel, rfl, by decide +kernel, by decide +kernel⟩
def sem_is_parting : FS :=
  (sRet (eL (fAnd (fOfB (gCmp dEq (fN dLen (fCons (fVar 1) fNil)) (fVar 0))) (fN dAll (fCons (fLc (.nm 2) [2] (fIt (fVar 1)) gYes (fAnd (fCall m_is_fraction (fCons (fVar 2) fNil)) (fOfB (gCmp dGe (fOp ixD (fVar 2) (fC (.int 0))) (fC (.int 0)))))) fNil)))))
def m_is_parting : List PyData → R PyData := runF 3 (sem_is_parting)
theorem body_is_parting (c : Ctx w K mg) (F_is_fraction : FnPP P w K mg base 2 "is_fraction" ["pair"] .F (m_is_fraction)) : BodyOk P w K mg base ["many", "parting", "pair"] "is_parting" (defScope st_is_parting) (He.ga K "is_parting") 2 fun X W => DSs X W [false, false, false] [] .F (defBody st_is_parting) (sem_is_parting) := by
  intro cdv A outer s H E hr tk hp
  exact (ss_one (s_ret (e_lift (p_and (p_toB (p_cm (o_eq hr.u64) (p_toB (p_biE o_len' c.f_len bt_len (a_cons (p_toB (p_varV (i := 1))) a_nil))) (p_toB (p_varV (i := 0))))) (p_one (p_biE (o_all' rfl) c.f_all bt_all (a_cons (p_toB (p_lc (κ := .F) (own := [("pair", 2)]) (t := (.nm 2)) rfl sc_is_parting.nd (i_seqP (p_varV (i := 1))) (blkOk_by (N := ["many", "parting", "pair"]) (sc := defScope st_is_parting) (by decide +kernel)) (by decide) (by decide) (fun _ _ _ _ _ => (pg_name (i := 2) sc_is_parting.nd rfl (by first | exact Or.inl rfl | exact Or.inr rfl))) (fun _ _ _ _ _ => ts_nil) (fun _ _ _ _ _ => (p_and (p_toB (p_callF F_is_fraction takes0' (hr.mono (by omega)) (a_cons (p_toB (p_varV (i := 2))) a_nil))) (p_one (p_cm o_ge (p_toB (p_ix (p_varV (i := 2)) p_int)) p_int)))))) a_nil)))))))
theorem fp_is_parting (c : Ctx w K mg) (F_is_fraction : FnPP P w K mg base 2 "is_fraction" ["pair"] .F (m_is_fraction)) : FnPP P w K mg base 3 "is_parting" ["many", "parting"] .F (m_is_parting) := by
  obtain ⟨fd, F⟩ := c.d_is_parting
  have h : FnG P w K mg base (L2.CX P w) (2 + 1) (He.ga K "is_parting") fd ["many", "parting"] (spP K (["many", "parting"] : List Str).length .F (runF (["many", "parting", "pair"] : List Str).length (sem_is_parting))) := fnP (P := P) (w := w) (base := base) (mg := mg) (ks := [false, false, false]) (k := 2) F sc_is_parting (by decide) (by decide) (by decide) (body_is_parting c F_is_fraction)
  have b : Binds K fd ["many", "parting"] [] := F.bindsN (fun _ _ _ _ _ _ us hl => match us, hl with | [_, _], _ => rfl)
  exact ⟨_, fd, h, c.g_is_parting, F.kp, b⟩

/-! ### parting_sum -/
theorem sc_parting_sum : FnScope ["roads", "parting"] ["roads", "parting"] (defScope st_parting_sum) := ⟨rfl, rfl, rfl, by decide +kernel, rfl, by decide +kernel, by decide +kernel⟩
def sem_parting_sum : FS :=
  (sSeq (sIf (eLT (gNot (gTru dTru (fCall m_are_roads (fCons (fVar 0) fNil))))) (fun _ => .ex ⟨"NotTable", none⟩)
  sNil)
  (sSeq (sIf (eLT (gNot (gTru dTru (fCall m_is_parting (fCons (fN dLen (fCons (fVar 0) fNil)) (fCons (fVar 1) fNil)))))) (fun _ => .ex ⟨"BadNumber", none⟩)
  sNil)
  (sRet (eL (fCall m_sum_by (fCons (fVar 0) (fCons (fVar 1) fNil)))))))
def m_parting_sum : List PyData → R PyData := runF 2 (sem_parting_sum)
theorem body_parting_sum (c : Ctx w K mg) (F_sum_by : FnPP P w K mg base 5 "sum_by" ["roads", "parting"] .F (m_sum_by)) (F_are_roads : FnPP P w K mg base 4 "are_roads" ["roads"] .F (m_are_roads)) (F_is_parting : FnPP P w K mg base 3 "is_parting" ["many", "parting"] .F (m_is_parting)) : BodyOk P w K mg base ["roads", "parting"] "parting_sum" (defScope st_parting_sum) (He.ga K "parting_sum") 5 fun X W => DSs X W [false, false] [] .F (defBody st_parting_sum) (sem_parting_sum) := by
  intro cdv A outer s H E hr tk hp
  exact (ss_cons (s_if (et_lift (t_not (t_truth o_tru (p_toB (p_callF F_are_roads tk (hr.mono (by omega)) (a_cons (p_toB (p_varV (i := 0))) a_nil)))))) (ss_one (s_raise rfl tk (exF c.e_NotTable)))
  ss_nil)
  (ss_cons (s_if (et_lift (t_not (t_truth o_tru (p_toB (p_callF F_is_parting tk (hr.mono (by omega)) (a_cons (p_toB (p_biE o_len' c.f_len bt_len (a_cons (p_toB (p_varV (i := 0))) a_nil))) (a_cons (p_toB (p_varV (i := 1))) a_nil))))))) (ss_one (s_raise rfl tk (exF c.e_BadNumber)))
  ss_nil)
  (ss_one (s_ret (e_lift (p_callF F_sum_by tk (hr.mono (by omega)) (a_cons (p_toB (p_varV (i := 0))) (a_cons (p_toB (p_varV (i := 1))) a_nil))))))))
theorem fp_parting_sum (c : Ctx w K mg) (F_sum_by : FnPP P w K mg base 5 "sum_by" ["roads", "parting"] .F (m_sum_by)) (F_are_roads : FnPP P w K mg base 4 "are_roads" ["roads"] .F (m_are_roads)) (F_is_parting : FnPP P w K mg base 3 "is_parting" ["many", "parting"] .F (m_is_parting)) : FnPP P w K mg base 6 "parting_sum" ["roads", "parting"] .F (m_parting_sum) := by
  obtain ⟨fd, F⟩ := c.d_parting_sum
  have h : FnG P w K mg base (L2.CX P w) (5 + 1) (He.ga K "parting_sum") fd ["roads", "parting"] (spP K (["roads", "parting"] : List Str).length .F (runF (["roads", "parting"] : List Str).length (sem_parting_sum))) := fnP (P := P) (w := w) (base := base) (mg := mg) (ks := [false, false]) (k := 5) F sc_parting_sum (by decide) (by decide) (by decide) (body_parting_sum c F_sum_by F_are_roads F_is_parting)
  have b : Binds K fd ["roads", "parting"] [] := F.bindsN (fun _ _ _ _ _ _ us hl => match us, hl with | [_, _], _ => rfl)
  exact ⟨_, fd, h, c.g_parting_sum, F.kp, b⟩

/-! ### is_amount -/
theorem sc_is_amount : FnScope ["amount"] ["amount"] (defScope st_is_amount) := ⟨rfl, rfl, rfl, by decide +kernel, rfl, by decide +kernel, by decide +kernel⟩
def sem_is_amount : FS :=
  (sRet (eL (fAnd (fCall m_is_cost (fCons (fVar 0) fNil)) (fOfB (gCmp dGt (fOp ixD (fVar 0) (fC (.int 0))) (fC (.int 0)))))))
def m_is_amount : List PyData → R PyData := runF 1 (sem_is_amount)
theorem body_is_amount (c : Ctx w K mg) (F_is_cost : FnPP P w K mg base 3 "is_cost" ["pair"] .F (m_is_cost)) : BodyOk P w K mg base ["amount"] "is_amount" (defScope st_is_amount) (He.ga K "is_amount") 3 fun X W => DSs X W [false] [] .F (defBody st_is_amount) (sem_is_amount) := by
  intro cdv A outer s H E hr tk hp
  exact (ss_one (s_ret (e_lift (p_and (p_toB (p_callF F_is_cost tk (hr.mono (by omega)) (a_cons (p_toB (p_varV (i := 0))) a_nil))) (p_one (p_cm o_gt (p_toB (p_ix (p_varV (i := 0)) p_int)) p_int))))))
theorem fp_is_amount (c : Ctx w K mg) (F_is_cost : FnPP P w K mg base 3 "is_cost" ["pair"] .F (m_is_cost)) : FnPP P w K mg base 4 "is_amount" ["amount"] .F (m_is_amount) := by
  obtain ⟨fd, F⟩ := c.d_is_amount
  have h : FnG P w K mg base (L2.CX P w) (3 + 1) (He.ga K "is_amount") fd ["amount"] (spP K (["amount"] : List Str).length .F (runF (["amount"] : List Str).length (sem_is_amount))) := fnP (P := P) (w := w) (base := base) (mg := mg) (ks := [false]) (k := 3) F sc_is_amount (by decide) (by decide) (by decide) (body_is_amount c F_is_cost)
  have b : Binds K fd ["amount"] [] := F.bindsN (fun _ _ _ _ _ _ us hl => match us, hl with | [_], _ => rfl)
  exact ⟨_, fd, h, c.g_is_amount, F.kp, b⟩

/-! ### check_amount -/
theorem sc_check_amount : FnScope ["roads", "amount"] ["roads", "amount"] (defScope st_check_amount) := ⟨rfl, rfl, rfl, by decide +kernel, rfl, by decide +kernel, by decide +kernel⟩
def sem_check_amount : FS :=
  (sSeq (sIf (eLT (gNot (gTru dTru (fCall m_are_roads (fCons (fVar 0) fNil))))) (fun _ => .ex ⟨"NotTable", none⟩)
  sNil)
  (sIf (eLT (gNot (gTru dTru (fCall m_is_amount (fCons (fVar 1) fNil))))) (fun _ => .ex ⟨"BadNumber", none⟩)
  sNil))
def m_check_amount : List PyData → R PyData := runF 2 (sem_check_amount)
theorem body_check_amount (c : Ctx w K mg) (F_are_roads : FnPP P w K mg base 4 "are_roads" ["roads"] .F (m_are_roads)) (F_is_amount : FnPP P w K mg base 4 "is_amount" ["amount"] .F (m_is_amount)) : BodyOk P w K mg base ["roads", "amount"] "check_amount" (defScope st_check_amount) (He.ga K "check_amount") 4 fun X W => DSs X W [false, false] [] .F (defBody st_check_amount) (sem_check_amount) := by
  intro cdv A outer s H E hr tk hp
  exact (ss_cons (s_if (et_lift (t_not (t_truth o_tru (p_toB (p_callF F_are_roads tk (hr.mono (by omega)) (a_cons (p_toB (p_varV (i := 0))) a_nil)))))) (ss_one (s_raise rfl tk (exF c.e_NotTable)))
  ss_nil)
  (ss_one (s_if (et_lift (t_not (t_truth o_tru (p_toB (p_callF F_is_amount tk (hr.mono (by omega)) (a_cons (p_toB (p_varV (i := 1))) a_nil)))))) (ss_one (s_raise rfl tk (exF c.e_BadNumber)))
  ss_nil)))
theorem fp_check_amount (c : Ctx w K mg) (F_are_roads : FnPP P w K mg base 4 "are_roads" ["roads"] .F (m_are_roads)) (F_is_amount : FnPP P w K mg base 4 "is_amount" ["amount"] .F (m_is_amount)) : FnPP P w K mg base 5 "check_amount" ["roads", "amount"] .F (m_check_amount) := by
  obtain ⟨fd, F⟩ := c.d_check_amount
  have h : FnG P w K mg base (L2.CX P w) (4 + 1) (He.ga K "check_amount") fd ["roads", "amount"] (spP K (["roads", "amount"] : List Str).length .F (runF (["roads", "amount"] : List Str).length (sem_check_amount))) := fnP (P := P) (w := w) (base := base) (mg := mg) (ks := [false, false]) (k := 4) F sc_check_amount (by decide) (by decide) (by decide) (body_check_amount c F_are_roads F_is_amount)
  have b : Binds K fd ["roads", "amount"] [] := F.bindsN (fun _ _ _ _ _ _ us hl => match us, hl with | [_, _], _ => rfl)
  exact ⟨_, fd, h, c.g_check_amount, F.kp, b⟩

/-! ### less -/
theorem sc_less : FnScope ["one", "other"] ["one", "other"] (defScope st_less) := ⟨rfl, rfl, rfl, by decide +kernel, rfl, by decide +kernel, by decide +kernel⟩
def sem_less : FS :=
  (sRet (eL (fCall m_least_terms (fCons (fOp dSub (fOp dMul (fOp ixD (fVar 0) (fC (.int 0))) (fOp ixD (fVar 1) (fC (.int 1)))) (fOp dMul (fOp ixD (fVar 1) (fC (.int 0))) (fOp ixD (fVar 0) (fC (.int 1))))) (fCons (fOp dMul (fOp ixD (fVar 0) (fC (.int 1))) (fOp ixD (fVar 1) (fC (.int 1)))) fNil)))))
def m_less : List PyData → R PyData := runF 2 (sem_less)
theorem body_less (c : Ctx w K mg) (F_least_terms : FnPP P w K mg base 2 "least_terms" ["top", "low"] .F (m_least_terms)) : BodyOk P w K mg base ["one", "other"] "less" (defScope st_less) (He.ga K "less") 2 fun X W => DSs X W [false, false] [] .F (defBody st_less) (sem_less) := by
  intro cdv A outer s H E hr tk hp
  exact (ss_one (s_ret (e_lift (p_callF F_least_terms tk (hr.mono (by omega)) (a_cons (p_toB (p_bin o_sub (p_toB (p_bin o_mul (p_toB (p_ix (p_varV (i := 0)) p_int)) (p_toB (p_ix (p_varV (i := 1)) p_int)))) (p_toB (p_bin o_mul (p_toB (p_ix (p_varV (i := 1)) p_int)) (p_toB (p_ix (p_varV (i := 0)) p_int)))))) (a_cons (p_toB (p_bin o_mul (p_toB (p_ix (p_varV (i := 0)) p_int)) (p_toB (p_ix (p_varV (i := 1)) p_int)))) a_nil))))))
theorem fp_less (c : Ctx w K mg) (F_least_terms : FnPP P w K mg base 2 "least_terms" ["top", "low"] .F (m_least_terms)) : FnPP P w K mg base 3 "less" ["one", "other"] .F (m_less) := by
  obtain ⟨fd, F⟩ := c.d_less
  have h : FnG P w K mg base (L2.CX P w) (2 + 1) (He.ga K "less") fd ["one", "other"] (spP K (["one", "other"] : List Str).length .F (runF (["one", "other"] : List Str).length (sem_less))) := fnP (P := P) (w := w) (base := base) (mg := mg) (ks := [false, false]) (k := 2) F sc_less (by decide) (by decide) (by decide) (body_less c F_least_terms)
  have b : Binds K fd ["one", "other"] [] := F.bindsN (fun _ _ _ _ _ _ us hl => match us, hl with | [_, _], _ => rfl)
  exact ⟨_, fd, h, c.g_less, F.kp, b⟩

/-! ### is_even -/
theorem sc_is_even : FnScope ["costs", "parting", "here", "paid", "stream", "gap"] ["costs", "parting", "here"] (defScope st_is_even) := ⟨rfl, rfl, rfl, by decide +kernel, rfl, by decide +kernel, by decide +kernel⟩
def sem_is_even : FS :=
  (sSeq (sFor (.tp [(.nm 3), (.nm 4)]) (eZip (eLA (fCons (fVar 0) (fCons (fVar 1) fNil)))) (sSeq (sSet 5 (eL (fOp ixD (fCall m_less (fCons (fVar 3) (fCons (fVar 2) fNil))) (fC (.int 0)))))
  (sIf (eLT (gOr (gCmp dLt (fVar 5) (fC (.int 0))) (gAnd (gCmp dGt (fVar 5) (fC (.int 0))) (gCmp dGt (fOp ixD (fVar 4) (fC (.int 0))) (fC (.int 0)))))) (sRet (eL (fC (.bool false))))
  sNil)))
  (sRet (eL (fC (.bool true)))))
def m_is_even : List PyData → R PyData := runF 6 (sem_is_even)
theorem body_is_even (c : Ctx w K mg) (F_less : FnPP P w K mg base 3 "less" ["one", "other"] .F (m_less)) : BodyOk P w K mg base ["costs", "parting", "here", "paid", "stream", "gap"] "is_even" (defScope st_is_even) (He.ga K "is_even") 3 fun X W => DSs X W [false, false, false, false, false, false] [] .F (defBody st_is_even) (sem_is_even) := by
  intro cdv A outer s H E hr tk hp
  exact (ss_cons (s_for (t := (.tp [(.nm 3), (.nm 4)])) hp rfl (i_zip c.f_zip (ea_lift (a_cons (p_varV (i := 0)) (a_cons (p_varV (i := 1)) a_nil))) (HLe.lift (by repeat (first | exact HL.nil | refine HL.cons ?_)))) (pg_tup rfl (pgs_cons (pg_name (i := 3) sc_is_even.nd rfl (by first | exact Or.inl rfl | exact Or.inr rfl)) (pgs_cons (pg_name (i := 4) sc_is_even.nd rfl (by first | exact Or.inl rfl | exact Or.inr rfl)) pgs_nil)) rfl rfl) (ss_cons (s_set (i := 5) (bk := false) (e_toV (e_lift (p_ix (p_callF F_less tk (hr.mono (by omega)) (a_cons (p_toB (p_varV (i := 3))) (a_cons (p_toB (p_varV (i := 2))) a_nil))) p_int))) rfl (by decide) sc_is_even.nd)
  (ss_one (s_if (et_lift (t_w (w_or (t_cm o_lt (p_toB (p_varV (i := 5))) p_int) (w_or1 (t_w (w_and (t_cm o_gt (p_toB (p_varV (i := 5))) p_int) (w_and1 (t_cm o_gt (p_toB (p_ix (p_varV (i := 4)) p_int)) p_int)))))))) (ss_one (s_ret (e_lift p_bl)))
  ss_nil))))
  (ss_one (s_ret (e_lift p_bl))))
theorem fp_is_even (c : Ctx w K mg) (F_less : FnPP P w K mg base 3 "less" ["one", "other"] .F (m_less)) : FnPP P w K mg base 4 "is_even" ["costs", "parting", "here"] .F (m_is_even) := by
  obtain ⟨fd, F⟩ := c.d_is_even
  have h : FnG P w K mg base (L2.CX P w) (3 + 1) (He.ga K "is_even") fd ["costs", "parting", "here"] (spP K (["costs", "parting", "here"] : List Str).length .F (runF (["costs", "parting", "here", "paid", "stream", "gap"] : List Str).length (sem_is_even))) := fnP (P := P) (w := w) (base := base) (mg := mg) (ks := [false, false, false, false, false, false]) (k := 3) F sc_is_even (by decide) (by decide) (by decide) (body_is_even c F_less)
  have b : Binds K fd ["costs", "parting", "here"] [] := F.bindsN (fun _ _ _ _ _ _ us hl => match us, hl with | [_, _, _], _ => rfl)
  exact ⟨_, fd, h, c.g_is_even, F.kp, b⟩

/-! ### is_level_paper -/
theorem sc_is_level_paper : FnScope ["roads", "amount", "paper", "parting", "here", "stream", "a", "b"] ["roads", "amount", "paper"] (defScope st_is_level_paper) := ⟨rfl, rfl, rfl, by decide +kernel, rfl, by decide +kernel, by decide +kernel⟩
def sem_is_level_paper : FS :=
  (sSeq (sDrop (eL (fCall m_check_amount (fCons (fVar 0) (fCons (fVar 1) fNil)))))
  (sSeq (sUnp [3, 4] (eL (fVar 2)))
  (sSeq (sIf (eLT (gOr (gNot (gTru dTru (fCall m_is_parting (fCons (fN dLen (fCons (fVar 0) fNil)) (fCons (fVar 3) fNil))))) (gOr (gCmp dNe (fCall m_total (fCons (fVar 3) fNil)) (fN dTuple (fCons (fVar 1) fNil))) (gNot (gTru dTru (fCall m_is_fraction (fCons (fVar 4) fNil))))))) (sRet (eL (fC (.bool false))))
  sNil)
  (sRet (eL (fCall m_is_even (fCons (fLc (.tp [(.tp [(.nm 6), (.nm 7)]), (.nm 5)]) [6, 7, 5] (fZip (fCons (fVar 0) (fCons (fVar 3) fNil))) gYes (fCall m_add (fCons (fVar 6) (fCons (fCall m_times (fCons (fVar 7) (fCons (fVar 5) fNil))) fNil)))) (fCons (fVar 3) (fCons (fVar 4) fNil)))))))))
def m_is_level_paper : List PyData → R PyData := runF 8 (sem_is_level_paper)
theorem body_is_level_paper (c : Ctx w K mg) (F_add : FnPP P w K mg base 3 "add" ["one", "other"] .F (m_add)) (F_total : FnPP P w K mg base 4 "total" ["fractions"] .F (m_total)) (F_times : FnPP P w K mg base 3 "times" ["one", "other"] .F (m_times)) (F_is_fraction : FnPP P w K mg base 2 "is_fraction" ["pair"] .F (m_is_fraction)) (F_is_parting : FnPP P w K mg base 3 "is_parting" ["many", "parting"] .F (m_is_parting)) (F_check_amount : FnPP P w K mg base 5 "check_amount" ["roads", "amount"] .F (m_check_amount)) (F_is_even : FnPP P w K mg base 4 "is_even" ["costs", "parting", "here"] .F (m_is_even)) : BodyOk P w K mg base ["roads", "amount", "paper", "parting", "here", "stream", "a", "b"] "is_level_paper" (defScope st_is_level_paper) (He.ga K "is_level_paper") 5 fun X W => DSs X W [false, false, false, false, false, false, false, false] [] .F (defBody st_is_level_paper) (sem_is_level_paper) := by
  intro cdv A outer s H E hr tk hp
  exact (ss_cons (s_expr (e_lift (p_callF F_check_amount tk (hr.mono (by omega)) (a_cons (p_toB (p_varV (i := 0))) (a_cons (p_toB (p_varV (i := 1))) a_nil)))))
  (ss_cons (s_unp (is := [3, 4]) rfl (e_lift (p_varV (i := 2))) (pgs_cons (pg_name (i := 3) sc_is_level_paper.nd rfl (by first | exact Or.inl rfl | exact Or.inr rfl)) (pgs_cons (pg_name (i := 4) sc_is_level_paper.nd rfl (by first | exact Or.inl rfl | exact Or.inr rfl)) pgs_nil)))
  (ss_cons (s_if (et_lift (t_w (w_or (t_not (t_truth o_tru (p_toB (p_callF F_is_parting tk (hr.mono (by omega)) (a_cons (p_toB (p_biE o_len' c.f_len bt_len (a_cons (p_toB (p_varV (i := 0))) a_nil))) (a_cons (p_toB (p_varV (i := 3))) a_nil)))))) (w_or (t_cm (o_ne hr.u64) (p_toB (p_callF F_total tk (hr.mono (by omega)) (a_cons (p_toB (p_varV (i := 3))) a_nil))) (p_toB (p_tyE o_tuple c.f_tuple bt_tuple (a_cons (p_toB (p_varV (i := 1))) a_nil)))) (w_or1 (t_not (t_truth o_tru (p_toB (p_callF F_is_fraction tk (hr.mono (by omega)) (a_cons (p_toB (p_varV (i := 4))) a_nil)))))))))) (ss_one (s_ret (e_lift p_bl)))
  ss_nil)
  (ss_one (s_ret (e_lift (p_callF F_is_even tk (hr.mono (by omega)) (a_cons (p_toB (p_lc (κ := .F) (own := [("a", 6), ("b", 7), ("stream", 5)]) (t := (.tp [(.tp [(.nm 6), (.nm 7)]), (.nm 5)])) rfl sc_is_level_paper.nd (i_zipP c.f_zip (a_cons (p_varV (i := 0)) (a_cons (p_varV (i := 3)) a_nil))) (blkOk_by (N := ["roads", "amount", "paper", "parting", "here", "stream", "a", "b"]) (sc := defScope st_is_level_paper) (by decide +kernel)) (by decide) (by decide) (fun _ _ _ _ _ => (pg_tup rfl (pgs_cons (pg_tup rfl (pgs_cons (pg_name (i := 6) sc_is_level_paper.nd rfl (by first | exact Or.inl rfl | exact Or.inr rfl)) (pgs_cons (pg_name (i := 7) sc_is_level_paper.nd rfl (by first | exact Or.inl rfl | exact Or.inr rfl)) pgs_nil)) rfl rfl) (pgs_cons (pg_name (i := 5) sc_is_level_paper.nd rfl (by first | exact Or.inl rfl | exact Or.inr rfl)) pgs_nil)) rfl rfl)) (fun _ _ _ _ _ => ts_nil) (fun _ _ _ _ _ => (p_callF F_add takes0' (hr.mono (by omega)) (a_cons (p_toB (p_varV (i := 6))) (a_cons (p_toB (p_callF F_times takes0' (hr.mono (by omega)) (a_cons (p_toB (p_varV (i := 7))) (a_cons (p_toB (p_varV (i := 5))) a_nil)))) a_nil)))))) (a_cons (p_toB (p_varV (i := 3))) (a_cons (p_toB (p_varV (i := 4))) a_nil))))))))))
theorem fp_is_level_paper (c : Ctx w K mg) (F_add : FnPP P w K mg base 3 "add" ["one", "other"] .F (m_add)) (F_total : FnPP P w K mg base 4 "total" ["fractions"] .F (m_total)) (F_times : FnPP P w K mg base 3 "times" ["one", "other"] .F (m_times)) (F_is_fraction : FnPP P w K mg base 2 "is_fraction" ["pair"] .F (m_is_fraction)) (F_is_parting : FnPP P w K mg base 3 "is_parting" ["many", "parting"] .F (m_is_parting)) (F_check_amount : FnPP P w K mg base 5 "check_amount" ["roads", "amount"] .F (m_check_amount)) (F_is_even : FnPP P w K mg base 4 "is_even" ["costs", "parting", "here"] .F (m_is_even)) : FnPP P w K mg base 6 "is_level_paper" ["roads", "amount", "paper"] .F (m_is_level_paper) := by
  obtain ⟨fd, F⟩ := c.d_is_level_paper
  have h : FnG P w K mg base (L2.CX P w) (5 + 1) (He.ga K "is_level_paper") fd ["roads", "amount", "paper"] (spP K (["roads", "amount", "paper"] : List Str).length .F (runF (["roads", "amount", "paper", "parting", "here", "stream", "a", "b"] : List Str).length (sem_is_level_paper))) := fnP (P := P) (w := w) (base := base) (mg := mg) (ks := [false, false, false, false, false, false, false, false]) (k := 5) F sc_is_level_paper (by decide) (by decide) (by decide) (body_is_level_paper c F_add F_total F_times F_is_fraction F_is_parting F_check_amount F_is_even)
  have b : Binds K fd ["roads", "amount", "paper"] [] := F.bindsN (fun _ _ _ _ _ _ us hl => match us, hl with | [_, _, _], _ => rfl)
  exact ⟨_, fd, h, c.g_is_level_paper, F.kp, b⟩

/-! ### _law_kind -/
theorem sc__law_kind : FnScope ["error", "names", "found"] ["error"] (defScope st__law_kind) := ⟨rfl, rfl, rfl, by decide +kernel, rfl, by decide +kernel, by decide +kernel⟩
def sem__law_kind (z0 : Str) (q0 : Addr) : FS :=
  (sSeq (sSet 1 (eL (fLst (fCons (fC (.str "stakes")) (fCons (fC (.str "table")) (fCons (fC (.str "mix")) (fCons (fC (.str "paper")) (fCons (fC (.str "number")) (fCons (fC (.str "answer")) (fCons (fC (.str "large")) fNil))))))))))
  (sSeq (sSet 2 (eL (fLst (fCons (fIsE q0 (isC z0 "NotStakes") (fVar 0)) (fCons (fIsE q0 (isC z0 "NotTable") (fVar 0)) (fCons (fIsE q0 (isC z0 "NotMix") (fVar 0)) (fCons (fIsE q0 (isC z0 "NotPaper") (fVar 0)) fNil)))))))
  (sSeq (sSet 2 (eL (fOp dAdd (fVar 2) (fLst (fCons (fIsE q0 (isC z0 "BadNumber") (fVar 0)) (fCons (fIsE q0 (isC z0 "NoAnswer") (fVar 0)) (fCons (fIsE q0 (isC z0 "TooLarge") (fVar 0)) fNil)))))))
  (sRet (eL (fIf (gAnd (gCmp dEq (fMe isList dCount (fVar 2) (fCons (fC (.bool true)) fNil)) (fC (.int 1))) (gTru dTru (fIsE q0 (isC z0 "StakeError") (fVar 0)))) (fOp dAdd (fC (.str "!")) (fOp ixD (fVar 1) (fMe isList dIndex (fVar 2) (fCons (fC (.bool true)) fNil)))) (fC (.str "!other"))))))))
def m__law_kind (z0 : Str) (q0 : Addr) : List PyData → R PyData := runF 3 (sem__law_kind z0 q0)
theorem fp__law_kind (c : Ctx w K mg)  : ∀ z, z ∈ exNames → FnEE P w K mg base 1 "_law_kind" ["error"] (PpE (He.ga K z)) (m__law_kind z) := by
  intro z0 hz0
  obtain ⟨fd, F⟩ := c.d__law_kind
  have hI := c.hI z0 hz0
  have hC := c.hC z0 hz0
  have h : FnE P w K mg base (L2.CX P w) (0 + 1) (He.ga K "_law_kind") fd ["error"] (PpE (He.ga K z0)) (fun a => spP K (["error"] : List Str).length .F (runF (["error", "names", "found"] : List Str).length (sem__law_kind z0 a))) := by
    refine fnE_core (ks := [false, false, false]) F sc__law_kind (by decide) (by decide) ?_
    intro cdv A outer s H E ⟨q0, o0⟩ hz hr tk
    have hq : (q0, o0) ∈ (L2H.cxH (L2.CX P w) P w K mg base ["error", "names", "found"] "_law_kind" (defScope st__law_kind) (He.ga K "_law_kind") cdv A outer s H E (q0, o0)).pn := List.mem_cons_self ..
    exact (ss_cons (s_set (i := 1) (bk := false) (e_toV (e_lift (p_lst (κ := .F) (a_cons p_str (a_cons p_str (a_cons p_str (a_cons p_str (a_cons p_str (a_cons p_str (a_cons p_str a_nil)))))))))) rfl (by decide) sc__law_kind.nd)
  (ss_cons (s_set (i := 2) (bk := false) (e_toV (e_lift (p_lst (κ := .F) (a_cons (p_isE (q := (q0, o0)) hq hz hC c.f_isinstance c.g_NotStakes (hI "NotStakes" (by decide)) (p_toB (p_varV (i := 0)))) (a_cons (p_isE (q := (q0, o0)) hq hz hC c.f_isinstance c.g_NotTable (hI "NotTable" (by decide)) (p_toB (p_varV (i := 0)))) (a_cons (p_isE (q := (q0, o0)) hq hz hC c.f_isinstance c.g_NotMix (hI "NotMix" (by decide)) (p_toB (p_varV (i := 0)))) (a_cons (p_isE (q := (q0, o0)) hq hz hC c.f_isinstance c.g_NotPaper (hI "NotPaper" (by decide)) (p_toB (p_varV (i := 0)))) a_nil))))))) rfl (by decide) sc__law_kind.nd)
  (ss_cons (s_set (i := 2) (bk := false) (e_toV (e_lift (p_bin o_add (p_toB (p_varV (i := 2))) (p_toB (p_lst (κ := .F) (a_cons (p_isE (q := (q0, o0)) hq hz hC c.f_isinstance c.g_BadNumber (hI "BadNumber" (by decide)) (p_toB (p_varV (i := 0)))) (a_cons (p_isE (q := (q0, o0)) hq hz hC c.f_isinstance c.g_NoAnswer (hI "NoAnswer" (by decide)) (p_toB (p_varV (i := 0)))) (a_cons (p_isE (q := (q0, o0)) hq hz hC c.f_isinstance c.g_TooLarge (hI "TooLarge" (by decide)) (p_toB (p_varV (i := 0)))) a_nil)))))))) rfl (by decide) sc__law_kind.nd)
  (ss_one (s_ret (e_lift (p_if (t_w (w_and (t_cm (o_eq hr.u64) (p_toB (p_meE PySem.F.plainAttrs_list PySem.F.slot_list_count PySem.F.type_list_count o_count (p_toB (p_varV (i := 2))) (a_cons p_bl a_nil))) p_int) (w_and1 (t_truth o_tru (p_isE (q := (q0, o0)) hq hz hC c.f_isinstance c.g_StakeError (hI "StakeError" (by decide)) (p_toB (p_varV (i := 0)))))))) (p_bin o_add p_str (p_toB (p_ix (p_varV (i := 1)) (p_toB (p_meE PySem.F.plainAttrs_list PySem.F.slot_list_index PySem.F.type_list_index (o_index hr.u65) (p_toB (p_varV (i := 2))) (a_cons p_bl a_nil)))))) p_str)))))))
  have b : Binds K fd ["error"] [] := F.bindsN (fun _ _ _ _ _ _ us hl => match us, hl with | [_], _ => rfl)
  exact ⟨_, fd, h, c.g__law_kind, F.kp, b⟩

/-! ### least_of -/
theorem sc_least_of : FnScope ["fractions", "found", "pair"] ["fractions"] (defScope st_least_of) := ⟨rfl, rfl, rfl, by decide +kernel, rfl, by decide +kernel, by decide +kernel⟩
def sem_least_of : FS :=
  (sSeq (sSet 1 (eL (fC .none)))
  (sSeq (sFor (.nm 2) (eIt (eL (fVar 0))) (sSet 1 (eL (fIf (gOr (gCmp (dIs false) (fVar 1) (fC .none)) (gCmp dLt (fOp ixD (fCall m_less (fCons (fVar 2) (fCons (fVar 1) fNil))) (fC (.int 0))) (fC (.int 0)))) (fN dTuple (fCons (fVar 2) fNil)) (fVar 1)))))
  (sRet (eFlat (eL (fVar 1))))))
def m_least_of : List PyData → R PyData := runF 3 (sem_least_of)
theorem body_least_of (c : Ctx w K mg) (F_less : FnPP P w K mg base 3 "less" ["one", "other"] .F (m_less)) : BodyOk P w K mg base ["fractions", "found", "pair"] "least_of" (defScope st_least_of) (He.ga K "least_of") 3 fun X W => DSs X W [false, false, false] [] .F (defBody st_least_of) (sem_least_of) := by
  intro cdv A outer s H E hr tk hp
  exact (ss_cons (s_set (i := 1) (bk := false) (e_lift p_non) rfl (by decide) sc_least_of.nd)
  (ss_cons (s_for (t := (.nm 2)) hp rfl (i_seq (e_lift (p_varV (i := 0)))) (pg_name (i := 2) sc_least_of.nd rfl (by first | exact Or.inl rfl | exact Or.inr rfl)) (ss_one (s_set (i := 1) (bk := false) (e_lift (p_if (t_w (w_or (t_cm o_is (p_toB (p_varV (i := 1))) p_non) (w_or1 (t_cm o_lt (p_toB (p_ix (p_callF F_less tk (hr.mono (by omega)) (a_cons (p_toB (p_varV (i := 2))) (a_cons (p_toB (p_varV (i := 1))) a_nil))) p_int)) p_int)))) (p_toV (p_tyE o_tuple c.f_tuple bt_tuple (a_cons (p_toB (p_varV (i := 2))) a_nil))) (p_varV (i := 1)))) rfl (by decide) sc_least_of.nd)))
  (ss_one (s_ret (e_flat (e_toB (e_lift (p_varV (i := 1)))))))))
theorem fp_least_of (c : Ctx w K mg) (F_less : FnPP P w K mg base 3 "less" ["one", "other"] .F (m_less)) : FnPP P w K mg base 4 "least_of" ["fractions"] .F (m_least_of) := by
  obtain ⟨fd, F⟩ := c.d_least_of
  have h : FnG P w K mg base (L2.CX P w) (3 + 1) (He.ga K "least_of") fd ["fractions"] (spP K (["fractions"] : List Str).length .F (runF (["fractions", "found", "pair"] : List Str).length (sem_least_of))) := fnP (P := P) (w := w) (base := base) (mg := mg) (ks := [false, false, false]) (k := 3) F sc_least_of (by decide) (by decide) (by decide) (body_least_of c F_less)
  have b : Binds K fd ["fractions"] [] := F.bindsN (fun _ _ _ _ _ _ us hl => match us, hl with | [_], _ => rfl)
  exact ⟨_, fd, h, c.g_least_of, F.kp, b⟩

/-! ### by -/
theorem sc_by : FnScope ["one", "other", "sign"] ["one", "other"] (defScope st_by) := ⟨rfl, rfl, rfl, by decide +kernel, rfl, by decide +kernel, by decide +kernel⟩
def sem_by : FS :=
  (sSeq (sSet 2 (eL (fIf (gCmp dGt (fOp ixD (fVar 1) (fC (.int 0))) (fC (.int 0))) (fC (.int 1)) (fUn dNeg (fC (.int 1))))))
  (sRet (eL (fCall m_least_terms (fCons (fOp dMul (fOp dMul (fVar 2) (fOp ixD (fVar 0) (fC (.int 0)))) (fOp ixD (fVar 1) (fC (.int 1)))) (fCons (fOp dMul (fOp ixD (fVar 0) (fC (.int 1))) (fN dAbs (fCons (fOp ixD (fVar 1) (fC (.int 0))) fNil))) fNil))))))
def m_by : List PyData → R PyData := runF 3 (sem_by)
theorem body_by (c : Ctx w K mg) (F_least_terms : FnPP P w K mg base 2 "least_terms" ["top", "low"] .F (m_least_terms)) : BodyOk P w K mg base ["one", "other", "sign"] "by" (defScope st_by) (He.ga K "by") 2 fun X W => DSs X W [false, false, false] [] .F (defBody st_by) (sem_by) := by
  intro cdv A outer s H E hr tk hp
  exact (ss_cons (s_set (i := 2) (bk := false) (e_toV (e_lift (p_if (t_cm o_gt (p_toB (p_ix (p_varV (i := 1)) p_int)) p_int) p_int (p_neg p_int)))) rfl (by decide) sc_by.nd)
  (ss_one (s_ret (e_lift (p_callF F_least_terms tk (hr.mono (by omega)) (a_cons (p_toB (p_bin o_mul (p_toB (p_bin o_mul (p_toB (p_varV (i := 2))) (p_toB (p_ix (p_varV (i := 0)) p_int)))) (p_toB (p_ix (p_varV (i := 1)) p_int)))) (a_cons (p_toB (p_bin o_mul (p_toB (p_ix (p_varV (i := 0)) p_int)) (p_toB (p_biE o_abs' c.f_abs bt_abs (a_cons (p_toB (p_ix (p_varV (i := 1)) p_int)) a_nil))))) a_nil)))))))
theorem fp_by (c : Ctx w K mg) (F_least_terms : FnPP P w K mg base 2 "least_terms" ["top", "low"] .F (m_least_terms)) : FnPP P w K mg base 3 "by" ["one", "other"] .F (m_by) := by
  obtain ⟨fd, F⟩ := c.d_by
  have h : FnG P w K mg base (L2.CX P w) (2 + 1) (He.ga K "by") fd ["one", "other"] (spP K (["one", "other"] : List Str).length .F (runF (["one", "other", "sign"] : List Str).length (sem_by))) := fnP (P := P) (w := w) (base := base) (mg := mg) (ks := [false, false, false]) (k := 2) F sc_by (by decide) (by decide) (by decide) (body_by c F_least_terms)
  have b : Binds K fd ["one", "other"] [] := F.bindsN (fun _ _ _ _ _ _ us hl => match us, hl with | [_, _], _ => rfl)
  exact ⟨_, fd, h, c.g_by, F.kp, b⟩

/-! ### told_level -/
theorem sc_told_level : FnScope ["roads", "amount", "steep", "ready", "top", "_", "used", "share", "a", "b"] ["roads", "amount"] (defScope st_told_level) := ⟨rfl, rfl, rfl, by decide +kernel, rfl, by decide +kernel, by decide +kernel⟩
def sem_told_level : FS :=
  (sSeq (sSet 2 (eLc (.tp [(.nm 8), (.nm 9)]) [8, 9] (eIt (eL (fVar 0))) (eLT (gCmp dGt (fOp ixD (fVar 9) (fC (.int 0))) (fC (.int 0)))) (eL (fTup (fCons (fVar 8) (fCons (fVar 9) fNil))))))
  (sSeq (sSet 3 (eLc (.tp [(.nm 8), (.nm 9)]) [8, 9] (eIt (eL (fVar 0))) (eLT (gCmp dEq (fOp ixD (fVar 9) (fC (.int 0))) (fC (.int 0)))) (eL (fFlat (fVar 8)))))
  (sSeq (sFor (.tp [(.nm 4), (.nm 5)]) (eIt (eL (fVar 2))) (sSeq (sSet 6 (eLc (.tp [(.nm 8), (.nm 9)]) [8, 9] (eIt (eL (fVar 2))) (eLT (gCmp dGe (fOp ixD (fCall m_less (fCons (fVar 4) (fCons (fVar 8) fNil))) (fC (.int 0))) (fC (.int 0)))) (eL (fTup (fCons (fVar 8) (fCons (fVar 9) fNil))))))
  (sSeq (sSet 7 (eL (fCall m_total (fCons (fLc (.tp [(.nm 5), (.nm 9)]) [5, 9] (fIt (fVar 6)) gYes (fCall m_by (fCons (fTup (fCons (fC (.int 1)) (fCons (fC (.int 1)) fNil))) (fCons (fVar 9) fNil)))) fNil))))
  (sDrop (eApp 3 (eL (fCall m_by (fCons (fCall m_add (fCons (fVar 1) (fCons (fCall m_total (fCons (fLc (.tp [(.nm 8), (.nm 9)]) [8, 9] (fIt (fVar 6)) gYes (fCall m_by (fCons (fVar 8) (fCons (fVar 9) fNil)))) fNil)) fNil))) (fCons (fVar 7) fNil)))))))))
  (sRet (eL (fCall m_least_of (fCons (fVar 3) fNil)))))))
def m_told_level : List PyData → R PyData := runF 10 (sem_told_level)
theorem body_told_level (c : Ctx w K mg) (F_add : FnPP P w K mg base 3 "add" ["one", "other"] .F (m_add)) (F_total : FnPP P w K mg base 4 "total" ["fractions"] .F (m_total)) (F_less : FnPP P w K mg base 3 "less" ["one", "other"] .F (m_less)) (F_least_of : FnPP P w K mg base 4 "least_of" ["fractions"] .F (m_least_of)) (F_by : FnPP P w K mg base 3 "by" ["one", "other"] .F (m_by)) : BodyOk P w K mg base ["roads", "amount", "steep", "ready", "top", "_", "used", "share", "a", "b"] "told_level" (defScope st_told_level) (He.ga K "told_level") 4 fun X W => DSs X W [false, false, false, true, false, false, false, false, false, false] [] .F (defBody st_told_level) (sem_told_level) := by
  intro cdv A outer s H E hr tk hp
  exact (ss_cons (s_setLc (i := 2) (bk := false) (own := [("a", 8), ("b", 9)]) (t := (.tp [(.nm 8), (.nm 9)])) rfl sc_told_level.nd (i_seq (e_lift (p_varV (i := 0)))) (blkOk_by (N := ["roads", "amount", "steep", "ready", "top", "_", "used", "share", "a", "b"]) (sc := defScope st_told_level) (by decide +kernel)) (by decide) (by decide) (fun _ _ _ _ _ => (pg_tup rfl (pgs_cons (pg_name (i := 8) sc_told_level.nd rfl (by first | exact Or.inl rfl | exact Or.inr rfl)) (pgs_cons (pg_name (i := 9) sc_told_level.nd rfl (by first | exact Or.inl rfl | exact Or.inr rfl)) pgs_nil)) rfl rfl)) (fun _ _ _ _ _ => (ets_one (et_lift (t_cm o_gt (p_toB (p_ix (p_varV (i := 9)) p_int)) p_int)))) (fun _ _ _ _ _ => (e_lift (p_tup (κ := .V) (a_cons (p_varV (i := 8)) (a_cons (p_varV (i := 9)) a_nil))))))
  (ss_cons (s_setLc (i := 3) (bk := true) (own := [("a", 8), ("b", 9)]) (t := (.tp [(.nm 8), (.nm 9)])) rfl sc_told_level.nd (i_seq (e_lift (p_varV (i := 0)))) (blkOk_by (N := ["roads", "amount", "steep", "ready", "top", "_", "used", "share", "a", "b"]) (sc := defScope st_told_level) (by decide +kernel)) (by decide) (by decide) (fun _ _ _ _ _ => (pg_tup rfl (pgs_cons (pg_name (i := 8) sc_told_level.nd rfl (by first | exact Or.inl rfl | exact Or.inr rfl)) (pgs_cons (pg_name (i := 9) sc_told_level.nd rfl (by first | exact Or.inl rfl | exact Or.inr rfl)) pgs_nil)) rfl rfl)) (fun _ _ _ _ _ => (ets_one (et_lift (t_cm (o_eq hr.u64) (p_toB (p_ix (p_varV (i := 9)) p_int)) p_int)))) (fun _ _ _ _ _ => (e_lift (p_flat (p_toB (p_varV (i := 8)))))))
  (ss_cons (s_for (t := (.tp [(.nm 4), (.nm 5)])) hp rfl (i_seq (e_lift (p_varV (i := 2)))) (pg_tup rfl (pgs_cons (pg_name (i := 4) sc_told_level.nd rfl (by first | exact Or.inl rfl | exact Or.inr rfl)) (pgs_cons (pg_name (i := 5) sc_told_level.nd rfl (by first | exact Or.inl rfl | exact Or.inr rfl)) pgs_nil)) rfl rfl) (ss_cons (s_setLc (i := 6) (bk := false) (own := [("a", 8), ("b", 9)]) (t := (.tp [(.nm 8), (.nm 9)])) rfl sc_told_level.nd (i_seq (e_lift (p_varV (i := 2)))) (blkOk_by (N := ["roads", "amount", "steep", "ready", "top", "_", "used", "share", "a", "b"]) (sc := defScope st_told_level) (by decide +kernel)) (by decide) (by decide) (fun _ _ _ _ _ => (pg_tup rfl (pgs_cons (pg_name (i := 8) sc_told_level.nd rfl (by first | exact Or.inl rfl | exact Or.inr rfl)) (pgs_cons (pg_name (i := 9) sc_told_level.nd rfl (by first | exact Or.inl rfl | exact Or.inr rfl)) pgs_nil)) rfl rfl)) (fun _ _ _ _ _ => (ets_one (et_lift (t_cm o_ge (p_toB (p_ix (p_callF F_less takes0' (hr.mono (by omega)) (a_cons (p_toB (p_varV (i := 4))) (a_cons (p_toB (p_varV (i := 8))) a_nil))) p_int)) p_int)))) (fun _ _ _ _ _ => (e_lift (p_tup (κ := .V) (a_cons (p_varV (i := 8)) (a_cons (p_varV (i := 9)) a_nil))))))
  (ss_cons (s_set (i := 7) (bk := false) (e_toV (e_lift (p_callF F_total tk (hr.mono (by omega)) (a_cons (p_toB (p_lc (κ := .F) (own := [("_", 5), ("b", 9)]) (t := (.tp [(.nm 5), (.nm 9)])) rfl sc_told_level.nd (i_seqP (p_varV (i := 6))) (blkOk_by (N := ["roads", "amount", "steep", "ready", "top", "_", "used", "share", "a", "b"]) (sc := defScope st_told_level) (by decide +kernel)) (by decide) (by decide) (fun _ _ _ _ _ => (pg_tup rfl (pgs_cons (pg_name (i := 5) sc_told_level.nd rfl (by first | exact Or.inl rfl | exact Or.inr rfl)) (pgs_cons (pg_name (i := 9) sc_told_level.nd rfl (by first | exact Or.inl rfl | exact Or.inr rfl)) pgs_nil)) rfl rfl)) (fun _ _ _ _ _ => ts_nil) (fun _ _ _ _ _ => (p_callF F_by takes0' (hr.mono (by omega)) (a_cons (p_toB (p_tup (κ := .F) (a_cons p_int (a_cons p_int a_nil)))) (a_cons (p_toB (p_varV (i := 9))) a_nil)))))) a_nil)))) rfl (by decide) sc_told_level.nd)
  (ss_one (s_expr (e_append (i := 3) rfl (e_lift (p_callF F_by tk (hr.mono (by omega)) (a_cons (p_toB (p_callF F_add tk (hr.mono (by omega)) (a_cons (p_toB (p_varV (i := 1))) (a_cons (p_toB (p_callF F_total tk (hr.mono (by omega)) (a_cons (p_toB (p_lc (κ := .F) (own := [("a", 8), ("b", 9)]) (t := (.tp [(.nm 8), (.nm 9)])) rfl sc_told_level.nd (i_seqP (p_varV (i := 6))) (blkOk_by (N := ["roads", "amount", "steep", "ready", "top", "_", "used", "share", "a", "b"]) (sc := defScope st_told_level) (by decide +kernel)) (by decide) (by decide) (fun _ _ _ _ _ => (pg_tup rfl (pgs_cons (pg_name (i := 8) sc_told_level.nd rfl (by first | exact Or.inl rfl | exact Or.inr rfl)) (pgs_cons (pg_name (i := 9) sc_told_level.nd rfl (by first | exact Or.inl rfl | exact Or.inr rfl)) pgs_nil)) rfl rfl)) (fun _ _ _ _ _ => ts_nil) (fun _ _ _ _ _ => (p_callF F_by takes0' (hr.mono (by omega)) (a_cons (p_toB (p_varV (i := 8))) (a_cons (p_toB (p_varV (i := 9))) a_nil)))))) a_nil))) a_nil)))) (a_cons (p_toB (p_varV (i := 7))) a_nil))))))))))
  (ss_one (s_ret (e_lift (p_callF F_least_of tk (hr.mono (by omega)) (a_cons (p_varB (i := 3)) a_nil))))))))
theorem fp_told_level (c : Ctx w K mg) (F_add : FnPP P w K mg base 3 "add" ["one", "other"] .F (m_add)) (F_total : FnPP P w K mg base 4 "total" ["fractions"] .F (m_total)) (F_less : FnPP P w K mg base 3 "less" ["one", "other"] .F (m_less)) (F_least_of : FnPP P w K mg base 4 "least_of" ["fractions"] .F (m_least_of)) (F_by : FnPP P w K mg base 3 "by" ["one", "other"] .F (m_by)) : FnPP P w K mg base 5 "told_level" ["roads", "amount"] .F (m_told_level) := by
  obtain ⟨fd, F⟩ := c.d_told_level
  have h : FnG P w K mg base (L2.CX P w) (4 + 1) (He.ga K "told_level") fd ["roads", "amount"] (spP K (["roads", "amount"] : List Str).length .F (runF (["roads", "amount", "steep", "ready", "top", "_", "used", "share", "a", "b"] : List Str).length (sem_told_level))) := fnP (P := P) (w := w) (base := base) (mg := mg) (ks := [false, false, false, true, false, false, false, false, false, false]) (k := 4) F sc_told_level (by decide) (by decide) (by decide) (body_told_level c F_add F_total F_less F_least_of F_by)
  have b : Binds K fd ["roads", "amount"] [] := F.bindsN (fun _ _ _ _ _ _ us hl => match us, hl with | [_, _], _ => rfl)
  exact ⟨_, fd, h, c.g_told_level, F.kp, b⟩

/-! ### level -/
theorem sc_level : FnScope ["roads", "amount"] ["roads", "amount"] (defScope st_level) := ⟨rfl, rfl, rfl, by decide +kernel, rfl, by decide +kernel, by decide +kernel⟩
def sem_level : FS :=
  (sSeq (sDrop (eL (fCall m_check_amount (fCons (fVar 0) (fCons (fVar 1) fNil)))))
  (sRet (eL (fCall m_told_level (fCons (fVar 0) (fCons (fVar 1) fNil))))))
def m_level : List PyData → R PyData := runF 2 (sem_level)
theorem body_level (c : Ctx w K mg) (F_check_amount : FnPP P w K mg base 5 "check_amount" ["roads", "amount"] .F (m_check_amount)) (F_told_level : FnPP P w K mg base 5 "told_level" ["roads", "amount"] .F (m_told_level)) : BodyOk P w K mg base ["roads", "amount"] "level" (defScope st_level) (He.ga K "level") 5 fun X W => DSs X W [false, false] [] .F (defBody st_level) (sem_level) := by
  intro cdv A outer s H E hr tk hp
  exact (ss_cons (s_expr (e_lift (p_callF F_check_amount tk (hr.mono (by omega)) (a_cons (p_toB (p_varV (i := 0))) (a_cons (p_toB (p_varV (i := 1))) a_nil)))))
  (ss_one (s_ret (e_lift (p_callF F_told_level tk (hr.mono (by omega)) (a_cons (p_toB (p_varV (i := 0))) (a_cons (p_toB (p_varV (i := 1))) a_nil)))))))
theorem fp_level (c : Ctx w K mg) (F_check_amount : FnPP P w K mg base 5 "check_amount" ["roads", "amount"] .F (m_check_amount)) (F_told_level : FnPP P w K mg base 5 "told_level" ["roads", "amount"] .F (m_told_level)) : FnPP P w K mg base 6 "level" ["roads", "amount"] .F (m_level) := by
  obtain ⟨fd, F⟩ := c.d_level
  have h : FnG P w K mg base (L2.CX P w) (5 + 1) (He.ga K "level") fd ["roads", "amount"] (spP K (["roads", "amount"] : List Str).length .F (runF (["roads", "amount"] : List Str).length (sem_level))) := fnP (P := P) (w := w) (base := base) (mg := mg) (ks := [false, false]) (k := 5) F sc_level (by decide) (by decide) (by decide) (body_level c F_check_amount F_told_level)
  have b : Binds K fd ["roads", "amount"] [] := F.bindsN (fun _ _ _ _ _ _ us hl => match us, hl with | [_, _], _ => rfl)
  exact ⟨_, fd, h, c.g_level, F.kp, b⟩

/-! ### parting_of -/
theorem sc_parting_of : FnScope ["roads", "amount", "here", "found", "left", "a", "b", "gap", "at", "i"] ["roads", "amount"] (defScope st_parting_of) := ⟨rfl, rfl, rfl, by decide +kernel, rfl, by decide +kernel, by decide +kernel⟩
def sem_parting_of : FS :=
  (sSeq (sSet 2 (eL (fCall m_told_level (fCons (fVar 0) (fCons (fVar 1) fNil)))))
  (sSeq (sSet 3 (eL (fLst fNil)))
  (sSeq (sFor (.tp [(.nm 5), (.nm 6)]) (eIt (eL (fVar 0))) (sSeq (sSet 7 (eL (fCall m_less (fCons (fVar 2) (fCons (fVar 5) fNil)))))
  (sDrop (eApp 3 (eL (fIf (gAnd (gCmp dGt (fOp ixD (fVar 6) (fC (.int 0))) (fC (.int 0))) (gCmp dGt (fOp ixD (fVar 7) (fC (.int 0))) (fC (.int 0)))) (fCall m_by (fCons (fVar 7) (fCons (fVar 6) fNil))) (fTup (fCons (fC (.int 0)) (fCons (fC (.int 1)) fNil)))))))))
  (sSeq (sSet 4 (eL (fCall m_less (fCons (fVar 1) (fCons (fCall m_total (fCons (fVar 3) fNil)) fNil)))))
  (sSeq (sIf (eLT (gCmp dGt (fOp ixD (fVar 4) (fC (.int 0))) (fC (.int 0)))) (sSeq (sSet 8 (eL (fOp ixD (fLc (.tp [(.nm 9), (.tp [(.nm 5), (.nm 6)])]) [9, 5, 6] (fEnum (fCons (fVar 0) fNil)) (gAnd (gCmp dEq (fOp ixD (fVar 6) (fC (.int 0))) (fC (.int 0))) (gCmp dEq (fN dTuple (fCons (fVar 5) fNil)) (fVar 2))) (fVar 9)) (fC (.int 0)))))
  (sStore 3 (eFlat (eL (fVar 4))) (fVar 8)))
  sNil)
  (sRet (eFlat (eL (fTup (fCons (fN dTuple (fCons (fVar 3) fNil)) (fCons (fVar 2) fNil)))))))))))
def m_parting_of : List PyData → R PyData := runF 10 (sem_parting_of)
theorem body_parting_of (c : Ctx w K mg) (F_total : FnPP P w K mg base 4 "total" ["fractions"] .F (m_total)) (F_less : FnPP P w K mg base 3 "less" ["one", "other"] .F (m_less)) (F_by : FnPP P w K mg base 3 "by" ["one", "other"] .F (m_by)) (F_told_level : FnPP P w K mg base 5 "told_level" ["roads", "amount"] .F (m_told_level)) : BodyOk P w K mg base ["roads", "amount", "here", "found", "left", "a", "b", "gap", "at", "i"] "parting_of" (defScope st_parting_of) (He.ga K "parting_of") 5 fun X W => DSs X W [false, false, false, true, false, false, false, false, false, false] [] .F (defBody st_parting_of) (sem_parting_of) := by
  intro cdv A outer s H E hr tk hp
  exact (ss_cons (s_set (i := 2) (bk := false) (e_toV (e_lift (p_callF F_told_level tk (hr.mono (by omega)) (a_cons (p_toB (p_varV (i := 0))) (a_cons (p_toB (p_varV (i := 1))) a_nil))))) rfl (by decide) sc_parting_of.nd)
  (ss_cons (s_set (i := 3) (bk := true) (e_lift (p_lst a_nil)) rfl (by decide) sc_parting_of.nd)
  (ss_cons (s_for (t := (.tp [(.nm 5), (.nm 6)])) hp rfl (i_seq (e_lift (p_varV (i := 0)))) (pg_tup rfl (pgs_cons (pg_name (i := 5) sc_parting_of.nd rfl (by first | exact Or.inl rfl | exact Or.inr rfl)) (pgs_cons (pg_name (i := 6) sc_parting_of.nd rfl (by first | exact Or.inl rfl | exact Or.inr rfl)) pgs_nil)) rfl rfl) (ss_cons (s_set (i := 7) (bk := false) (e_toV (e_lift (p_callF F_less tk (hr.mono (by omega)) (a_cons (p_toB (p_varV (i := 2))) (a_cons (p_toB (p_varV (i := 5))) a_nil))))) rfl (by decide) sc_parting_of.nd)
  (ss_one (s_expr (e_append (i := 3) rfl (e_lift (p_if (t_w (w_and (t_cm o_gt (p_toB (p_ix (p_varV (i := 6)) p_int)) p_int) (w_and1 (t_cm o_gt (p_toB (p_ix (p_varV (i := 7)) p_int)) p_int)))) (p_callF F_by tk (hr.mono (by omega)) (a_cons (p_toB (p_varV (i := 7))) (a_cons (p_toB (p_varV (i := 6))) a_nil))) (p_tup (κ := .F) (a_cons p_int (a_cons p_int a_nil))))))))))
  (ss_cons (s_set (i := 4) (bk := false) (e_toV (e_lift (p_callF F_less tk (hr.mono (by omega)) (a_cons (p_toB (p_varV (i := 1))) (a_cons (p_toB (p_callF F_total tk (hr.mono (by omega)) (a_cons (p_varB (i := 3)) a_nil))) a_nil))))) rfl (by decide) sc_parting_of.nd)
  (ss_cons (s_if (et_lift (t_cm o_gt (p_toB (p_ix (p_varV (i := 4)) p_int)) p_int)) (ss_cons (s_set (i := 8) (bk := false) (e_lift (p_ix (p_lc (κ := .V) (own := [("i", 9), ("a", 5), ("b", 6)]) (t := (.tp [(.nm 9), (.tp [(.nm 5), (.nm 6)])])) rfl sc_parting_of.nd (i_enumP c.f_enumerate (a_cons (p_varV (i := 0)) a_nil)) (blkOk_by (N := ["roads", "amount", "here", "found", "left", "a", "b", "gap", "at", "i"]) (sc := defScope st_parting_of) (by decide +kernel)) (by decide) (by decide) (fun _ _ _ _ _ => (pg_tup rfl (pgs_cons (pg_name (i := 9) sc_parting_of.nd rfl (by first | exact Or.inl rfl | exact Or.inr rfl)) (pgs_cons (pg_tup rfl (pgs_cons (pg_name (i := 5) sc_parting_of.nd rfl (by first | exact Or.inl rfl | exact Or.inr rfl)) (pgs_cons (pg_name (i := 6) sc_parting_of.nd rfl (by first | exact Or.inl rfl | exact Or.inr rfl)) pgs_nil)) rfl rfl) pgs_nil)) rfl rfl)) (fun _ _ _ _ _ => (ts_one (t_w (w_and (t_cm (o_eq hr.u64) (p_toB (p_ix (p_varV (i := 6)) p_int)) p_int) (w_and1 (t_cm (o_eq hr.u64) (p_toB (p_tyE o_tuple c.f_tuple bt_tuple (a_cons (p_toB (p_varV (i := 5))) a_nil))) (p_toB (p_varV (i := 2))))))))) (fun _ _ _ _ _ => (p_varV (i := 9)))) p_int)) rfl (by decide) sc_parting_of.nd)
  (ss_one (s_store (i := 3) rfl (e_flat (e_toB (e_lift (p_varV (i := 4))))) (p_toB (p_varV (i := 8))))))
  ss_nil)
  (ss_one (s_ret (e_flat (e_toB (e_lift (p_tup (κ := .V) (a_cons (p_toV (p_tyE o_tuple c.f_tuple bt_tuple (a_cons (p_varB (i := 3)) a_nil))) (a_cons (p_varV (i := 2)) a_nil)))))))))))))
theorem fp_parting_of (c : Ctx w K mg) (F_total : FnPP P w K mg base 4 "total" ["fractions"] .F (m_total)) (F_less : FnPP P w K mg base 3 "less" ["one", "other"] .F (m_less)) (F_by : FnPP P w K mg base 3 "by" ["one", "other"] .F (m_by)) (F_told_level : FnPP P w K mg base 5 "told_level" ["roads", "amount"] .F (m_told_level)) : FnPP P w K mg base 6 "parting_of" ["roads", "amount"] .F (m_parting_of) := by
  obtain ⟨fd, F⟩ := c.d_parting_of
  have h : FnG P w K mg base (L2.CX P w) (5 + 1) (He.ga K "parting_of") fd ["roads", "amount"] (spP K (["roads", "amount"] : List Str).length .F (runF (["roads", "amount", "here", "found", "left", "a", "b", "gap", "at", "i"] : List Str).length (sem_parting_of))) := fnP (P := P) (w := w) (base := base) (mg := mg) (ks := [false, false, false, true, false, false, false, false, false, false]) (k := 5) F sc_parting_of (by decide) (by decide) (by decide) (body_parting_of c F_total F_less F_by F_told_level)
  have b : Binds K fd ["roads", "amount"] [] := F.bindsN (fun _ _ _ _ _ _ us hl => match us, hl with | [_, _], _ => rfl)
  exact ⟨_, fd, h, c.g_parting_of, F.kp, b⟩

/-! ### level_paper -/
theorem sc_level_paper : FnScope ["roads", "amount"] ["roads", "amount"] (defScope st_level_paper) := ⟨rfl, rfl, rfl, by decide +kernel, rfl, by decide +kernel, by decide +kernel⟩
def sem_level_paper : FS :=
  (sSeq (sDrop (eL (fCall m_check_amount (fCons (fVar 0) (fCons (fVar 1) fNil)))))
  (sRet (eL (fCall m_parting_of (fCons (fVar 0) (fCons (fVar 1) fNil))))))
def m_level_paper : List PyData → R PyData := runF 2 (sem_level_paper)
theorem body_level_paper (c : Ctx w K mg) (F_check_amount : FnPP P w K mg base 5 "check_amount" ["roads", "amount"] .F (m_check_amount)) (F_parting_of : FnPP P w K mg base 6 "parting_of" ["roads", "amount"] .F (m_parting_of)) : BodyOk P w K mg base ["roads", "amount"] "level_paper" (defScope st_level_paper) (He.ga K "level_paper") 6 fun X W => DSs X W [false, false] [] .F (defBody st_level_paper) (sem_level_paper) := by
  intro cdv A outer s H E hr tk hp
  exact (ss_cons (s_expr (e_lift (p_callF F_check_amount tk (hr.mono (by omega)) (a_cons (p_toB (p_varV (i := 0))) (a_cons (p_toB (p_varV (i := 1))) a_nil)))))
  (ss_one (s_ret (e_lift (p_callF F_parting_of tk (hr.mono (by omega)) (a_cons (p_toB (p_varV (i := 0))) (a_cons (p_toB (p_varV (i := 1))) a_nil)))))))
theorem fp_level_paper (c : Ctx w K mg) (F_check_amount : FnPP P w K mg base 5 "check_amount" ["roads", "amount"] .F (m_check_amount)) (F_parting_of : FnPP P w K mg base 6 "parting_of" ["roads", "amount"] .F (m_parting_of)) : FnPP P w K mg base 7 "level_paper" ["roads", "amount"] .F (m_level_paper) := by
  obtain ⟨fd, F⟩ := c.d_level_paper
  have h : FnG P w K mg base (L2.CX P w) (6 + 1) (He.ga K "level_paper") fd ["roads", "amount"] (spP K (["roads", "amount"] : List Str).length .F (runF (["roads", "amount"] : List Str).length (sem_level_paper))) := fnP (P := P) (w := w) (base := base) (mg := mg) (ks := [false, false]) (k := 6) F sc_level_paper (by decide) (by decide) (by decide) (body_level_paper c F_check_amount F_parting_of)
  have b : Binds K fd ["roads", "amount"] [] := F.bindsN (fun _ _ _ _ _ _ us hl => match us, hl with | [_, _], _ => rfl)
  exact ⟨_, fd, h, c.g_level_paper, F.kp, b⟩

/-! ### doubled -/
theorem sc_doubled : FnScope ["roads", "a", "b"] ["roads"] (defScope st_doubled) := ⟨rfl, rfl, rfl, by decide +kernel, rfl, by decide +kernel, by decide +kernel⟩
def sem_doubled : FS :=
  (sRet (eL (fLc (.tp [(.nm 1), (.nm 2)]) [1, 2] (fIt (fVar 0)) gYes (fTup (fCons (fVar 1) (fCons (fCall m_times (fCons (fTup (fCons (fC (.int 2)) (fCons (fC (.int 1)) fNil))) (fCons (fVar 2) fNil))) fNil))))))
def m_doubled : List PyData → R PyData := runF 3 (sem_doubled)
theorem body_doubled (c : Ctx w K mg) (F_times : FnPP P w K mg base 3 "times" ["one", "other"] .F (m_times)) : BodyOk P w K mg base ["roads", "a", "b"] "doubled" (defScope st_doubled) (He.ga K "doubled") 3 fun X W => DSs X W [false, false, false] [] .V (defBody st_doubled) (sem_doubled) := by
  intro cdv A outer s H E hr tk hp
  exact (ss_one (s_ret (e_lift (p_lc (κ := .V) (own := [("a", 1), ("b", 2)]) (t := (.tp [(.nm 1), (.nm 2)])) rfl sc_doubled.nd (i_seqP (p_varV (i := 0))) (blkOk_by (N := ["roads", "a", "b"]) (sc := defScope st_doubled) (by decide +kernel)) (by decide) (by decide) (fun _ _ _ _ _ => (pg_tup rfl (pgs_cons (pg_name (i := 1) sc_doubled.nd rfl (by first | exact Or.inl rfl | exact Or.inr rfl)) (pgs_cons (pg_name (i := 2) sc_doubled.nd rfl (by first | exact Or.inl rfl | exact Or.inr rfl)) pgs_nil)) rfl rfl)) (fun _ _ _ _ _ => ts_nil) (fun _ _ _ _ _ => (p_tup (κ := .V) (a_cons (p_varV (i := 1)) (a_cons (p_toV (p_callF F_times takes0' (hr.mono (by omega)) (a_cons (p_toB (p_tup (κ := .F) (a_cons p_int (a_cons p_int a_nil)))) (a_cons (p_toB (p_varV (i := 2))) a_nil)))) a_nil))))))))
theorem fp_doubled (c : Ctx w K mg) (F_times : FnPP P w K mg base 3 "times" ["one", "other"] .F (m_times)) : FnPP P w K mg base 4 "doubled" ["roads"] .V (m_doubled) := by
  obtain ⟨fd, F⟩ := c.d_doubled
  have h : FnG P w K mg base (L2.CX P w) (3 + 1) (He.ga K "doubled") fd ["roads"] (spP K (["roads"] : List Str).length .V (runF (["roads", "a", "b"] : List Str).length (sem_doubled))) := fnP (P := P) (w := w) (base := base) (mg := mg) (ks := [false, false, false]) (k := 3) F sc_doubled (by decide) (by decide) (by decide) (body_doubled c F_times)
  have b : Binds K fd ["roads"] [] := F.bindsN (fun _ _ _ _ _ _ us hl => match us, hl with | [_], _ => rfl)
  exact ⟨_, fd, h, c.g_doubled, F.kp, b⟩

/-! ### best_parting -/
theorem sc_best_parting : FnScope ["roads", "amount"] ["roads", "amount"] (defScope st_best_parting) := ⟨rfl, rfl, rfl, by decide +kernel, rfl, by decide +kernel, by decide +kernel⟩
def sem_best_parting : FS :=
  (sSeq (sDrop (eL (fCall m_check_amount (fCons (fVar 0) (fCons (fVar 1) fNil)))))
  (sRet (eL (fOp ixD (fCall m_parting_of (fCons (fCall m_doubled (fCons (fVar 0) fNil)) (fCons (fVar 1) fNil))) (fC (.int 0))))))
def m_best_parting : List PyData → R PyData := runF 2 (sem_best_parting)
theorem body_best_parting (c : Ctx w K mg) (F_check_amount : FnPP P w K mg base 5 "check_amount" ["roads", "amount"] .F (m_check_amount)) (F_parting_of : FnPP P w K mg base 6 "parting_of" ["roads", "amount"] .F (m_parting_of)) (F_doubled : FnPP P w K mg base 4 "doubled" ["roads"] .V (m_doubled)) : BodyOk P w K mg base ["roads", "amount"] "best_parting" (defScope st_best_parting) (He.ga K "best_parting") 6 fun X W => DSs X W [false, false] [] .F (defBody st_best_parting) (sem_best_parting) := by
  intro cdv A outer s H E hr tk hp
  exact (ss_cons (s_expr (e_lift (p_callF F_check_amount tk (hr.mono (by omega)) (a_cons (p_toB (p_varV (i := 0))) (a_cons (p_toB (p_varV (i := 1))) a_nil)))))
  (ss_one (s_ret (e_lift (p_ix (p_callF F_parting_of tk (hr.mono (by omega)) (a_cons (p_toB (p_callV F_doubled tk (hr.mono (by omega)) (a_cons (p_varV (i := 0)) a_nil))) (a_cons (p_toB (p_varV (i := 1))) a_nil))) p_int)))))
theorem fp_best_parting (c : Ctx w K mg) (F_check_amount : FnPP P w K mg base 5 "check_amount" ["roads", "amount"] .F (m_check_amount)) (F_parting_of : FnPP P w K mg base 6 "parting_of" ["roads", "amount"] .F (m_parting_of)) (F_doubled : FnPP P w K mg base 4 "doubled" ["roads"] .V (m_doubled)) : FnPP P w K mg base 7 "best_parting" ["roads", "amount"] .F (m_best_parting) := by
  obtain ⟨fd, F⟩ := c.d_best_parting
  have h : FnG P w K mg base (L2.CX P w) (6 + 1) (He.ga K "best_parting") fd ["roads", "amount"] (spP K (["roads", "amount"] : List Str).length .F (runF (["roads", "amount"] : List Str).length (sem_best_parting))) := fnP (P := P) (w := w) (base := base) (mg := mg) (ks := [false, false]) (k := 6) F sc_best_parting (by decide) (by decide) (by decide) (body_best_parting c F_check_amount F_parting_of F_doubled)
  have b : Binds K fd ["roads", "amount"] [] := F.bindsN (fun _ _ _ _ _ _ us hl => match us, hl with | [_, _], _ => rfl)
  exact ⟨_, fd, h, c.g_best_parting, F.kp, b⟩

/-! ### least_stream_sum -/
theorem sc_least_stream_sum : FnScope ["roads", "amount"] ["roads", "amount"] (defScope st_least_stream_sum) := ⟨rfl, rfl, rfl, by decide +kernel, rfl, by decide +kernel, by decide +kernel⟩
def sem_least_stream_sum : FS :=
  (sRet (eL (fCall m_sum_by (fCons (fVar 0) (fCons (fCall m_best_parting (fCons (fVar 0) (fCons (fVar 1) fNil))) fNil)))))
def m_least_stream_sum : List PyData → R PyData := runF 2 (sem_least_stream_sum)
theorem body_least_stream_sum (c : Ctx w K mg) (F_sum_by : FnPP P w K mg base 5 "sum_by" ["roads", "parting"] .F (m_sum_by)) (F_best_parting : FnPP P w K mg base 7 "best_parting" ["roads", "amount"] .F (m_best_parting)) : BodyOk P w K mg base ["roads", "amount"] "least_stream_sum" (defScope st_least_stream_sum) (He.ga K "least_stream_sum") 7 fun X W => DSs X W [false, false] [] .F (defBody st_least_stream_sum) (sem_least_stream_sum) := by
  intro cdv A outer s H E hr tk hp
  exact (ss_one (s_ret (e_lift (p_callF F_sum_by tk (hr.mono (by omega)) (a_cons (p_toB (p_varV (i := 0))) (a_cons (p_toB (p_callF F_best_parting tk (hr.mono (by omega)) (a_cons (p_toB (p_varV (i := 0))) (a_cons (p_toB (p_varV (i := 1))) a_nil)))) a_nil))))))
theorem fp_least_stream_sum (c : Ctx w K mg) (F_sum_by : FnPP P w K mg base 5 "sum_by" ["roads", "parting"] .F (m_sum_by)) (F_best_parting : FnPP P w K mg base 7 "best_parting" ["roads", "amount"] .F (m_best_parting)) : FnPP P w K mg base 8 "least_stream_sum" ["roads", "amount"] .F (m_least_stream_sum) := by
  obtain ⟨fd, F⟩ := c.d_least_stream_sum
  have h : FnG P w K mg base (L2.CX P w) (7 + 1) (He.ga K "least_stream_sum") fd ["roads", "amount"] (spP K (["roads", "amount"] : List Str).length .F (runF (["roads", "amount"] : List Str).length (sem_least_stream_sum))) := fnP (P := P) (w := w) (base := base) (mg := mg) (ks := [false, false]) (k := 7) F sc_least_stream_sum (by decide) (by decide) (by decide) (body_least_stream_sum c F_sum_by F_best_parting)
  have b : Binds K fd ["roads", "amount"] [] := F.bindsN (fun _ _ _ _ _ _ us hl => match us, hl with | [_, _], _ => rfl)
  exact ⟨_, fd, h, c.g_least_stream_sum, F.kp, b⟩

/-! ### tolls -/
theorem sc_tolls : FnScope ["roads", "amount", "stream", "_", "b"] ["roads", "amount"] (defScope st_tolls) := ⟨rfl, rfl, rfl, by decide +kernel, rfl, by decide +kernel, by decide +kernel⟩
def sem_tolls : FS :=
  (sRet (eL (fN dTuple (fCons (fLc (.tp [(.tp [(.nm 3), (.nm 4)]), (.nm 2)]) [3, 4, 2] (fZip (fCons (fVar 0) (fCons (fCall m_best_parting (fCons (fVar 0) (fCons (fVar 1) fNil))) fNil))) gYes (fCall m_times (fCons (fVar 4) (fCons (fVar 2) fNil)))) fNil))))
def m_tolls : List PyData → R PyData := runF 5 (sem_tolls)
theorem body_tolls (c : Ctx w K mg) (F_times : FnPP P w K mg base 3 "times" ["one", "other"] .F (m_times)) (F_best_parting : FnPP P w K mg base 7 "best_parting" ["roads", "amount"] .F (m_best_parting)) : BodyOk P w K mg base ["roads", "amount", "stream", "_", "b"] "tolls" (defScope st_tolls) (He.ga K "tolls") 7 fun X W => DSs X W [false, false, false, false, false] [] .F (defBody st_tolls) (sem_tolls) := by
  intro cdv A outer s H E hr tk hp
  exact (ss_one (s_ret (e_lift (p_tyE o_tuple c.f_tuple bt_tuple (a_cons (p_toB (p_lc (κ := .F) (own := [("_", 3), ("b", 4), ("stream", 2)]) (t := (.tp [(.tp [(.nm 3), (.nm 4)]), (.nm 2)])) rfl sc_tolls.nd (i_zipP c.f_zip (a_cons (p_varV (i := 0)) (a_cons (p_toV (p_callF F_best_parting tk (hr.mono (by omega)) (a_cons (p_toB (p_varV (i := 0))) (a_cons (p_toB (p_varV (i := 1))) a_nil)))) a_nil))) (blkOk_by (N := ["roads", "amount", "stream", "_", "b"]) (sc := defScope st_tolls) (by decide +kernel)) (by decide) (by decide) (fun _ _ _ _ _ => (pg_tup rfl (pgs_cons (pg_tup rfl (pgs_cons (pg_name (i := 3) sc_tolls.nd rfl (by first | exact Or.inl rfl | exact Or.inr rfl)) (pgs_cons (pg_name (i := 4) sc_tolls.nd rfl (by first | exact Or.inl rfl | exact Or.inr rfl)) pgs_nil)) rfl rfl) (pgs_cons (pg_name (i := 2) sc_tolls.nd rfl (by first | exact Or.inl rfl | exact Or.inr rfl)) pgs_nil)) rfl rfl)) (fun _ _ _ _ _ => ts_nil) (fun _ _ _ _ _ => (p_callF F_times takes0' (hr.mono (by omega)) (a_cons (p_toB (p_varV (i := 4))) (a_cons (p_toB (p_varV (i := 2))) a_nil)))))) a_nil)))))
theorem fp_tolls (c : Ctx w K mg) (F_times : FnPP P w K mg base 3 "times" ["one", "other"] .F (m_times)) (F_best_parting : FnPP P w K mg base 7 "best_parting" ["roads", "amount"] .F (m_best_parting)) : FnPP P w K mg base 8 "tolls" ["roads", "amount"] .F (m_tolls) := by
  obtain ⟨fd, F⟩ := c.d_tolls
  have h : FnG P w K mg base (L2.CX P w) (7 + 1) (He.ga K "tolls") fd ["roads", "amount"] (spP K (["roads", "amount"] : List Str).length .F (runF (["roads", "amount", "stream", "_", "b"] : List Str).length (sem_tolls))) := fnP (P := P) (w := w) (base := base) (mg := mg) (ks := [false, false, false, false, false]) (k := 7) F sc_tolls (by decide) (by decide) (by decide) (body_tolls c F_times F_best_parting)
  have b : Binds K fd ["roads", "amount"] [] := F.bindsN (fun _ _ _ _ _ _ us hl => match us, hl with | [_, _], _ => rfl)
  exact ⟨_, fd, h, c.g_tolls, F.kp, b⟩

/-! ### _law_asked -/
theorem sc__law_asked : FnScope ["way", "roads", "one", "two", "error"] ["way", "roads", "one", "two"] (defScope st__law_asked) := ⟨rfl, rfl, rfl, by decide +kernel, rfl, by decide +kernel, by decide +kernel⟩
def ct__law_asked (K : PySem.W.Frag) : List (Addr × (List PyData → R PyData)) := [(He.ga K "level", m_level), (He.ga K "level_paper", m_level_paper), (He.ga K "best_parting", m_best_parting), (He.ga K "least_stream_sum", m_least_stream_sum), (He.ga K "tolls", m_tolls)]
def sem__law_asked (K : PySem.W.Frag) : FS :=
  (sTry exNames 4 [0, 1, 2, 3] (sSeq (sIf (eLT (gCmp dLt (fVar 0) (fC (.int 5)))) (sRet (eL (fCallX (ct__law_asked K) (fOp ixD (fLst (fCons (fC (adrD (He.ga K "level"))) (fCons (fC (adrD (He.ga K "level_paper"))) (fCons (fC (adrD (He.ga K "best_parting"))) (fCons (fC (adrD (He.ga K "least_stream_sum"))) (fCons (fC (adrD (He.ga K "tolls"))) fNil)))))) (fVar 0)) (fCons (fVar 1) (fCons (fVar 2) fNil)))))
  sNil)
  (sRet (eL (fIf (gCmp dEq (fVar 0) (fC (.int 5))) (fCall m_parting_sum (fCons (fVar 1) (fCons (fVar 2) fNil))) (fCall m_is_level_paper (fCons (fVar 1) (fCons (fVar 2) (fCons (fVar 3) fNil)))))))) (fun q0 z0 => (sRet (eL (fCall (m__law_kind z0 q0) (fCons (fVar 4) fNil))))))
def m__law_asked (K : PySem.W.Frag) : List PyData → R PyData := runF 5 (sem__law_asked K)
theorem body__law_asked (c : Ctx w K mg) (F_parting_sum : FnPP P w K mg base 6 "parting_sum" ["roads", "parting"] .F (m_parting_sum)) (F_is_level_paper : FnPP P w K mg base 6 "is_level_paper" ["roads", "amount", "paper"] .F (m_is_level_paper)) (F__law_kind : ∀ z, z ∈ exNames → FnEE P w K mg base 1 "_law_kind" ["error"] (PpE (He.ga K z)) (m__law_kind z)) (F_level : FnPP P w K mg base 6 "level" ["roads", "amount"] .F (m_level)) (F_level_paper : FnPP P w K mg base 7 "level_paper" ["roads", "amount"] .F (m_level_paper)) (F_best_parting : FnPP P w K mg base 7 "best_parting" ["roads", "amount"] .F (m_best_parting)) (F_least_stream_sum : FnPP P w K mg base 8 "least_stream_sum" ["roads", "amount"] .F (m_least_stream_sum)) (F_tolls : FnPP P w K mg base 8 "tolls" ["roads", "amount"] .F (m_tolls)) : BodyOk P w K mg base ["way", "roads", "one", "two", "error"] "_law_asked" (defScope st__law_asked) (He.ga K "_law_asked") 8 fun X W => DSs X W [false, false, false, false, false] [] .F (defBody st__law_asked) (sem__law_asked K) := by
  intro cdv A outer s H E hr tk hp
  exact have CT : FnT P w K mg base 8 2 .F (ct__law_asked K) := (FnT.cons F_level (by omega) c.g_level (FnT.cons F_level_paper (by omega) c.g_level_paper (FnT.cons F_best_parting (by omega) c.g_best_parting (FnT.cons F_least_stream_sum (by omega) c.g_least_stream_sum (FnT.cons F_tolls (by omega) c.g_tolls FnT.nil))))); (ss_one (s_try (xs := exNames) (i := 4) (P := [0, 1, 2, 3]) sc__law_asked.nd tk c.g_StakeError c.tr_StakeError (fun _ _ _ tk hp => (ss_cons (s_if (et_lift (t_cm o_lt (p_toB (p_varV (i := 0))) p_int)) (ss_one (s_ret (e_lift (p_callX CT tk hr (p_toB (p_ix (p_lst (κ := .F) (a_cons (p_globR c.g_level) (a_cons (p_globR c.g_level_paper) (a_cons (p_globR c.g_best_parting) (a_cons (p_globR c.g_least_stream_sum) (a_cons (p_globR c.g_tolls) a_nil)))))) (p_toB (p_varV (i := 0))))) (a_cons (p_toB (p_varV (i := 1))) (a_cons (p_toB (p_varV (i := 2))) a_nil))))))
  ss_nil)
  (ss_one (s_ret (e_lift (p_if (t_cm (o_eq hr.u64) (p_toB (p_varV (i := 0))) p_int) (p_callF F_parting_sum tk (hr.mono (by omega)) (a_cons (p_toB (p_varV (i := 1))) (a_cons (p_toB (p_varV (i := 2))) a_nil))) (p_callF F_is_level_paper tk (hr.mono (by omega)) (a_cons (p_toB (p_varV (i := 1))) (a_cons (p_toB (p_varV (i := 2))) (a_cons (p_toB (p_varV (i := 3))) a_nil)))))))))) (fun q0 o0 z0 pn hz0 hz => (ss_one (s_ret (e_lift (p_callE (q := (q0, o0)) (F__law_kind z0 hz0) takes0' (hr.hot.mono (by omega)) (List.mem_cons_self ..) hz (a_cons (p_toB (p_varV (i := 4))) a_nil))))))))
theorem fp__law_asked (c : Ctx w K mg) (F_parting_sum : FnPP P w K mg base 6 "parting_sum" ["roads", "parting"] .F (m_parting_sum)) (F_is_level_paper : FnPP P w K mg base 6 "is_level_paper" ["roads", "amount", "paper"] .F (m_is_level_paper)) (F__law_kind : ∀ z, z ∈ exNames → FnEE P w K mg base 1 "_law_kind" ["error"] (PpE (He.ga K z)) (m__law_kind z)) (F_level : FnPP P w K mg base 6 "level" ["roads", "amount"] .F (m_level)) (F_level_paper : FnPP P w K mg base 7 "level_paper" ["roads", "amount"] .F (m_level_paper)) (F_best_parting : FnPP P w K mg base 7 "best_parting" ["roads", "amount"] .F (m_best_parting)) (F_least_stream_sum : FnPP P w K mg base 8 "least_stream_sum" ["roads", "amount"] .F (m_least_stream_sum)) (F_tolls : FnPP P w K mg base 8 "tolls" ["roads", "amount"] .F (m_tolls)) : FnPP P w K mg base 9 "_law_asked" ["way", "roads", "one", "two"] .F (m__law_asked K) := by
  obtain ⟨fd, F⟩ := c.d__law_asked
  have h : FnG P w K mg base (L2.CX P w) (8 + 1) (He.ga K "_law_asked") fd ["way", "roads", "one", "two"] (spP K (["way", "roads", "one", "two"] : List Str).length .F (runF (["way", "roads", "one", "two", "error"] : List Str).length (sem__law_asked K))) := fnP (P := P) (w := w) (base := base) (mg := mg) (ks := [false, false, false, false, false]) (k := 8) F sc__law_asked (by decide) (by decide) (by decide) (body__law_asked c F_parting_sum F_is_level_paper F__law_kind F_level F_level_paper F_best_parting F_least_stream_sum F_tolls)
  have b : Binds K fd ["way", "roads", "one", "two"] [] := F.bindsN (fun _ _ _ _ _ _ us hl => match us, hl with | [_, _, _, _], _ => rfl)
  exact ⟨_, fd, h, c.g__law_asked, F.kp, b⟩

/-! ### _law_pick -/
theorem sc__law_pick : FnScope ["draws", "some"] ["draws", "some"] (defScope st__law_pick) := ⟨rfl, rfl, rfl, by decide +kernel, rfl, by decide +kernel, by decide +kernel⟩
def sem__law_pick : FS :=
  (sRet (eFlat (eOp ixD (eL (fVar 1)) (eOp dMod (eN dInt (eCons (eCallM 0 m__law_next (eLA fNil)) eNil)) (eL (fN dLen (fCons (fVar 1) fNil)))))))
def m__law_pick : PyData → List PyData → R (PyData × PyData) := runM 2 (sem__law_pick)
theorem body__law_pick (c : Ctx w K mg) (F__law_next : FnMM P w K mg base 1 "_law_next" ["draws"] .F (m__law_next)) : BodyOk P w K mg base ["draws", "some"] "_law_pick" (defScope st__law_pick) (He.ga K "_law_pick") 1 fun X W => DSs X W [true, false] [0] .F (defBody st__law_pick) (sem__law_pick) := by
  intro cdv A outer s H E hr tk hp
  exact (ss_one (s_ret (e_flat (e_toB (e_ix (e_lift (p_varV (i := 1))) (e_toB (e_bin o_mod (e_toV (e_tyE o_int c.f_int bt_int (ea_cons (e_toV (e_callM (i := 0) F__law_next tk (hr.mono (by omega)) rfl (ea_lift a_nil) (HLe.lift (by repeat (first | exact HL.nil | refine HL.cons ?_))))) ea_nil))) (e_toB (e_lift (p_biE o_len' c.f_len bt_len (a_cons (p_toB (p_varV (i := 1))) a_nil)))))))))))
theorem fp__law_pick (c : Ctx w K mg) (F__law_next : FnMM P w K mg base 1 "_law_next" ["draws"] .F (m__law_next)) : FnMM P w K mg base 2 "_law_pick" ["draws", "some"] .F (m__law_pick) := by
  obtain ⟨fd, F⟩ := c.d__law_pick
  have h : FnG P w K mg base (L2.CX P w) (1 + 1) (He.ga K "_law_pick") fd ["draws", "some"] (spM K ((["some"] : List Str).length + 1) .F (runM (["draws", "some"] : List Str).length (sem__law_pick))) := fnM (P := P) (w := w) (base := base) (mg := mg) (ks := [true, false]) (k := 1) F sc__law_pick rfl (by decide) (by decide) (by decide) (body__law_pick c F__law_next)
  have b : Binds K fd ["draws", "some"] [] := F.bindsN (fun _ _ _ _ _ _ us hl => match us, hl with | [_, _], _ => rfl)
  exact ⟨_, fd, h, c.g__law_pick, F.kp, b⟩

/-! ### _law_flat -/
theorem sc__law_flat : FnScope ["rows", "found", "row"] ["rows"] (defScope st__law_flat) := ⟨rfl, rfl, rfl, by decide +kernel, rfl, by decide +kernel, by decide +kernel⟩
def sem__law_flat : FS :=
  (sSeq (sSet 1 (eL (fLst fNil)))
  (sSeq (sFor (.nm 2) (eIt (eL (fVar 0))) (sDrop (eExt 1 (eL (fVar 2)))))
  (sRetO 1)))
def m__law_flat : List PyData → R PyData := runF 3 (sem__law_flat)
theorem body__law_flat (c : Ctx w K mg)  : BodyOk P w K mg base ["rows", "found", "row"] "_law_flat" (defScope st__law_flat) (He.ga K "_law_flat") 0 fun X W => DSs X W [false, true, false] [] .F (defBody st__law_flat) (sem__law_flat) := by
  intro cdv A outer s H E hr tk hp
  exact (ss_cons (s_set (i := 1) (bk := true) (e_lift (p_lst a_nil)) rfl (by decide) sc__law_flat.nd)
  (ss_cons (s_for (t := (.nm 2)) hp rfl (i_seq (e_lift (p_varV (i := 0)))) (pg_name (i := 2) sc__law_flat.nd rfl (by first | exact Or.inl rfl | exact Or.inr rfl)) (ss_one (s_expr (e_extend (i := 1) rfl (e_toB (e_lift (p_varV (i := 2))))))))
  (ss_one (s_retO (i := 1) rfl))))
theorem fp__law_flat (c : Ctx w K mg)  : FnPP P w K mg base 1 "_law_flat" ["rows"] .F (m__law_flat) := by
  obtain ⟨fd, F⟩ := c.d__law_flat
  have h : FnG P w K mg base (L2.CX P w) (0 + 1) (He.ga K "_law_flat") fd ["rows"] (spP K (["rows"] : List Str).length .F (runF (["rows", "found", "row"] : List Str).length (sem__law_flat))) := fnP (P := P) (w := w) (base := base) (mg := mg) (ks := [false, true, false]) (k := 0) F sc__law_flat (by decide) (by decide) (by decide) (body__law_flat c )
  have b : Binds K fd ["rows"] [] := F.bindsN (fun _ _ _ _ _ _ us hl => match us, hl with | [_], _ => rfl)
  exact ⟨_, fd, h, c.g__law_flat, F.kp, b⟩

/-! ### _law_part_of -/
theorem sc__law_part_of : FnScope ["draws", "most"] ["draws", "most"] (defScope st__law_part_of) := ⟨rfl, rfl, rfl, by decide +kernel, rfl, by decide +kernel, by decide +kernel⟩
def sem__law_part_of : FS :=
  (sRet (eCall m__law_least (eCons (eOp dMod (eN dInt (eCons (eCallM 0 m__law_next (eLA fNil)) eNil)) (eL (fVar 1))) (eCons (eOp dAdd (eL (fC (.int 1))) (eOp dMod (eN dInt (eCons (eCallM 0 m__law_next (eLA fNil)) eNil)) (eL (fC (.int 3))))) eNil))))
def m__law_part_of : PyData → List PyData → R (PyData × PyData) := runM 2 (sem__law_part_of)
theorem body__law_part_of (c : Ctx w K mg) (F__law_next : FnMM P w K mg base 1 "_law_next" ["draws"] .F (m__law_next)) (F__law_least : FnPP P w K mg base 2 "_law_least" ["top", "low"] .F (m__law_least)) : BodyOk P w K mg base ["draws", "most"] "_law_part_of" (defScope st__law_part_of) (He.ga K "_law_part_of") 2 fun X W => DSs X W [true, false] [0] .F (defBody st__law_part_of) (sem__law_part_of) := by
  intro cdv A outer s H E hr tk hp
  exact (ss_one (s_ret (e_callF F__law_least tk (hr.mono (by omega)) (ea_cons (e_toV (e_bin o_mod (e_toV (e_tyE o_int c.f_int bt_int (ea_cons (e_toV (e_callM (i := 0) F__law_next tk (hr.mono (by omega)) rfl (ea_lift a_nil) (HLe.lift (by repeat (first | exact HL.nil | refine HL.cons ?_))))) ea_nil))) (e_toB (e_lift (p_varV (i := 1)))))) (ea_cons (e_toV (e_bin o_add (e_lift p_int) (e_toB (e_bin o_mod (e_toV (e_tyE o_int c.f_int bt_int (ea_cons (e_toV (e_callM (i := 0) F__law_next tk (hr.mono (by omega)) rfl (ea_lift a_nil) (HLe.lift (by repeat (first | exact HL.nil | refine HL.cons ?_))))) ea_nil))) (e_lift p_int))))) ea_nil)))))
theorem fp__law_part_of (c : Ctx w K mg) (F__law_next : FnMM P w K mg base 1 "_law_next" ["draws"] .F (m__law_next)) (F__law_least : FnPP P w K mg base 2 "_law_least" ["top", "low"] .F (m__law_least)) : FnMM P w K mg base 3 "_law_part_of" ["draws", "most"] .F (m__law_part_of) := by
  obtain ⟨fd, F⟩ := c.d__law_part_of
  have h : FnG P w K mg base (L2.CX P w) (2 + 1) (He.ga K "_law_part_of") fd ["draws", "most"] (spM K ((["most"] : List Str).length + 1) .F (runM (["draws", "most"] : List Str).length (sem__law_part_of))) := fnM (P := P) (w := w) (base := base) (mg := mg) (ks := [true, false]) (k := 2) F sc__law_part_of rfl (by decide) (by decide) (by decide) (body__law_part_of c F__law_next F__law_least)
  have b : Binds K fd ["draws", "most"] [] := F.bindsN (fun _ _ _ _ _ _ us hl => match us, hl with | [_, _], _ => rfl)
  exact ⟨_, fd, h, c.g__law_part_of, F.kp, b⟩

/-! ### _law_roads -/
theorem sc__law_roads : FnScope ["draws", "most", "found", "road", "a", "b"] ["draws", "most"] (defScope st__law_roads) := ⟨rfl, rfl, rfl, by decide +kernel, rfl, by decide +kernel, by decide +kernel⟩
def sem__law_roads : FS :=
  (sSeq (sSet 2 (eL (fLst fNil)))
  (sSeq (sFor (.nm 3) (eRg (eCons (eOp dAdd (eL (fC (.int 1))) (eOp dMod (eN dInt (eCons (eCallM 0 m__law_next (eLA fNil)) eNil)) (eL (fVar 1)))) eNil)) (sSeq (sPar 4 5 (eCons (eCallM 0 m__law_part_of (eLA (fCons (fC (.int 6)) fNil))) (eCons (eCallM 0 m__law_part_of (eLA (fCons (fC (.int 4)) fNil))) eNil)))
  (sDrop (eApp 2 (eFlat (eL (fIf (gCmp dGt (fOp dAdd (fOp ixD (fVar 4) (fC (.int 0))) (fOp ixD (fVar 5) (fC (.int 0)))) (fC (.int 0))) (fTup (fCons (fVar 4) (fCons (fVar 5) fNil))) (fTup (fCons (fVar 4) (fCons (fTup (fCons (fC (.int 1)) (fCons (fC (.int 1)) fNil))) fNil))))))))))
  (sRet (eL (fN dTuple (fCons (fVar 2) fNil))))))
def m__law_roads : PyData → List PyData → R (PyData × PyData) := runM 6 (sem__law_roads)
theorem body__law_roads (c : Ctx w K mg) (F__law_next : FnMM P w K mg base 1 "_law_next" ["draws"] .F (m__law_next)) (F__law_part_of : FnMM P w K mg base 3 "_law_part_of" ["draws", "most"] .F (m__law_part_of)) : BodyOk P w K mg base ["draws", "most", "found", "road", "a", "b"] "_law_roads" (defScope st__law_roads) (He.ga K "_law_roads") 3 fun X W => DSs X W [true, false, true, false, false, false] [0] .F (defBody st__law_roads) (sem__law_roads) := by
  intro cdv A outer s H E hr tk hp
  exact (ss_cons (s_set (i := 2) (bk := true) (e_lift (p_lst a_nil)) rfl (by decide) sc__law_roads.nd)
  (ss_cons (s_for (t := (.nm 3)) hp rfl (i_range1 (κ := .V) c.f_range (ea_cons (e_toV (e_bin o_add (e_lift p_int) (e_toB (e_bin o_mod (e_toV (e_tyE o_int c.f_int bt_int (ea_cons (e_toV (e_callM (i := 0) F__law_next tk (hr.mono (by omega)) rfl (ea_lift a_nil) (HLe.lift (by repeat (first | exact HL.nil | refine HL.cons ?_))))) ea_nil))) (e_toB (e_lift (p_varV (i := 1)))))))) ea_nil) (by repeat (first | exact HLe.nil | refine HLe.cons ?_))) (pg_name (i := 3) sc__law_roads.nd rfl (by first | exact Or.inl rfl | exact Or.inr rfl)) (ss_cons (s_par (i := 4) (j := 5) rfl (ea_cons (e_toV (e_callM (i := 0) F__law_part_of tk (hr.mono (by omega)) rfl (ea_lift (a_cons p_int a_nil)) (HLe.lift (by repeat (first | exact HL.nil | refine HL.cons ?_))))) (ea_cons (e_toV (e_callM (i := 0) F__law_part_of tk (hr.mono (by omega)) rfl (ea_lift (a_cons p_int a_nil)) (HLe.lift (by repeat (first | exact HL.nil | refine HL.cons ?_))))) ea_nil)) sc__law_roads.nd)
  (ss_one (s_expr (e_append (i := 2) rfl (e_flat (e_toB (e_lift (p_if (t_cm o_gt (p_toB (p_bin o_add (p_toB (p_ix (p_varV (i := 4)) p_int)) (p_toB (p_ix (p_varV (i := 5)) p_int)))) p_int) (p_tup (κ := .V) (a_cons (p_varV (i := 4)) (a_cons (p_varV (i := 5)) a_nil))) (p_tup (κ := .V) (a_cons (p_varV (i := 4)) (a_cons (p_toV (p_tup (κ := .F) (a_cons p_int (a_cons p_int a_nil)))) a_nil))))))))))))
  (ss_one (s_ret (e_lift (p_tyE o_tuple c.f_tuple bt_tuple (a_cons (p_varB (i := 2)) a_nil)))))))
theorem fp__law_roads (c : Ctx w K mg) (F__law_next : FnMM P w K mg base 1 "_law_next" ["draws"] .F (m__law_next)) (F__law_part_of : FnMM P w K mg base 3 "_law_part_of" ["draws", "most"] .F (m__law_part_of)) : FnMM P w K mg base 4 "_law_roads" ["draws", "most"] .F (m__law_roads) := by
  obtain ⟨fd, F⟩ := c.d__law_roads
  have h : FnG P w K mg base (L2.CX P w) (3 + 1) (He.ga K "_law_roads") fd ["draws", "most"] (spM K ((["most"] : List Str).length + 1) .F (runM (["draws", "most", "found", "road", "a", "b"] : List Str).length (sem__law_roads))) := fnM (P := P) (w := w) (base := base) (mg := mg) (ks := [true, false, true, false, false, false]) (k := 3) F sc__law_roads rfl (by decide) (by decide) (by decide) (body__law_roads c F__law_next F__law_part_of)
  have b : Binds K fd ["draws", "most"] [] := F.bindsN (fun _ _ _ _ _ _ us hl => match us, hl with | [_, _], _ => rfl)
  exact ⟨_, fd, h, c.g__law_roads, F.kp, b⟩

/-! ### _law_is_less -/
theorem sc__law_is_less : FnScope ["one", "other"] ["one", "other"] (defScope st__law_is_less) := ⟨rfl, rfl, rfl, by decide +kernel, rfl, by decide +kernel, by decide +kernel⟩
def sem__law_is_less : FS :=
  (sRet (eL (fOfB (gCmp dLt (fOp dMul (fOp ixD (fVar 0) (fC (.int 0))) (fOp ixD (fVar 1) (fC (.int 1)))) (fOp dMul (fOp ixD (fVar 1) (fC (.int 0))) (fOp ixD (fVar 0) (fC (.int 1))))))))
def m__law_is_less : List PyData → R PyData := runF 2 (sem__law_is_less)
theorem body__law_is_less (c : Ctx w K mg)  : BodyOk P w K mg base ["one", "other"] "_law_is_less" (defScope st__law_is_less) (He.ga K "_law_is_less") 0 fun X W => DSs X W [false, false] [] .F (defBody st__law_is_less) (sem__law_is_less) := by
  intro cdv A outer s H E hr tk hp
  exact (ss_one (s_ret (e_lift (p_cm o_lt (p_toB (p_bin o_mul (p_toB (p_ix (p_varV (i := 0)) p_int)) (p_toB (p_ix (p_varV (i := 1)) p_int)))) (p_toB (p_bin o_mul (p_toB (p_ix (p_varV (i := 1)) p_int)) (p_toB (p_ix (p_varV (i := 0)) p_int))))))))
theorem fp__law_is_less (c : Ctx w K mg)  : FnPP P w K mg base 1 "_law_is_less" ["one", "other"] .F (m__law_is_less) := by
  obtain ⟨fd, F⟩ := c.d__law_is_less
  have h : FnG P w K mg base (L2.CX P w) (0 + 1) (He.ga K "_law_is_less") fd ["one", "other"] (spP K (["one", "other"] : List Str).length .F (runF (["one", "other"] : List Str).length (sem__law_is_less))) := fnP (P := P) (w := w) (base := base) (mg := mg) (ks := [false, false]) (k := 0) F sc__law_is_less (by decide) (by decide) (by decide) (body__law_is_less c )
  have b : Binds K fd ["one", "other"] [] := F.bindsN (fun _ _ _ _ _ _ us hl => match us, hl with | [_, _], _ => rfl)
  exact ⟨_, fd, h, c.g__law_is_less, F.kp, b⟩

/-! ### _law_drawn -/
theorem sc__law_drawn : FnScope ["draws", "many", "amount", "parts", "at", "part"] ["draws", "many", "amount"] (defScope st__law_drawn) := ⟨rfl, rfl, rfl, by decide +kernel, rfl, by decide +kernel, by decide +kernel⟩
def sem__law_drawn : FS :=
  (sSeq (sSet 3 (eLc (.nm 4) [4] (eRg (eLA (fCons (fVar 1) fNil))) egYes (eOp dMod (eN dInt (eCons (eCallM 0 m__law_next (eLA fNil)) eNil)) (eL (fC (.int 4))))))
  (sSeq (sStore 3 (eL (fOp dAdd (fOp ixD (fVar 3) (fC (.int 0))) (fC (.int 1)))) (fC (.int 0)))
  (sRet (eL (fN dTuple (fCons (fLc (.nm 5) [5] (fItF (fVar 3)) gYes (fCall m__law_times (fCons (fVar 2) (fCons (fCall m__law_least (fCons (fVar 5) (fCons (fN dSum (fCons (fVar 3) fNil)) fNil))) fNil)))) fNil))))))
def m__law_drawn : PyData → List PyData → R (PyData × PyData) := runM 6 (sem__law_drawn)
theorem body__law_drawn (c : Ctx w K mg) (F__law_next : FnMM P w K mg base 1 "_law_next" ["draws"] .F (m__law_next)) (F__law_least : FnPP P w K mg base 2 "_law_least" ["top", "low"] .F (m__law_least)) (F__law_times : FnPP P w K mg base 3 "_law_times" ["one", "other"] .F (m__law_times)) : BodyOk P w K mg base ["draws", "many", "amount", "parts", "at", "part"] "_law_drawn" (defScope st__law_drawn) (He.ga K "_law_drawn") 3 fun X W => DSs X W [true, false, false, true, false, false] [0] .F (defBody st__law_drawn) (sem__law_drawn) := by
  intro cdv A outer s H E hr tk hp
  exact (ss_cons (s_set (i := 3) (bk := true) (e_lc (κ := .F) (own := [("at", 4)]) (t := (.nm 4)) rfl sc__law_drawn.nd (i_range1 (κ := .V) c.f_range (ea_lift (a_cons (p_varV (i := 1)) a_nil)) (HLe.lift (by repeat (first | exact HL.nil | refine HL.cons ?_)))) (blkOk_by (N := ["draws", "many", "amount", "parts", "at", "part"]) (sc := defScope st__law_drawn) (by decide +kernel)) (by decide) (by decide) (fun _ _ _ _ _ => (pg_name (i := 4) sc__law_drawn.nd rfl (by first | exact Or.inl rfl | exact Or.inr rfl))) (fun _ _ _ _ _ => ets_nil) (fun _ _ _ _ _ => (e_bin o_mod (e_toV (e_tyE o_int c.f_int bt_int (ea_cons (e_toV (e_callM (i := 0) F__law_next takes0' (hr.mono (by omega)) rfl (ea_lift a_nil) (HLe.lift (by repeat (first | exact HL.nil | refine HL.cons ?_))))) ea_nil))) (e_lift p_int)))) rfl (by decide) sc__law_drawn.nd)
  (ss_cons (s_store (i := 3) rfl (e_lift (p_bin o_add (p_ix (p_varB (i := 3)) p_int) p_int)) p_int)
  (ss_one (s_ret (e_lift (p_tyE o_tuple c.f_tuple bt_tuple (a_cons (p_toB (p_lc (κ := .F) (own := [("part", 5)]) (t := (.nm 5)) rfl sc__law_drawn.nd (i_seqF (p_varB (i := 3))) (blkOk_by (N := ["draws", "many", "amount", "parts", "at", "part"]) (sc := defScope st__law_drawn) (by decide +kernel)) (by decide) (by decide) (fun _ _ _ _ _ => (pg_name (i := 5) sc__law_drawn.nd rfl (by first | exact Or.inl rfl | exact Or.inr rfl))) (fun _ _ _ _ _ => ts_nil) (fun _ _ _ _ _ => (p_callF F__law_times takes0' (hr.mono (by omega)) (a_cons (p_toB (p_varV (i := 2))) (a_cons (p_toB (p_callF F__law_least takes0' (hr.mono (by omega)) (a_cons (p_toB (p_varV (i := 5))) (a_cons (p_toB (p_biE (o_sum' rfl) c.f_sum bt_sum (a_cons (p_varB (i := 3)) a_nil))) a_nil)))) a_nil)))))) a_nil)))))))
theorem fp__law_drawn (c : Ctx w K mg) (F__law_next : FnMM P w K mg base 1 "_law_next" ["draws"] .F (m__law_next)) (F__law_least : FnPP P w K mg base 2 "_law_least" ["top", "low"] .F (m__law_least)) (F__law_times : FnPP P w K mg base 3 "_law_times" ["one", "other"] .F (m__law_times)) : FnMM P w K mg base 4 "_law_drawn" ["draws", "many", "amount"] .F (m__law_drawn) := by
  obtain ⟨fd, F⟩ := c.d__law_drawn
  have h : FnG P w K mg base (L2.CX P w) (3 + 1) (He.ga K "_law_drawn") fd ["draws", "many", "amount"] (spM K ((["many", "amount"] : List Str).length + 1) .F (runM (["draws", "many", "amount", "parts", "at", "part"] : List Str).length (sem__law_drawn))) := fnM (P := P) (w := w) (base := base) (mg := mg) (ks := [true, false, false, true, false, false]) (k := 3) F sc__law_drawn rfl (by decide) (by decide) (by decide) (body__law_drawn c F__law_next F__law_least F__law_times)
  have b : Binds K fd ["draws", "many", "amount"] [] := F.bindsN (fun _ _ _ _ _ _ us hl => match us, hl with | [_, _, _], _ => rfl)
  exact ⟨_, fd, h, c.g__law_drawn, F.kp, b⟩

/-! ### _law_wrong_roads -/
theorem sc__law_wrong_roads : FnScope [] [] (defScope st__law_wrong_roads) := ⟨rfl, rfl, rfl, by decide +kernel, rfl, by decide +kernel, by decide +kernel⟩
def sem__law_wrong_roads : FS :=
  (sRet (eL (fLst (fCons (fTup fNil) (fCons (fOp dMulT (fTup (fCons (fTup (fCons (fTup (fCons (fC (.int 1)) (fCons (fC (.int 1)) fNil))) (fCons (fTup (fCons (fC (.int 0)) (fCons (fC (.int 1)) fNil))) fNil))) fNil)) (fC (.int 9))) (fCons (fTup (fCons (fTup (fCons (fTup (fCons (fC (.int 0)) (fCons (fC (.int 1)) fNil))) (fCons (fTup (fCons (fC (.int 0)) (fCons (fC (.int 1)) fNil))) fNil))) fNil)) (fCons (fTup (fCons (fTup (fCons (fTup (fCons (fC (.int 2)) (fCons (fC (.int 4)) fNil))) (fCons (fTup (fCons (fC (.int 1)) (fCons (fC (.int 1)) fNil))) fNil))) fNil)) (fCons (fTup (fCons (fTup (fCons (fTup (fCons (fUn dNeg (fC (.int 1))) (fCons (fC (.int 1)) fNil))) (fCons (fTup (fCons (fC (.int 1)) (fCons (fC (.int 1)) fNil))) fNil))) fNil)) (fCons (fTup (fCons (fTup (fCons (fTup (fCons (fC (.int 1001)) (fCons (fC (.int 1)) fNil))) (fCons (fTup (fCons (fC (.int 1)) (fCons (fC (.int 1)) fNil))) fNil))) fNil)) (fCons (fTup (fCons (fTup (fCons (fTup (fCons (fC (.int 1)) (fCons (fC (.int 1)) fNil))) (fCons (fTup (fCons (fC (.int 1)) (fCons (fC (.int 1001)) fNil))) fNil))) fNil)) fNil))))))))))
def m__law_wrong_roads : List PyData → R PyData := runF 0 (sem__law_wrong_roads)
theorem body__law_wrong_roads (c : Ctx w K mg)  : BodyOk P w K mg base [] "_law_wrong_roads" (defScope st__law_wrong_roads) (He.ga K "_law_wrong_roads") 0 fun X W => DSs X W [] [] .F (defBody st__law_wrong_roads) (sem__law_wrong_roads) := by
  intro cdv A outer s H E hr tk hp
  exact (ss_one (s_ret (e_lift (p_lst (κ := .F) (a_cons (p_tup a_nil) (a_cons (p_bin o_mulT (p_toB (p_tup (κ := .F) (a_cons (p_tup (κ := .F) (a_cons (p_tup (κ := .F) (a_cons p_int (a_cons p_int a_nil))) (a_cons (p_tup (κ := .F) (a_cons p_int (a_cons p_int a_nil))) a_nil))) a_nil))) p_int) (a_cons (p_tup (κ := .F) (a_cons (p_tup (κ := .F) (a_cons (p_tup (κ := .F) (a_cons p_int (a_cons p_int a_nil))) (a_cons (p_tup (κ := .F) (a_cons p_int (a_cons p_int a_nil))) a_nil))) a_nil)) (a_cons (p_tup (κ := .F) (a_cons (p_tup (κ := .F) (a_cons (p_tup (κ := .F) (a_cons p_int (a_cons p_int a_nil))) (a_cons (p_tup (κ := .F) (a_cons p_int (a_cons p_int a_nil))) a_nil))) a_nil)) (a_cons (p_tup (κ := .F) (a_cons (p_tup (κ := .F) (a_cons (p_tup (κ := .F) (a_cons (p_neg p_int) (a_cons p_int a_nil))) (a_cons (p_tup (κ := .F) (a_cons p_int (a_cons p_int a_nil))) a_nil))) a_nil)) (a_cons (p_tup (κ := .F) (a_cons (p_tup (κ := .F) (a_cons (p_tup (κ := .F) (a_cons p_int (a_cons p_int a_nil))) (a_cons (p_tup (κ := .F) (a_cons p_int (a_cons p_int a_nil))) a_nil))) a_nil)) (a_cons (p_tup (κ := .F) (a_cons (p_tup (κ := .F) (a_cons (p_tup (κ := .F) (a_cons p_int (a_cons p_int a_nil))) (a_cons (p_tup (κ := .F) (a_cons p_int (a_cons p_int a_nil))) a_nil))) a_nil)) a_nil)))))))))))
theorem fp__law_wrong_roads (c : Ctx w K mg)  : FnPP P w K mg base 1 "_law_wrong_roads" [] .F (m__law_wrong_roads) := by
  obtain ⟨fd, F⟩ := c.d__law_wrong_roads
  have h : FnG P w K mg base (L2.CX P w) (0 + 1) (He.ga K "_law_wrong_roads") fd [] (spP K ([] : List Str).length .F (runF ([] : List Str).length (sem__law_wrong_roads))) := fnP (P := P) (w := w) (base := base) (mg := mg) (ks := []) (k := 0) F sc__law_wrong_roads (by decide) (by decide) (by decide) (body__law_wrong_roads c )
  have b : Binds K fd [] [] := F.bindsN (fun _ _ _ _ _ _ us hl => match us, hl with | [], _ => rfl)
  exact ⟨_, fd, h, c.g__law_wrong_roads, F.kp, b⟩

/-! ### _law_total -/
theorem sc__law_total : FnScope ["fractions", "found", "fraction"] ["fractions"] (defScope st__law_total) := ⟨rfl, rfl, rfl, by decide +kernel, rfl, by decide +kernel, by decide +kernel⟩
def sem__law_total : FS :=
  (sSeq (sSet 1 (eL (fTup (fCons (fC (.int 0)) (fCons (fC (.int 1)) fNil)))))
  (sSeq (sFor (.nm 2) (eIt (eL (fVar 0))) (sSet 1 (eL (fCall m__law_add (fCons (fVar 1) (fCons (fVar 2) fNil))))))
  (sRet (eFlat (eL (fVar 1))))))
def m__law_total : List PyData → R PyData := runF 3 (sem__law_total)
theorem body__law_total (c : Ctx w K mg) (F__law_add : FnPP P w K mg base 3 "_law_add" ["one", "other"] .F (m__law_add)) : BodyOk P w K mg base ["fractions", "found", "fraction"] "_law_total" (defScope st__law_total) (He.ga K "_law_total") 3 fun X W => DSs X W [false, false, false] [] .F (defBody st__law_total) (sem__law_total) := by
  intro cdv A outer s H E hr tk hp
  exact (ss_cons (s_set (i := 1) (bk := false) (e_toV (e_lift (p_tup (κ := .F) (a_cons p_int (a_cons p_int a_nil))))) rfl (by decide) sc__law_total.nd)
  (ss_cons (s_for (t := (.nm 2)) hp rfl (i_seq (e_lift (p_varV (i := 0)))) (pg_name (i := 2) sc__law_total.nd rfl (by first | exact Or.inl rfl | exact Or.inr rfl)) (ss_one (s_set (i := 1) (bk := false) (e_toV (e_lift (p_callF F__law_add tk (hr.mono (by omega)) (a_cons (p_toB (p_varV (i := 1))) (a_cons (p_toB (p_varV (i := 2))) a_nil))))) rfl (by decide) sc__law_total.nd)))
  (ss_one (s_ret (e_flat (e_toB (e_lift (p_varV (i := 1)))))))))
theorem fp__law_total (c : Ctx w K mg) (F__law_add : FnPP P w K mg base 3 "_law_add" ["one", "other"] .F (m__law_add)) : FnPP P w K mg base 4 "_law_total" ["fractions"] .F (m__law_total) := by
  obtain ⟨fd, F⟩ := c.d__law_total
  have h : FnG P w K mg base (L2.CX P w) (3 + 1) (He.ga K "_law_total") fd ["fractions"] (spP K (["fractions"] : List Str).length .F (runF (["fractions", "found", "fraction"] : List Str).length (sem__law_total))) := fnP (P := P) (w := w) (base := base) (mg := mg) (ks := [false, false, false]) (k := 3) F sc__law_total (by decide) (by decide) (by decide) (body__law_total c F__law_add)
  have b : Binds K fd ["fractions"] [] := F.bindsN (fun _ _ _ _ _ _ us hl => match us, hl with | [_], _ => rfl)
  exact ⟨_, fd, h, c.g__law_total, F.kp, b⟩

/-! ### _law_is_fraction -/
theorem sc__law_is_fraction : FnScope ["pair"] ["pair"] (defScope st__law_is_fraction) := ⟨rfl, rfl, rfl, by decide +kernel, rfl, by decide +kernel, by decide +kernel⟩
def sem__law_is_fraction : FS :=
  (sRet (eL (fAnd (fOfB (gCmp dEq (fN dLen (fCons (fVar 0) fNil)) (fC (.int 2)))) (fAnd (fOfB (gCmp dGt (fOp ixD (fVar 0) (fC (.int 1))) (fC (.int 0)))) (fOfB (gCmp dEq (fCall m__law_least (fCons (fOp ixD (fVar 0) (fC (.int 0))) (fCons (fOp ixD (fVar 0) (fC (.int 1))) fNil))) (fVar 0)))))))
def m__law_is_fraction : List PyData → R PyData := runF 1 (sem__law_is_fraction)
theorem body__law_is_fraction (c : Ctx w K mg) (F__law_least : FnPP P w K mg base 2 "_law_least" ["top", "low"] .F (m__law_least)) : BodyOk P w K mg base ["pair"] "_law_is_fraction" (defScope st__law_is_fraction) (He.ga K "_law_is_fraction") 2 fun X W => DSs X W [false] [] .F (defBody st__law_is_fraction) (sem__law_is_fraction) := by
  intro cdv A outer s H E hr tk hp
  exact (ss_one (s_ret (e_lift (p_and (p_toB (p_cm (o_eq hr.u64) (p_toB (p_biE o_len' c.f_len bt_len (a_cons (p_toB (p_varV (i := 0))) a_nil))) p_int)) (p_and (p_toB (p_cm o_gt (p_toB (p_ix (p_varV (i := 0)) p_int)) p_int)) (p_one (p_cm (o_eq hr.u64) (p_toB (p_callF F__law_least tk (hr.mono (by omega)) (a_cons (p_toB (p_ix (p_varV (i := 0)) p_int)) (a_cons (p_toB (p_ix (p_varV (i := 0)) p_int)) a_nil)))) (p_toB (p_varV (i := 0))))))))))
theorem fp__law_is_fraction (c : Ctx w K mg) (F__law_least : FnPP P w K mg base 2 "_law_least" ["top", "low"] .F (m__law_least)) : FnPP P w K mg base 3 "_law_is_fraction" ["pair"] .F (m__law_is_fraction) := by
  obtain ⟨fd, F⟩ := c.d__law_is_fraction
  have h : FnG P w K mg base (L2.CX P w) (2 + 1) (He.ga K "_law_is_fraction") fd ["pair"] (spP K (["pair"] : List Str).length .F (runF (["pair"] : List Str).length (sem__law_is_fraction))) := fnP (P := P) (w := w) (base := base) (mg := mg) (ks := [false]) (k := 2) F sc__law_is_fraction (by decide) (by decide) (by decide) (body__law_is_fraction c F__law_least)
  have b : Binds K fd ["pair"] [] := F.bindsN (fun _ _ _ _ _ _ us hl => match us, hl with | [_], _ => rfl)
  exact ⟨_, fd, h, c.g__law_is_fraction, F.kp, b⟩

/-! ### _law_is_parting -/
theorem sc__law_is_parting : FnScope ["parting", "many", "amount", "pair"] ["parting", "many", "amount"] (defScope st__law_is_parting) := ⟨rfl, rfl, rfl, by decide +kernel, rfl, by decide +kernel, by decide +kernel⟩
def sem__law_is_parting : FS :=
  (sRet (eL (fAnd (fOfB (gCmp dEq (fN dLen (fCons (fVar 0) fNil)) (fVar 1))) (fAnd (fN dAll (fCons (fLc (.nm 3) [3] (fIt (fVar 0)) gYes (fAnd (fCall m__law_is_fraction (fCons (fVar 3) fNil)) (fOfB (gCmp dGe (fOp ixD (fVar 3) (fC (.int 0))) (fC (.int 0)))))) fNil)) (fOfB (gCmp dEq (fCall m__law_total (fCons (fN dList (fCons (fVar 0) fNil)) fNil)) (fVar 2)))))))
def m__law_is_parting : List PyData → R PyData := runF 4 (sem__law_is_parting)
theorem body__law_is_parting (c : Ctx w K mg) (F__law_total : FnPP P w K mg base 4 "_law_total" ["fractions"] .F (m__law_total)) (F__law_is_fraction : FnPP P w K mg base 3 "_law_is_fraction" ["pair"] .F (m__law_is_fraction)) : BodyOk P w K mg base ["parting", "many", "amount", "pair"] "_law_is_parting" (defScope st__law_is_parting) (He.ga K "_law_is_parting") 4 fun X W => DSs X W [false, false, false, false] [] .F (defBody st__law_is_parting) (sem__law_is_parting) := by
  intro cdv A outer s H E hr tk hp
  exact (ss_one (s_ret (e_lift (p_and (p_toB (p_cm (o_eq hr.u64) (p_toB (p_biE o_len' c.f_len bt_len (a_cons (p_toB (p_varV (i := 0))) a_nil))) (p_toB (p_varV (i := 1))))) (p_and (p_toB (p_biE (o_all' rfl) c.f_all bt_all (a_cons (p_toB (p_lc (κ := .F) (own := [("pair", 3)]) (t := (.nm 3)) rfl sc__law_is_parting.nd (i_seqP (p_varV (i := 0))) (blkOk_by (N := ["parting", "many", "amount", "pair"]) (sc := defScope st__law_is_parting) (by decide +kernel)) (by decide) (by decide) (fun _ _ _ _ _ => (pg_name (i := 3) sc__law_is_parting.nd rfl (by first | exact Or.inl rfl | exact Or.inr rfl))) (fun _ _ _ _ _ => ts_nil) (fun _ _ _ _ _ => (p_and (p_toB (p_callF F__law_is_fraction takes0' (hr.mono (by omega)) (a_cons (p_toB (p_varV (i := 3))) a_nil))) (p_one (p_cm o_ge (p_toB (p_ix (p_varV (i := 3)) p_int)) p_int)))))) a_nil))) (p_one (p_cm (o_eq hr.u64) (p_toB (p_callF F__law_total tk (hr.mono (by omega)) (a_cons (p_toB (p_tyE o_list c.f_list bt_list (a_cons (p_toB (p_varV (i := 0))) a_nil))) a_nil))) (p_toB (p_varV (i := 2))))))))))
theorem fp__law_is_parting (c : Ctx w K mg) (F__law_total : FnPP P w K mg base 4 "_law_total" ["fractions"] .F (m__law_total)) (F__law_is_fraction : FnPP P w K mg base 3 "_law_is_fraction" ["pair"] .F (m__law_is_fraction)) : FnPP P w K mg base 5 "_law_is_parting" ["parting", "many", "amount"] .F (m__law_is_parting) := by
  obtain ⟨fd, F⟩ := c.d__law_is_parting
  have h : FnG P w K mg base (L2.CX P w) (4 + 1) (He.ga K "_law_is_parting") fd ["parting", "many", "amount"] (spP K (["parting", "many", "amount"] : List Str).length .F (runF (["parting", "many", "amount", "pair"] : List Str).length (sem__law_is_parting))) := fnP (P := P) (w := w) (base := base) (mg := mg) (ks := [false, false, false, false]) (k := 4) F sc__law_is_parting (by decide) (by decide) (by decide) (body__law_is_parting c F__law_total F__law_is_fraction)
  have b : Binds K fd ["parting", "many", "amount"] [] := F.bindsN (fun _ _ _ _ _ _ us hl => match us, hl with | [_, _, _], _ => rfl)
  exact ⟨_, fd, h, c.g__law_is_parting, F.kp, b⟩

/-! ### _law_even -/
theorem sc__law_even : FnScope ["costs", "parting", "here", "at"] ["costs", "parting", "here"] (defScope st__law_even) := ⟨rfl, rfl, rfl, by decide +kernel, rfl, by decide +kernel, by decide +kernel⟩
def sem__law_even : FS :=
  (sRet (eL (fN dAll (fCons (fLc (.nm 3) [3] (fRg (fCons (fN dLen (fCons (fVar 0) fNil)) fNil)) gYes (fAnd (fNot (fCall m__law_is_less (fCons (fOp ixD (fVar 0) (fVar 3)) (fCons (fVar 2) fNil)))) (fOr (fOfB (gCmp dEq (fOp ixD (fOp ixD (fVar 1) (fVar 3)) (fC (.int 0))) (fC (.int 0)))) (fOfB (gCmp dEq (fOp ixD (fVar 0) (fVar 3)) (fVar 2)))))) fNil))))
def m__law_even : List PyData → R PyData := runF 4 (sem__law_even)
theorem body__law_even (c : Ctx w K mg) (F__law_is_less : FnPP P w K mg base 1 "_law_is_less" ["one", "other"] .F (m__law_is_less)) : BodyOk P w K mg base ["costs", "parting", "here", "at"] "_law_even" (defScope st__law_even) (He.ga K "_law_even") 1 fun X W => DSs X W [false, false, false, false] [] .F (defBody st__law_even) (sem__law_even) := by
  intro cdv A outer s H E hr tk hp
  exact (ss_one (s_ret (e_lift (p_biE (o_all' rfl) c.f_all bt_all (a_cons (p_toB (p_lc (κ := .F) (own := [("at", 3)]) (t := (.nm 3)) rfl sc__law_even.nd (i_range1P (κ := .B) c.f_range (a_cons (p_toB (p_biE o_len' c.f_len bt_len (a_cons (p_toB (p_varV (i := 0))) a_nil))) a_nil)) (blkOk_by (N := ["costs", "parting", "here", "at"]) (sc := defScope st__law_even) (by decide +kernel)) (by decide) (by decide) (fun _ _ _ _ _ => (pg_name (i := 3) sc__law_even.nd rfl (by first | exact Or.inl rfl | exact Or.inr rfl))) (fun _ _ _ _ _ => ts_nil) (fun _ _ _ _ _ => (p_and (p_toB (p_not (p_toB (p_callF F__law_is_less takes0' (hr.mono (by omega)) (a_cons (p_toB (p_ix (p_varV (i := 0)) (p_toB (p_varV (i := 3))))) (a_cons (p_toB (p_varV (i := 2))) a_nil)))))) (p_one (p_or (p_toB (p_cm (o_eq hr.u64) (p_toB (p_ix (p_ix (p_varV (i := 1)) (p_toB (p_varV (i := 3)))) p_int)) p_int)) (p_one (p_cm (o_eq hr.u64) (p_toB (p_ix (p_varV (i := 0)) (p_toB (p_varV (i := 3))))) (p_toB (p_varV (i := 2))))))))))) a_nil)))))
theorem fp__law_even (c : Ctx w K mg) (F__law_is_less : FnPP P w K mg base 1 "_law_is_less" ["one", "other"] .F (m__law_is_less)) : FnPP P w K mg base 2 "_law_even" ["costs", "parting", "here"] .F (m__law_even) := by
  obtain ⟨fd, F⟩ := c.d__law_even
  have h : FnG P w K mg base (L2.CX P w) (1 + 1) (He.ga K "_law_even") fd ["costs", "parting", "here"] (spP K (["costs", "parting", "here"] : List Str).length .F (runF (["costs", "parting", "here", "at"] : List Str).length (sem__law_even))) := fnP (P := P) (w := w) (base := base) (mg := mg) (ks := [false, false, false, false]) (k := 1) F sc__law_even (by decide) (by decide) (by decide) (body__law_even c F__law_is_less)
  have b : Binds K fd ["costs", "parting", "here"] [] := F.bindsN (fun _ _ _ _ _ _ us hl => match us, hl with | [_, _, _], _ => rfl)
  exact ⟨_, fd, h, c.g__law_even, F.kp, b⟩

/-! ### _law_is_right -/
theorem sc__law_is_right : FnScope ["roads", "amount", "paper", "parting", "here"] ["roads", "amount", "paper"] (defScope st__law_is_right) := ⟨rfl, rfl, rfl, by decide +kernel, rfl, by decide +kernel, by decide +kernel⟩
def sem__law_is_right : FS :=
  (sSeq (sUnp [3, 4] (eL (fVar 2)))
  (sRet (eL (fAnd (fCall m__law_is_parting (fCons (fVar 3) (fCons (fN dLen (fCons (fVar 0) fNil)) (fCons (fVar 1) fNil)))) (fAnd (fCall m__law_is_fraction (fCons (fVar 4) fNil)) (fCall m__law_even (fCons (fCall m__law_costs (fCons (fVar 0) (fCons (fVar 3) fNil))) (fCons (fVar 3) (fCons (fVar 4) fNil)))))))))
def m__law_is_right : List PyData → R PyData := runF 5 (sem__law_is_right)
theorem body__law_is_right (c : Ctx w K mg) (F__law_costs : FnPP P w K mg base 4 "_law_costs" ["roads", "parting"] .F (m__law_costs)) (F__law_is_fraction : FnPP P w K mg base 3 "_law_is_fraction" ["pair"] .F (m__law_is_fraction)) (F__law_is_parting : FnPP P w K mg base 5 "_law_is_parting" ["parting", "many", "amount"] .F (m__law_is_parting)) (F__law_even : FnPP P w K mg base 2 "_law_even" ["costs", "parting", "here"] .F (m__law_even)) : BodyOk P w K mg base ["roads", "amount", "paper", "parting", "here"] "_law_is_right" (defScope st__law_is_right) (He.ga K "_law_is_right") 5 fun X W => DSs X W [false, false, false, false, false] [] .F (defBody st__law_is_right) (sem__law_is_right) := by
  intro cdv A outer s H E hr tk hp
  exact (ss_cons (s_unp (is := [3, 4]) rfl (e_lift (p_varV (i := 2))) (pgs_cons (pg_name (i := 3) sc__law_is_right.nd rfl (by first | exact Or.inl rfl | exact Or.inr rfl)) (pgs_cons (pg_name (i := 4) sc__law_is_right.nd rfl (by first | exact Or.inl rfl | exact Or.inr rfl)) pgs_nil)))
  (ss_one (s_ret (e_lift (p_and (p_toB (p_callF F__law_is_parting tk (hr.mono (by omega)) (a_cons (p_toB (p_varV (i := 3))) (a_cons (p_toB (p_biE o_len' c.f_len bt_len (a_cons (p_toB (p_varV (i := 0))) a_nil))) (a_cons (p_toB (p_varV (i := 1))) a_nil))))) (p_and (p_toB (p_callF F__law_is_fraction tk (hr.mono (by omega)) (a_cons (p_toB (p_varV (i := 4))) a_nil))) (p_one (p_callF F__law_even tk (hr.mono (by omega)) (a_cons (p_toB (p_callF F__law_costs tk (hr.mono (by omega)) (a_cons (p_toB (p_varV (i := 0))) (a_cons (p_toB (p_varV (i := 3))) a_nil)))) (a_cons (p_toB (p_varV (i := 3))) (a_cons (p_toB (p_varV (i := 4))) a_nil)))))))))))
theorem fp__law_is_right (c : Ctx w K mg) (F__law_costs : FnPP P w K mg base 4 "_law_costs" ["roads", "parting"] .F (m__law_costs)) (F__law_is_fraction : FnPP P w K mg base 3 "_law_is_fraction" ["pair"] .F (m__law_is_fraction)) (F__law_is_parting : FnPP P w K mg base 5 "_law_is_parting" ["parting", "many", "amount"] .F (m__law_is_parting)) (F__law_even : FnPP P w K mg base 2 "_law_even" ["costs", "parting", "here"] .F (m__law_even)) : FnPP P w K mg base 6 "_law_is_right" ["roads", "amount", "paper"] .F (m__law_is_right) := by
  obtain ⟨fd, F⟩ := c.d__law_is_right
  have h : FnG P w K mg base (L2.CX P w) (5 + 1) (He.ga K "_law_is_right") fd ["roads", "amount", "paper"] (spP K (["roads", "amount", "paper"] : List Str).length .F (runF (["roads", "amount", "paper", "parting", "here"] : List Str).length (sem__law_is_right))) := fnP (P := P) (w := w) (base := base) (mg := mg) (ks := [false, false, false, false, false]) (k := 5) F sc__law_is_right (by decide) (by decide) (by decide) (body__law_is_right c F__law_costs F__law_is_fraction F__law_is_parting F__law_even)
  have b : Binds K fd ["roads", "amount", "paper"] [] := F.bindsN (fun _ _ _ _ _ _ us hl => match us, hl with | [_, _, _], _ => rfl)
  exact ⟨_, fd, h, c.g__law_is_right, F.kp, b⟩

/-! ### _law_sum -/
theorem sc__law_sum : FnScope ["roads", "parting", "costs", "at"] ["roads", "parting"] (defScope st__law_sum) := ⟨rfl, rfl, rfl, by decide +kernel, rfl, by decide +kernel, by decide +kernel⟩
def sem__law_sum : FS :=
  (sSeq (sSet 2 (eL (fCall m__law_costs (fCons (fVar 0) (fCons (fVar 1) fNil)))))
  (sRet (eL (fCall m__law_total (fCons (fLc (.nm 3) [3] (fRg (fCons (fN dLen (fCons (fVar 0) fNil)) fNil)) gYes (fCall m__law_times (fCons (fOp ixD (fVar 1) (fVar 3)) (fCons (fOp ixD (fVar 2) (fVar 3)) fNil)))) fNil)))))
def m__law_sum : List PyData → R PyData := runF 4 (sem__law_sum)
theorem body__law_sum (c : Ctx w K mg) (F__law_times : FnPP P w K mg base 3 "_law_times" ["one", "other"] .F (m__law_times)) (F__law_costs : FnPP P w K mg base 4 "_law_costs" ["roads", "parting"] .F (m__law_costs)) (F__law_total : FnPP P w K mg base 4 "_law_total" ["fractions"] .F (m__law_total)) : BodyOk P w K mg base ["roads", "parting", "costs", "at"] "_law_sum" (defScope st__law_sum) (He.ga K "_law_sum") 4 fun X W => DSs X W [false, false, false, false] [] .F (defBody st__law_sum) (sem__law_sum) := by
  intro cdv A outer s H E hr tk hp
  exact (ss_cons (s_set (i := 2) (bk := false) (e_toV (e_lift (p_callF F__law_costs tk (hr.mono (by omega)) (a_cons (p_toB (p_varV (i := 0))) (a_cons (p_toB (p_varV (i := 1))) a_nil))))) rfl (by decide) sc__law_sum.nd)
  (ss_one (s_ret (e_lift (p_callF F__law_total tk (hr.mono (by omega)) (a_cons (p_toB (p_lc (κ := .F) (own := [("at", 3)]) (t := (.nm 3)) rfl sc__law_sum.nd (i_range1P (κ := .B) c.f_range (a_cons (p_toB (p_biE o_len' c.f_len bt_len (a_cons (p_toB (p_varV (i := 0))) a_nil))) a_nil)) (blkOk_by (N := ["roads", "parting", "costs", "at"]) (sc := defScope st__law_sum) (by decide +kernel)) (by decide) (by decide) (fun _ _ _ _ _ => (pg_name (i := 3) sc__law_sum.nd rfl (by first | exact Or.inl rfl | exact Or.inr rfl))) (fun _ _ _ _ _ => ts_nil) (fun _ _ _ _ _ => (p_callF F__law_times takes0' (hr.mono (by omega)) (a_cons (p_toB (p_ix (p_varV (i := 1)) (p_toB (p_varV (i := 3))))) (a_cons (p_toB (p_ix (p_varV (i := 2)) (p_toB (p_varV (i := 3))))) a_nil)))))) a_nil))))))
theorem fp__law_sum (c : Ctx w K mg) (F__law_times : FnPP P w K mg base 3 "_law_times" ["one", "other"] .F (m__law_times)) (F__law_costs : FnPP P w K mg base 4 "_law_costs" ["roads", "parting"] .F (m__law_costs)) (F__law_total : FnPP P w K mg base 4 "_law_total" ["fractions"] .F (m__law_total)) : FnPP P w K mg base 5 "_law_sum" ["roads", "parting"] .F (m__law_sum) := by
  obtain ⟨fd, F⟩ := c.d__law_sum
  have h : FnG P w K mg base (L2.CX P w) (4 + 1) (He.ga K "_law_sum") fd ["roads", "parting"] (spP K (["roads", "parting"] : List Str).length .F (runF (["roads", "parting", "costs", "at"] : List Str).length (sem__law_sum))) := fnP (P := P) (w := w) (base := base) (mg := mg) (ks := [false, false, false, false]) (k := 4) F sc__law_sum (by decide) (by decide) (by decide) (body__law_sum c F__law_times F__law_costs F__law_total)
  have b : Binds K fd ["roads", "parting"] [] := F.bindsN (fun _ _ _ _ _ _ us hl => match us, hl with | [_, _], _ => rfl)
  exact ⟨_, fd, h, c.g__law_sum, F.kp, b⟩

/-! ### _law_greatest -/
theorem sc__law_greatest : FnScope ["fractions", "found", "pair"] ["fractions"] (defScope st__law_greatest) := ⟨rfl, rfl, rfl, by decide +kernel, rfl, by decide +kernel, by decide +kernel⟩
def sem__law_greatest : FS :=
  (sSeq (sSet 1 (eL (fOp ixD (fVar 0) (fC (.int 0)))))
  (sSeq (sFor (.nm 2) (eIt (eL (fVar 0))) (sSet 1 (eL (fIf (gTru dTru (fCall m__law_is_less (fCons (fVar 1) (fCons (fVar 2) fNil)))) (fVar 2) (fVar 1)))))
  (sRet (eFlat (eL (fVar 1))))))
def m__law_greatest : List PyData → R PyData := runF 3 (sem__law_greatest)
theorem body__law_greatest (c : Ctx w K mg) (F__law_is_less : FnPP P w K mg base 1 "_law_is_less" ["one", "other"] .F (m__law_is_less)) : BodyOk P w K mg base ["fractions", "found", "pair"] "_law_greatest" (defScope st__law_greatest) (He.ga K "_law_greatest") 1 fun X W => DSs X W [false, false, false] [] .F (defBody st__law_greatest) (sem__law_greatest) := by
  intro cdv A outer s H E hr tk hp
  exact (ss_cons (s_set (i := 1) (bk := false) (e_lift (p_ix (p_varV (i := 0)) p_int)) rfl (by decide) sc__law_greatest.nd)
  (ss_cons (s_for (t := (.nm 2)) hp rfl (i_seq (e_lift (p_varV (i := 0)))) (pg_name (i := 2) sc__law_greatest.nd rfl (by first | exact Or.inl rfl | exact Or.inr rfl)) (ss_one (s_set (i := 1) (bk := false) (e_lift (p_if (t_truth o_tru (p_toB (p_callF F__law_is_less tk (hr.mono (by omega)) (a_cons (p_toB (p_varV (i := 1))) (a_cons (p_toB (p_varV (i := 2))) a_nil))))) (p_varV (i := 2)) (p_varV (i := 1)))) rfl (by decide) sc__law_greatest.nd)))
  (ss_one (s_ret (e_flat (e_toB (e_lift (p_varV (i := 1)))))))))
theorem fp__law_greatest (c : Ctx w K mg) (F__law_is_less : FnPP P w K mg base 1 "_law_is_less" ["one", "other"] .F (m__law_is_less)) : FnPP P w K mg base 2 "_law_greatest" ["fractions"] .F (m__law_greatest) := by
  obtain ⟨fd, F⟩ := c.d__law_greatest
  have h : FnG P w K mg base (L2.CX P w) (1 + 1) (He.ga K "_law_greatest") fd ["fractions"] (spP K (["fractions"] : List Str).length .F (runF (["fractions", "found", "pair"] : List Str).length (sem__law_greatest))) := fnP (P := P) (w := w) (base := base) (mg := mg) (ks := [false, false, false]) (k := 1) F sc__law_greatest (by decide) (by decide) (by decide) (body__law_greatest c F__law_is_less)
  have b : Binds K fd ["fractions"] [] := F.bindsN (fun _ _ _ _ _ _ us hl => match us, hl with | [_], _ => rfl)
  exact ⟨_, fd, h, c.g__law_greatest, F.kp, b⟩

/-! ### law -/
theorem sc_law : FnScope ["script", "draws", "doubled_v", "marks", "used", "drawn", "one", "papers", "told", "paid", "charged", "more", "bad", "tables", "numbers", "roads", "amount", "many", "paper", "parting", "here", "best", "least", "known", "at", "turn", "way", "pair", "some", "a", "b", "far"] ["script"] (defScope st_law) := ⟨rfl, rfl, rfl, by decide +kernel, rfl, by decide +kernel, by decide +kernel⟩
def sem_law (K : PySem.W.Frag) : FS :=
  (sSeq (sSet 1 (eL (fCall m__law_draws (fCons (fVar 0) fNil))))
  (sSeq (sSet 1 (eCallM 1 m__law_more (eLA (fCons (fC (.int 80)) fNil))))
  (sSeq (sUnp [15, 16] (eTup (eCons (eCallM 1 m__law_roads (eLA (fCons (fC (.int 5)) fNil))) (eCons (eCall m__law_least (eCons (eOp dAdd (eL (fC (.int 1))) (eOp dMod (eN dInt (eCons (eCallM 1 m__law_next (eLA fNil)) eNil)) (eL (fC (.int 9))))) (eCons (eOp dAdd (eL (fC (.int 1))) (eOp dMod (eN dInt (eCons (eCallM 1 m__law_next (eLA fNil)) eNil)) (eL (fC (.int 4))))) eNil))) eNil))))
  (sSeq (sUnp [17, 18] (eL (fTup (fCons (fN dLen (fCons (fVar 15) fNil)) (fCons (fCall (m__law_asked K) (fCons (fC (.int 1)) (fCons (fVar 15) (fCons (fVar 16) (fCons (fC .none) fNil))))) fNil)))))
  (sSeq (sIf (eLT (gOr (gCmp (dIs true) (fCall m_are_roads (fCons (fVar 15) fNil)) (fC (.bool true))) (gOr (gNot (gTru dTru (fIsi "tuple" (fVar 18)))) (gOr (gNot (gTru dTru (fCall m__law_is_right (fCons (fVar 15) (fCons (fVar 16) (fCons (fVar 18) fNil)))))) (gCmp dNe (fCall (m__law_asked K) (fCons (fC (.int 0)) (fCons (fVar 15) (fCons (fVar 16) (fCons (fC .none) fNil))))) (fOp ixD (fVar 18) (fC (.int 1)))))))) (sRet (eL (fC (.bool false))))
  sNil)
  (sSeq (sUnp [19, 20] (eL (fVar 18)))
  (sSeq (sUnp [21, 22] (eL (fTup (fCons (fCall (m__law_asked K) (fCons (fC (.int 2)) (fCons (fVar 15) (fCons (fVar 16) (fCons (fC .none) fNil))))) (fCons (fCall (m__law_asked K) (fCons (fC (.int 3)) (fCons (fVar 15) (fCons (fVar 16) (fCons (fC .none) fNil))))) fNil)))))
  (sSeq (sSet 2 (eL (fN dTuple (fCons (fLc (.tp [(.nm 29), (.nm 30)]) [29, 30] (fIt (fVar 15)) gYes (fTup (fCons (fVar 29) (fCons (fCall m__law_times (fCons (fTup (fCons (fC (.int 2)) (fCons (fC (.int 1)) fNil))) (fCons (fVar 30) fNil))) fNil)))) fNil))))
  (sSeq (sIf (eLT (gOr (gNot (gTru dTru (fCall m__law_is_parting (fCons (fVar 21) (fCons (fVar 17) (fCons (fVar 16) fNil)))))) (gCmp dNe (fVar 22) (fCall m__law_sum (fCons (fVar 15) (fCons (fVar 21) fNil)))))) (sRet (eL (fC (.bool false))))
  sNil)
  (sSeq (sSet 3 (eL (fCall m__law_costs (fCons (fVar 2) (fCons (fVar 21) fNil)))))
  (sSeq (sSet 4 (eLc (.nm 24) [24] (eRg (eLA (fCons (fVar 17) fNil))) (eLT (gCmp dGt (fOp ixD (fOp ixD (fVar 21) (fVar 24)) (fC (.int 0))) (fC (.int 0)))) (eL (fOp ixD (fVar 3) (fVar 24)))))
  (sSeq (sIf (eLT (gOr (gNot (gTru dTru (fCall m__law_even (fCons (fVar 3) (fCons (fVar 21) (fCons (fOp ixD (fVar 4) (fC (.int 0))) fNil)))))) (gTru dTru (fCall m__law_is_less (fCons (fCall m__law_times (fCons (fTup (fCons (fC (.int 4)) (fCons (fC (.int 3)) fNil))) (fCons (fVar 22) fNil))) (fCons (fCall m__law_sum (fCons (fVar 15) (fCons (fVar 19) fNil))) fNil)))))) (sRet (eL (fC (.bool false))))
  sNil)
  (sSeq (sSet 5 (eLc (.nm 25) [25] (eRg (eLA (fCons (fC (.int 3)) fNil))) egYes (eCallM 1 m__law_drawn (eLA (fCons (fVar 17) (fCons (fVar 16) fNil))))))
  (sSeq (sFor (.nm 6) (eIt (eL (fOp dAdd (fVar 5) (fLst (fCons (fVar 19) (fCons (fVar 21) fNil)))))) (sIf (eLT (gOr (gCmp dNe (fN dRepr (fCons (fCall (m__law_asked K) (fCons (fC (.int 5)) (fCons (fVar 15) (fCons (fVar 6) (fCons (fC .none) fNil))))) fNil)) (fN dRepr (fCons (fCall m__law_sum (fCons (fVar 15) (fCons (fVar 6) fNil))) fNil))) (gTru dTru (fCall m__law_is_less (fCons (fCall m__law_sum (fCons (fVar 15) (fCons (fVar 6) fNil))) (fCons (fVar 22) fNil)))))) (sRet (eL (fC (.bool false))))
  sNil))
  (sSeq (sSet 7 (eL (fLst (fCons (fVar 18) (fCons (fTup (fCons (fVar 19) (fCons (fCall m__law_add (fCons (fVar 20) (fCons (fTup (fCons (fC (.int 1)) (fCons (fC (.int 2)) fNil))) fNil))) fNil))) (fCons (fTup (fCons (fSl (fVar 19) (fPart (fC (.int 1))) fNoPart) (fCons (fVar 20) fNil))) (fCons (fTup (fCons (fOp dAdd (fVar 19) (fTup (fCons (fTup (fCons (fC (.int 0)) (fCons (fC (.int 1)) fNil))) fNil))) (fCons (fVar 20) fNil))) (fCons (fTup (fCons (fRev (fVar 19)) (fCons (fVar 20) fNil))) (fCons (fTup (fCons (fOp dMulT (fTup (fCons (fTup (fCons (fC (.int 2)) (fCons (fC (.int 4)) fNil))) fNil)) (fVar 17)) (fCons (fVar 20) fNil))) (fCons (fTup (fCons (fVar 19) (fCons (fTup (fCons (fC (.int 2)) (fCons (fC (.int 4)) fNil))) fNil))) fNil))))))))))
  (sSeq (sSet 7 (eL (fOp dAdd (fOp dAdd (fVar 7) (fLc (.nm 6) [6] (fIt (fOp dAdd (fVar 5) (fLst (fCons (fVar 21) fNil)))) gYes (fTup (fCons (fVar 6) (fCons (fVar 20) fNil))))) (fLst (fCons (fTup (fCons (fN dTuple (fCons (fLc (.nm 27) [27] (fIt (fVar 19)) gYes (fCall m__law_times (fCons (fTup (fCons (fC (.int 2)) (fCons (fC (.int 1)) fNil))) (fCons (fVar 27) fNil)))) fNil)) (fCons (fVar 20) fNil))) fNil)))))
  (sSeq (sIf (eLT (gTru dTru (fN dAny (fCons (fLc (.nm 6) [6] (fIt (fVar 7)) gYes (fOfB (gCmp dNe (fN dRepr (fCons (fCall (m__law_asked K) (fCons (fC (.int 6)) (fCons (fVar 15) (fCons (fVar 16) (fCons (fVar 6) fNil))))) fNil)) (fN dRepr (fCons (fCall m__law_is_right (fCons (fVar 15) (fCons (fVar 16) (fCons (fVar 6) fNil)))) fNil))))) fNil)))) (sRet (eL (fC (.bool false))))
  sNil)
  (sSeq (sSet 8 (eL (fCall (m__law_asked K) (fCons (fC (.int 4)) (fCons (fVar 15) (fCons (fVar 16) (fCons (fC .none) fNil)))))))
  (sSeq (sSet 9 (eL (fN dTuple (fCons (fLc (.nm 24) [24] (fRg (fCons (fVar 17) fNil)) gYes (fTup (fCons (fCall m__law_add (fCons (fOp ixD (fOp ixD (fVar 15) (fVar 24)) (fC (.int 0))) (fCons (fOp ixD (fVar 8) (fVar 24)) fNil))) (fCons (fOp ixD (fOp ixD (fVar 15) (fVar 24)) (fC (.int 1))) fNil)))) fNil))))
  (sSeq (sSet 10 (eL (fLc (.tp [(.nm 24), (.nm 27)]) [24, 27] (fEnum (fCons (fCall m__law_costs (fCons (fVar 15) (fCons (fVar 21) fNil))) fNil)) gYes (fCall m__law_add (fCons (fVar 27) (fCons (fOp ixD (fVar 8) (fVar 24)) fNil))))))
  (sSeq (sIf (eLT (gOr (gCmp dNe (fN dLen (fCons (fVar 8) fNil)) (fVar 17)) (gOr (gTru dTru (fN dAny (fCons (fLc (.nm 27) [27] (fIt (fVar 8)) gYes (fOfB (gCmp dLt (fOp ixD (fVar 27) (fC (.int 0))) (fC (.int 0))))) fNil))) (gAnd (gTru dTru (fCall m_are_roads (fCons (fVar 9) fNil))) (gCmp dNe (fCall m_level (fCons (fVar 9) (fCons (fVar 16) fNil))) (fCall m__law_greatest (fCons (fLc (.nm 24) [24] (fRg (fCons (fVar 17) fNil)) (gCmp dGt (fOp ixD (fOp ixD (fVar 21) (fVar 24)) (fC (.int 0))) (fC (.int 0))) (fOp ixD (fVar 10) (fVar 24))) fNil))))))) (sRet (eL (fC (.bool false))))
  sNil)
  (sSeq (sSet 11 (eL (fTup (fCons (fTup (fCons (fTup (fCons (fC (.int 5)) (fCons (fC (.int 2)) fNil))) (fCons (fTup (fCons (fC (.int 1)) (fCons (fC (.int 2)) fNil))) fNil))) fNil))))
  (sSeq (sIf (eLT (gOr (gTru dTru (fCall m__law_is_less (fCons (fVar 20) (fCons (fCall m_level (fCons (fOp dAdd (fVar 15) (fVar 11)) (fCons (fVar 16) fNil))) fNil)))) (gTru dTru (fCall m__law_is_less (fCons (fCall m_level (fCons (fVar 15) (fCons (fCall m__law_add (fCons (fVar 16) (fCons (fTup (fCons (fC (.int 1)) (fCons (fC (.int 3)) fNil))) fNil))) fNil))) (fCons (fVar 20) fNil)))))) (sRet (eL (fC (.bool false))))
  sNil)
  (sSeq (sUnp [23, 6] (eL (fTup (fCons (fTup (fCons (fTup (fCons (fTup (fCons (fC (.int 1)) (fCons (fC (.int 1)) fNil))) (fCons (fTup (fCons (fC (.int 0)) (fCons (fC (.int 1)) fNil))) fNil))) (fCons (fTup (fCons (fTup (fCons (fC (.int 0)) (fCons (fC (.int 1)) fNil))) (fCons (fTup (fCons (fC (.int 1)) (fCons (fC (.int 1)) fNil))) fNil))) fNil))) (fCons (fTup (fCons (fC (.int 1)) (fCons (fC (.int 1)) fNil))) fNil)))))
  (sSeq (sIf (eLT (gCmp dNe (fLst (fCons (fCall m_level (fCons (fVar 23) (fCons (fVar 6) fNil))) (fCons (fCall m_least_stream_sum (fCons (fVar 23) (fCons (fVar 6) fNil))) (fCons (fCall m_best_parting (fCons (fVar 23) (fCons (fVar 6) fNil))) (fCons (fCall m_parting_sum (fCons (fVar 23) (fCons (fTup (fCons (fTup (fCons (fC (.int 0)) (fCons (fC (.int 1)) fNil))) (fCons (fVar 6) fNil))) fNil))) fNil))))) (fLst (fCons (fVar 6) (fCons (fTup (fCons (fC (.int 3)) (fCons (fC (.int 4)) fNil))) (fCons (fTup (fCons (fTup (fCons (fC (.int 1)) (fCons (fC (.int 2)) fNil))) (fCons (fTup (fCons (fC (.int 1)) (fCons (fC (.int 2)) fNil))) fNil))) (fCons (fVar 6) fNil))))))) (sRet (eL (fC (.bool false))))
  sNil)
  (sSeq (sSet 12 (eCallM 1 m__law_pick (eLA (fCons (fCall m__law_wrong_roads fNil) fNil))))
  (sSeq (sSet 13 (eLc (.nm 26) [26] (eRg (eLA (fCons (fC (.int 7)) fNil))) egYes (eL (fCall (m__law_asked K) (fCons (fVar 26) (fCons (fVar 12) (fCons (fIf (gCmp dEq (fVar 26) (fC (.int 5))) (fTup fNil) (fTup (fCons (fC (.int 0)) (fCons (fC (.int 1)) fNil)))) (fCons (fTup (fCons (fTup fNil) (fCons (fTup fNil) fNil))) fNil))))))))
  (sSeq (sSet 14 (eL (fCall m__law_flat (fCons (fLc (.nm 26) [26] (fIt (fLst (fCons (fC (.int 0)) (fCons (fC (.int 1)) (fCons (fC (.int 2)) (fCons (fC (.int 3)) (fCons (fC (.int 4)) (fCons (fC (.int 6)) fNil)))))))) gYes (fLc (.nm 31) [31] (fIt (fLst (fCons (fTup (fCons (fC (.int 0)) (fCons (fC (.int 1)) fNil))) (fCons (fTup (fCons (fUn dNeg (fC (.int 1))) (fCons (fC (.int 1)) fNil))) (fCons (fTup (fCons (fC (.int 2)) (fCons (fC (.int 4)) fNil))) (fCons (fTup (fCons (fC (.int 1001)) (fCons (fC (.int 1)) fNil))) fNil)))))) gYes (fCall (m__law_asked K) (fCons (fVar 26) (fCons (fVar 15) (fCons (fVar 31) (fCons (fTup (fCons (fTup fNil) (fCons (fTup fNil) fNil))) fNil))))))) fNil))))
  (sSeq (sSet 14 (eL (fOp dAdd (fVar 14) (fLc (.nm 28) [28] (fIt (fLst (fCons (fSl (fVar 19) (fPart (fC (.int 1))) fNoPart) (fCons (fOp dAdd (fVar 19) (fTup (fCons (fTup (fCons (fC (.int 0)) (fCons (fC (.int 1)) fNil))) fNil))) (fCons (fOp dMulT (fTup (fCons (fTup (fCons (fUn dNeg (fC (.int 1))) (fCons (fC (.int 1)) fNil))) fNil)) (fVar 17)) (fCons (fOp dMulT (fTup (fCons (fTup (fCons (fC (.int 2)) (fCons (fC (.int 4)) fNil))) fNil)) (fVar 17)) fNil)))))) gYes (fCall (m__law_asked K) (fCons (fC (.int 5)) (fCons (fVar 15) (fCons (fVar 28) (fCons (fC .none) fNil)))))))))
  (sRet (eL (fAnd (fOfB (gCmp (dIs false) (fCall m_are_roads (fCons (fVar 12) fNil)) (fC (.bool false)))) (fAnd (fOfB (gCmp dEq (fVar 13) (fOp dMul (fLst (fCons (fC (.str "!table")) fNil)) (fC (.int 7))))) (fOfB (gCmp dEq (fVar 14) (fOp dMul (fLst (fCons (fC (.str "!number")) fNil)) (fC (.int 28))))))))))))))))))))))))))))))))))))))
def m_law (K : PySem.W.Frag) : List PyData → R PyData := runF 32 (sem_law K)
theorem body_law (c : Ctx w K mg) (F__law_draws : FnPP P w K mg base 2 "_law_draws" ["script"] .F (m__law_draws)) (F__law_next : FnMM P w K mg base 1 "_law_next" ["draws"] .F (m__law_next)) (F__law_more : FnMM P w K mg base 2 "_law_more" ["draws", "many"] .F (m__law_more)) (F__law_least : FnPP P w K mg base 2 "_law_least" ["top", "low"] .F (m__law_least)) (F__law_add : FnPP P w K mg base 3 "_law_add" ["one", "other"] .F (m__law_add)) (F__law_times : FnPP P w K mg base 3 "_law_times" ["one", "other"] .F (m__law_times)) (F__law_costs : FnPP P w K mg base 4 "_law_costs" ["roads", "parting"] .F (m__law_costs)) (F_are_roads : FnPP P w K mg base 4 "are_roads" ["roads"] .F (m_are_roads)) (F_parting_sum : FnPP P w K mg base 6 "parting_sum" ["roads", "parting"] .F (m_parting_sum)) (F_level : FnPP P w K mg base 6 "level" ["roads", "amount"] .F (m_level)) (F_best_parting : FnPP P w K mg base 7 "best_parting" ["roads", "amount"] .F (m_best_parting)) (F_least_stream_sum : FnPP P w K mg base 8 "least_stream_sum" ["roads", "amount"] .F (m_least_stream_sum)) (F__law_asked : FnPP P w K mg base 9 "_law_asked" ["way", "roads", "one", "two"] .F (m__law_asked K)) (F__law_pick : FnMM P w K mg base 2 "_law_pick" ["draws", "some"] .F (m__law_pick)) (F__law_flat : FnPP P w K mg base 1 "_law_flat" ["rows"] .F (m__law_flat)) (F__law_roads : FnMM P w K mg base 4 "_law_roads" ["draws", "most"] .F (m__law_roads)) (F__law_is_less : FnPP P w K mg base 1 "_law_is_less" ["one", "other"] .F (m__law_is_less)) (F__law_drawn : FnMM P w K mg base 4 "_law_drawn" ["draws", "many", "amount"] .F (m__law_drawn)) (F__law_wrong_roads : FnPP P w K mg base 1 "_law_wrong_roads" [] .F (m__law_wrong_roads)) (F__law_is_parting : FnPP P w K mg base 5 "_law_is_parting" ["parting", "many", "amount"] .F (m__law_is_parting)) (F__law_even : FnPP P w K mg base 2 "_law_even" ["costs", "parting", "here"] .F (m__law_even)) (F__law_is_right : FnPP P w K mg base 6 "_law_is_right" ["roads", "amount", "paper"] .F (m__law_is_right)) (F__law_sum : FnPP P w K mg base 5 "_law_sum" ["roads", "parting"] .F (m__law_sum)) (F__law_greatest : FnPP P w K mg base 2 "_law_greatest" ["fractions"] .F (m__law_greatest)) : BodyOk P w K mg base ["script", "draws", "doubled_v", "marks", "used", "drawn", "one", "papers", "told", "paid", "charged", "more", "bad", "tables", "numbers", "roads", "amount", "many", "paper", "parting", "here", "best", "least", "known", "at", "turn", "way", "pair", "some", "a", "b", "far"] "law" (defScope st_law) (He.ga K "law") 9 fun X W => DSs X W [false, true, false, false, false, false, false, false, false, false, false, false, false, false, false, false, false, false, false, false, false, false, false, false, false, false, false, false, false, false, false, false] [] .F (defBody st_law) (sem_law K) := by
  intro cdv A outer s H E hr tk hp
  exact (ss_cons (s_set (i := 1) (bk := true) (e_lift (p_callF F__law_draws tk (hr.mono (by omega)) (a_cons (p_toB (p_varV (i := 0))) a_nil))) rfl (by decide) sc_law.nd)
  (ss_cons (s_set (i := 1) (bk := true) (e_callM (i := 1) F__law_more tk (hr.mono (by omega)) rfl (ea_lift (a_cons p_int a_nil)) (HLe.lift (by repeat (first | exact HL.nil | refine HL.cons ?_)))) rfl (by decide) sc_law.nd)
  (ss_cons (s_unp (is := [15, 16]) rfl (e_toV (e_tup (κ := .F) (ea_cons (e_callM (i := 1) F__law_roads tk (hr.mono (by omega)) rfl (ea_lift (a_cons p_int a_nil)) (HLe.lift (by repeat (first | exact HL.nil | refine HL.cons ?_)))) (ea_cons (e_callF F__law_least tk (hr.mono (by omega)) (ea_cons (e_toV (e_bin o_add (e_lift p_int) (e_toB (e_bin o_mod (e_toV (e_tyE o_int c.f_int bt_int (ea_cons (e_toV (e_callM (i := 1) F__law_next tk (hr.mono (by omega)) rfl (ea_lift a_nil) (HLe.lift (by repeat (first | exact HL.nil | refine HL.cons ?_))))) ea_nil))) (e_lift p_int))))) (ea_cons (e_toV (e_bin o_add (e_lift p_int) (e_toB (e_bin o_mod (e_toV (e_tyE o_int c.f_int bt_int (ea_cons (e_toV (e_callM (i := 1) F__law_next tk (hr.mono (by omega)) rfl (ea_lift a_nil) (HLe.lift (by repeat (first | exact HL.nil | refine HL.cons ?_))))) ea_nil))) (e_lift p_int))))) ea_nil))) ea_nil)))) (pgs_cons (pg_name (i := 15) sc_law.nd rfl (by first | exact Or.inl rfl | exact Or.inr rfl)) (pgs_cons (pg_name (i := 16) sc_law.nd rfl (by first | exact Or.inl rfl | exact Or.inr rfl)) pgs_nil)))
  (ss_cons (s_unp (is := [17, 18]) rfl (e_toV (e_lift (p_tup (κ := .F) (a_cons (p_biE o_len' c.f_len bt_len (a_cons (p_toB (p_varV (i := 15))) a_nil)) (a_cons (p_callF F__law_asked tk (hr.mono (by omega)) (a_cons p_int (a_cons (p_toB (p_varV (i := 15))) (a_cons (p_toB (p_varV (i := 16))) (a_cons p_non a_nil))))) a_nil))))) (pgs_cons (pg_name (i := 17) sc_law.nd rfl (by first | exact Or.inl rfl | exact Or.inr rfl)) (pgs_cons (pg_name (i := 18) sc_law.nd rfl (by first | exact Or.inl rfl | exact Or.inr rfl)) pgs_nil)))
  (ss_cons (s_if (et_lift (t_w (w_or (t_cm o_isnot (p_toB (p_callF F_are_roads tk (hr.mono (by omega)) (a_cons (p_toB (p_varV (i := 15))) a_nil))) p_bl) (w_or (t_not (t_truth o_tru (p_isi c.f_isinstance c.f_tuple bt_tuple (p_toB (p_varV (i := 18)))))) (w_or (t_not (t_truth o_tru (p_toB (p_callF F__law_is_right tk (hr.mono (by omega)) (a_cons (p_toB (p_varV (i := 15))) (a_cons (p_toB (p_varV (i := 16))) (a_cons (p_toB (p_varV (i := 18))) a_nil))))))) (w_or1 (t_cm (o_ne hr.u64) (p_toB (p_callF F__law_asked tk (hr.mono (by omega)) (a_cons p_int (a_cons (p_toB (p_varV (i := 15))) (a_cons (p_toB (p_varV (i := 16))) (a_cons p_non a_nil)))))) (p_toB (p_ix (p_varV (i := 18)) p_int))))))))) (ss_one (s_ret (e_lift p_bl)))
  ss_nil)
  (ss_cons (s_unp (is := [19, 20]) rfl (e_lift (p_varV (i := 18))) (pgs_cons (pg_name (i := 19) sc_law.nd rfl (by first | exact Or.inl rfl | exact Or.inr rfl)) (pgs_cons (pg_name (i := 20) sc_law.nd rfl (by first | exact Or.inl rfl | exact Or.inr rfl)) pgs_nil)))
  (ss_cons (s_unp (is := [21, 22]) rfl (e_toV (e_lift (p_tup (κ := .F) (a_cons (p_callF F__law_asked tk (hr.mono (by omega)) (a_cons p_int (a_cons (p_toB (p_varV (i := 15))) (a_cons (p_toB (p_varV (i := 16))) (a_cons p_non a_nil))))) (a_cons (p_callF F__law_asked tk (hr.mono (by omega)) (a_cons p_int (a_cons (p_toB (p_varV (i := 15))) (a_cons (p_toB (p_varV (i := 16))) (a_cons p_non a_nil))))) a_nil))))) (pgs_cons (pg_name (i := 21) sc_law.nd rfl (by first | exact Or.inl rfl | exact Or.inr rfl)) (pgs_cons (pg_name (i := 22) sc_law.nd rfl (by first | exact Or.inl rfl | exact Or.inr rfl)) pgs_nil)))
  (ss_cons (s_set (i := 2) (bk := false) (e_toV (e_lift (p_tyE o_tuple c.f_tuple bt_tuple (a_cons (p_toB (p_lc (κ := .V) (own := [("a", 29), ("b", 30)]) (t := (.tp [(.nm 29), (.nm 30)])) rfl sc_law.nd (i_seqP (p_varV (i := 15))) (blkOk_by (N := ["script", "draws", "doubled_v", "marks", "used", "drawn", "one", "papers", "told", "paid", "charged", "more", "bad", "tables", "numbers", "roads", "amount", "many", "paper", "parting", "here", "best", "least", "known", "at", "turn", "way", "pair", "some", "a", "b", "far"]) (sc := defScope st_law) (by decide +kernel)) (by decide) (by decide) (fun _ _ _ _ _ => (pg_tup rfl (pgs_cons (pg_name (i := 29) sc_law.nd rfl (by first | exact Or.inl rfl | exact Or.inr rfl)) (pgs_cons (pg_name (i := 30) sc_law.nd rfl (by first | exact Or.inl rfl | exact Or.inr rfl)) pgs_nil)) rfl rfl)) (fun _ _ _ _ _ => ts_nil) (fun _ _ _ _ _ => (p_tup (κ := .V) (a_cons (p_varV (i := 29)) (a_cons (p_toV (p_callF F__law_times takes0' (hr.mono (by omega)) (a_cons (p_toB (p_tup (κ := .F) (a_cons p_int (a_cons p_int a_nil)))) (a_cons (p_toB (p_varV (i := 30))) a_nil)))) a_nil)))))) a_nil)))) rfl (by decide) sc_law.nd)
  (ss_cons (s_if (et_lift (t_w (w_or (t_not (t_truth o_tru (p_toB (p_callF F__law_is_parting tk (hr.mono (by omega)) (a_cons (p_toB (p_varV (i := 21))) (a_cons (p_toB (p_varV (i := 17))) (a_cons (p_toB (p_varV (i := 16))) a_nil))))))) (w_or1 (t_cm (o_ne hr.u64) (p_toB (p_varV (i := 22))) (p_toB (p_callF F__law_sum tk (hr.mono (by omega)) (a_cons (p_toB (p_varV (i := 15))) (a_cons (p_toB (p_varV (i := 21))) a_nil))))))))) (ss_one (s_ret (e_lift p_bl)))
  ss_nil)
  (ss_cons (s_set (i := 3) (bk := false) (e_toV (e_lift (p_callF F__law_costs tk (hr.mono (by omega)) (a_cons (p_toB (p_varV (i := 2))) (a_cons (p_toB (p_varV (i := 21))) a_nil))))) rfl (by decide) sc_law.nd)
  (ss_cons (s_setLc (i := 4) (bk := false) (own := [("at", 24)]) (t := (.nm 24)) rfl sc_law.nd (i_range1 (κ := .V) c.f_range (ea_lift (a_cons (p_varV (i := 17)) a_nil)) (HLe.lift (by repeat (first | exact HL.nil | refine HL.cons ?_)))) (blkOk_by (N := ["script", "draws", "doubled_v", "marks", "used", "drawn", "one", "papers", "told", "paid", "charged", "more", "bad", "tables", "numbers", "roads", "amount", "many", "paper", "parting", "here", "best", "least", "known", "at", "turn", "way", "pair", "some", "a", "b", "far"]) (sc := defScope st_law) (by decide +kernel)) (by decide) (by decide) (fun _ _ _ _ _ => (pg_name (i := 24) sc_law.nd rfl (by first | exact Or.inl rfl | exact Or.inr rfl))) (fun _ _ _ _ _ => (ets_one (et_lift (t_cm o_gt (p_toB (p_ix (p_ix (p_varV (i := 21)) (p_toB (p_varV (i := 24)))) p_int)) p_int)))) (fun _ _ _ _ _ => (e_lift (p_ix (p_varV (i := 3)) (p_toB (p_varV (i := 24)))))))
  (ss_cons (s_if (et_lift (t_w (w_or (t_not (t_truth o_tru (p_toB (p_callF F__law_even tk (hr.mono (by omega)) (a_cons (p_toB (p_varV (i := 3))) (a_cons (p_toB (p_varV (i := 21))) (a_cons (p_toB (p_ix (p_varV (i := 4)) p_int)) a_nil))))))) (w_or1 (t_truth o_tru (p_toB (p_callF F__law_is_less tk (hr.mono (by omega)) (a_cons (p_toB (p_callF F__law_times tk (hr.mono (by omega)) (a_cons (p_toB (p_tup (κ := .F) (a_cons p_int (a_cons p_int a_nil)))) (a_cons (p_toB (p_varV (i := 22))) a_nil)))) (a_cons (p_toB (p_callF F__law_sum tk (hr.mono (by omega)) (a_cons (p_toB (p_varV (i := 15))) (a_cons (p_toB (p_varV (i := 19))) a_nil)))) a_nil))))))))) (ss_one (s_ret (e_lift p_bl)))
  ss_nil)
  (ss_cons (s_setLc (i := 5) (bk := false) (own := [("turn", 25)]) (t := (.nm 25)) rfl sc_law.nd (i_range1 (κ := .V) c.f_range (ea_lift (a_cons p_int a_nil)) (HLe.lift (by repeat (first | exact HL.nil | refine HL.cons ?_)))) (blkOk_by (N := ["script", "draws", "doubled_v", "marks", "used", "drawn", "one", "papers", "told", "paid", "charged", "more", "bad", "tables", "numbers", "roads", "amount", "many", "paper", "parting", "here", "best", "least", "known", "at", "turn", "way", "pair", "some", "a", "b", "far"]) (sc := defScope st_law) (by decide +kernel)) (by decide) (by decide) (fun _ _ _ _ _ => (pg_name (i := 25) sc_law.nd rfl (by first | exact Or.inl rfl | exact Or.inr rfl))) (fun _ _ _ _ _ => ets_nil) (fun _ _ _ _ _ => (e_toV (e_callM (i := 1) F__law_drawn takes0' (hr.mono (by omega)) rfl (ea_lift (a_cons (p_varV (i := 17)) (a_cons (p_varV (i := 16)) a_nil))) (HLe.lift (by repeat (first | exact HL.nil | refine HL.cons ?_)))))))
  (ss_cons (s_for (t := (.nm 6)) hp rfl (i_seq (e_toV (e_lift (p_bin o_add (p_toB (p_varV (i := 5))) (p_toB (p_lst (κ := .V) (a_cons (p_varV (i := 19)) (a_cons (p_varV (i := 21)) a_nil)))))))) (pg_name (i := 6) sc_law.nd rfl (by first | exact Or.inl rfl | exact Or.inr rfl)) (ss_one (s_if (et_lift (t_w (w_or (t_cm (o_ne hr.u64) (p_toB (p_biE (o_repr' hr.gd hr.u) c.f_repr bt_repr (a_cons (p_toB (p_callF F__law_asked tk (hr.mono (by omega)) (a_cons p_int (a_cons (p_toB (p_varV (i := 15))) (a_cons (p_toB (p_varV (i := 6))) (a_cons p_non a_nil)))))) a_nil))) (p_toB (p_biE (o_repr' hr.gd hr.u) c.f_repr bt_repr (a_cons (p_toB (p_callF F__law_sum tk (hr.mono (by omega)) (a_cons (p_toB (p_varV (i := 15))) (a_cons (p_toB (p_varV (i := 6))) a_nil)))) a_nil)))) (w_or1 (t_truth o_tru (p_toB (p_callF F__law_is_less tk (hr.mono (by omega)) (a_cons (p_toB (p_callF F__law_sum tk (hr.mono (by omega)) (a_cons (p_toB (p_varV (i := 15))) (a_cons (p_toB (p_varV (i := 6))) a_nil)))) (a_cons (p_toB (p_varV (i := 22))) a_nil))))))))) (ss_one (s_ret (e_lift p_bl)))
  ss_nil)))
  (ss_cons (s_set (i := 7) (bk := false) (e_lift (p_lst (κ := .V) (a_cons (p_varV (i := 18)) (a_cons (p_tup (κ := .V) (a_cons (p_varV (i := 19)) (a_cons (p_toV (p_callF F__law_add tk (hr.mono (by omega)) (a_cons (p_toB (p_varV (i := 20))) (a_cons (p_toB (p_tup (κ := .F) (a_cons p_int (a_cons p_int a_nil)))) a_nil)))) a_nil))) (a_cons (p_tup (κ := .V) (a_cons (p_sl (p_varV (i := 19)) (o_some p_int) o_none) (a_cons (p_varV (i := 20)) a_nil))) (a_cons (p_tup (κ := .V) (a_cons (p_toV (p_bin o_add (p_toB (p_varV (i := 19))) (p_toB (p_tup (κ := .F) (a_cons (p_tup (κ := .F) (a_cons p_int (a_cons p_int a_nil))) a_nil))))) (a_cons (p_varV (i := 20)) a_nil))) (a_cons (p_tup (κ := .V) (a_cons (p_toV (p_rev (p_toB (p_varV (i := 19))))) (a_cons (p_varV (i := 20)) a_nil))) (a_cons (p_tup (κ := .V) (a_cons (p_toV (p_bin o_mulT (p_toB (p_tup (κ := .F) (a_cons (p_tup (κ := .F) (a_cons p_int (a_cons p_int a_nil))) a_nil))) (p_toB (p_varV (i := 17))))) (a_cons (p_varV (i := 20)) a_nil))) (a_cons (p_tup (κ := .V) (a_cons (p_varV (i := 19)) (a_cons (p_toV (p_tup (κ := .F) (a_cons p_int (a_cons p_int a_nil)))) a_nil))) a_nil))))))))) rfl (by decide) sc_law.nd)
  (ss_cons (s_set (i := 7) (bk := false) (e_toV (e_lift (p_bin o_add (p_toB (p_bin o_add (p_toB (p_varV (i := 7))) (p_toB (p_lc (κ := .V) (own := [("one", 6)]) (t := (.nm 6)) rfl sc_law.nd (i_seqP (p_toV (p_bin o_add (p_toB (p_varV (i := 5))) (p_toB (p_lst (κ := .V) (a_cons (p_varV (i := 21)) a_nil)))))) (blkOk_by (N := ["script", "draws", "doubled_v", "marks", "used", "drawn", "one", "papers", "told", "paid", "charged", "more", "bad", "tables", "numbers", "roads", "amount", "many", "paper", "parting", "here", "best", "least", "known", "at", "turn", "way", "pair", "some", "a", "b", "far"]) (sc := defScope st_law) (by decide +kernel)) (by decide) (by decide) (fun _ _ _ _ _ => (pg_name (i := 6) sc_law.nd rfl (by first | exact Or.inl rfl | exact Or.inr rfl))) (fun _ _ _ _ _ => ts_nil) (fun _ _ _ _ _ => (p_tup (κ := .V) (a_cons (p_varV (i := 6)) (a_cons (p_varV (i := 20)) a_nil)))))))) (p_toB (p_lst (κ := .V) (a_cons (p_tup (κ := .V) (a_cons (p_toV (p_tyE o_tuple c.f_tuple bt_tuple (a_cons (p_toB (p_lc (κ := .F) (own := [("pair", 27)]) (t := (.nm 27)) rfl sc_law.nd (i_seqP (p_varV (i := 19))) (blkOk_by (N := ["script", "draws", "doubled_v", "marks", "used", "drawn", "one", "papers", "told", "paid", "charged", "more", "bad", "tables", "numbers", "roads", "amount", "many", "paper", "parting", "here", "best", "least", "known", "at", "turn", "way", "pair", "some", "a", "b", "far"]) (sc := defScope st_law) (by decide +kernel)) (by decide) (by decide) (fun _ _ _ _ _ => (pg_name (i := 27) sc_law.nd rfl (by first | exact Or.inl rfl | exact Or.inr rfl))) (fun _ _ _ _ _ => ts_nil) (fun _ _ _ _ _ => (p_callF F__law_times takes0' (hr.mono (by omega)) (a_cons (p_toB (p_tup (κ := .F) (a_cons p_int (a_cons p_int a_nil)))) (a_cons (p_toB (p_varV (i := 27))) a_nil)))))) a_nil))) (a_cons (p_varV (i := 20)) a_nil))) a_nil)))))) rfl (by decide) sc_law.nd)
  (ss_cons (s_if (et_lift (t_truth o_tru (p_toB (p_biE (o_any' rfl) c.f_any bt_any (a_cons (p_toB (p_lc (κ := .F) (own := [("one", 6)]) (t := (.nm 6)) rfl sc_law.nd (i_seqP (p_varV (i := 7))) (blkOk_by (N := ["script", "draws", "doubled_v", "marks", "used", "drawn", "one", "papers", "told", "paid", "charged", "more", "bad", "tables", "numbers", "roads", "amount", "many", "paper", "parting", "here", "best", "least", "known", "at", "turn", "way", "pair", "some", "a", "b", "far"]) (sc := defScope st_law) (by decide +kernel)) (by decide) (by decide) (fun _ _ _ _ _ => (pg_name (i := 6) sc_law.nd rfl (by first | exact Or.inl rfl | exact Or.inr rfl))) (fun _ _ _ _ _ => ts_nil) (fun _ _ _ _ _ => (p_cm (o_ne hr.u64) (p_toB (p_biE (o_repr' hr.gd hr.u) c.f_repr bt_repr (a_cons (p_toB (p_callF F__law_asked takes0' (hr.mono (by omega)) (a_cons p_int (a_cons (p_toB (p_varV (i := 15))) (a_cons (p_toB (p_varV (i := 16))) (a_cons (p_toB (p_varV (i := 6))) a_nil)))))) a_nil))) (p_toB (p_biE (o_repr' hr.gd hr.u) c.f_repr bt_repr (a_cons (p_toB (p_callF F__law_is_right takes0' (hr.mono (by omega)) (a_cons (p_toB (p_varV (i := 15))) (a_cons (p_toB (p_varV (i := 16))) (a_cons (p_toB (p_varV (i := 6))) a_nil))))) a_nil))))))) a_nil))))) (ss_one (s_ret (e_lift p_bl)))
  ss_nil)
  (ss_cons (s_set (i := 8) (bk := false) (e_toV (e_lift (p_callF F__law_asked tk (hr.mono (by omega)) (a_cons p_int (a_cons (p_toB (p_varV (i := 15))) (a_cons (p_toB (p_varV (i := 16))) (a_cons p_non a_nil))))))) rfl (by decide) sc_law.nd)
  (ss_cons (s_set (i := 9) (bk := false) (e_toV (e_lift (p_tyE o_tuple c.f_tuple bt_tuple (a_cons (p_toB (p_lc (κ := .V) (own := [("at", 24)]) (t := (.nm 24)) rfl sc_law.nd (i_range1P (κ := .B) c.f_range (a_cons (p_toB (p_varV (i := 17))) a_nil)) (blkOk_by (N := ["script", "draws", "doubled_v", "marks", "used", "drawn", "one", "papers", "told", "paid", "charged", "more", "bad", "tables", "numbers", "roads", "amount", "many", "paper", "parting", "here", "best", "least", "known", "at", "turn", "way", "pair", "some", "a", "b", "far"]) (sc := defScope st_law) (by decide +kernel)) (by decide) (by decide) (fun _ _ _ _ _ => (pg_name (i := 24) sc_law.nd rfl (by first | exact Or.inl rfl | exact Or.inr rfl))) (fun _ _ _ _ _ => ts_nil) (fun _ _ _ _ _ => (p_tup (κ := .V) (a_cons (p_toV (p_callF F__law_add takes0' (hr.mono (by omega)) (a_cons (p_toB (p_ix (p_ix (p_varV (i := 15)) (p_toB (p_varV (i := 24)))) p_int)) (a_cons (p_toB (p_ix (p_varV (i := 8)) (p_toB (p_varV (i := 24))))) a_nil)))) (a_cons (p_ix (p_ix (p_varV (i := 15)) (p_toB (p_varV (i := 24)))) p_int) a_nil)))))) a_nil)))) rfl (by decide) sc_law.nd)
  (ss_cons (s_set (i := 10) (bk := false) (e_toV (e_lift (p_lc (κ := .F) (own := [("at", 24), ("pair", 27)]) (t := (.tp [(.nm 24), (.nm 27)])) rfl sc_law.nd (i_enumP c.f_enumerate (a_cons (p_toV (p_callF F__law_costs tk (hr.mono (by omega)) (a_cons (p_toB (p_varV (i := 15))) (a_cons (p_toB (p_varV (i := 21))) a_nil)))) a_nil)) (blkOk_by (N := ["script", "draws", "doubled_v", "marks", "used", "drawn", "one", "papers", "told", "paid", "charged", "more", "bad", "tables", "numbers", "roads", "amount", "many", "paper", "parting", "here", "best", "least", "known", "at", "turn", "way", "pair", "some", "a", "b", "far"]) (sc := defScope st_law) (by decide +kernel)) (by decide) (by decide) (fun _ _ _ _ _ => (pg_tup rfl (pgs_cons (pg_name (i := 24) sc_law.nd rfl (by first | exact Or.inl rfl | exact Or.inr rfl)) (pgs_cons (pg_name (i := 27) sc_law.nd rfl (by first | exact Or.inl rfl | exact Or.inr rfl)) pgs_nil)) rfl rfl)) (fun _ _ _ _ _ => ts_nil) (fun _ _ _ _ _ => (p_callF F__law_add takes0' (hr.mono (by omega)) (a_cons (p_toB (p_varV (i := 27))) (a_cons (p_toB (p_ix (p_varV (i := 8)) (p_toB (p_varV (i := 24))))) a_nil))))))) rfl (by decide) sc_law.nd)
  (ss_cons (s_if (et_lift (t_w (w_or (t_cm (o_ne hr.u64) (p_toB (p_biE o_len' c.f_len bt_len (a_cons (p_toB (p_varV (i := 8))) a_nil))) (p_toB (p_varV (i := 17)))) (w_or (t_truth o_tru (p_toB (p_biE (o_any' rfl) c.f_any bt_any (a_cons (p_toB (p_lc (κ := .F) (own := [("pair", 27)]) (t := (.nm 27)) rfl sc_law.nd (i_seqP (p_varV (i := 8))) (blkOk_by (N := ["script", "draws", "doubled_v", "marks", "used", "drawn", "one", "papers", "told", "paid", "charged", "more", "bad", "tables", "numbers", "roads", "amount", "many", "paper", "parting", "here", "best", "least", "known", "at", "turn", "way", "pair", "some", "a", "b", "far"]) (sc := defScope st_law) (by decide +kernel)) (by decide) (by decide) (fun _ _ _ _ _ => (pg_name (i := 27) sc_law.nd rfl (by first | exact Or.inl rfl | exact Or.inr rfl))) (fun _ _ _ _ _ => ts_nil) (fun _ _ _ _ _ => (p_cm o_lt (p_toB (p_ix (p_varV (i := 27)) p_int)) p_int)))) a_nil)))) (w_or1 (t_w (w_and (t_truth o_tru (p_toB (p_callF F_are_roads tk (hr.mono (by omega)) (a_cons (p_toB (p_varV (i := 9))) a_nil)))) (w_and1 (t_cm (o_ne hr.u64) (p_toB (p_callF F_level tk (hr.mono (by omega)) (a_cons (p_toB (p_varV (i := 9))) (a_cons (p_toB (p_varV (i := 16))) a_nil)))) (p_toB (p_callF F__law_greatest tk (hr.mono (by omega)) (a_cons (p_toB (p_lc (κ := .V) (own := [("at", 24)]) (t := (.nm 24)) rfl sc_law.nd (i_range1P (κ := .B) c.f_range (a_cons (p_toB (p_varV (i := 17))) a_nil)) (blkOk_by (N := ["script", "draws", "doubled_v", "marks", "used", "drawn", "one", "papers", "told", "paid", "charged", "more", "bad", "tables", "numbers", "roads", "amount", "many", "paper", "parting", "here", "best", "least", "known", "at", "turn", "way", "pair", "some", "a", "b", "far"]) (sc := defScope st_law) (by decide +kernel)) (by decide) (by decide) (fun _ _ _ _ _ => (pg_name (i := 24) sc_law.nd rfl (by first | exact Or.inl rfl | exact Or.inr rfl))) (fun _ _ _ _ _ => (ts_one (t_cm o_gt (p_toB (p_ix (p_ix (p_varV (i := 21)) (p_toB (p_varV (i := 24)))) p_int)) p_int))) (fun _ _ _ _ _ => (p_ix (p_varV (i := 10)) (p_toB (p_varV (i := 24))))))) a_nil)))))))))))) (ss_one (s_ret (e_lift p_bl)))
  ss_nil)
  (ss_cons (s_set (i := 11) (bk := false) (e_toV (e_lift (p_tup (κ := .F) (a_cons (p_tup (κ := .F) (a_cons (p_tup (κ := .F) (a_cons p_int (a_cons p_int a_nil))) (a_cons (p_tup (κ := .F) (a_cons p_int (a_cons p_int a_nil))) a_nil))) a_nil)))) rfl (by decide) sc_law.nd)
  (ss_cons (s_if (et_lift (t_w (w_or (t_truth o_tru (p_toB (p_callF F__law_is_less tk (hr.mono (by omega)) (a_cons (p_toB (p_varV (i := 20))) (a_cons (p_toB (p_callF F_level tk (hr.mono (by omega)) (a_cons (p_toB (p_bin o_add (p_toB (p_varV (i := 15))) (p_toB (p_varV (i := 11))))) (a_cons (p_toB (p_varV (i := 16))) a_nil)))) a_nil))))) (w_or1 (t_truth o_tru (p_toB (p_callF F__law_is_less tk (hr.mono (by omega)) (a_cons (p_toB (p_callF F_level tk (hr.mono (by omega)) (a_cons (p_toB (p_varV (i := 15))) (a_cons (p_toB (p_callF F__law_add tk (hr.mono (by omega)) (a_cons (p_toB (p_varV (i := 16))) (a_cons (p_toB (p_tup (κ := .F) (a_cons p_int (a_cons p_int a_nil)))) a_nil)))) a_nil)))) (a_cons (p_toB (p_varV (i := 20))) a_nil))))))))) (ss_one (s_ret (e_lift p_bl)))
  ss_nil)
  (ss_cons (s_unp (is := [23, 6]) rfl (e_toV (e_lift (p_tup (κ := .F) (a_cons (p_tup (κ := .F) (a_cons (p_tup (κ := .F) (a_cons (p_tup (κ := .F) (a_cons p_int (a_cons p_int a_nil))) (a_cons (p_tup (κ := .F) (a_cons p_int (a_cons p_int a_nil))) a_nil))) (a_cons (p_tup (κ := .F) (a_cons (p_tup (κ := .F) (a_cons p_int (a_cons p_int a_nil))) (a_cons (p_tup (κ := .F) (a_cons p_int (a_cons p_int a_nil))) a_nil))) a_nil))) (a_cons (p_tup (κ := .F) (a_cons p_int (a_cons p_int a_nil))) a_nil))))) (pgs_cons (pg_name (i := 23) sc_law.nd rfl (by first | exact Or.inl rfl | exact Or.inr rfl)) (pgs_cons (pg_name (i := 6) sc_law.nd rfl (by first | exact Or.inl rfl | exact Or.inr rfl)) pgs_nil)))
  (ss_cons (s_if (et_lift (t_cm (o_ne hr.u64) (p_toB (p_lst (κ := .F) (a_cons (p_callF F_level tk (hr.mono (by omega)) (a_cons (p_toB (p_varV (i := 23))) (a_cons (p_toB (p_varV (i := 6))) a_nil))) (a_cons (p_callF F_least_stream_sum tk (hr.mono (by omega)) (a_cons (p_toB (p_varV (i := 23))) (a_cons (p_toB (p_varV (i := 6))) a_nil))) (a_cons (p_callF F_best_parting tk (hr.mono (by omega)) (a_cons (p_toB (p_varV (i := 23))) (a_cons (p_toB (p_varV (i := 6))) a_nil))) (a_cons (p_callF F_parting_sum tk (hr.mono (by omega)) (a_cons (p_toB (p_varV (i := 23))) (a_cons (p_toB (p_tup (κ := .V) (a_cons (p_toV (p_tup (κ := .F) (a_cons p_int (a_cons p_int a_nil)))) (a_cons (p_varV (i := 6)) a_nil)))) a_nil))) a_nil)))))) (p_toB (p_lst (κ := .V) (a_cons (p_varV (i := 6)) (a_cons (p_toV (p_tup (κ := .F) (a_cons p_int (a_cons p_int a_nil)))) (a_cons (p_toV (p_tup (κ := .F) (a_cons (p_tup (κ := .F) (a_cons p_int (a_cons p_int a_nil))) (a_cons (p_tup (κ := .F) (a_cons p_int (a_cons p_int a_nil))) a_nil)))) (a_cons (p_varV (i := 6)) a_nil)))))))) (ss_one (s_ret (e_lift p_bl)))
  ss_nil)
  (ss_cons (s_set (i := 12) (bk := false) (e_toV (e_callM (i := 1) F__law_pick tk (hr.mono (by omega)) rfl (ea_lift (a_cons (p_toV (p_callF0 F__law_wrong_roads tk (hr.mono (by omega)))) a_nil)) (HLe.lift (by repeat (first | exact HL.nil | refine HL.cons ?_))))) rfl (by decide) sc_law.nd)
  (ss_cons (s_setLc (i := 13) (bk := false) (own := [("way", 26)]) (t := (.nm 26)) rfl sc_law.nd (i_range1 (κ := .V) c.f_range (ea_lift (a_cons p_int a_nil)) (HLe.lift (by repeat (first | exact HL.nil | refine HL.cons ?_)))) (blkOk_by (N := ["script", "draws", "doubled_v", "marks", "used", "drawn", "one", "papers", "told", "paid", "charged", "more", "bad", "tables", "numbers", "roads", "amount", "many", "paper", "parting", "here", "best", "least", "known", "at", "turn", "way", "pair", "some", "a", "b", "far"]) (sc := defScope st_law) (by decide +kernel)) (by decide) (by decide) (fun _ _ _ _ _ => (pg_name (i := 26) sc_law.nd rfl (by first | exact Or.inl rfl | exact Or.inr rfl))) (fun _ _ _ _ _ => ets_nil) (fun _ _ _ _ _ => (e_lift (p_toV (p_callF F__law_asked takes0' (hr.mono (by omega)) (a_cons (p_toB (p_varV (i := 26))) (a_cons (p_toB (p_varV (i := 12))) (a_cons (p_toB (p_if (t_cm (o_eq hr.u64) (p_toB (p_varV (i := 26))) p_int) (p_tup a_nil) (p_tup (κ := .F) (a_cons p_int (a_cons p_int a_nil))))) (a_cons (p_toB (p_tup (κ := .F) (a_cons (p_tup a_nil) (a_cons (p_tup a_nil) a_nil)))) a_nil)))))))))
  (ss_cons (s_set (i := 14) (bk := false) (e_toV (e_lift (p_callF F__law_flat tk (hr.mono (by omega)) (a_cons (p_toB (p_lc (κ := .F) (own := [("way", 26)]) (t := (.nm 26)) rfl sc_law.nd (i_seqP (p_toV (p_lst (κ := .F) (a_cons p_int (a_cons p_int (a_cons p_int (a_cons p_int (a_cons p_int (a_cons p_int a_nil))))))))) (blkOk_by (N := ["script", "draws", "doubled_v", "marks", "used", "drawn", "one", "papers", "told", "paid", "charged", "more", "bad", "tables", "numbers", "roads", "amount", "many", "paper", "parting", "here", "best", "least", "known", "at", "turn", "way", "pair", "some", "a", "b", "far"]) (sc := defScope st_law) (by decide +kernel)) (by decide) (by decide) (fun _ _ _ _ _ => (pg_name (i := 26) sc_law.nd rfl (by first | exact Or.inl rfl | exact Or.inr rfl))) (fun _ _ _ _ _ => ts_nil) (fun _ _ _ _ _ => (p_lc (κ := .F) (own := [("far", 31)]) (t := (.nm 31)) rfl sc_law.nd (i_seqP (p_toV (p_lst (κ := .F) (a_cons (p_tup (κ := .F) (a_cons p_int (a_cons p_int a_nil))) (a_cons (p_tup (κ := .F) (a_cons (p_neg p_int) (a_cons p_int a_nil))) (a_cons (p_tup (κ := .F) (a_cons p_int (a_cons p_int a_nil))) (a_cons (p_tup (κ := .F) (a_cons p_int (a_cons p_int a_nil))) a_nil))))))) (blkOk_by (by kernel_rfl)) (by decide) (by decide) (fun _ _ _ _ _ => (pg_name (i := 31) sc_law.nd rfl (by first | exact Or.inl rfl | exact Or.inr rfl))) (fun _ _ _ _ _ => ts_nil) (fun _ _ _ _ _ => (p_callF F__law_asked takes0' (hr.mono (by omega)) (a_cons (p_toB (p_varV (i := 26))) (a_cons (p_toB (p_varV (i := 15))) (a_cons (p_toB (p_varV (i := 31))) (a_cons (p_toB (p_tup (κ := .F) (a_cons (p_tup a_nil) (a_cons (p_tup a_nil) a_nil)))) a_nil)))))))))) a_nil)))) rfl (by decide) sc_law.nd)
  (ss_cons (s_set (i := 14) (bk := false) (e_toV (e_lift (p_bin o_add (p_toB (p_varV (i := 14))) (p_toB (p_lc (κ := .F) (own := [("some", 28)]) (t := (.nm 28)) rfl sc_law.nd (i_seqP (p_lst (κ := .V) (a_cons (p_sl (p_varV (i := 19)) (o_some p_int) o_none) (a_cons (p_toV (p_bin o_add (p_toB (p_varV (i := 19))) (p_toB (p_tup (κ := .F) (a_cons (p_tup (κ := .F) (a_cons p_int (a_cons p_int a_nil))) a_nil))))) (a_cons (p_toV (p_bin o_mulT (p_toB (p_tup (κ := .F) (a_cons (p_tup (κ := .F) (a_cons (p_neg p_int) (a_cons p_int a_nil))) a_nil))) (p_toB (p_varV (i := 17))))) (a_cons (p_toV (p_bin o_mulT (p_toB (p_tup (κ := .F) (a_cons (p_tup (κ := .F) (a_cons p_int (a_cons p_int a_nil))) a_nil))) (p_toB (p_varV (i := 17))))) a_nil)))))) (blkOk_by (N := ["script", "draws", "doubled_v", "marks", "used", "drawn", "one", "papers", "told", "paid", "charged", "more", "bad", "tables", "numbers", "roads", "amount", "many", "paper", "parting", "here", "best", "least", "known", "at", "turn", "way", "pair", "some", "a", "b", "far"]) (sc := defScope st_law) (by decide +kernel)) (by decide) (by decide) (fun _ _ _ _ _ => (pg_name (i := 28) sc_law.nd rfl (by first | exact Or.inl rfl | exact Or.inr rfl))) (fun _ _ _ _ _ => ts_nil) (fun _ _ _ _ _ => (p_callF F__law_asked takes0' (hr.mono (by omega)) (a_cons p_int (a_cons (p_toB (p_varV (i := 15))) (a_cons (p_toB (p_varV (i := 28))) (a_cons p_non a_nil))))))))))) rfl (by decide) sc_law.nd)
  (ss_one (s_ret (e_lift (p_and (p_toB (p_cm o_is (p_toB (p_callF F_are_roads tk (hr.mono (by omega)) (a_cons (p_toB (p_varV (i := 12))) a_nil))) p_bl)) (p_and (p_toB (p_cm (o_eq hr.u64) (p_toB (p_varV (i := 13))) (p_toB (p_bin o_mul (p_toB (p_lst (κ := .F) (a_cons p_str a_nil))) p_int)))) (p_one (p_cm (o_eq hr.u64) (p_toB (p_varV (i := 14))) (p_toB (p_bin o_mul (p_toB (p_lst (κ := .F) (a_cons p_str a_nil))) p_int))))))))))))))))))))))))))))))))))))))
theorem fp_law (c : Ctx w K mg) (F__law_draws : FnPP P w K mg base 2 "_law_draws" ["script"] .F (m__law_draws)) (F__law_next : FnMM P w K mg base 1 "_law_next" ["draws"] .F (m__law_next)) (F__law_more : FnMM P w K mg base 2 "_law_more" ["draws", "many"] .F (m__law_more)) (F__law_least : FnPP P w K mg base 2 "_law_least" ["top", "low"] .F (m__law_least)) (F__law_add : FnPP P w K mg base 3 "_law_add" ["one", "other"] .F (m__law_add)) (F__law_times : FnPP P w K mg base 3 "_law_times" ["one", "other"] .F (m__law_times)) (F__law_costs : FnPP P w K mg base 4 "_law_costs" ["roads", "parting"] .F (m__law_costs)) (F_are_roads : FnPP P w K mg base 4 "are_roads" ["roads"] .F (m_are_roads)) (F_parting_sum : FnPP P w K mg base 6 "parting_sum" ["roads", "parting"] .F (m_parting_sum)) (F_level : FnPP P w K mg base 6 "level" ["roads", "amount"] .F (m_level)) (F_best_parting : FnPP P w K mg base 7 "best_parting" ["roads", "amount"] .F (m_best_parting)) (F_least_stream_sum : FnPP P w K mg base 8 "least_stream_sum" ["roads", "amount"] .F (m_least_stream_sum)) (F__law_asked : FnPP P w K mg base 9 "_law_asked" ["way", "roads", "one", "two"] .F (m__law_asked K)) (F__law_pick : FnMM P w K mg base 2 "_law_pick" ["draws", "some"] .F (m__law_pick)) (F__law_flat : FnPP P w K mg base 1 "_law_flat" ["rows"] .F (m__law_flat)) (F__law_roads : FnMM P w K mg base 4 "_law_roads" ["draws", "most"] .F (m__law_roads)) (F__law_is_less : FnPP P w K mg base 1 "_law_is_less" ["one", "other"] .F (m__law_is_less)) (F__law_drawn : FnMM P w K mg base 4 "_law_drawn" ["draws", "many", "amount"] .F (m__law_drawn)) (F__law_wrong_roads : FnPP P w K mg base 1 "_law_wrong_roads" [] .F (m__law_wrong_roads)) (F__law_is_parting : FnPP P w K mg base 5 "_law_is_parting" ["parting", "many", "amount"] .F (m__law_is_parting)) (F__law_even : FnPP P w K mg base 2 "_law_even" ["costs", "parting", "here"] .F (m__law_even)) (F__law_is_right : FnPP P w K mg base 6 "_law_is_right" ["roads", "amount", "paper"] .F (m__law_is_right)) (F__law_sum : FnPP P w K mg base 5 "_law_sum" ["roads", "parting"] .F (m__law_sum)) (F__law_greatest : FnPP P w K mg base 2 "_law_greatest" ["fractions"] .F (m__law_greatest)) : FnPP P w K mg base 10 "law" ["script"] .F (m_law K) := by
  obtain ⟨fd, F⟩ := c.d_law
  have h : FnG P w K mg base (L2.CX P w) (9 + 1) (He.ga K "law") fd ["script"] (spP K (["script"] : List Str).length .F (runF (["script", "draws", "doubled_v", "marks", "used", "drawn", "one", "papers", "told", "paid", "charged", "more", "bad", "tables", "numbers", "roads", "amount", "many", "paper", "parting", "here", "best", "least", "known", "at", "turn", "way", "pair", "some", "a", "b", "far"] : List Str).length (sem_law K))) := fnP (P := P) (w := w) (base := base) (mg := mg) (ks := [false, true, false, false, false, false, false, false, false, false, false, false, false, false, false, false, false, false, false, false, false, false, false, false, false, false, false, false, false, false, false, false]) (k := 9) F sc_law (by decide) (by decide) (by decide) (body_law c F__law_draws F__law_next F__law_more F__law_least F__law_add F__law_times F__law_costs F_are_roads F_parting_sum F_level F_best_parting F_least_stream_sum F__law_asked F__law_pick F__law_flat F__law_roads F__law_is_less F__law_drawn F__law_wrong_roads F__law_is_parting F__law_even F__law_is_right F__law_sum F__law_greatest)
  have b : Binds K fd ["script"] [] := F.bindsN (fun _ _ _ _ _ _ us hl => match us, hl with | [_], _ => rfl)
  exact ⟨_, fd, h, c.g_law, F.kp, b⟩

/-! ### together -/
theorem fg_all (c : Ctx w K mg) {fd : FuncData} (F : FunD K "law" "law" (defArgs st_law) (defBody st_law) (defScope st_law) [] [] (He.ga K "law") fd) : FnG P w K mg base (L2.CX P w) 10 (He.ga K "law") fd ["script"] (spP K 1 .F (m_law K)) := by
  have F__law_number := fp__law_number (P := P) (base := base) c 
  have F__law_draws := fp__law_draws (P := P) (base := base) c F__law_number
  have F__law_next := fp__law_next (P := P) (base := base) c 
  have F__law_more := fp__law_more (P := P) (base := base) c F__law_next
  have F__law_common := fp__law_common (P := P) (base := base) c 
  have F__law_least := fp__law_least (P := P) (base := base) c F__law_common
  have F__law_add := fp__law_add (P := P) (base := base) c F__law_least
  have F__law_times := fp__law_times (P := P) (base := base) c F__law_least
  have F__law_costs := fp__law_costs (P := P) (base := base) c F__law_add F__law_times
  have F_common := fp_common (P := P) (base := base) c 
  have F_least_terms := fp_least_terms (P := P) (base := base) c F_common
  have F_add := fp_add (P := P) (base := base) c F_least_terms
  have F_total := fp_total (P := P) (base := base) c F_add
  have F_times := fp_times (P := P) (base := base) c F_least_terms
  have F_sum_by := fp_sum_by (P := P) (base := base) c F_add F_total F_times
  have F_is_fraction := fp_is_fraction (P := P) (base := base) c F_common
  have F_is_cost := fp_is_cost (P := P) (base := base) c F_is_fraction
  have F_are_roads := fp_are_roads (P := P) (base := base) c F_is_cost
  have F_is_parting := fp_is_parting (P := P) (base := base) c F_is_fraction
  have F_parting_sum := fp_parting_sum (P := P) (base := base) c F_sum_by F_are_roads F_is_parting
  have F_is_amount := fp_is_amount (P := P) (base := base) c F_is_cost
  have F_check_amount := fp_check_amount (P := P) (base := base) c F_are_roads F_is_amount
  have F_less := fp_less (P := P) (base := base) c F_least_terms
  have F_is_even := fp_is_even (P := P) (base := base) c F_less
  have F_is_level_paper := fp_is_level_paper (P := P) (base := base) c F_add F_total F_times F_is_fraction F_is_parting F_check_amount F_is_even
  have F__law_kind := fp__law_kind (P := P) (base := base) c 
  have F_least_of := fp_least_of (P := P) (base := base) c F_less
  have F_by := fp_by (P := P) (base := base) c F_least_terms
  have F_told_level := fp_told_level (P := P) (base := base) c F_add F_total F_less F_least_of F_by
  have F_level := fp_level (P := P) (base := base) c F_check_amount F_told_level
  have F_parting_of := fp_parting_of (P := P) (base := base) c F_total F_less F_by F_told_level
  have F_level_paper := fp_level_paper (P := P) (base := base) c F_check_amount F_parting_of
  have F_doubled := fp_doubled (P := P) (base := base) c F_times
  have F_best_parting := fp_best_parting (P := P) (base := base) c F_check_amount F_parting_of F_doubled
  have F_least_stream_sum := fp_least_stream_sum (P := P) (base := base) c F_sum_by F_best_parting
  have F_tolls := fp_tolls (P := P) (base := base) c F_times F_best_parting
  have F__law_asked := fp__law_asked (P := P) (base := base) c F_parting_sum F_is_level_paper F__law_kind F_level F_level_paper F_best_parting F_least_stream_sum F_tolls
  have F__law_pick := fp__law_pick (P := P) (base := base) c F__law_next
  have F__law_flat := fp__law_flat (P := P) (base := base) c 
  have F__law_part_of := fp__law_part_of (P := P) (base := base) c F__law_next F__law_least
  have F__law_roads := fp__law_roads (P := P) (base := base) c F__law_next F__law_part_of
  have F__law_is_less := fp__law_is_less (P := P) (base := base) c 
  have F__law_drawn := fp__law_drawn (P := P) (base := base) c F__law_next F__law_least F__law_times
  have F__law_wrong_roads := fp__law_wrong_roads (P := P) (base := base) c 
  have F__law_total := fp__law_total (P := P) (base := base) c F__law_add
  have F__law_is_fraction := fp__law_is_fraction (P := P) (base := base) c F__law_least
  have F__law_is_parting := fp__law_is_parting (P := P) (base := base) c F__law_total F__law_is_fraction
  have F__law_even := fp__law_even (P := P) (base := base) c F__law_is_less
  have F__law_is_right := fp__law_is_right (P := P) (base := base) c F__law_costs F__law_is_fraction F__law_is_parting F__law_even
  have F__law_sum := fp__law_sum (P := P) (base := base) c F__law_times F__law_costs F__law_total
  have F__law_greatest := fp__law_greatest (P := P) (base := base) c F__law_is_less
  have h : FnG P w K mg base (L2.CX P w) (9 + 1) (He.ga K "law") fd ["script"] (spP K (["script"] : List Str).length .F (runF (["script", "draws", "doubled_v", "marks", "used", "drawn", "one", "papers", "told", "paid", "charged", "more", "bad", "tables", "numbers", "roads", "amount", "many", "paper", "parting", "here", "best", "least", "known", "at", "turn", "way", "pair", "some", "a", "b", "far"] : List Str).length (sem_law K))) := fnP (P := P) (w := w) (base := base) (mg := mg) (ks := [false, true, false, false, false, false, false, false, false, false, false, false, false, false, false, false, false, false, false, false, false, false, false, false, false, false, false, false, false, false, false, false]) (k := 9) F sc_law (by decide) (by decide) (by decide) (body_law c F__law_draws F__law_next F__law_more F__law_least F__law_add F__law_times F__law_costs F_are_roads F_parting_sum F_level F_best_parting F_least_stream_sum F__law_asked F__law_pick F__law_flat F__law_roads F__law_is_less F__law_drawn F__law_wrong_roads F__law_is_parting F__law_even F__law_is_right F__law_sum F__law_greatest)
  exact h
end PV
end

set_option Elab.async false
set_option linter.all false
set_option autoImplicit false
/-! k52: streams over roads side by side, plain. -/
namespace S52
abbrev Road := Rat × Rat
/-- 0 < b -/
def steep (R : List Road) : List Road := R.filter fun r => decide (0 < r.2)
def flats (R : List Road) : List Rat := (R.filter fun r => decide (r.2 = 0)).map (·.1)
def used (S : List Road) (t : Rat) : List Road := S.filter fun r => decide (0 ≤ t - r.1)
def G (S : List Road) (x t : Rat) : Rat := (x + ((used S t).map fun r => r.1 / r.2).sum) / ((used S t).map fun r => 1 / r.2).sum
def ready (R : List Road) (x : Rat) : List Rat := flats R ++ (steep R).map fun r => G (steep R) x r.1
def least : List Rat → Rat
  | [] => 0
  | x :: xs => xs.foldl (fun f p => if p - f < 0 then p else f) x
def told (R : List Road) (x : Rat) : Rat := least (ready R x)
/-- what a road takes at a level -/
def tk (l : Rat) (r : Road) : Rat := if 0 < r.2 ∧ 0 < l - r.1 then (l - r.1) / r.2 else 0
def F (R : List Road) (l : Rat) : Rat := (R.map (tk l)).sum
structure Lev (R : List Road) (x l : Rat) : Prop where
  le : F R l ≤ x
  fl : ∀ a ∈ flats R, l ≤ a
  ex : F R l = x ∨ l ∈ flats R
def Ok (R : List Road) : Prop := R ≠ [] ∧ ∀ r ∈ R, 0 ≤ r.1 ∧ 0 ≤ r.2
/-! ### sums -/
section
variable {α : Type} {f g : α → Rat}
theorem sum_le : ∀ {xs : List α}, (∀ x ∈ xs, f x ≤ g x) → (xs.map f).sum ≤ (xs.map g).sum
  | [], _ => by simp
  | x :: xs, h => by
    have h1 := h x (List.mem_cons_self ..)
    have h2 := sum_le fun y hy => h y (List.mem_cons_of_mem _ hy)
    simp only [List.map_cons, List.sum_cons]
    grind
theorem sum_lt : ∀ {xs : List α}, (∀ x ∈ xs, f x ≤ g x) → (∃ x ∈ xs, f x < g x) → (xs.map f).sum < (xs.map g).sum
  | [], _, h => by simp at h
  | x :: xs, h, ⟨y, hy, hlt⟩ => by
    have h1 := h x (List.mem_cons_self ..)
    have hs : ∀ y ∈ xs, f y ≤ g y := fun y hy => h y (List.mem_cons_of_mem _ hy)
    simp only [List.map_cons, List.sum_cons]
    rcases List.mem_cons.mp hy with rfl | hy
    · have h2 := sum_le hs
      grind
    · have h2 := sum_lt hs ⟨y, hy, hlt⟩
      grind
theorem sum_eq : ∀ {xs : List α}, (∀ x ∈ xs, f x = g x) → (xs.map f).sum = (xs.map g).sum
  | [], _ => by simp
  | x :: xs, h => by
    have h1 := h x (List.mem_cons_self ..)
    have h2 := sum_eq fun y hy => h y (List.mem_cons_of_mem _ hy)
    simp only [List.map_cons, List.sum_cons]
    grind
theorem sum_nonneg : ∀ {xs : List α}, (∀ x ∈ xs, 0 ≤ f x) → 0 ≤ (xs.map f).sum
  | [], _ => by simp
  | x :: xs, h => by
    have h1 := h x (List.mem_cons_self ..)
    have h2 := sum_nonneg fun y hy => h y (List.mem_cons_of_mem _ hy)
    simp only [List.map_cons, List.sum_cons]
    grind
theorem sum_zero : ∀ {xs : List α}, (∀ x ∈ xs, f x = 0) → (xs.map f).sum = 0
  | [], _ => by simp
  | x :: xs, h => by
    have h1 := h x (List.mem_cons_self ..)
    have h2 := sum_zero fun y hy => h y (List.mem_cons_of_mem _ hy)
    simp only [List.map_cons, List.sum_cons]
    grind
theorem sum_filter (c : α → Bool) : ∀ (xs : List α), ((xs.filter c).map f).sum = (xs.map fun x => if c x = true then f x else 0).sum
  | [] => rfl
  | x :: xs => by
    have ih := sum_filter c xs
    cases h : c x with
    | true => simp [h, ih]
    | false => simp [h, ih]; grind
theorem sum_lin (l : Rat) : ∀ (xs : List Road), (∀ r ∈ xs, 0 < r.2) → (xs.map fun r => (l - r.1) / r.2).sum = l * (xs.map fun r => 1 / r.2).sum - (xs.map fun r => r.1 / r.2).sum
  | [], _ => by simp; grind
  | x :: xs, h => by
    have h1 := h x (List.mem_cons_self ..)
    have ih := sum_lin l xs fun y hy => h y (List.mem_cons_of_mem _ hy)
    simp only [List.map_cons, List.sum_cons, ih]
    have hn : x.2 ≠ 0 := by grind
    have : (l - x.1) / x.2 = l * (1 / x.2) - x.1 / x.2 := by grind
    grind
end
theorem div_nonneg {a b : Rat} (ha : 0 ≤ a) (hb : 0 < b) : 0 ≤ a / b := by
  have hi : 0 < b⁻¹ := Rat.inv_pos.mpr hb
  rw [Rat.div_def]
  exact Rat.mul_nonneg ha (by grind)
theorem div_pos {a b : Rat} (ha : 0 < a) (hb : 0 < b) : 0 < a / b := by
  rw [Rat.div_def]
  exact Rat.mul_pos ha (Rat.inv_pos.mpr hb)
theorem div_le {a b c : Rat} (h : a ≤ c) (hb : 0 < b) : a / b ≤ c / b := by
  have hi : 0 < b⁻¹ := Rat.inv_pos.mpr hb
  have := div_nonneg (a := c - a) (by grind) hb
  have e : (c - a) / b = c / b - a / b := by grind
  grind
theorem tk_nonneg (l : Rat) (r : Road) : 0 ≤ tk l r := by
  unfold tk
  split
  · rename_i h; have := div_pos h.2 h.1; grind
  · grind
theorem tk_mono {l m : Rat} (h : l ≤ m) (r : Road) : tk l r ≤ tk m r := by
  unfold tk
  split
  · rename_i h1
    rw [if_pos ⟨h1.1, by grind⟩]
    exact div_le (by grind) h1.1
  · split
    · rename_i h1 h2; have := div_pos h2.2 h2.1; grind
    · grind
theorem tk_lt {l m : Rat} (h : l < m) {r : Road} (hp : 0 < tk l r) : tk l r < tk m r := by
  unfold tk at *
  split at hp
  · rename_i h1
    rw [if_pos h1, if_pos ⟨h1.1, by grind⟩]
    have := div_pos (a := m - l) (by grind) h1.1
    have e : (m - r.1) / r.2 = (m - l) / r.2 + (l - r.1) / r.2 := by grind
    grind
  · grind
theorem F_mono {R : List Road} {l m : Rat} (h : l ≤ m) : F R l ≤ F R m := sum_le fun r _ => tk_mono h r
theorem exists_pos {α : Type} {f : α → Rat} : ∀ {xs : List α}, 0 < (xs.map f).sum → ∃ x ∈ xs, 0 < f x
  | [], h => absurd h (by simp)
  | x :: xs, h => by
    simp only [List.map_cons, List.sum_cons] at h
    by_cases hx : 0 < f x
    · exact ⟨x, List.mem_cons_self .., hx⟩
    · obtain ⟨y, hy, h2⟩ := exists_pos (xs := xs) (f := f) (by grind)
      exact ⟨y, List.mem_cons_of_mem _ hy, h2⟩
theorem F_lt {R : List Road} {l m : Rat} (h : l < m) (hp : 0 < F R l) : F R l < F R m := by
  obtain ⟨r, hr, h1⟩ := exists_pos hp
  exact sum_lt (fun r _ => tk_mono (by grind) r) ⟨r, hr, tk_lt h h1⟩
theorem lev_le {R R' : List Road} {x x' l m : Rat} (h : Lev R x l) (h' : Lev R' x' m) (hx : 0 < x) (hxx : x' ≤ x) (hF : F R m ≤ F R' m) (hf : ∀ a ∈ flats R, a ∈ flats R') : m ≤ l := by
  by_cases hlt : l < m
  · exfalso
    rcases h.ex with e | e
    · have := F_lt hlt (by rw [e]; exact hx)
      have := h'.le
      grind
    · have := h'.fl l (hf l e)
      grind
  · grind
theorem lev_unique {R : List Road} {x l m : Rat} (h : Lev R x l) (h' : Lev R x m) (hx : 0 < x) : l = m := by
  have h1 := lev_le h h' hx (by grind) (by grind) fun a h => h
  have h2 := lev_le h' h hx (by grind) (by grind) fun a h => h
  grind
/-! ### least -/
theorem fold_least : ∀ (xs : List Rat) (x : Rat), (xs.foldl (fun f p => if p - f < 0 then p else f) x ∈ x :: xs) ∧ ∀ y ∈ x :: xs, xs.foldl (fun f p => if p - f < 0 then p else f) x ≤ y
  | [], x => by simp
  | p :: xs, x => by
    obtain ⟨h1, h2⟩ := fold_least xs (if p - x < 0 then p else x)
    rw [List.foldl_cons]
    refine ⟨?_, fun y hy => ?_⟩
    · rcases List.mem_cons.mp h1 with e | e
      · rw [e]; split <;> simp
      · simp [e]
    · have h3 := h2 (if p - x < 0 then p else x) (List.mem_cons_self ..)
      rcases List.mem_cons.mp hy with rfl | hy
      · grind
      · rcases List.mem_cons.mp hy with rfl | hy
        · grind
        · exact h2 y (List.mem_cons_of_mem _ hy)
theorem least_mem {xs : List Rat} (h : xs ≠ []) : least xs ∈ xs ∧ ∀ y ∈ xs, least xs ≤ y := by
  cases xs with
  | nil => exact absurd rfl h
  | cons x xs => exact fold_least xs x
theorem exists_max {S : List Road} (h : S ≠ []) : ∃ r ∈ S, ∀ s ∈ S, s.1 ≤ r.1 := by
  induction S with
  | nil => exact absurd rfl h
  | cons r S ih =>
    by_cases hs : S = []
    · subst hs; exact ⟨r, by simp, by intro s hs; simp at hs; subst hs; grind⟩
    · obtain ⟨q, hq, hm⟩ := ih hs
      by_cases hc : q.1 ≤ r.1
      · refine ⟨r, List.mem_cons_self .., fun s hs => ?_⟩
        rcases List.mem_cons.mp hs with rfl | hs
        · grind
        · have := hm s hs; grind
      · refine ⟨q, List.mem_cons_of_mem _ hq, fun s hs => ?_⟩
        rcases List.mem_cons.mp hs with rfl | hs
        · grind
        · exact hm s hs
/-! ### the level that is told is one -/
section
variable {S : List Road} {x : Rat}
theorem F_steep (R : List Road) (l : Rat) : F R l = F (steep R) l := by
  unfold F steep
  rw [sum_filter]
  refine sum_eq fun r _ => ?_
  unfold tk
  by_cases h : 0 < r.2
  · simp [h]
  · simp [h]
theorem used_pos (hS : ∀ r ∈ S, 0 < r.2) (t : Rat) : ∀ r ∈ used S t, 0 < r.2 := fun r hr => hS r (List.mem_filter.mp hr).1
theorem used_sum (hS : ∀ r ∈ S, 0 < r.2) (t l : Rat) : l * ((used S t).map fun r => 1 / r.2).sum - ((used S t).map fun r => r.1 / r.2).sum = (S.map fun r => if 0 ≤ t - r.1 then (l - r.1) / r.2 else 0).sum := by
  rw [← sum_lin l _ (used_pos hS t)]
  unfold used
  rw [sum_filter]
  exact sum_eq fun r _ => by simp
theorem weight_pos (hS : ∀ r ∈ S, 0 < r.2) {r : Road} (hr : r ∈ S) : 0 < ((used S r.1).map fun r => 1 / r.2).sum := by
  have hm : r ∈ used S r.1 := List.mem_filter.mpr ⟨hr, by simp; grind⟩
  have h0 : ((used S r.1).map fun _ => (0 : Rat)).sum = 0 := sum_zero fun _ _ => rfl
  have := sum_lt (f := fun _ => (0 : Rat)) (g := fun r : Road => 1 / r.2) (xs := used S r.1) (fun q hq => by have := div_pos (a := 1) (by grind) (used_pos hS r.1 q hq); grind) ⟨r, hm, div_pos (by grind) (hS r hr)⟩
  rw [h0] at this
  exact this
theorem G_sum (hS : ∀ r ∈ S, 0 < r.2) {r : Road} (hr : r ∈ S) : (S.map fun q => if 0 ≤ r.1 - q.1 then (G S x r.1 - q.1) / q.2 else 0).sum = x := by
  rw [← used_sum hS]
  have hw := weight_pos hS hr
  unfold G
  generalize ((used S r.1).map fun r => 1 / r.2).sum = w at *
  generalize ((used S r.1).map fun r => r.1 / r.2).sum = a at *
  have : w ≠ 0 := by grind
  grind
theorem part_le (hS : ∀ r ∈ S, 0 < r.2) (t l : Rat) : (S.map fun q => if 0 ≤ t - q.1 then (l - q.1) / q.2 else 0).sum ≤ F S l := by
  refine sum_le fun q hq => ?_
  have hq := hS q hq
  have h0 := tk_nonneg l q
  split
  · by_cases h1 : 0 < l - q.1
    · unfold tk; rw [if_pos ⟨hq, h1⟩]; grind
    · have := div_nonneg (a := -(l - q.1)) (by grind) hq
      have e : -(l - q.1) / q.2 = - ((l - q.1) / q.2) := by grind
      grind
  · exact h0
/-- the least of the levels G gives just x -/
theorem F_least (hS : ∀ r ∈ S, 0 < r.2) (hx : 0 < x) {r0 : Road} (h0 : r0 ∈ S) (hm : ∀ r ∈ S, G S x r0.1 ≤ G S x r.1) : F S (G S x r0.1) = x := by
  have h1 := part_le hS r0.1 (G S x r0.1)
  rw [G_sum hS h0] at h1
  have h2 : F S (G S x r0.1) ≤ x := by
    generalize hm' : G S x r0.1 = m at *
    by_cases he : (S.filter fun r => decide (r.1 ≤ m)) = []
    · have : F S m = 0 := sum_zero fun r hr => by
        have : ¬ r.1 ≤ m := fun h => by
          have : r ∈ S.filter fun r => decide (r.1 ≤ m) := List.mem_filter.mpr ⟨hr, by simpa using h⟩
          rw [he] at this; cases this
        unfold tk
        rw [if_neg (by grind)]
      grind
    · obtain ⟨q, hq, hmax⟩ := exists_max he
      obtain ⟨hqS, hqm⟩ := List.mem_filter.mp hq
      have hqm : q.1 ≤ m := by simpa using hqm
      have hg := G_sum (x := x) hS hqS
      have hle : F S m ≤ (S.map fun p => if 0 ≤ q.1 - p.1 then (G S x q.1 - p.1) / p.2 else 0).sum := by
        refine sum_le fun p hp => ?_
        have hp2 := hS p hp
        have hmq := hm q hqS
        unfold tk
        split
        · rename_i h
          have hpm : p.1 ≤ m := by grind
          have := hmax p (List.mem_filter.mpr ⟨hp, by simpa using hpm⟩)
          rw [if_pos (by grind)]
          exact div_le (by grind) hp2
        · split
          · rename_i h _
            have : m - p.1 ≤ 0 := by grind
            have hge : p.1 ≤ m := by grind
            exact div_nonneg (by grind) hp2
          · grind
      grind
  grind
end
theorem steep_pos (R : List Road) : ∀ r ∈ steep R, 0 < r.2 := fun r hr => by simpa using (List.mem_filter.mp hr).2
theorem ready_ne {R : List Road} (h : Ok R) (x : Rat) : ready R x ≠ [] := by
  cases R with
  | nil => exact absurd rfl h.1
  | cons r R =>
    have h2 := (h.2 r (List.mem_cons_self ..)).2
    unfold ready flats steep
    by_cases h0 : r.2 = 0
    · simp [h0]
    · have : 0 < r.2 := by grind
      simp [this]
theorem told_lev {R : List Road} (h : Ok R) {x : Rat} (hx : 0 < x) : Lev R x (told R x) := by
  obtain ⟨hm, hl⟩ := least_mem (ready_ne h x)
  have fl : ∀ a ∈ flats R, told R x ≤ a := fun a ha => hl a (List.mem_append_left _ ha)
  rcases List.mem_append.mp hm with hf | hs
  · refine ⟨?_, fl, .inr hf⟩
    rw [F_steep]
    by_cases he : steep R = []
    · rw [he]; simp [F]; grind
    · -- some level of the steep ones gives just x
      obtain ⟨hm2, hl2⟩ := least_mem (xs := (steep R).map fun r => G (steep R) x r.1) (by simpa using he)
      obtain ⟨r0, h0, e0⟩ := List.mem_map.mp hm2
      have hF := F_least (steep_pos R) hx h0 (fun r hr => by rw [e0]; exact hl2 _ (List.mem_map.mpr ⟨r, hr, rfl⟩))
      have hle : told R x ≤ G (steep R) x r0.1 := hl _ (List.mem_append_right _ (List.mem_map.mpr ⟨r0, h0, rfl⟩))
      have := F_mono (R := steep R) hle
      grind
  · obtain ⟨r0, h0, e0⟩ := List.mem_map.mp hs
    have e0 : G (steep R) x r0.1 = told R x := e0
    have hF := F_least (steep_pos R) hx h0 (fun r hr => by rw [e0]; exact hl _ (List.mem_append_right _ (List.mem_map.mpr ⟨r, hr, rfl⟩)))
    rw [e0, ← F_steep] at hF
    exact ⟨by grind, fl, .inl hF⟩
/-! ### partings -/
/-- what a stream pays on a road -/
def cost (z : Road × Rat) : Rat := z.1.1 + z.1.2 * z.2
def Even (R : List Road) (p : List Rat) (l : Rat) : Prop := ∀ z ∈ R.zip p, l ≤ cost z ∧ (z.2 = 0 ∨ cost z = l)
def sumBy (R : List Road) (p : List Rat) : Rat := ((R.zip p).map fun z => z.2 * cost z).sum
theorem even_core {R : List Road} {l : Rat} (hR : ∀ r ∈ R, 0 ≤ r.1 ∧ 0 ≤ r.2) : ∀ {p : List Rat}, p.length = R.length → (∀ q ∈ p, 0 ≤ q) → Even R p l → F R l ≤ p.sum ∧ (F R l = p.sum ∨ l ∈ flats R) ∧ ∀ a ∈ flats R, l ≤ a := by
  induction R with
  | nil => intro p hl _ _; have : p = [] := by simpa using hl
           subst this; simp [F, flats]
  | cons r R ih =>
    intro p hl hp he
    match p, hl with
    | q :: p, hl =>
      have hr := hR r (List.mem_cons_self ..)
      have hq := hp q (List.mem_cons_self ..)
      obtain ⟨i1, i2, i3⟩ := ih (fun r hr => hR r (List.mem_cons_of_mem _ hr)) (p := p) (by simpa using hl) (fun q hq => hp q (List.mem_cons_of_mem _ hq)) fun z hz => he z (List.mem_cons_of_mem _ hz)
      obtain ⟨c1, c2⟩ := he (r, q) (List.mem_cons_self ..)
      unfold cost at c1 c2
      dsimp only at c1 c2
      have eF : F (r :: R) l = tk l r + F R l := by simp [F]
      have es : (q :: p).sum = q + p.sum := by simp
      rw [eF, es]
      clear ih hR hp he
      by_cases hb : r.2 = 0
      · have ht : tk l r = 0 := by unfold tk; rw [if_neg (fun h => by rw [hb] at h; exact absurd h.1 (by decide))]
        have ef : flats (r :: R) = r.1 :: flats R := by simp [flats, hb]
        have c0 : r.1 + r.2 * q = r.1 := by rw [hb]; grind
        rw [c0] at c1 c2
        rw [ht, ef]
        refine ⟨by grind, ?_, fun a ha => ?_⟩
        · rcases c2 with e | e
          · rcases i2 with e2 | e2
            · left; rw [e, e2]
            · right; exact List.mem_cons_of_mem _ e2
          · right
            rw [← e]; exact List.mem_cons_self ..
        · rcases List.mem_cons.mp ha with rfl | ha
          · exact c1
          · exact i3 a ha
      · have hb0 : 0 < r.2 := by have := hr.2; grind
        have ef : flats (r :: R) = flats R := by simp [flats, hb]
        have ht : tk l r = q := by
          unfold tk
          clear i1 i2 i3
          generalize r.1 = a at *
          generalize r.2 = b at *
          by_cases hq0 : q = 0
          · rw [hq0] at c1 ⊢
            rw [if_neg (by grind)]
          · have : 0 < b * q := Rat.mul_pos hb0 (by grind)
            have e : a + b * q = l := c2.resolve_left hq0
            rw [if_pos ⟨hb0, by grind⟩]
            grind
        rw [ht, ef]
        refine ⟨by grind, ?_, i3⟩
        rcases i2 with e2 | e2
        · left; rw [e2]
        · right; exact e2
theorem even_lev {R : List Road} {l x : Rat} (hR : ∀ r ∈ R, 0 ≤ r.1 ∧ 0 ≤ r.2) {p : List Rat} (hl : p.length = R.length) (hp : ∀ q ∈ p, 0 ≤ q) (hs : p.sum = x) (he : Even R p l) : Lev R x l := by
  obtain ⟨h1, h2, h3⟩ := even_core hR hl hp he
  exact ⟨by grind, h3, h2.imp (fun e => by grind) fun e => e⟩
/-- an even parting's sum is level times amount -/
theorem even_sum {R : List Road} {l : Rat} : ∀ {p : List Rat}, p.length = R.length → Even R p l → sumBy R p = l * p.sum := by
  induction R with
  | nil => intro p hl _; have : p = [] := by simpa using hl
           subst this; simp [sumBy]
  | cons r R ih =>
    intro p hl he
    match p, hl with
    | q :: p, hl =>
      have i1 := ih (p := p) (by simpa using hl) fun z hz => he z (List.mem_cons_of_mem _ hz)
      obtain ⟨c1, c2⟩ := he (r, q) (List.mem_cons_self ..)
      have e1 : sumBy (r :: R) (q :: p) = q * cost (r, q) + sumBy R p := by simp [sumBy]
      have e2 : (q :: p).sum = q + p.sum := by simp
      rw [e1, e2, i1]
      rcases c2 with e | e
      · dsimp only at e; rw [e]; grind
      · rw [e]; grind
/-- the parting that is least: marks are what grows doubled -/
theorem best_core {R : List Road} {m : Rat} (hR : ∀ r ∈ R, 0 ≤ r.1 ∧ 0 ≤ r.2) : ∀ {p s : List Rat}, p.length = R.length → s.length = R.length → (∀ q ∈ s, 0 ≤ q) → Even (R.map fun r => (r.1, 2 * r.2)) p m → m * (s.sum - p.sum) ≤ sumBy R s - sumBy R p := by
  induction R with
  | nil => intro p s hp hs _ _
           have : p = [] := by simpa using hp
           have : s = [] := by simpa using hs
           subst_vars; simp [sumBy]; grind
  | cons r R ih =>
    intro p s hp hs hn he
    match p, s, hp, hs with
    | q :: p, t :: s, hp, hs =>
      have hr := hR r (List.mem_cons_self ..)
      have ht := hn t (List.mem_cons_self ..)
      have i1 := ih (fun r hr => hR r (List.mem_cons_of_mem _ hr)) (p := p) (s := s) (by simpa using hp) (by simpa using hs) (fun q hq => hn q (List.mem_cons_of_mem _ hq)) fun z hz => he z (List.mem_cons_of_mem _ hz)
      obtain ⟨c1, c2⟩ := he ((r.1, 2 * r.2), q) (List.mem_cons_self ..)
      have e1 : sumBy (r :: R) (q :: p) = q * cost (r, q) + sumBy R p := by simp [sumBy]
      have e2 : sumBy (r :: R) (t :: s) = t * cost (r, t) + sumBy R s := by simp [sumBy]
      have e3 : (q :: p).sum = q + p.sum := by simp
      have e4 : (t :: s).sum = t + s.sum := by simp
      rw [e1, e2, e3, e4]
      unfold cost at *
      dsimp only at *
      generalize r.1 = a at *
      generalize r.2 = b at *
      have sq : 0 ≤ b * ((t - q) * (t - q)) := by
        refine Rat.mul_nonneg hr.2 ?_
        by_cases h : 0 ≤ t - q
        · exact Rat.mul_nonneg h h
        · have := Rat.mul_nonneg (a := q - t) (b := q - t) (by grind) (by grind)
          grind
      have lin : m * (t - q) ≤ (t - q) * (a + 2 * b * q) := by
        rcases c2 with e | e
        · clear i1 ih hR sq
          rw [e] at c1 ⊢
          have := Rat.mul_nonneg (a := t) (b := a - m) ht (by grind)
          grind
        · rw [e]; grind
      have : m * (t - q) ≤ t * (a + b * t) - q * (a + b * q) := by grind
      grind
/-- three quarters of an even parting's sum -/
theorem quarter_core {R : List Road} {l : Rat} (hR : ∀ r ∈ R, 0 ≤ r.1 ∧ 0 ≤ r.2) : ∀ {p s : List Rat}, p.length = R.length → s.length = R.length → (∀ q ∈ s, 0 ≤ q) → (∀ q ∈ p, 0 ≤ q) → Even R p l → 4 * (l * s.sum) ≤ 4 * sumBy R s + sumBy R p := by
  induction R with
  | nil => intro p s hp hs _ _ _
           have : p = [] := by simpa using hp
           have : s = [] := by simpa using hs
           subst_vars; simp [sumBy]; grind
  | cons r R ih =>
    intro p s hp hs hn hn2 he
    match p, s, hp, hs with
    | q :: p, t :: s, hp, hs =>
      have hr := hR r (List.mem_cons_self ..)
      have ht := hn t (List.mem_cons_self ..)
      have hq := hn2 q (List.mem_cons_self ..)
      have i1 := ih (fun r hr => hR r (List.mem_cons_of_mem _ hr)) (p := p) (s := s) (by simpa using hp) (by simpa using hs) (fun q hq => hn q (List.mem_cons_of_mem _ hq)) (fun q hq => hn2 q (List.mem_cons_of_mem _ hq)) fun z hz => he z (List.mem_cons_of_mem _ hz)
      obtain ⟨c1, c2⟩ := he (r, q) (List.mem_cons_self ..)
      have e1 : sumBy (r :: R) (q :: p) = q * cost (r, q) + sumBy R p := by simp [sumBy]
      have e2 : sumBy (r :: R) (t :: s) = t * cost (r, t) + sumBy R s := by simp [sumBy]
      have e4 : (t :: s).sum = t + s.sum := by simp
      rw [e1, e2, e4]
      unfold cost at *
      dsimp only at *
      generalize r.1 = a at *
      generalize r.2 = b at *
      have sq : 0 ≤ b * ((2 * t - q) * (2 * t - q)) := by
        refine Rat.mul_nonneg hr.2 ?_
        by_cases h : 0 ≤ 2 * t - q
        · exact Rat.mul_nonneg h h
        · have := Rat.mul_nonneg (a := q - 2 * t) (b := q - 2 * t) (by grind) (by grind)
          grind
      have l1 : 0 ≤ t * (a + b * q - l) := Rat.mul_nonneg ht (by grind)
      have l2 : 0 ≤ q * a := Rat.mul_nonneg hq hr.1
      grind
end S52

set_option Elab.async false
set_option linter.all false
set_option autoImplicit false
/-! k52: the parting that the program gives. -/
namespace S52
def hit (l : Rat) (r : Road) : Bool := decide (r.2 = 0) && decide (r.1 = l)
def parting (R : List Road) (x : Rat) : List Rat :=
  if 0 < x - (R.map (tk (told R x))).sum then (R.map (tk (told R x))).set (R.findIdx (hit (told R x))) (x - (R.map (tk (told R x))).sum) else R.map (tk (told R x))
theorem zip_map {f : Road → Rat} : ∀ {R : List Road} {z : Road × Rat}, z ∈ R.zip (R.map f) → z.1 ∈ R ∧ z.2 = f z.1
  | r :: R, z, h => by
    simp only [List.map_cons, List.zip_cons_cons] at h
    rcases List.mem_cons.mp h with rfl | h
    · exact ⟨List.mem_cons_self .., rfl⟩
    · obtain ⟨h1, h2⟩ := zip_map h
      exact ⟨List.mem_cons_of_mem _ h1, h2⟩
theorem set_facts {c : Road → Bool} {f : Road → Rat} {v : Rat} (h0 : ∀ r, c r = true → f r = 0) : ∀ {R : List Road}, (∃ r ∈ R, c r = true) →
    ((R.map f).set (R.findIdx c) v).sum = (R.map f).sum + v ∧ (∀ z ∈ R.zip ((R.map f).set (R.findIdx c) v), z ∈ R.zip (R.map f) ∨ (z.1 ∈ R ∧ c z.1 = true ∧ z.2 = v)) ∧ ∀ q ∈ (R.map f).set (R.findIdx c) v, q ∈ R.map f ∨ q = v
  | [], h => by simp at h
  | r :: R, h => by
    by_cases hc : c r = true
    · have e : (r :: R).findIdx c = 0 := by simp [List.findIdx_cons, hc]
      rw [e]
      simp only [List.map_cons, List.set_cons_zero, List.sum_cons, List.zip_cons_cons]
      refine ⟨by rw [h0 r hc]; grind, fun z hz => ?_, fun q hq => ?_⟩
      · rcases List.mem_cons.mp hz with rfl | hz
        · exact .inr ⟨List.mem_cons_self .., hc, rfl⟩
        · exact .inl (List.mem_cons_of_mem _ hz)
      · rcases List.mem_cons.mp hq with rfl | hq
        · exact .inr rfl
        · exact .inl (List.mem_cons_of_mem _ hq)
    · have e : (r :: R).findIdx c = R.findIdx c + 1 := by simp [List.findIdx_cons, hc]
      obtain ⟨q, hq, hq2⟩ := h
      have hq : q ∈ R := by
        rcases List.mem_cons.mp hq with rfl | hq
        · exact absurd hq2 hc
        · exact hq
      obtain ⟨h1, h2, h3⟩ := set_facts h0 (R := R) (v := v) ⟨q, hq, hq2⟩
      rw [e]
      simp only [List.map_cons, List.set_cons_succ, List.sum_cons, List.zip_cons_cons]
      refine ⟨by rw [h1]; grind, fun z hz => ?_, fun q hq => ?_⟩
      · rcases List.mem_cons.mp hz with rfl | hz
        · exact .inl (List.mem_cons_self ..)
        · rcases h2 z hz with h | ⟨a, b⟩
          · exact .inl (List.mem_cons_of_mem _ h)
          · exact .inr ⟨List.mem_cons_of_mem _ a, b⟩
      · rcases List.mem_cons.mp hq with rfl | hq
        · exact .inl (List.mem_cons_self ..)
        · rcases h3 q hq with h | h
          · exact .inl (List.mem_cons_of_mem _ h)
          · exact .inr h
theorem hit_iff {l : Rat} {r : Road} : hit l r = true ↔ r.2 = 0 ∧ r.1 = l := by simp [hit]
theorem hit_ex {R : List Road} {x l : Rat} (h : Lev R x l) (hl : 0 < x - (R.map (tk l)).sum) : ∃ r ∈ R, hit l r = true := by
  rcases h.ex with e | e
  · unfold F at e; rw [e] at hl; grind
  · obtain ⟨r, hr, e2⟩ := List.mem_map.mp e
    obtain ⟨hr, h0⟩ := List.mem_filter.mp hr
    exact ⟨r, hr, hit_iff.mpr ⟨by simpa using h0, e2⟩⟩
theorem tk_even {R : List Road} {x l : Rat} (hR : ∀ r ∈ R, 0 ≤ r.1 ∧ 0 ≤ r.2) (h : Lev R x l) : Even R (R.map (tk l)) l := fun z hz => by
  obtain ⟨h1, h2⟩ := zip_map hz
  obtain ⟨r, q⟩ := z
  dsimp only at h1 h2
  have hr := hR r h1
  have hfl : r.2 = 0 → l ≤ r.1 := fun e => h.fl _ (List.mem_map.mpr ⟨r, List.mem_filter.mpr ⟨h1, by simpa using e⟩, rfl⟩)
  subst h2
  unfold cost
  dsimp only
  unfold tk
  clear hz h hR h1
  generalize r.1 = a at *
  generalize r.2 = b at *
  by_cases hb : b = 0
  · have := hfl hb
    subst hb
    rw [if_neg (by grind)]
    grind
  · have hb0 : 0 < b := by grind
    by_cases hl : 0 < l - a
    · rw [if_pos ⟨hb0, hl⟩]
      have e : a + b * ((l - a) / b) = l := by grind
      rw [e]
      exact ⟨by grind, .inr rfl⟩
    · rw [if_neg (by grind)]
      grind
theorem parting_ok {R : List Road} (hR : Ok R) {x : Rat} (hx : 0 < x) : (parting R x).length = R.length ∧ (∀ q ∈ parting R x, 0 ≤ q) ∧ (parting R x).sum = x ∧ Even R (parting R x) (told R x) := by
  unfold parting
  have hv' := told_lev hR hx
  have he' := tk_even hR.2 hv'
  have hle' := hv'.le
  unfold F at hle'
  generalize told R x = l at *
  by_cases hl : 0 < x - (R.map (tk l)).sum
  · rw [if_pos hl]
    obtain ⟨h1, h2, h3⟩ := set_facts (c := hit l) (f := tk l) (v := x - (R.map (tk l)).sum) (fun r hr => by
      have := hit_iff.mp hr
      unfold tk
      rw [if_neg (by grind)]) (hit_ex hv' hl)
    refine ⟨by simp, fun q hq => ?_, by rw [h1]; grind, fun z hz => ?_⟩
    · rcases h3 q hq with h | h
      · obtain ⟨r, _, rfl⟩ := List.mem_map.mp h
        exact tk_nonneg l r
      · rw [h]; grind
    · rcases h2 z hz with h | ⟨a, b, c⟩
      · exact he' z h
      · have := hit_iff.mp b
        unfold cost
        rw [this.1, this.2]
        grind
  · rw [if_neg hl]
    refine ⟨by simp, fun q hq => ?_, by grind, he'⟩
    obtain ⟨r, _, rfl⟩ := List.mem_map.mp hq
    exact tk_nonneg l r
/-- with what grows doubled -/
def dbl (R : List Road) : List Road := R.map fun r => (r.1, 2 * r.2)
theorem dbl_ok {R : List Road} (h : Ok R) : Ok (dbl R) := ⟨by simpa [dbl] using h.1, fun r hr => by
  obtain ⟨q, hq, rfl⟩ := List.mem_map.mp hr
  have := h.2 q hq
  dsimp only
  grind⟩
def best (R : List Road) (x : Rat) : List Rat := parting (dbl R) x
theorem best_ok {R : List Road} (hR : Ok R) {x : Rat} (hx : 0 < x) : (best R x).length = R.length ∧ (∀ q ∈ best R x, 0 ≤ q) ∧ (best R x).sum = x ∧ Even (dbl R) (best R x) (told (dbl R) x) := by
  obtain ⟨h1, h2, h3, h4⟩ := parting_ok (dbl_ok hR) hx
  exact ⟨by rw [best, h1]; simp [dbl], h2, h3, h4⟩
theorem best_le {R : List Road} (hR : Ok R) {x : Rat} (hx : 0 < x) {s : List Rat} (hl : s.length = R.length) (hn : ∀ q ∈ s, 0 ≤ q) (hs : s.sum = x) : sumBy R (best R x) ≤ sumBy R s := by
  obtain ⟨h1, h2, h3, h4⟩ := best_ok hR hx
  have := best_core hR.2 h1 hl hn h4
  rw [hs, h3] at this
  grind
theorem four_thirds {R : List Road} (hR : Ok R) {x : Rat} (hx : 0 < x) : sumBy R (parting R x) ≤ 4 / 3 * sumBy R (best R x) := by
  obtain ⟨h1, h2, h3, h4⟩ := parting_ok hR hx
  obtain ⟨b1, b2, b3, _⟩ := best_ok hR hx
  have := quarter_core hR.2 h1 b1 b2 h2 h4
  have e := even_sum h1 h4
  rw [h3] at e
  rw [b3, ← e] at this
  grind
/-- tolls -/
def tolls (R : List Road) (x : Rat) : List Rat := (R.zip (best R x)).map fun z => z.1.2 * z.2
def paidR (R : List Road) (x : Rat) : List Road := (R.zip (tolls R x)).map fun z => (z.1.1 + z.2, z.1.2)
theorem even_paid : ∀ {R : List Road} {p : List Rat} {m : Rat}, p.length = R.length → Even (dbl R) p m → Even ((R.zip ((R.zip p).map fun z => z.1.2 * z.2)).map fun z => (z.1.1 + z.2, z.1.2)) p m
  | [], p, m, hl, _ => by intro z hz; simp at hz
  | r :: R, q :: p, m, hl, he => by
    intro z hz
    have ih := even_paid (R := R) (p := p) (m := m) (by simpa using hl) fun z hz => he z (List.mem_cons_of_mem _ hz)
    simp only [List.zip_cons_cons, List.map_cons] at hz
    rcases List.mem_cons.mp hz with rfl | hz
    · have h := he ((r.1, 2 * r.2), q) (List.mem_cons_self ..)
      unfold cost at h ⊢
      dsimp only at h ⊢
      have e : r.1 + r.2 * q + r.2 * q = r.1 + 2 * r.2 * q := by grind
      rw [e]; exact h
    · exact ih z hz
theorem paid_level {R : List Road} (hR : Ok R) {x : Rat} (hx : 0 < x) (hP : Ok (paidR R x)) : told (paidR R x) x = told (dbl R) x := by
  obtain ⟨b1, b2, b3, b4⟩ := best_ok hR hx
  have he := even_paid b1 b4
  have hl : (paidR R x).length = R.length := by simp [paidR, tolls, b1]
  have hv := even_lev hP.2 (p := best R x) (by rw [b1, hl]) b2 b3 he
  exact lev_unique (told_lev hP hx) hv hx
/-- more roads, greater amounts -/
theorem more_le {R : List Road} {r : Road} (hR : Ok R) (hR2 : Ok (R ++ [r])) {x : Rat} (hx : 0 < x) : told (R ++ [r]) x ≤ told R x := by
  refine lev_le (told_lev hR hx) (told_lev hR2 hx) hx (by grind) ?_ fun a ha => ?_
  · have := tk_nonneg (told (R ++ [r]) x) r
    simp only [F, List.map_append, List.sum_append, List.map_cons, List.map_nil, List.sum_cons, List.sum_nil]
    grind
  · simp only [flats, List.filter_append, List.map_append]
    exact List.mem_append_left _ ha
theorem amount_le {R : List Road} (hR : Ok R) {x y : Rat} (hx : 0 < x) (hy : x ≤ y) : told R x ≤ told R y :=
  lev_le (told_lev hR (by grind)) (told_lev hR hx) (by grind) hy (by grind) fun a h => h
end S52

set_option Elab.async false
set_option linter.all false
set_option maxRecDepth 100000
set_option maxHeartbeats 1000000
set_option autoImplicit false
/-! k52: the program's defs. -/
noncomputable section
namespace PV
open PySem PySem.Spec PyProof.Rows L2 S52
theorem k_common : m_common = q_common := rfl
theorem k_least : m_least_terms = q_least_terms := rfl
theorem k_add : m_add = q_add := rfl
theorem k_less : m_less = q_less := rfl
theorem k_times : m_times = q_times := rfl
theorem k_by : m_by = q_by := rfl
theorem k_total : m_total = q_total := rfl
theorem k_isfr : m_is_fraction = q_is_fraction := rfl
def encR (r : Road) : PyData := .tuple [encQ r.1, encQ r.2]
def isCost (q : Rat) : Bool := decide (0 ≤ q.num) && decide (q.num ≤ 1000) && decide (q.den ≤ 1000)
section
variable {p q x : Rat} {k l : Nat} {Rs : List Road}
theorem cost_ok (hq : QB k q) (hk : k ≤ 8000) : m_is_cost [encQ q] = .ok (.bool (isCost q)) := by
  have h1 : m_is_fraction [encQ q] = .ok (.bool true) := isfr_ok hq (by omega)
  have h2 : decide ((q.den : Int) ≤ 1000) = decide (q.den ≤ 1000) := decide_eq_decide.mpr (by omega)
  have h := fAnd_ok' (fCall1 (f := fVar 0) (ρ := [some (encQ q)]) rfl h1) (fAnd_ok' (fChain_ok' (f := fC (.int 0)) (h := fC (.int 1000)) rfl (fIx_ok' (f := fVar 0) (g := fC (.int 0)) rfl rfl ix0) rfl dLe_int dLe_int) (fCmp_ok' (o := dLe) (fIx_ok' (f := fVar 0) (g := fC (.int 1)) rfl rfl ix1) (g := fC (.int 1000)) rfl dLe_int))
  refine run_ret (h.trans ?_)
  unfold isCost
  rw [h2, Bool.true_and, Bool.and_assoc]
def okR (r : Road) : Bool := isCost r.1 && (isCost r.2 && (decide (0 < r.1) || decide (0 < r.2)))
def areRoads (Rs : List Road) : Bool := decide (1 ≤ Rs.length) && decide (Rs.length ≤ 8) && Rs.all okR
def BR (k : Nat) (Rs : List Road) : Prop := ∀ r ∈ Rs, QB k r.1 ∧ QB k r.2
theorem roads_core {X : PyData} (hi : itemsD X = some (Rs.map encR)) (hn : dLen [X] = some (.int Rs.length)) (hl : Rs.length ≤ 1000) (hk : k ≤ 8000) (hR : BR k Rs) : m_are_roads [X] = .ok (.bool (areRoads Rs)) := by
  have e0 : rho0 4 [X] = [some X, none, none, none] := rfl
  have hx : ∀ {ρ : Env}, fIt (fVar 0) (some X :: ρ) = .ok (Rs.map encR) := fun {ρ} => by simp [fIt, hi]
  have a1 : fN dAll (fCons (fLc (.nm 3) [3] (fIt (fVar 0)) gYes (fOfB (gCmp dEq (fN dLen (fCons (fVar 3) fNil)) (fC (.int 2))))) fNil) [some X, none, none, none] = .ok (.bool (Rs.all fun _ => true)) :=
    all_enc encR (fun _ => true) Rs hx (by omega) fun r hr => ⟨[some X, none, none, some (encR r)], rfl, fCmp_ok' (fN1 rfl len2) rfl rfl⟩
  have a2 : fN dAll (fCons (fLc (.tp [(.nm 1), (.nm 2)]) [1, 2] (fIt (fVar 0)) gYes (fAnd (fCall m_is_cost (fCons (fVar 1) fNil)) (fAnd (fCall m_is_cost (fCons (fVar 2) fNil)) (fOr (fOfB (gCmp dGt (fOp ixD (fVar 1) (fC (.int 0))) (fC (.int 0)))) (fOfB (gCmp dGt (fOp ixD (fVar 2) (fC (.int 0))) (fC (.int 0)))))))) fNil) [some X, none, none, none] = .ok (.bool (Rs.all okR)) :=
    all_enc encR okR Rs hx (by omega) fun r hr => ⟨[some X, some (encQ r.1), some (encQ r.2), none], rfl,
      fAnd_ok' (fCall1 rfl (cost_ok (hR r hr).1 hk)) (fAnd_ok' (fCall1 rfl (cost_ok (hR r hr).2 hk)) (fOr_ok' (fCmp_ok' (fIx_ok' rfl rfl ix0) rfl dGt0) (fCmp_ok' (fIx_ok' rfl rfl ix0) rfl dGt0)))⟩
  have t1 : gChain dLe dLe (fC (.int 1)) (fN dLen (fCons (fVar 0) fNil)) (fC (.int 8)) [some X, none, none, none] = .ok (decide (1 ≤ Rs.length) && decide (Rs.length ≤ 8)) := by
    unfold gChain
    have e1 : decide ((1 : Int) ≤ (Rs.length : Int)) = decide (1 ≤ Rs.length) := decide_eq_decide.mpr (by omega)
    have e2 : decide ((Rs.length : Int) ≤ 8) = decide (Rs.length ≤ 8) := decide_eq_decide.mpr (by omega)
    simp only [fC_ok, ok_bind, fN_ok, fCons_ok, fVar_zero, fNil_ok, hn, ofO_some, dLe_int, e1, e2]
    cases decide (1 ≤ Rs.length) <;> simp
  have tt := gOr_ok' (gNot_ok' t1) (gNot_ok' (gTru_ok' a1))
  show (sem_are_roads [some X, none, none, none] >>= fun r => endV r.1) = _
  unfold sem_are_roads areRoads
  have h1 : (Rs.all fun _ => true) = true := by simp
  rw [h1] at tt
  cases hc : (decide (1 ≤ Rs.length) && decide (Rs.length ≤ 8)) with
  | true =>
    rw [hc] at tt
    rw [seq_nx (if_no tt), sRet_ok, eL_ok, a2]
    rfl
  | false =>
    rw [hc] at tt
    rw [seq_rt (by rw [if_yes tt]; rfl)]
    rfl
theorem roads_ok (hl : Rs.length ≤ 1000) (hk : k ≤ 8000) (hR : BR k Rs) : m_are_roads [.tuple (Rs.map encR)] = .ok (.bool (areRoads Rs)) := roads_core rfl (by simp [dLen]) hl hk hR
def isAmount (x : Rat) : Bool := isCost x && decide (0 < x)
theorem amount_ok (hq : QB k x) (hk : k ≤ 8000) : m_is_amount [encQ x] = .ok (.bool (isAmount x)) :=
  run_ret (fAnd_ok' (fCall1 rfl (cost_ok hq hk)) (fCmp_ok' (fIx_ok' rfl rfl ix0) rfl dGt0))
theorem check_core {X Y : PyData} {b c : Bool} (h1 : m_are_roads [X] = .ok (.bool b)) (h2 : b = true → m_is_amount [Y] = .ok (.bool c)) :
    m_check_amount [X, Y] = if b then (if c then .ok .none else .ex ⟨"BadNumber", none⟩) else .ex ⟨"NotTable", none⟩ := by
  show (sem_check_amount [some X, some Y] >>= fun r => endV r.1) = _
  unfold sem_check_amount
  have t1 := gNot_ok' (gTru_ok' (fCall1 (m := m_are_roads) (f := fVar 0) (ρ := [some X, some Y]) rfl h1))
  cases b with
  | false => rw [seq_ex (by rw [if_yes t1])]; rfl
  | true =>
    have t2 := gNot_ok' (gTru_ok' (fCall1 (m := m_is_amount) (f := fVar 1) (ρ := [some X, some Y]) rfl (h2 rfl)))
    rw [seq_nx (if_no t1)]
    cases c with
    | true => rw [if_no t2]; rfl
    | false => rw [if_yes t2]; rfl
/-! ### least_of -/
theorem dTupleQ : dTuple [encQ q] = some (encQ q) := rfl
def leastF : FS := sSet 1 (eL (fIf (gOr (gCmp (dIs false) (fVar 1) (fC .none)) (gCmp dLt (fOp ixD (fCall m_less (fCons (fVar 2) (fCons (fVar 1) fNil))) (fC (.int 0))) (fC (.int 0)))) (fN dTuple (fCons (fVar 2) fNil)) (fVar 1)))
theorem dIs_none : dIs false .none .none = some true := rfl
theorem dIs_Q : dIs false (encQ q) .none = some false := rfl
theorem least_step {f p : Rat} {X : PyData} (hf : QB k f) (hp : QB l p) (hb : k + l ≤ 8000) : leastF [some X, some (encQ f), some (encQ p)] = .ok (.nx, [some X, some (encQ (if p - f < 0 then p else f)), some (encQ p)]) := by
  have e := (less_ok hp hf (by omega)).1
  have t : gOr (gCmp (dIs false) (fVar 1) (fC .none)) (gCmp dLt (fOp ixD (fCall m_less (fCons (fVar 2) (fCons (fVar 1) fNil))) (fC (.int 0))) (fC (.int 0))) [some X, some (encQ f), some (encQ p)] = .ok (decide (p - f < 0)) := by
    have := gOr_ok' (gCmp_ok' (o := dIs false) (f := fVar 1) (g := fC .none) (ρ := [some X, some (encQ f), some (encQ p)]) rfl rfl dIs_Q) (gCmp_ok' (o := dLt) (fIx_ok' (fCall2 (m := m_less) (f := fVar 2) (g := fVar 1) rfl rfl e) (g := fC (.int 0)) rfl ix0) (g := fC (.int 0)) rfl dLt0)
    simpa using this
  unfold leastF
  rw [sSet_ok, eL_ok, fIf_ok' t (fun _ => fN1 rfl dTupleQ) (fun _ => rfl)]
  by_cases h : p - f < 0 <;> simp [h]
theorem least_loop {X : PyData} : ∀ (qs : List Rat) (f : Rat) (t : Option PyData), QB k f → (∀ q ∈ qs, QB k q) → k + k ≤ 8000 → ∃ t', sForL (.nm 2) leastF (qs.map encQ) [some X, some (encQ f), t] = .ok (.nx, [some X, some (encQ (qs.foldl (fun f p => if p - f < 0 then p else f) f)), t'])
  | [], f, t, _, _, _ => ⟨t, rfl⟩
  | q :: qs, f, t, hf, hq, hb => by
    obtain ⟨t', e⟩ := least_loop qs (if q - f < 0 then q else f) (some (encQ q)) (by split; exact hq q (List.mem_cons_self ..); exact hf) (fun r hr => hq r (List.mem_cons_of_mem _ hr)) hb
    refine ⟨t', ?_⟩
    have s1 := least_step (X := X) hf (hq q (List.mem_cons_self ..)) hb
    rw [List.map_cons]
    unfold sForL
    simp only [put_nm, ok_bind, List.set_cons_succ, List.set_cons_zero, s1]
    exact e
theorem least_of_ok {qs : List Rat} (hn : qs ≠ []) (hq : ∀ q ∈ qs, QB k q) (hb : k + k ≤ 8000) : m_least_of [.list (qs.map encQ)] = .ok (encQ (least qs)) := by
  match qs, hn with
  | q :: qs, _ =>
    obtain ⟨t', e⟩ := least_loop (X := .list ((q :: qs).map encQ)) qs q (some (encQ q)) (hq q (List.mem_cons_self ..)) (fun r hr => hq r (List.mem_cons_of_mem _ hr)) hb
    show (sem_least_of [some (.list ((q :: qs).map encQ)), none, none] >>= fun r => endV r.1) = _
    unfold sem_least_of
    rw [seq_nx (ρ' := [some (.list ((q :: qs).map encQ)), some .none, none]) rfl]
    have s1 : leastF [some (.list ((q :: qs).map encQ)), some .none, some (encQ q)] = .ok (.nx, [some (.list ((q :: qs).map encQ)), some (encQ q), some (encQ q)]) := rfl
    have e2 : sFor (.nm 2) (eIt (eL (fVar 0))) leastF [some (.list ((q :: qs).map encQ)), some .none, none] = .ok (.nx, [some (.list ((q :: qs).map encQ)), some (encQ (least (q :: qs))), t']) := by
      rw [sFor_ok, eIt_ok, eL_ok, fVar_zero]
      simp only [ok_bind, itemsD, ofO_some]
      rw [List.map_cons]
      unfold sForL
      simp only [put_nm, ok_bind, List.set_cons_succ, List.set_cons_zero]
      rw [List.map_cons] at s1 e
      rw [s1]
      simp only [ok_bind]
      exact e
    unfold leastF at e2
    rw [seq_nx e2]
    rfl
end
end PV
end

set_option Elab.async false
set_option linter.all false
set_option maxRecDepth 100000
set_option maxHeartbeats 1000000
set_option autoImplicit false
/-! k52: told_level. -/
noncomputable section
namespace PV
open PySem PySem.Spec PyProof.Rows L2 S52
section
variable {p q x : Rat} {k l : Nat} {Rs : List Road}
theorem encR_put {i j : Nat} {r : Road} {ρ : Env} : put (.tp [.nm i, .nm j]) (encR r) ρ = .ok ((ρ.set i (some (encQ r.1))).set j (some (encQ r.2))) := put2
theorem usedS {S : List Road} (hS : BR k S) (t : Rat) : BR k (used S t) := fun r hr => hS r (List.mem_filter.mp hr).1
theorem BR.steep (h : BR k Rs) : BR k (S52.steep Rs) := fun r hr => h r (List.mem_filter.mp hr).1
theorem used_len {S : List Road} {t : Rat} : (used S t).length ≤ S.length := List.length_filter_le _ _
theorem steep_len : (S52.steep Rs).length ≤ Rs.length := List.length_filter_le _ _
theorem G_bits {S : List Road} (hS : BR k S) (hp : ∀ r ∈ S, 0 < r.2) (hx : QB l x) (hl : S.length ≤ 8) (hb : l + 24 * k ≤ 3900) {r : Road} (hr : r ∈ S) :
    m_total [.list ((used S r.1).map fun q => encQ (1 / q.2))] = .ok (encQ ((used S r.1).map fun q => 1 / q.2).sum) ∧
    m_total [.list ((used S r.1).map fun q => encQ (q.1 / q.2))] = .ok (encQ ((used S r.1).map fun q => q.1 / q.2).sum) ∧
    m_add [encQ x, encQ ((used S r.1).map fun q => q.1 / q.2).sum] = .ok (encQ (x + ((used S r.1).map fun q => q.1 / q.2).sum)) ∧
    m_by [encQ (x + ((used S r.1).map fun q => q.1 / q.2).sum), encQ ((used S r.1).map fun q => 1 / q.2).sum] = .ok (encQ (G S x r.1)) ∧ QB (l + 24 * k + 27) (G S x r.1) := by
  have hn : (used S r.1).length ≤ 8 := Nat.le_trans used_len hl
  have hu := usedS hS r.1
  have hup := used_pos hp r.1
  have hm1 : (used S r.1).length * (k + 1 + 1) ≤ 8 * (k + 1 + 1) := Nat.mul_le_mul_right _ hn
  have hm2 : (used S r.1).length * (2 * k + 1) ≤ 8 * (2 * k + 1) := Nat.mul_le_mul_right _ hn
  obtain ⟨e1, b1⟩ := total_ok (k := k + 1) (qs := (used S r.1).map fun q => 1 / q.2) (x := .list ((used S r.1).map fun q => encQ (1 / q.2))) (by simp [itemsD]) (fun q hq => by
    obtain ⟨s, hs, rfl⟩ := List.mem_map.mp hq
    exact (by_ok QB1 (hu s hs).2 (by omega) (by have := hup s hs; grind)).2.mono (by omega)) (by rw [List.length_map]; omega)
  obtain ⟨e2, b2⟩ := total_ok (k := 2 * k) (qs := (used S r.1).map fun q => q.1 / q.2) (x := .list ((used S r.1).map fun q => encQ (q.1 / q.2))) (by simp [itemsD]) (fun q hq => by
    obtain ⟨s, hs, rfl⟩ := List.mem_map.mp hq
    exact (by_ok (hu s hs).1 (hu s hs).2 (by omega) (by have := hup s hs; grind)).2.mono (by omega)) (by rw [List.length_map]; omega)
  rw [List.length_map] at b1 b2
  have b1 := b1.mono (m := 8 * k + 17) (by omega)
  have b2 := b2.mono (m := 16 * k + 9) (by omega)
  obtain ⟨e3, b3⟩ := add_ok hx b2 (by omega)
  obtain ⟨e4, b4⟩ := by_ok b3 b1 (by omega) (by have := weight_pos hp hr; grind)
  exact ⟨e1, e2, e3, e4, b4.mono (by omega)⟩
/-- a turn -/
def toldB : FS := (sSeq (sSet 6 (eLc (.tp [(.nm 8), (.nm 9)]) [8, 9] (eIt (eL (fVar 2))) (eLT (gCmp dGe (fOp ixD (fCall m_less (fCons (fVar 4) (fCons (fVar 8) fNil))) (fC (.int 0))) (fC (.int 0)))) (eL (fTup (fCons (fVar 8) (fCons (fVar 9) fNil))))))
  (sSeq (sSet 7 (eL (fCall m_total (fCons (fLc (.tp [(.nm 5), (.nm 9)]) [5, 9] (fIt (fVar 6)) gYes (fCall m_by (fCons (fTup (fCons (fC (.int 1)) (fCons (fC (.int 1)) fNil))) (fCons (fVar 9) fNil)))) fNil))))
  (sDrop (eApp 3 (eL (fCall m_by (fCons (fCall m_add (fCons (fVar 1) (fCons (fCall m_total (fCons (fLc (.tp [(.nm 8), (.nm 9)]) [8, 9] (fIt (fVar 6)) gYes (fCall m_by (fCons (fVar 8) (fCons (fVar 9) fNil)))) fNil)) fNil))) (fCons (fVar 7) fNil))))))))
theorem told_turn {S : List Road} (hS : BR k S) (hp : ∀ r ∈ S, 0 < r.2) (hx : QB l x) (hl : S.length ≤ 8) (hb : l + 24 * k ≤ 3900) {r : Road} (hr : r ∈ S) {X : PyData} {ds : List PyData} (hds : ds.length ≤ 1000) {a6 a7 : Option PyData} :
    toldB [some X, some (encQ x), some (.list (S.map encR)), some (.list ds), some (encQ r.1), some (encQ r.2), a6, a7, none, none]
      = .ok (.nx, [some X, some (encQ x), some (.list (S.map encR)), some (.list (ds ++ [encQ (G S x r.1)])), some (encQ r.1), some (encQ r.2), some (.list ((used S r.1).map encR)), some (encQ ((used S r.1).map fun q => 1 / q.2).sum), none, none]) := by
  obtain ⟨e1, e2, e3, e4, _⟩ := G_bits hS hp hx hl hb hr
  have hu := usedS hS r.1
  have hup := used_pos hp r.1
  have hn : (used S r.1).length ≤ 8 := Nat.le_trans used_len hl
  unfold toldB
  have s1 : eLc (.tp [(.nm 8), (.nm 9)]) [8, 9] (eIt (eL (fVar 2))) (eLT (gCmp dGe (fOp ixD (fCall m_less (fCons (fVar 4) (fCons (fVar 8) fNil))) (fC (.int 0))) (fC (.int 0)))) (eL (fTup (fCons (fVar 8) (fCons (fVar 9) fNil)))) [some X, some (encQ x), some (.list (S.map encR)), some (.list ds), some (encQ r.1), some (encQ r.2), a6, a7, none, none]
      = .ok (.list ((used S r.1).map encR), [some X, some (encQ x), some (.list (S.map encR)), some (.list ds), some (encQ r.1), some (encQ r.2), a6, a7, none, none]) :=
    eLc_filt encR (fun q => decide (0 ≤ r.1 - q.1)) encR S (eIt_ok' rfl rfl) rfl (by omega) fun q hq => ⟨[some X, some (encQ x), some (.list (S.map encR)), some (.list ds), some (encQ r.1), some (encQ r.2), a6, a7, some (encQ q.1), some (encQ q.2)], encR_put,
      gCmp_ok' (fIx_ok' (fCall2 rfl rfl (less_ok (hS r hr).1 (hS q hq).1 (by omega)).1) rfl ix0) rfl dGe0, rfl, fun _ => fTup2 rfl rfl⟩
  rw [seq_nx (ρ' := [some X, some (encQ x), some (.list (S.map encR)), some (.list ds), some (encQ r.1), some (encQ r.2), some (.list ((used S r.1).map encR)), a7, none, none]) (by rw [sSet_ok, s1]; rfl)]
  have s2 : fLc (.tp [(.nm 5), (.nm 9)]) [5, 9] (fIt (fVar 6)) gYes (fCall m_by (fCons (fTup (fCons (fC (.int 1)) (fCons (fC (.int 1)) fNil))) (fCons (fVar 9) fNil))) [some X, some (encQ x), some (.list (S.map encR)), some (.list ds), some (encQ r.1), some (encQ r.2), some (.list ((used S r.1).map encR)), a7, none, none]
      = .ok (.list ((used S r.1).map fun q => encQ (1 / q.2))) :=
    lc_enc encR (fun q => encQ (1 / q.2)) (used S r.1) (fIt_ok' rfl rfl) (by omega) fun q hq => ⟨[some X, some (encQ x), some (.list (S.map encR)), some (.list ds), some (encQ r.1), some (encQ q.1), some (.list ((used S r.1).map encR)), a7, none, some (encQ q.2)], encR_put,
      fCall2 (fTup2 rfl rfl) rfl (by_ok QB1 (hu q hq).2 (by omega) (by have := hup q hq; grind)).1⟩
  rw [seq_nx (set_ok' (fCall1 s2 e1))]
  have s3 : fLc (.tp [(.nm 8), (.nm 9)]) [8, 9] (fIt (fVar 6)) gYes (fCall m_by (fCons (fVar 8) (fCons (fVar 9) fNil))) [some X, some (encQ x), some (.list (S.map encR)), some (.list ds), some (encQ r.1), some (encQ r.2), some (.list ((used S r.1).map encR)), some (encQ ((used S r.1).map fun q => 1 / q.2).sum), none, none]
      = .ok (.list ((used S r.1).map fun q => encQ (q.1 / q.2))) :=
    lc_enc encR (fun q => encQ (q.1 / q.2)) (used S r.1) (fIt_ok' rfl rfl) (by omega) fun q hq => ⟨[some X, some (encQ x), some (.list (S.map encR)), some (.list ds), some (encQ r.1), some (encQ r.2), some (.list ((used S r.1).map encR)), some (encQ ((used S r.1).map fun q => 1 / q.2).sum), some (encQ q.1), some (encQ q.2)], encR_put,
      fCall2 rfl rfl (by_ok (hu q hq).1 (hu q hq).2 (by omega) (by have := hup q hq; grind)).1⟩
  exact app_ok' (i := 3) rfl (fCall2 (fCall2 rfl (fCall1 s3 e2) e3) rfl e4) (by omega)
theorem told_loop {S : List Road} (hS : BR k S) (hp : ∀ r ∈ S, 0 < r.2) (hx : QB l x) (hl : S.length ≤ 8) (hb : l + 24 * k ≤ 3900) {X : PyData} : ∀ (T : List Road) (ds : List PyData) (a4 a5 a6 a7 : Option PyData), (∀ r ∈ T, r ∈ S) → ds.length + T.length ≤ 1000 →
    ∃ b4 b5 b6 b7, sForL (.tp [(.nm 4), (.nm 5)]) toldB (T.map encR) [some X, some (encQ x), some (.list (S.map encR)), some (.list ds), a4, a5, a6, a7, none, none]
      = .ok (.nx, [some X, some (encQ x), some (.list (S.map encR)), some (.list (ds ++ T.map fun r => encQ (G S x r.1))), b4, b5, b6, b7, none, none])
  | [], ds, a4, a5, a6, a7, _, _ => ⟨a4, a5, a6, a7, by simp [sForL]⟩
  | r :: T, ds, a4, a5, a6, a7, hT, hd => by
    rw [List.length_cons] at hd
    have s1 := told_turn hS hp hx hl hb (hT r (List.mem_cons_self ..)) (X := X) (ds := ds) (by omega) (a6 := a6) (a7 := a7)
    obtain ⟨b4, b5, b6, b7, e⟩ := told_loop hS hp hx hl hb (X := X) T (ds ++ [encQ (G S x r.1)]) (some (encQ r.1)) (some (encQ r.2)) (some (.list ((used S r.1).map encR))) (some (encQ ((used S r.1).map fun q => 1 / q.2).sum)) (fun q hq => hT q (List.mem_cons_of_mem _ hq)) (by simp; omega)
    refine ⟨b4, b5, b6, b7, ?_⟩
    rw [List.map_cons]
    unfold sForL
    rw [encR_put]
    simp only [ok_bind, List.set_cons_succ, List.set_cons_zero, s1]
    rw [List.append_assoc] at e
    exact e
theorem told_ok {X : PyData} (hi : itemsD X = some (Rs.map encR)) (hO : Ok Rs) (hR : BR k Rs) (hx : QB l x) (hl : Rs.length ≤ 8) (hb : l + 24 * k ≤ 3900) : m_told_level [X, encQ x] = .ok (encQ (told Rs x)) ∧ QB (l + 24 * k + 27) (told Rs x) := by
  have hS := BR.steep hR
  have hp := steep_pos Rs
  have hSl : (S52.steep Rs).length ≤ 8 := Nat.le_trans steep_len hl
  have hq : ∀ q ∈ ready Rs x, QB (l + 24 * k + 27) q := fun q hq => by
    rcases List.mem_append.mp hq with h | h
    · obtain ⟨r, hr, rfl⟩ := List.mem_map.mp h
      exact (hR r (List.mem_filter.mp hr).1).1.mono (by omega)
    · obtain ⟨r, hr, rfl⟩ := List.mem_map.mp h
      exact (G_bits hS hp hx hSl hb hr).2.2.2.2
  refine ⟨?_, hq _ (least_mem (ready_ne hO x)).1⟩
  have e0 : rho0 10 [X, encQ x] = [some X, some (encQ x), none, none, none, none, none, none, none, none] := rfl
  show (sem_told_level [some X, some (encQ x), none, none, none, none, none, none, none, none] >>= fun r => endV r.1) = _
  unfold sem_told_level
  have s1 : eLc (.tp [(.nm 8), (.nm 9)]) [8, 9] (eIt (eL (fVar 0))) (eLT (gCmp dGt (fOp ixD (fVar 9) (fC (.int 0))) (fC (.int 0)))) (eL (fTup (fCons (fVar 8) (fCons (fVar 9) fNil)))) [some X, some (encQ x), none, none, none, none, none, none, none, none]
      = .ok (.list ((S52.steep Rs).map encR), [some X, some (encQ x), none, none, none, none, none, none, none, none]) :=
    eLc_filt encR (fun q => decide (0 < q.2)) encR Rs (eIt_ok' rfl hi) rfl (by omega) fun q hq => ⟨[some X, some (encQ x), none, none, none, none, none, none, some (encQ q.1), some (encQ q.2)], encR_put,
      gCmp_ok' (fIx_ok' rfl rfl ix0) rfl dGt0, rfl, fun _ => fTup2 rfl rfl⟩
  rw [seq_nx (ρ' := [some X, some (encQ x), some (.list ((S52.steep Rs).map encR)), none, none, none, none, none, none, none]) (by rw [sSet_ok, s1]; rfl)]
  have s2 : eLc (.tp [(.nm 8), (.nm 9)]) [8, 9] (eIt (eL (fVar 0))) (eLT (gCmp dEq (fOp ixD (fVar 9) (fC (.int 0))) (fC (.int 0)))) (eL (fFlat (fVar 8))) [some X, some (encQ x), some (.list ((S52.steep Rs).map encR)), none, none, none, none, none, none, none]
      = .ok (.list ((Rs.filter fun r => decide (r.2 = 0)).map fun r => encQ r.1), [some X, some (encQ x), some (.list ((S52.steep Rs).map encR)), none, none, none, none, none, none, none]) :=
    eLc_filt encR (fun q => decide (q.2 = 0)) (fun r => encQ r.1) Rs (eIt_ok' rfl hi) rfl (by omega) fun q hq => ⟨[some X, some (encQ x), some (.list ((S52.steep Rs).map encR)), none, none, none, none, none, some (encQ q.1), some (encQ q.2)], encR_put,
      gCmp_ok' (fIx_ok' rfl rfl ix0) rfl dEq0, rfl, fun _ => rfl⟩
  rw [seq_nx (ρ' := [some X, some (encQ x), some (.list ((S52.steep Rs).map encR)), some (.list ((Rs.filter fun r => decide (r.2 = 0)).map fun r => encQ r.1)), none, none, none, none, none, none]) (by rw [sSet_ok, s2]; rfl)]
  have hfl : ((Rs.filter fun r => decide (r.2 = 0)).map fun r => encQ r.1).length ≤ 8 := by
    rw [List.length_map]; exact Nat.le_trans (List.length_filter_le _ _) hl
  obtain ⟨b4, b5, b6, b7, e⟩ := told_loop hS hp hx hSl hb (X := X) (S52.steep Rs) ((Rs.filter fun (r : Road) => decide (r.2 = 0)).map fun (r : Road) => encQ r.1) none none none none (fun r hr => hr) (by omega)
  have s3 := (show sFor (.tp [(.nm 4), (.nm 5)]) (eIt (eL (fVar 2))) toldB [some X, some (encQ x), some (.list ((S52.steep Rs).map encR)), some (.list ((Rs.filter fun r => decide (r.2 = 0)).map fun r => encQ r.1)), none, none, none, none, none, none] = sForL (.tp [(.nm 4), (.nm 5)]) toldB ((S52.steep Rs).map encR) [some X, some (encQ x), some (.list ((S52.steep Rs).map encR)), some (.list ((Rs.filter fun r => decide (r.2 = 0)).map fun r => encQ r.1)), none, none, none, none, none, none] from by
    rw [sFor_ok, eIt_ok' (d := .list ((S52.steep Rs).map encR)) rfl rfl]
    rfl).trans e
  unfold toldB at s3
  rw [seq_nx s3]
  have er : ((Rs.filter fun r => decide (r.2 = 0)).map fun r => encQ r.1) ++ (S52.steep Rs).map (fun r => encQ (G (S52.steep Rs) x r.1)) = (ready Rs x).map encQ := by
    simp [ready, flats, Function.comp_def]
  rw [er]
  have := least_of_ok (ready_ne hO x) hq (by omega)
  rw [ret_ok' (fCall1 (f := fVar 3) rfl this)]
  rfl
end
end PV
end

set_option Elab.async false
set_option linter.all false
set_option maxRecDepth 100000
set_option maxHeartbeats 1000000
set_option autoImplicit false
/-! k52: parting_of. -/
noncomputable section
namespace PV
open PySem PySem.Spec PyProof.Rows L2 S52
section
variable {p q x : Rat} {k l : Nat} {Rs : List Road}
def partB : FS := (sSeq (sSet 7 (eL (fCall m_less (fCons (fVar 2) (fCons (fVar 5) fNil)))))
  (sDrop (eApp 3 (eL (fIf (gAnd (gCmp dGt (fOp ixD (fVar 6) (fC (.int 0))) (fC (.int 0))) (gCmp dGt (fOp ixD (fVar 7) (fC (.int 0))) (fC (.int 0)))) (fCall m_by (fCons (fVar 7) (fCons (fVar 6) fNil))) (fTup (fCons (fC (.int 0)) (fCons (fC (.int 1)) fNil))))))))
theorem tk_bits {h : Rat} {m : Nat} (hh : QB m h) {r : Road} (h1 : QB k r.1) (h2 : QB k r.2) (hb : m + 2 * k ≤ 7000) : QB (m + 2 * k + 1) (tk h r) := by
  unfold tk
  split
  · rename_i c
    exact (by_ok (less_ok hh h1 (by omega)).2 h2 (by omega) (by grind)).2.mono (by omega)
  · exact QB0.mono (by omega)
theorem part_turn {h : Rat} {m : Nat} (hh : QB m h) {r : Road} (h1 : QB k r.1) (h2 : QB k r.2) (hb : m + 2 * k ≤ 7000) {X x : PyData} {ds : List PyData} (hds : ds.length ≤ 1000) {a4 a7 a8 a9 : Option PyData} :
    partB [some X, some x, some (encQ h), some (.list ds), a4, some (encQ r.1), some (encQ r.2), a7, a8, a9] = .ok (.nx, [some X, some x, some (encQ h), some (.list (ds ++ [encQ (tk h r)])), a4, some (encQ r.1), some (encQ r.2), some (encQ (h - r.1)), a8, a9]) := by
  unfold partB
  rw [seq_nx (set_ok' (fCall2 (m := m_less) rfl rfl (less_ok hh h1 (by omega)).1))]
  refine app_ok' (i := 3) rfl ?_ (by omega)
  have t := gAnd_ok' (gCmp_ok' (o := dGt) (fIx_ok' (f := fVar 6) (g := fC (.int 0)) (ρ := [some X, some x, some (encQ h), some (.list ds), a4, some (encQ r.1), some (encQ r.2), some (encQ (h - r.1)), a8, a9]) rfl rfl ix0) (g := fC (.int 0)) rfl dGt0) (gCmp_ok' (o := dGt) (fIx_ok' (f := fVar 7) (g := fC (.int 0)) rfl rfl ix0) (g := fC (.int 0)) rfl dGt0)
  by_cases c : 0 < r.2 ∧ 0 < h - r.1
  · have e : tk h r = (h - r.1) / r.2 := by unfold tk; rw [if_pos c]
    rw [e]
    refine (fIf_yes (t.trans (by simp [c.1, c.2]))).trans ?_
    exact fCall2 rfl rfl (by_ok (less_ok hh h1 (by omega)).2 h2 (by omega) (by grind)).1
  · have e : tk h r = 0 := by unfold tk; rw [if_neg c]
    rw [e]
    refine (fIf_no (t.trans ?_)).trans (fTup2 rfl rfl)
    have : (decide (0 < r.2) && decide (0 < h - r.1)) = false := by
      rw [Bool.and_eq_false_iff]
      by_cases c1 : 0 < r.2
      · right; simp; exact fun c2 => c ⟨c1, c2⟩
      · left; simp [c1]
    rw [this]
theorem part_loop {h : Rat} {m : Nat} (hh : QB m h) (hb : m + 2 * k ≤ 7000) {X x : PyData} {a4 a8 a9 : Option PyData} : ∀ (T : List Road) (ds : List PyData) (a5 a6 a7 : Option PyData), BR k T → ds.length + T.length ≤ 1000 →
    ∃ b5 b6 b7, sForL (.tp [(.nm 5), (.nm 6)]) partB (T.map encR) [some X, some x, some (encQ h), some (.list ds), a4, a5, a6, a7, a8, a9] = .ok (.nx, [some X, some x, some (encQ h), some (.list (ds ++ T.map fun r => encQ (tk h r))), a4, b5, b6, b7, a8, a9])
  | [], ds, a5, a6, a7, _, _ => ⟨a5, a6, a7, by simp [sForL]⟩
  | r :: T, ds, a5, a6, a7, hT, hd => by
    rw [List.length_cons] at hd
    have hr := hT r (List.mem_cons_self ..)
    have s1 := part_turn hh hr.1 hr.2 hb (X := X) (x := x) (ds := ds) (by omega) (a4 := a4) (a7 := a7) (a8 := a8) (a9 := a9)
    obtain ⟨b5, b6, b7, e⟩ := part_loop hh hb (X := X) (x := x) (a4 := a4) (a8 := a8) (a9 := a9) T (ds ++ [encQ (tk h r)]) (some (encQ r.1)) (some (encQ r.2)) (some (encQ (h - r.1))) (fun q hq => hT q (List.mem_cons_of_mem _ hq)) (by simp; omega)
    refine ⟨b5, b6, b7, ?_⟩
    rw [List.map_cons]
    unfold sForL
    rw [encR_put]
    simp only [ok_bind, List.set_cons_succ, List.set_cons_zero, s1]
    rw [List.append_assoc] at e
    exact e
def encQs (qs : List Rat) : PyData := .tuple (qs.map encQ)
def encP (pp : List Rat × Rat) : PyData := .tuple [encQs pp.1, encQ pp.2]
theorem flatQs {qs : List Rat} : flatL (qs.map encQ) = true := flatL_iff.mpr fun d hd => by
  obtain ⟨q, _, rfl⟩ := List.mem_map.mp hd; rfl
theorem flatQt {qs : List Rat} : flat (encQs qs) = true := by unfold encQs; simp only [flat]; exact flatQs
theorem parting_of_ok {X : PyData} (hi : seqD X = some (Rs.map encR)) (hO : Ok Rs) (hR : BR k Rs) (hx : QB l x) (hx0 : 0 < x) (hl : Rs.length ≤ 8) (hb : l + 26 * k ≤ 800) : m_parting_of [X, encQ x] = .ok (encP (parting Rs x, told Rs x)) := by
  obtain ⟨e1, hh⟩ := told_ok (seqD_items hi) hO hR hx hl (by omega)
  have hLev := told_lev hO hx0
  have hq : ∀ q ∈ Rs.map (tk (told Rs x)), QB (l + 26 * k + 28) q := fun q hq => by
    obtain ⟨r, hr, rfl⟩ := List.mem_map.mp hq
    exact (tk_bits hh (hR r hr).1 (hR r hr).2 (by omega)).mono (by omega)
  have hm : (Rs.map (tk (told Rs x))).length * (l + 26 * k + 28 + 1) ≤ 8 * (l + 26 * k + 28 + 1) := Nat.mul_le_mul_right _ (by simpa using hl)
  obtain ⟨e2, b2⟩ := total_ok (qs := Rs.map (tk (told Rs x))) (x := .list (Rs.map fun r => encQ (tk (told Rs x) r))) (by simp [itemsD]) hq (by omega)
  obtain ⟨e3, b3⟩ := less_ok hx b2 (by omega)
  show (sem_parting_of [some X, some (encQ x), none, none, none, none, none, none, none, none] >>= fun r => endV r.1) = _
  unfold sem_parting_of
  rw [seq_nx (set_ok' (fCall2 rfl rfl e1))]
  simp only [List.set_cons_succ, List.set_cons_zero]
  rw [seq_nx (ρ' := [some X, some (encQ x), some (encQ (told Rs x)), some (.list []), none, none, none, none, none, none]) rfl]
  obtain ⟨b5, b6, b7, e⟩ := part_loop hh (by omega) (X := X) (x := encQ x) (a4 := none) (a8 := none) (a9 := none) Rs [] none none none hR (by simp; omega)
  have s3 := (show sFor (.tp [(.nm 5), (.nm 6)]) (eIt (eL (fVar 0))) partB [some X, some (encQ x), some (encQ (told Rs x)), some (.list []), none, none, none, none, none, none] = sForL (.tp [(.nm 5), (.nm 6)]) partB (Rs.map encR) [some X, some (encQ x), some (encQ (told Rs x)), some (.list []), none, none, none, none, none, none] from by
    rw [sFor_ok, eIt_ok' (d := X) rfl (seqD_items hi)]
    rfl).trans e
  unfold partB at s3
  rw [seq_nx s3]
  rw [List.nil_append]
  rw [seq_nx (set_ok' (fCall2 (m := m_less) rfl (fCall1 (m := m_total) rfl e2) e3))]
  simp only [List.set_cons_succ, List.set_cons_zero]
  have t1 := gCmp_ok' (o := dGt) (fIx_ok' (f := fVar 4) (g := fC (.int 0)) (ρ := [some X, some (encQ x), some (encQ (told Rs x)), some (.list (Rs.map fun r => encQ (tk (told Rs x) r))), some (encQ (x - (Rs.map (tk (told Rs x))).sum)), b5, b6, b7, none, none]) rfl rfl ix0) (g := fC (.int 0)) rfl dGt0
  have fin : ∀ (ps : List Rat) (b8 : Option PyData), (sRet (eFlat (eL (fTup (fCons (fN dTuple (fCons (fVar 3) fNil)) (fCons (fVar 2) fNil))))) [some X, some (encQ x), some (encQ (told Rs x)), some (.list (ps.map encQ)), some (encQ (x - (Rs.map (tk (told Rs x))).sum)), b5, b6, b7, b8, none] >>= fun r => endV r.1) = .ok (encP (ps, told Rs x)) := fun ps b8 => by
    rw [sRet_ok, eFlat_ok, eL_ok, fTup2 (fN1 (f := fVar 3) rfl (dTupleL flatQs)) (g := fVar 2) rfl]
    have : flat (encP (ps, told Rs x)) = true := by
      unfold encP; simp only [flat, flatL, flatQ, Bool.and_true]; exact flatQt
    unfold encP encQs at this
    simp only [ok_bind, this, if_true]
    rfl
  by_cases hc : 0 < x - (Rs.map (tk (told Rs x))).sum
  · rw [seq_nx (ρ' := [some X, some (encQ x), some (encQ (told Rs x)), some (.list ((parting Rs x).map encQ)), some (encQ (x - (Rs.map (tk (told Rs x))).sum)), b5, b6, b7, some (.int ((Rs.findIdx (hit (told Rs x)) : Nat))), none]) ?_]
    · exact fin _ _
    · rw [if_yes (t1.trans (by simp [hc]))]
      have hex := hit_ex hLev hc
      obtain ⟨rest, eh⟩ := first_hit (c := hit (told Rs x)) 0 hex
      rw [Nat.zero_add] at eh
      have s4 : fLc (.tp [(.nm 9), (.tp [(.nm 5), (.nm 6)])]) [9, 5, 6] (fEnum (fCons (fVar 0) fNil)) (gAnd (gCmp dEq (fOp ixD (fVar 6) (fC (.int 0))) (fC (.int 0))) (gCmp dEq (fN dTuple (fCons (fVar 5) fNil)) (fVar 2))) (fVar 9) [some X, some (encQ x), some (encQ (told Rs x)), some (.list (Rs.map fun r => encQ (tk (told Rs x) r))), some (encQ (x - (Rs.map (tk (told Rs x))).sum)), b5, b6, b7, none, none]
          = .ok (.list ((Rs.zipIdx.filter fun z => hit (told Rs x) z.1).map fun z => .int (z.2 : Nat))) := by
        have he := fEnum_ok' (f := fVar 0) (ρ := [some X, some (encQ x), some (encQ (told Rs x)), some (.list (Rs.map fun r => encQ (tk (told Rs x) r))), some (encQ (x - (Rs.map (tk (told Rs x))).sum)), b5, b6, b7, none, none]) rfl hi
        rw [List.length_map, enum_enc] at he
        refine lc_filt (fun z : Road × Nat => pair (.int (z.2 : Nat)) (encR z.1)) (fun z => hit (told Rs x) z.1) (fun z => .int (z.2 : Nat)) Rs.zipIdx he (by simp; omega) fun z hz => ?_
        refine ⟨[some X, some (encQ x), some (encQ (told Rs x)), some (.list (Rs.map fun r => encQ (tk (told Rs x) r))), some (encQ (x - (Rs.map (tk (told Rs x))).sum)), some (encQ z.1.1), some (encQ z.1.2), b7, none, some (.int (z.2 : Nat))], rfl, ?_, fun _ => rfl⟩
        exact gAnd_ok' (gCmp_ok' (fIx_ok' rfl rfl ix0) rfl dEq0) (gCmp_ok' (fN1 rfl dTupleQ) rfl dEqQ)
      rw [eh] at s4
      have hix : ixD (.list (PyData.int ((Rs.findIdx (hit (told Rs x)) : Nat)) :: rest)) (.int 0) = some (.int ((Rs.findIdx (hit (told Rs x)) : Nat))) := ixD_list (by decide) rfl
      rw [seq_nx (set_ok' (fIx_ok' s4 rfl hix))]
      simp only [List.set_cons_succ, List.set_cons_zero]
      have hlt : Rs.findIdx (hit (told Rs x)) < (Rs.map fun r => encQ (tk (told Rs x) r)).length := by
        rw [List.length_map]
        exact List.findIdx_lt_length_of_exists hex
      rw [store_ok' (f := fVar 4) (d := encQ (x - (Rs.map (tk (told Rs x))).sum)) rfl flatQ rfl rfl hlt]
      simp only [List.set_cons_succ, List.set_cons_zero]
      have ep : (parting Rs x).map encQ = (Rs.map fun r => encQ (tk (told Rs x) r)).set (Rs.findIdx (hit (told Rs x))) (encQ (x - (Rs.map (tk (told Rs x))).sum)) := by
        unfold parting
        rw [if_pos hc, List.map_set, List.map_map]
        rfl
      rw [ep]
  · rw [seq_nx (if_no (t1.trans (by simp [hc])))]
    have ep : (Rs.map fun r => encQ (tk (told Rs x) r)) = (parting Rs x).map encQ := by
      unfold parting
      rw [if_neg hc, List.map_map]
      rfl
    rw [ep]
    exact fin _ _
end
end PV
end

set_option Elab.async false
set_option linter.all false
set_option maxRecDepth 100000
set_option maxHeartbeats 1000000
set_option autoImplicit false
/-! k52: the rest of the program's defs. -/
noncomputable section
namespace PV
open PySem PySem.Spec PyProof.Rows L2 S52
section
variable {p q x : Rat} {k l e : Nat} {Rs : List Road} {ps : List Rat}
def Qb (e : Nat) (ps : List Rat) : Prop := ∀ q ∈ ps, QB e q
def encRs (Rs : List Road) : PyData := .tuple (Rs.map encR)
theorem cost_nn {q : Rat} (h : isCost q = true) : 0 ≤ q := by
  unfold isCost at h
  simp only [Bool.and_eq_true, decide_eq_true_eq] at h
  exact Rat.num_nonneg.mp h.1.1
theorem okR_nn {r : Road} (h : okR r = true) : 0 ≤ r.1 ∧ 0 ≤ r.2 := by
  unfold okR at h
  simp only [Bool.and_eq_true] at h
  exact ⟨cost_nn h.1, cost_nn h.2.1⟩
theorem areRoads_ok (h : areRoads Rs = true) : Ok Rs ∧ Rs.length ≤ 8 := by
  unfold areRoads at h
  simp only [Bool.and_eq_true, decide_eq_true_eq, List.all_eq_true] at h
  obtain ⟨⟨h1, h2⟩, h3⟩ := h
  refine ⟨⟨fun e => by subst e; simp at h1, fun r hr => okR_nn (h3 r hr)⟩, h2⟩
theorem amount_pos (h : isAmount x = true) : 0 < x := by
  unfold isAmount at h
  simp only [Bool.and_eq_true, decide_eq_true_eq] at h
  exact h.2
theorem check_ok (ha : areRoads Rs = true) (hx : isAmount x = true) (hR : BR k Rs) (hq : QB l x) (hk : k ≤ 8000) (hl : l ≤ 8000) : m_check_amount [encRs Rs, encQ x] = .ok .none := by
  unfold encRs
  rw [check_core (roads_ok (by have := (areRoads_ok ha).2; omega) hk hR) fun _ => amount_ok hq hl, ha, hx]
  rfl
theorem drop_ok' {f : Env → R PyData} {ρ : Env} {d : PyData} (h : f ρ = .ok d) : sDrop (eL f) ρ = .ok (.nx, ρ) := by rw [sDrop_ok, eL_ok, h]; rfl
theorem drop_ex {f : Env → R PyData} {ρ : Env} {c : Ex} (h : f ρ = .ex c) : sDrop (eL f) ρ = .ex c := by rw [sDrop_ok, eL_ok, h]; rfl
theorem level_ok (ha : areRoads Rs = true) (hx : isAmount x = true) (hR : BR k Rs) (hq : QB l x) (hb : l + 24 * k ≤ 3900) : m_level [encRs Rs, encQ x] = .ok (encQ (told Rs x)) := by
  obtain ⟨hO, hl⟩ := areRoads_ok ha
  show (sem_level [some (encRs Rs), some (encQ x)] >>= fun r => endV r.1) = _
  unfold sem_level
  rw [seq_nx (drop_ok' (fCall2 rfl rfl (check_ok ha hx hR hq (by omega) (by omega)))), ret_ok' (fCall2 rfl rfl (told_ok rfl hO hR hq hl hb).1)]
  rfl
theorem level_paper_ok (ha : areRoads Rs = true) (hx : isAmount x = true) (hR : BR k Rs) (hq : QB l x) (hb : l + 26 * k ≤ 800) : m_level_paper [encRs Rs, encQ x] = .ok (encP (parting Rs x, told Rs x)) := by
  obtain ⟨hO, hl⟩ := areRoads_ok ha
  show (sem_level_paper [some (encRs Rs), some (encQ x)] >>= fun r => endV r.1) = _
  unfold sem_level_paper
  rw [seq_nx (drop_ok' (fCall2 rfl rfl (check_ok ha hx hR hq (by omega) (by omega)))), ret_ok' (fCall2 rfl rfl (parting_of_ok rfl hO hR hq (amount_pos hx) hl hb))]
  rfl
theorem isp_ok (hp : Qb e ps) (he : e ≤ 8000) (hl : ps.length ≤ 1000) (n : Nat) : m_is_parting [.int (n : Nat), encQs ps] = .ok (.bool (decide (ps.length = n) && ps.all fun q => decide (0 ≤ q))) := by
  have h1 : dEq (.int (ps.length : Nat)) (.int (n : Nat)) = some (decide (ps.length = n)) := by
    rw [dEq_int]; congr 1
    by_cases h : ps.length = n
    · subst h; simp
    · simp [h]; omega
  have a : fN dAll (fCons (fLc (.nm 2) [2] (fIt (fVar 1)) gYes (fAnd (fCall m_is_fraction (fCons (fVar 2) fNil)) (fOfB (gCmp dGe (fOp ixD (fVar 2) (fC (.int 0))) (fC (.int 0)))))) fNil) [some (.int (n : Nat)), some (encQs ps), none] = .ok (.bool (ps.all fun q => decide (0 ≤ q))) :=
    all_enc encQ (fun q => decide (0 ≤ q)) ps (fIt_ok' rfl rfl) (by omega) fun q hq => ⟨[some (.int (n : Nat)), some (encQs ps), some (encQ q)], rfl, by
      have := fAnd_ok' (fCall1 (m := m_is_fraction) (f := fVar 2) (ρ := [some (.int (n : Nat)), some (encQs ps), some (encQ q)]) rfl (isfr_ok (hp q hq) (by omega))) (fCmp_ok' (fIx_ok' (f := fVar 2) (g := fC (.int 0)) rfl rfl ix0) (g := fC (.int 0)) rfl dGe0)
      simpa using this⟩
  refine run_ret (n := 3) ?_
  exact fAnd_ok' (fCmp_ok' (fN1 (f := fVar 1) (b := .int (ps.length : Nat)) rfl (by simp [encQs, dLen])) rfl h1) a
theorem zput {i j m : Nat} {r : Road} {s : Rat} {ρ : Env} : put (.tp [(.tp [(.nm i), (.nm j)]), (.nm m)]) (pair (encR r) (encQ s)) ρ = .ok (((ρ.set i (some (encQ r.1))).set j (some (encQ r.2))).set m (some (encQ s))) := by
  simp [pair, put, puts, encR]
theorem seqRs : seqD (encRs Rs) = some (Rs.map encR) := rfl
theorem seqQs : seqD (encQs ps) = some (ps.map encQ) := rfl
theorem sum_bits {z : Road × Rat} (h1 : QB k z.1.1) (h2 : QB k z.1.2) (h3 : QB e z.2) (hb : k + e ≤ 1500) : q_times [encQ z.1.2, encQ z.2] = .ok (encQ (z.1.2 * z.2)) ∧ q_add [encQ z.1.1, encQ (z.1.2 * z.2)] = .ok (encQ (cost z)) ∧ q_times [encQ z.2, encQ (cost z)] = .ok (encQ (z.2 * cost z)) ∧ QB (2 * k + e + 1) (cost z) ∧ QB (2 * k + 2 * e + 1) (z.2 * cost z) := by
  obtain ⟨e1, b1⟩ := times_ok h2 h3 (by omega)
  obtain ⟨e2, b2⟩ := add_ok h1 b1 (by omega)
  obtain ⟨e3, b3⟩ := times_ok h3 b2 (by omega)
  exact ⟨e1, e2, e3, b2.mono (by omega), b3.mono (by omega)⟩
theorem zip_mem1 {z : Road × Rat} (h : z ∈ Rs.zip ps) : z.1 ∈ Rs ∧ z.2 ∈ ps := List.of_mem_zip h
theorem sumBy_bits (hR : BR k Rs) (hp : Qb e ps) (hb : k + e ≤ 600) (hl : Rs.length ≤ 6) : QB (12 * k + 12 * e + 13) (sumBy Rs ps) ∧ q_total [.list ((Rs.zip ps).map fun z => encQ (z.2 * cost z))] = .ok (encQ (sumBy Rs ps)) := by
  have hz : ∀ z ∈ Rs.zip ps, _ := fun z hz => sum_bits (hR z.1 (zip_mem1 hz).1).1 (hR z.1 (zip_mem1 hz).1).2 (hp z.2 (zip_mem1 hz).2) (by omega)
  have hn : ((Rs.zip ps).map fun z => z.2 * cost z).length ≤ 6 := by simp; omega
  have hm : ((Rs.zip ps).map fun z => z.2 * cost z).length * (2 * k + 2 * e + 1 + 1) ≤ 6 * (2 * k + 2 * e + 1 + 1) := Nat.mul_le_mul_right _ hn
  obtain ⟨e1, b1⟩ := total_ok (k := 2 * k + 2 * e + 1) (qs := (Rs.zip ps).map fun z => z.2 * cost z) (x := .list ((Rs.zip ps).map fun z => encQ (z.2 * cost z))) (by simp [itemsD]) (fun q hq => by
    obtain ⟨z, hz', rfl⟩ := List.mem_map.mp hq
    exact (hz z hz').2.2.2.2) (by omega)
  exact ⟨b1.mono (by omega), e1⟩
theorem sum_by_ok (hR : BR k Rs) (hp : Qb e ps) (hb : k + e ≤ 600) (hl : Rs.length ≤ 6) : m_sum_by [encRs Rs, encQs ps] = .ok (encQ (sumBy Rs ps)) := by
  refine run_ret (n := 5) (fCall1 (m := m_total) ?_ (sumBy_bits hR hp hb hl).2)
  have hz := fZip_ok' (f := fVar 0) (g := fVar 1) (ρ := [some (encRs Rs), some (encQs ps), none, none, none]) rfl rfl (seqRs (Rs := Rs)) (seqQs (ps := ps))
  rw [zip_enc] at hz
  refine lc_enc (fun z : Road × Rat => pair (encR z.1) (encQ z.2)) (fun z => encQ (z.2 * cost z)) (Rs.zip ps) hz (by simp; omega) fun z hz => ?_
  obtain ⟨e1, e2, e3, _, _⟩ := sum_bits (hR z.1 (zip_mem1 hz).1).1 (hR z.1 (zip_mem1 hz).1).2 (hp z.2 (zip_mem1 hz).2) (by omega)
  exact ⟨_, zput, fCall2 (m := m_times) rfl (fCall2 (m := m_add) rfl (fCall2 (m := m_times) rfl rfl e1) e2) e3⟩
def isP (n : Nat) (ps : List Rat) : Bool := decide (ps.length = n) && ps.all fun q => decide (0 ≤ q)
theorem parting_sum_ok (ha : areRoads Rs = true) (hR : BR k Rs) (hp : Qb e ps) (hb : k + e ≤ 600) (hl : Rs.length ≤ 6) (hi : isP Rs.length ps = true) (hpl : ps.length ≤ 1000) : m_parting_sum [encRs Rs, encQs ps] = .ok (encQ (sumBy Rs ps)) := by
  show (sem_parting_sum [some (encRs Rs), some (encQs ps)] >>= fun r => endV r.1) = _
  unfold sem_parting_sum
  have t1 := gNot_ok' (gTru_ok' (fCall1 (m := m_are_roads) (f := fVar 0) (ρ := [some (encRs Rs), some (encQs ps)]) rfl (roads_ok (by omega) (by omega) hR)))
  rw [ha] at t1
  have t2 := gNot_ok' (gTru_ok' (fCall2 (m := m_is_parting) (f := fN dLen (fCons (fVar 0) fNil)) (g := fVar 1) (ρ := [some (encRs Rs), some (encQs ps)]) (fN1 rfl (show dLen [encRs Rs] = some (.int (Rs.length : Nat)) by simp [encRs, dLen])) rfl (isp_ok hp (by omega) hpl Rs.length)))
  unfold isP at hi
  rw [hi] at t2
  rw [seq_nx (if_no t1), seq_nx (if_no t2), ret_ok' (fCall2 rfl rfl (sum_by_ok hR hp hb hl))]
  rfl
theorem QB2 : QB 2 2 := ⟨by decide, by decide⟩
theorem twoQ : (PyData.tuple [.int 2, .int 1]) = encQ 2 := rfl
theorem doubled_ok (hR : BR k Rs) (hk : k ≤ 1000) (hl : Rs.length ≤ 1000) : m_doubled [encRs Rs] = .ok (.list ((dbl Rs).map encR)) ∧ BR (k + 2) (dbl Rs) := by
  have h1 : ∀ r ∈ Rs, q_times [encQ 2, encQ r.2] = .ok (encQ (2 * r.2)) ∧ QB (2 + k) (2 * r.2) := fun r hr => times_ok QB2 (hR r hr).2 (by omega)
  refine ⟨?_, fun r hr => ?_⟩
  · have e1 : fLc (.tp [(.nm 1), (.nm 2)]) [1, 2] (fIt (fVar 0)) gYes (fTup (fCons (fVar 1) (fCons (fCall m_times (fCons (fTup (fCons (fC (.int 2)) (fCons (fC (.int 1)) fNil))) (fCons (fVar 2) fNil))) fNil))) [some (encRs Rs), none, none] = .ok (.list (Rs.map fun r => encR (r.1, 2 * r.2))) :=
      lc_enc encR (fun r => encR (r.1, 2 * r.2)) Rs (fIt_ok' rfl rfl) (by omega) fun r hr => ⟨_, encR_put, fTup2 rfl (fCall2 (m := m_times) (fTup2 rfl rfl) rfl (h1 r hr).1)⟩
    refine (run_ret (n := 3) e1).trans ?_
    simp [dbl, Function.comp_def]
  · obtain ⟨s, hs, rfl⟩ := List.mem_map.mp hr
    exact ⟨(hR s hs).1.mono (by omega), (h1 s hs).2.mono (by omega)⟩
end
end PV
end

set_option Elab.async false
set_option linter.all false
set_option maxRecDepth 100000
set_option maxHeartbeats 1000000
set_option autoImplicit false
/-! k52: bits of the streams; the last of the program's defs. -/
noncomputable section
namespace PV
open PySem PySem.Spec PyProof.Rows L2 S52
/-- D times q is an int -/
def IsD (D : Nat) (q : Rat) : Prop := ∃ z : Int, q * (D : Rat) = (z : Rat)
theorem IsD.den (q : Rat) : IsD q.den q := ⟨q.num, (num_eq q).symm⟩
theorem IsD.add {D : Nat} {p q : Rat} (hp : IsD D p) (hq : IsD D q) : IsD D (p + q) := by
  obtain ⟨a, ha⟩ := hp
  obtain ⟨b, hb⟩ := hq
  exact ⟨a + b, by push_cast; grind⟩
theorem IsD.sub {D : Nat} {p q : Rat} (hp : IsD D p) (hq : IsD D q) : IsD D (p - q) := by
  obtain ⟨a, ha⟩ := hp
  obtain ⟨b, hb⟩ := hq
  exact ⟨a - b, by push_cast; grind⟩
theorem IsD.mul {D E : Nat} {p q : Rat} (hp : IsD D p) (hq : IsD E q) : IsD (D * E) (p * q) := by
  obtain ⟨a, ha⟩ := hp
  obtain ⟨b, hb⟩ := hq
  exact ⟨a * b, by push_cast; grind⟩
theorem IsD.up {D : Nat} (E : Nat) {p : Rat} (hp : IsD D p) : IsD (D * E) p := by
  obtain ⟨a, ha⟩ := hp
  exact ⟨a * E, by push_cast; grind⟩
theorem IsD.up' {D : Nat} (E : Nat) {p : Rat} (hp : IsD D p) : IsD (E * D) p := by rw [Nat.mul_comm]; exact hp.up E
theorem IsD.zero (D : Nat) : IsD D 0 := ⟨0, by push_cast; grind⟩
theorem IsD.sum {D : Nat} : ∀ {qs : List Rat}, (∀ q ∈ qs, IsD D q) → IsD D qs.sum
  | [], _ => by rw [List.sum_nil]; exact .zero D
  | q :: qs, h => by
    rw [List.sum_cons]
    exact (h q (List.mem_cons_self ..)).add (IsD.sum fun r hr => h r (List.mem_cons_of_mem _ hr))
theorem IsD.bits {D M n : Nat} {q : Rat} (h : IsD D q) (hD : 0 < D) (h1 : q ≤ M) (h2 : -(M : Rat) ≤ q) (hn : D * (M + 1) < 2 ^ n) : QB n q := by
  obtain ⟨z, hz⟩ := h
  have hD' : (0 : Rat) < (D : Rat) := by exact_mod_cast hD
  have e : q = Rat.normalize z D (by omega) := by rw [norm_div]; grind
  rw [e]
  have hz1 : (z : Rat) ≤ (M : Rat) * (D : Rat) := by
    have := Rat.mul_le_mul_of_nonneg_left h1 (show (0 : Rat) ≤ D by grind)
    grind
  have hz2 : -((M : Rat) * (D : Rat)) ≤ (z : Rat) := by
    have := Rat.mul_le_mul_of_nonneg_left h2 (show (0 : Rat) ≤ D by grind)
    grind
  have i1 : z ≤ (M : Int) * (D : Int) := by
    have : (z : Rat) ≤ (((M : Int) * (D : Int) : Int) : Rat) := by push_cast; exact hz1
    exact Rat.intCast_le_intCast.mp this
  have i2 : -((M : Int) * (D : Int)) ≤ z := by
    have : ((-((M : Int) * (D : Int)) : Int) : Rat) ≤ (z : Rat) := by push_cast; exact hz2
    exact Rat.intCast_le_intCast.mp this
  have hMD : (M : Int) * (D : Int) = ((D * M : Nat) : Int) := by push_cast; rw [Int.mul_comm]
  rw [hMD] at i1 i2
  have hexp : D * (M + 1) = D * M + D := by rw [Nat.mul_add, Nat.mul_one]
  exact norm_bits _ (by omega) (by omega)
section
variable {p q x : Rat} {k l m e : Nat} {Rs : List Road} {ps : List Rat}
/-- 12 is enough -/
def D12 (Rs : List Road) : Prop := ∀ r ∈ Rs, IsD 12 r.1 ∧ (0 < r.2 → IsD 12 (1 / r.2))
theorem tk_isD {h : Rat} {r : Road} (h1 : IsD 12 r.1) (h2 : 0 < r.2 → IsD 12 (1 / r.2)) : IsD (h.den * 12 * 12) (tk h r) := by
  unfold tk
  split
  · rename_i c
    have : (h - r.1) / r.2 = (h - r.1) * (1 / r.2) := by grind
    rw [this]
    exact (((IsD.den h).up 12).sub (h1.up' h.den)).mul (h2 c.1)
  · exact .zero _
theorem sum_ge : ∀ {ps : List Rat}, (∀ q ∈ ps, 0 ≤ q) → 0 ≤ ps.sum ∧ ∀ q ∈ ps, q ≤ ps.sum
  | [], _ => ⟨by simp, fun _ h => nomatch h⟩
  | p :: ps, h => by
    have h1 := h p (List.mem_cons_self ..)
    obtain ⟨h2, h3⟩ := sum_ge fun q hq => h q (List.mem_cons_of_mem _ hq)
    rw [List.sum_cons]
    refine ⟨by grind, fun q hq => ?_⟩
    rcases List.mem_cons.mp hq with rfl | hq
    · grind
    · have := h3 q hq; grind
/-- the streams of a parting -/
theorem parting_bits (hO : Ok Rs) (hx0 : 0 < x) (hD : D12 Rs) (hxD : IsD 12 x) (hx : x ≤ 15) (hm : QB m (told Rs x)) : Qb (m + 12) (parting Rs x) := by
  obtain ⟨_, h2, h3, _⟩ := parting_ok hO hx0
  have hle : ∀ q ∈ parting Rs x, q ≤ 15 := fun q hq => by
    have := (sum_ge h2).2 q hq
    rw [h3] at this; grind
  have hi : ∀ q ∈ parting Rs x, IsD ((told Rs x).den * 12 * 12) q := by
    have ht : ∀ q ∈ Rs.map (tk (told Rs x)), IsD ((told Rs x).den * 12 * 12) q := fun q hq => by
      obtain ⟨r, hr, rfl⟩ := List.mem_map.mp hq
      exact tk_isD (hD r hr).1 (hD r hr).2
    intro q hq
    unfold parting at hq
    split at hq
    · rcases List.mem_or_eq_of_mem_set hq with h | h
      · exact ht q h
      · rw [h]
        exact (hxD.up' _).sub (IsD.sum ht)
    · exact ht q hq
  intro q hq
  have hd := den_pos (told Rs x)
  refine (hi q hq).bits (M := 15) (by omega) (hle q hq) (by have := h2 q hq; grind) ?_
  have := hm.2
  rw [Nat.pow_add]
  omega
theorem best_parting_ok (ha : areRoads Rs = true) (hx : isAmount x = true) (hR : BR k Rs) (hD : BR k (dbl Rs)) (hq : QB l x) (hb : l + 26 * k ≤ 800) : m_best_parting [encRs Rs, encQ x] = .ok (encQs (best Rs x)) := by
  obtain ⟨hO, hl⟩ := areRoads_ok ha
  have hp := parting_of_ok (X := .list ((dbl Rs).map encR)) rfl (dbl_ok hO) hD hq (amount_pos hx) (by simpa [dbl] using hl) hb
  have hd := (doubled_ok hR (by omega) (by omega)).1
  show (sem_best_parting [some (encRs Rs), some (encQ x)] >>= fun r => endV r.1) = _
  unfold sem_best_parting
  rw [seq_nx (drop_ok' (fCall2 rfl rfl (check_ok ha hx hR hq (by omega) (by omega)))), ret_ok' (fIx_ok' (fCall2 (m := m_parting_of) (fCall1 (m := m_doubled) rfl hd) rfl hp) rfl (show ixD (encP (parting (dbl Rs) x, told (dbl Rs) x)) (.int 0) = some (encQs (best Rs x)) from rfl))]
  rfl
theorem least_sum_ok (ha : areRoads Rs = true) (hx : isAmount x = true) (hR : BR k Rs) (hD : BR k (dbl Rs)) (hq : QB l x) (hb : l + 26 * k ≤ 800) (hl : Rs.length ≤ 6) (he : Qb e (best Rs x)) (hke : k + e ≤ 600) : m_least_stream_sum [encRs Rs, encQ x] = .ok (encQ (sumBy Rs (best Rs x))) :=
  run_ret (n := 2) (fCall2 (m := m_sum_by) rfl (fCall2 (m := m_best_parting) rfl rfl (best_parting_ok ha hx hR hD hq hb)) (sum_by_ok hR he hke hl))
theorem tolls_ok (ha : areRoads Rs = true) (hx : isAmount x = true) (hR : BR k Rs) (hD : BR k (dbl Rs)) (hq : QB l x) (hb : l + 26 * k ≤ 800) (he : Qb e (best Rs x)) (hke : k + e ≤ 600) : m_tolls [encRs Rs, encQ x] = .ok (encQs (tolls Rs x)) ∧ Qb (k + e) (tolls Rs x) := by
  obtain ⟨hO, hl⟩ := areRoads_ok ha
  have hz : ∀ z ∈ Rs.zip (best Rs x), q_times [encQ z.1.2, encQ z.2] = .ok (encQ (z.1.2 * z.2)) ∧ QB (k + e) (z.1.2 * z.2) := fun z hz => times_ok (hR z.1 (zip_mem1 hz).1).2 (he z.2 (zip_mem1 hz).2) (by omega)
  refine ⟨?_, fun q hq => ?_⟩
  · have hzz := fZip_ok' (f := fVar 0) (g := fCall m_best_parting (fCons (fVar 0) (fCons (fVar 1) fNil))) (ρ := [some (encRs Rs), some (encQ x), none, none, none]) rfl (fCall2 (m := m_best_parting) rfl rfl (best_parting_ok ha hx hR hD hq hb)) (seqRs (Rs := Rs)) (seqQs (ps := best Rs x))
    rw [zip_enc] at hzz
    have e1 := lc_enc (t := .tp [(.tp [(.nm 3), (.nm 4)]), (.nm 2)]) (own := [3, 4, 2]) (fe := fCall m_times (fCons (fVar 4) (fCons (fVar 2) fNil))) (fun z : Road × Rat => pair (encR z.1) (encQ z.2)) (fun z => encQ (z.1.2 * z.2)) (Rs.zip (best Rs x)) hzz (by simp; omega) fun z hz' => ⟨_, zput, fCall2 (m := m_times) rfl rfl (hz z hz').1⟩
    have e2 : ((Rs.zip (best Rs x)).map fun z => encQ (z.1.2 * z.2)) = (tolls Rs x).map encQ := by simp [tolls, Function.comp_def]
    rw [e2] at e1
    exact run_ret (n := 5) (fN1 e1 (dTupleL flatQs))
  · obtain ⟨z, hz', rfl⟩ := List.mem_map.mp hq
    exact (hz z hz').2
/-! ### is_even, is_level_paper -/
def evenB : FS := (sSeq (sSet 5 (eL (fOp ixD (fCall m_less (fCons (fVar 3) (fCons (fVar 2) fNil))) (fC (.int 0)))))
  (sIf (eLT (gOr (gCmp dLt (fVar 5) (fC (.int 0))) (gAnd (gCmp dGt (fVar 5) (fC (.int 0))) (gCmp dGt (fOp ixD (fVar 4) (fC (.int 0))) (fC (.int 0)))))) (sRet (eL (fC (.bool false))))
  sNil))
/-- one road: pays no less, and just the level if it is used -/
def evenZ (h : Rat) (z : Rat × Rat) : Bool := !(decide (z.1 - h < 0) || (decide (0 < z.1 - h) && decide (0 < z.2)))
theorem even_turn {h : Rat} {z : Rat × Rat} (hh : QB m h) (h1 : QB l z.1) (hb : m + l ≤ 8000) {a b : PyData} {a5 : Option PyData} :
    evenB [some a, some b, some (encQ h), some (encQ z.1), some (encQ z.2), a5] = if evenZ h z then .ok (.nx, [some a, some b, some (encQ h), some (encQ z.1), some (encQ z.2), some (.int (z.1 - h).num)]) else .ok (.rt (.bool false), [some a, some b, some (encQ h), some (encQ z.1), some (encQ z.2), some (.int (z.1 - h).num)]) := by
  unfold evenB
  rw [seq_nx (set_ok' (fIx_ok' (fCall2 (m := m_less) rfl rfl (less_ok h1 hh (by omega)).1) rfl ix0))]
  simp only [List.set_cons_succ, List.set_cons_zero]
  have t := gOr_ok' (gCmp_ok' (o := dLt) (f := fVar 5) (g := fC (.int 0)) (ρ := [some a, some b, some (encQ h), some (encQ z.1), some (encQ z.2), some (.int (z.1 - h).num)]) rfl rfl dLt0) (gAnd_ok' (gCmp_ok' (o := dGt) (f := fVar 5) (g := fC (.int 0)) rfl rfl dGt0) (gCmp_ok' (o := dGt) (fIx_ok' (f := fVar 4) (g := fC (.int 0)) rfl rfl ix0) (g := fC (.int 0)) rfl dGt0))
  unfold evenZ
  cases hc : (decide (z.1 - h < 0) || (decide (0 < z.1 - h) && decide (0 < z.2))) with
  | true => rw [hc] at t; rw [if_yes t]; rfl
  | false => rw [hc] at t; rw [if_no t]; rfl
theorem even_loop {h : Rat} (hh : QB m h) (hb : m + l ≤ 8000) {a b : PyData} : ∀ (zs : List (Rat × Rat)) (a3 a4 a5 : Option PyData), (∀ z ∈ zs, QB l z.1) →
    ∃ ρ', sForL (.tp [(.nm 3), (.nm 4)]) evenB (zs.map fun z => pair (encQ z.1) (encQ z.2)) [some a, some b, some (encQ h), a3, a4, a5] = .ok (if zs.all (evenZ h) then .nx else .rt (.bool false), ρ')
  | [], a3, a4, a5, _ => ⟨_, rfl⟩
  | z :: zs, a3, a4, a5, hz => by
    have s1 := even_turn (z := z) hh (hz z (List.mem_cons_self ..)) hb (a := a) (b := b) (a5 := a5)
    obtain ⟨ρ', e⟩ := even_loop hh hb (a := a) (b := b) zs (some (encQ z.1)) (some (encQ z.2)) (some (.int (z.1 - h).num)) fun w hw => hz w (List.mem_cons_of_mem _ hw)
    rw [List.map_cons]
    unfold sForL
    have hp : put (.tp [(.nm 3), (.nm 4)]) (pair (encQ z.1) (encQ z.2)) [some a, some b, some (encQ h), a3, a4, a5] = .ok [some a, some b, some (encQ h), some (encQ z.1), some (encQ z.2), a5] := put2
    rw [hp]
    simp only [ok_bind, s1, List.all_cons]
    by_cases hc : evenZ h z = true
    · simp only [hc, if_true, ok_bind, Bool.true_and]
      exact ⟨ρ', e⟩
    · rw [Bool.not_eq_true] at hc
      simp only [hc, Bool.false_eq_true, if_false, ok_bind, Bool.false_and]
      exact ⟨_, rfl⟩
theorem is_even_ok {cs : List Rat} {h : Rat} (hc : Qb l cs) (hh : QB m h) (hb : m + l ≤ 8000) : m_is_even [.list (cs.map encQ), encQs ps, encQ h] = .ok (.bool ((cs.zip ps).all (evenZ h))) := by
  obtain ⟨ρ', e⟩ := even_loop hh hb (a := .list (cs.map encQ)) (b := encQs ps) (cs.zip ps) none none none fun z hz => hc z.1 (List.of_mem_zip hz).1
  show (sem_is_even [some (.list (cs.map encQ)), some (encQs ps), some (encQ h), none, none, none] >>= fun r => endV r.1) = _
  have s3 := (show sFor (.tp [(.nm 3), (.nm 4)]) (eZip (eLA (fCons (fVar 0) (fCons (fVar 1) fNil)))) evenB [some (.list (cs.map encQ)), some (encQs ps), some (encQ h), none, none, none] = sForL (.tp [(.nm 3), (.nm 4)]) evenB ((cs.zip ps).map fun z => pair (encQ z.1) (encQ z.2)) [some (.list (cs.map encQ)), some (encQs ps), some (encQ h), none, none, none] from by
    rw [sFor_ok, eZip_ok' (a := .list (cs.map encQ)) (b := encQs ps) rfl rfl rfl rfl, zip_enc]
    rfl).trans e
  unfold sem_is_even
  unfold evenB at s3
  cases hc : (cs.zip ps).all (evenZ h) with
  | true =>
    rw [hc] at s3
    rw [seq_nx s3]
    rfl
  | false =>
    rw [hc] at s3
    rw [seq_rt s3]
    rfl
def costs (Rs : List Road) (ps : List Rat) : List Rat := (Rs.zip ps).map cost
/-- what the judge says -/
def right (Rs : List Road) (x : Rat) (ps : List Rat) (h : Rat) : Bool := isP Rs.length ps && decide (ps.sum = x) && ((costs Rs ps).zip ps).all (evenZ h)
theorem dTupleQ' {q : Rat} : dTuple [encQ q] = some (encQ q) := rfl
theorem unp2 {i j : Nat} {f : Env → R PyData} {ρ : Env} {a b : PyData} (h : f ρ = .ok (.tuple [a, b])) : sUnp [i, j] (eL f) ρ = .ok (.nx, sets [i, j] [a, b] ρ) := by
  unfold sUnp; rw [eL_ok, h]; rfl
theorem judge_ok (ha : areRoads Rs = true) (hx : isAmount x = true) (hR : BR k Rs) (hq : QB l x) (hk : k ≤ 600) (hl' : l ≤ 600) {h : Rat} (hp : Qb e ps) (hh : QB m h) (hb : 2 * k + e + 1 + m ≤ 4000) (hpl : ps.length ≤ 8) (hke : 1 + 8 * (e + 1) ≤ 7000) :
    m_is_level_paper [encRs Rs, encQ x, encP (ps, h)] = .ok (.bool (right Rs x ps h)) := by
  obtain ⟨hO, hl⟩ := areRoads_ok ha
  show (sem_is_level_paper [some (encRs Rs), some (encQ x), some (encP (ps, h)), none, none, none, none, none] >>= fun r => endV r.1) = _
  unfold sem_is_level_paper
  rw [seq_nx (drop_ok' (fCall2 rfl rfl (check_ok ha hx hR hq (by omega) (by omega))))]
  rw [seq_nx (unp2 (a := encQs ps) (b := encQ h) rfl)]
  have es : sets [3, 4] [encQs ps, encQ h] [some (encRs Rs), some (encQ x), some (encP (ps, h)), none, none, none, none, none] = [some (encRs Rs), some (encQ x), some (encP (ps, h)), some (encQs ps), some (encQ h), none, none, none] := rfl
  rw [es]
  have hm : ps.length * (e + 1) ≤ 8 * (e + 1) := Nat.mul_le_mul_right _ hpl
  have hn : fN dLen (fCons (fVar 0) fNil) [some (encRs Rs), some (encQ x), some (encP (ps, h)), some (encQs ps), some (encQ h), none, none, none] = .ok (.int (Rs.length : Nat)) := fN1 rfl (show dLen [encRs Rs] = some (.int (Rs.length : Nat)) by simp [encRs, dLen])
  have t := gOr_ok' (gNot_ok' (gTru_ok' (fCall2 (m := m_is_parting) (g := fVar 3) hn rfl (isp_ok hp (by omega) (by omega) Rs.length)))) (gOr_ok' (gCmp_ok' (o := dNe) (fCall1 (m := m_total) (f := fVar 3) rfl (total_ok (x := encQs ps) rfl hp (by omega)).1) (fN1 (f := fVar 1) rfl dTupleQ') dNeQ) (gNot_ok' (gTru_ok' (fCall1 (m := m_is_fraction) (f := fVar 4) rfl (isfr_ok hh (by omega))))))
  unfold right isP
  cases h1 : (decide (ps.length = Rs.length) && ps.all fun q => decide (0 ≤ q)) with
  | false =>
    rw [h1] at t
    rw [seq_rt (by rw [if_yes t]; rfl)]
    rfl
  | true =>
    rw [h1] at t
    by_cases h2 : ps.sum = x
    · have h2' : decide (ps.sum ≠ x) = false := by simp [h2]
      rw [h2'] at t
      rw [seq_nx (if_no t)]
      have hz := fZip_ok' (f := fVar 0) (g := fVar 3) (ρ := [some (encRs Rs), some (encQ x), some (encP (ps, h)), some (encQs ps), some (encQ h), none, none, none]) rfl rfl (seqRs (Rs := Rs)) (seqQs (ps := ps))
      rw [zip_enc] at hz
      have e1 := lc_enc (t := .tp [(.tp [(.nm 6), (.nm 7)]), (.nm 5)]) (own := [6, 7, 5]) (fe := fCall m_add (fCons (fVar 6) (fCons (fCall m_times (fCons (fVar 7) (fCons (fVar 5) fNil))) fNil))) (fun z : Road × Rat => pair (encR z.1) (encQ z.2)) (fun z => encQ (cost z)) (Rs.zip ps) hz (by simp; omega) fun z hz' => ⟨_, zput, by
        obtain ⟨e1, e2, _⟩ := sum_bits (hR z.1 (zip_mem1 hz').1).1 (hR z.1 (zip_mem1 hz').1).2 (hp z.2 (zip_mem1 hz').2) (by omega)
        exact fCall2 (m := m_add) rfl (fCall2 (m := m_times) rfl rfl e1) e2⟩
      have e2 : ((Rs.zip ps).map fun z => encQ (cost z)) = (costs Rs ps).map encQ := by simp [costs, Function.comp_def]
      rw [e2] at e1
      have hcs : Qb (2 * k + e + 1) (costs Rs ps) := fun q hq => by
        obtain ⟨z, hz', rfl⟩ := List.mem_map.mp hq
        exact (sum_bits (hR z.1 (zip_mem1 hz').1).1 (hR z.1 (zip_mem1 hz').1).2 (hp z.2 (zip_mem1 hz').2) (by omega)).2.2.2.1
      rw [ret_ok' (fCall3 e1 rfl rfl (is_even_ok hcs hh (by omega)))]
      simp [h2, endV]
    · have h2' : decide (ps.sum ≠ x) = true := by simp [h2]
      rw [h2'] at t
      rw [seq_rt (by rw [if_yes t]; rfl)]
      simp [h2, endV]
end
end PV
end

set_option Elab.async false
set_option linter.all false
set_option maxRecDepth 100000
set_option maxHeartbeats 1000000
set_option autoImplicit false
/-! k52: the law's defs. -/
noncomputable section
namespace PV
open PySem PySem.Spec PyProof.Rows L2 S52
theorem k_lleast : m__law_least = q__law_least := rfl
theorem k_ladd : m__law_add = q__law_add := rfl
theorem k_ltimes : m__law_times = q__law_times := rfl
theorem k_isless : m__law_is_less = q__law_is_less := rfl
theorem k_ltotal : m__law_total = q__law_total := rfl
theorem k_lisfr : m__law_is_fraction = q__law_is_fraction := rfl
theorem k_next : m__law_next = mNext := rfl
theorem k_pick : m__law_pick = mPick := rfl
theorem k_more : m__law_more = mMore := rfl
theorem k_draws : m__law_draws = mDraws := rfl
section
variable {p q x : Rat} {k l m e : Nat} {Rs : List Road} {ps cs : List Rat}
/-! ### by index -/
theorem rangeL_enc (n : Nat) : rangeL 0 (n : Int) = (List.range n).map fun i => .int (i : Nat) := by
  unfold rangeL
  have : ((n : Int) - 0).toNat = n := by omega
  rw [this]
  refine List.map_congr_left fun i _ => ?_
  congr 1; omega
theorem rangeD_1 {j : Int} (h : smallI j = true) : rangeD [.int j] = some (rangeL 0 j) := by simp [rangeD, h]
theorem small_nat {n : Nat} (hn : n ≤ 1000000) : smallI (n : Int) = true := by rw [smallI_iff]; omega
theorem fRg1 {f : Env → R PyData} {ρ : Env} {j : Int} {ds : List PyData} (h : f ρ = .ok (.int j)) (hs : rangeD [.int j] = some ds) : fRg (fCons f fNil) ρ = .ok ds := by
  unfold fRg
  rw [fCons_ok, h]
  simp only [ok_bind, fNil_ok, hs, ofO_some]
theorem eRg1 {f : Env → R PyData} {ρ : Env} {j : Int} {ds : List PyData} (h : f ρ = .ok (.int j)) (hs : rangeD [.int j] = some ds) : eRg (eLA (fCons f fNil)) ρ = .ok (ds, ρ) := by
  rw [eRg_ok, eLA_ok, fCons_ok, h]
  simp only [ok_bind, fNil_ok, hs, ofO_some]
theorem range_nat {n : Nat} (hn : n ≤ 1000000) : rangeD [.int (n : Int)] = some ((List.range n).map fun i => .int (i : Nat)) := (rangeD_1 (small_nat hn)).trans (congrArg some (rangeL_enc n))
theorem fRg_ok' {f : Env → R PyData} {ρ : Env} {n : Nat} (h : f ρ = .ok (.int (n : Nat))) (hn : n ≤ 1000000) : fRg (fCons f fNil) ρ = .ok ((List.range n).map fun i => .int (i : Nat)) := fRg1 h (range_nat hn)
theorem eRg_ok' {f : Env → R PyData} {ρ : Env} {n : Nat} (h : f ρ = .ok (.int (n : Nat))) (hn : n ≤ 1000000) : eRg (eLA (fCons f fNil)) ρ = .ok ((List.range n).map fun i => .int (i : Nat), ρ) := eRg1 h (range_nat hn)
theorem ixL {α : Type} {enc : α → PyData} {xs : List α} {i : Nat} (h : i < xs.length) : ixD (.list (xs.map enc)) (.int (i : Nat)) = some (enc xs[i]) := ixD_list (by omega) (by simp [h])
theorem ixT {α : Type} {enc : α → PyData} {xs : List α} {i : Nat} (h : i < xs.length) : ixD (.tuple (xs.map enc)) (.int (i : Nat)) = some (enc xs[i]) := ixD_list (xs := xs.map enc) (by omega) (by simp [h])
theorem range_zip {α β γ : Type} {xs : List α} {ys : List β} (f : α → β → γ) (g : Nat → γ) (hl : xs.length = ys.length) (h : ∀ i (h1 : i < xs.length) (h2 : i < ys.length), g i = f xs[i] ys[i]) : (List.range xs.length).map g = (xs.zip ys).map fun z => f z.1 z.2 := by
  refine List.ext_getElem (by simp; omega) fun i h1 h2 => ?_
  simp only [List.getElem_map, List.getElem_range, List.getElem_zip]
  exact h i (by simpa using h1) (by simp at h1; omega)
theorem range_all {α β : Type} {xs : List α} {ys : List β} (f : α → β → Bool) (g : Nat → Bool) (hl : xs.length = ys.length) (h : ∀ i (h1 : i < xs.length) (h2 : i < ys.length), g i = f xs[i] ys[i]) : (List.range xs.length).all g = (xs.zip ys).all fun z => f z.1 z.2 := by
  have h1 := range_zip f g hl h
  have e1 : (List.range xs.length).all g = ((List.range xs.length).map g).all id := by simp [List.all_map]
  have e2 : ((xs.zip ys).all fun z => f z.1 z.2) = ((xs.zip ys).map fun z => f z.1 z.2).all id := by simp [List.all_map]
  rw [e1, e2, h1]
/-! ### is_right and what it is made of -/
theorem lcosts_ok (hR : BR k Rs) (hp : Qb e ps) (hl : Rs.length = ps.length) (hn : Rs.length ≤ 1000) (hb : k + e ≤ 600) : m__law_costs [encRs Rs, encQs ps] = .ok (.list ((costs Rs ps).map encQ)) := by
  refine run_ret (n := 3) ?_
  have hlen : fN dLen (fCons (fVar 0) fNil) [some (encRs Rs), some (encQs ps), none] = .ok (.int (Rs.length : Nat)) := fN1 rfl (show dLen [encRs Rs] = some (.int (Rs.length : Nat)) by simp [encRs, dLen])
  have e1 := lc_enc (t := .nm 2) (own := [2]) (ρ := [some (encRs Rs), some (encQs ps), none]) (fe := fCall m__law_add (fCons (fOp ixD (fOp ixD (fVar 0) (fVar 2)) (fC (.int 0))) (fCons (fCall m__law_times (fCons (fOp ixD (fOp ixD (fVar 0) (fVar 2)) (fC (.int 1))) (fCons (fOp ixD (fVar 1) (fVar 2)) fNil))) fNil)))
    (fun i : Nat => .int (i : Nat)) (fun i => encQ (cost (Rs.getD i (0, 0), ps.getD i 0))) (List.range Rs.length) (fRg_ok' hlen (by omega)) (by simp; omega) fun i hi => by
      have h1 : i < Rs.length := by simpa using hi
      have h2 : i < ps.length := by omega
      refine ⟨[some (encRs Rs), some (encQs ps), some (.int (i : Nat))], rfl, ?_⟩
      have hr := hR Rs[i] (List.getElem_mem h1)
      obtain ⟨f1, f2⟩ := times_ok hr.2 (hp ps[i] (List.getElem_mem h2)) (by omega)
      have g1 : fOp ixD (fVar 0) (fVar 2) [some (encRs Rs), some (encQs ps), some (.int (i : Nat))] = .ok (encR Rs[i]) := fIx_ok' rfl rfl (ixT h1)
      have g2 : fOp ixD (fVar 1) (fVar 2) [some (encRs Rs), some (encQs ps), some (.int (i : Nat))] = .ok (encQ ps[i]) := fIx_ok' rfl rfl (ixT h2)
      have ed1 : Rs.getD i (0, 0) = Rs[i] := by simp [List.getD, h1]
      have ed2 : ps.getD i 0 = ps[i] := by simp [List.getD, h2]
      rw [ed1, ed2]
      exact fCall2 (m := m__law_add) (fIx_ok' g1 rfl rfl) (fCall2 (m := m__law_times) (fIx_ok' g1 rfl rfl) g2 (ltimes_ok hr.2 (hp ps[i] (List.getElem_mem h2)) (by omega))) (ladd_ok hr.1 f2 (by omega))
  have e2 : ((List.range Rs.length).map fun i => encQ (cost (Rs.getD i (0, 0), ps.getD i 0))) = (costs Rs ps).map encQ := by
    have := range_zip (fun (r : Road) (q : Rat) => encQ (cost (r, q))) (fun i => encQ (cost (Rs.getD i (0, 0), ps.getD i 0))) hl fun i h1 h2 => by
      have ed1 : Rs.getD i (0, 0) = Rs[i] := by simp [List.getD, h1]
      have ed2 : ps.getD i 0 = ps[i] := by simp [List.getD, h2]
      rw [ed1, ed2]
    rw [this]
    simp [costs, Function.comp_def]
  rw [e2] at e1
  exact e1
theorem costs_bits (hR : BR k Rs) (hp : Qb e ps) (hb : k + e ≤ 600) : Qb (2 * k + e + 1) (costs Rs ps) := fun q hq => by
  obtain ⟨z, hz', rfl⟩ := List.mem_map.mp hq
  exact (sum_bits (hR z.1 (zip_mem1 hz').1).1 (hR z.1 (zip_mem1 hz').1).2 (hp z.2 (zip_mem1 hz').2) (by omega)).2.2.2.1
theorem costs_len (hl : Rs.length = ps.length) : (costs Rs ps).length = Rs.length := by simp [costs]; omega
theorem lsum_ok (hR : BR k Rs) (hp : Qb e ps) (hl : Rs.length = ps.length) (hn : Rs.length ≤ 6) (hb : k + e ≤ 600) : m__law_sum [encRs Rs, encQs ps] = .ok (encQ (sumBy Rs ps)) := by
  have hc := lcosts_ok hR hp hl (by omega) hb
  have hcb := costs_bits hR hp hb
  have hcl := costs_len hl
  show (sem__law_sum [some (encRs Rs), some (encQs ps), none, none] >>= fun r => endV r.1) = _
  unfold sem__law_sum
  rw [seq_nx (set_ok' (fCall2 rfl rfl hc))]
  simp only [List.set_cons_succ, List.set_cons_zero]
  have hlen : fN dLen (fCons (fVar 0) fNil) [some (encRs Rs), some (encQs ps), some (.list ((costs Rs ps).map encQ)), none] = .ok (.int (Rs.length : Nat)) := fN1 rfl (show dLen [encRs Rs] = some (.int (Rs.length : Nat)) by simp [encRs, dLen])
  have e1 := lc_enc (t := .nm 3) (own := [3]) (ρ := [some (encRs Rs), some (encQs ps), some (.list ((costs Rs ps).map encQ)), none]) (fe := fCall m__law_times (fCons (fOp ixD (fVar 1) (fVar 3)) (fCons (fOp ixD (fVar 2) (fVar 3)) fNil)))
    (fun i : Nat => .int (i : Nat)) (fun i => encQ (ps.getD i 0 * (costs Rs ps).getD i 0)) (List.range Rs.length) (fRg_ok' hlen (by omega)) (by simp; omega) fun i hi => by
      have h1 : i < Rs.length := by simpa using hi
      have h2 : i < ps.length := by omega
      have h3 : i < (costs Rs ps).length := by omega
      have ed1 : (costs Rs ps).getD i 0 = (costs Rs ps)[i] := by simp [List.getD, h3]
      have ed2 : ps.getD i 0 = ps[i] := by simp [List.getD, h2]
      rw [ed1, ed2]
      exact ⟨[some (encRs Rs), some (encQs ps), some (.list ((costs Rs ps).map encQ)), some (.int (i : Nat))], rfl, fCall2 (m := m__law_times) (fIx_ok' rfl rfl (ixT h2)) (fIx_ok' rfl rfl (ixL h3)) (ltimes_ok (hp ps[i] (List.getElem_mem h2)) (hcb (costs Rs ps)[i] (List.getElem_mem h3)) (by omega))⟩
  have e2 : ((List.range Rs.length).map fun i => encQ (ps.getD i 0 * (costs Rs ps).getD i 0)) = (Rs.zip ps).map fun z => encQ (z.2 * cost z) := by
    refine range_zip (fun (r : Road) (q : Rat) => encQ (q * cost (r, q))) _ hl fun i h1 h2 => ?_
    have h3 : i < (costs Rs ps).length := by omega
    have ed1 : (costs Rs ps).getD i 0 = (costs Rs ps)[i] := by simp [List.getD, h3]
    have ed2 : ps.getD i 0 = ps[i] := by simp [List.getD, h2]
    rw [ed1, ed2]
    simp [costs]
  rw [e2] at e1
  have hm : ((Rs.zip ps).map fun z => z.2 * cost z).length * (2 * k + 2 * e + 1 + 1) ≤ 6 * (2 * k + 2 * e + 1 + 1) := Nat.mul_le_mul_right _ (by simp; omega)
  have ht := ltotal_ok (k := 2 * k + 2 * e + 1) (qs := (Rs.zip ps).map fun z => z.2 * cost z) (x := .list ((Rs.zip ps).map fun z => encQ (z.2 * cost z))) (by simp [itemsD]) (fun q hq => by
    obtain ⟨z, hz', rfl⟩ := List.mem_map.mp hq
    exact (sum_bits (hR z.1 (zip_mem1 hz').1).1 (hR z.1 (zip_mem1 hz').1).2 (hp z.2 (zip_mem1 hz').2) (by omega)).2.2.2.2) (by omega)
  rw [ret_ok' (fCall1 (m := m__law_total) e1 ht)]
  rfl
def levenZ (h : Rat) (z : Rat × Rat) : Bool := !(decide (z.1 < h)) && (decide (z.2 = 0) || decide (z.1 = h))
theorem fNot_ok' {f : Env → R PyData} {ρ : Env} {b : Bool} (h : f ρ = .ok (.bool b)) : fNot f ρ = .ok (.bool (!b)) := by unfold fNot; rw [h]; rfl
theorem leven_ok {h : Rat} (hc : Qb l cs) (hp : Qb e ps) (hh : QB m h) (hl : cs.length = ps.length) (hn : cs.length ≤ 1000) (hb : l + m ≤ 8000) : m__law_even [.list (cs.map encQ), encQs ps, encQ h] = .ok (.bool ((cs.zip ps).all (levenZ h))) := by
  refine run_ret (n := 4) ?_
  have hlen : fN dLen (fCons (fVar 0) fNil) [some (.list (cs.map encQ)), some (encQs ps), some (encQ h), none] = .ok (.int (cs.length : Nat)) := fN1 rfl (by simp [dLen])
  have e1 := all_enc (t := .nm 3) (own := [3]) (ρ := [some (.list (cs.map encQ)), some (encQs ps), some (encQ h), none]) (fe := fAnd (fNot (fCall m__law_is_less (fCons (fOp ixD (fVar 0) (fVar 3)) (fCons (fVar 2) fNil)))) (fOr (fOfB (gCmp dEq (fOp ixD (fOp ixD (fVar 1) (fVar 3)) (fC (.int 0))) (fC (.int 0)))) (fOfB (gCmp dEq (fOp ixD (fVar 0) (fVar 3)) (fVar 2)))))
    (fun i : Nat => .int (i : Nat)) (fun i => levenZ h (cs.getD i 0, ps.getD i 0)) (List.range cs.length) (fRg_ok' hlen (by omega)) (by simp; omega) fun i hi => by
      have h1 : i < cs.length := by simpa using hi
      have h2 : i < ps.length := by omega
      have ed1 : cs.getD i 0 = cs[i] := by simp [List.getD, h1]
      have ed2 : ps.getD i 0 = ps[i] := by simp [List.getD, h2]
      rw [ed1, ed2]
      have g1 : fOp ixD (fVar 0) (fVar 3) [some (.list (cs.map encQ)), some (encQs ps), some (encQ h), some (.int (i : Nat))] = .ok (encQ cs[i]) := fIx_ok' rfl rfl (ixL h1)
      exact ⟨[some (.list (cs.map encQ)), some (encQs ps), some (encQ h), some (.int (i : Nat))], rfl, fAnd_ok' (fNot_ok' (fCall2 (m := m__law_is_less) g1 rfl (isless_ok (hc cs[i] (List.getElem_mem h1)) hh (by omega)))) (fOr_ok' (fCmp_ok' (fIx_ok' (fIx_ok' rfl rfl (ixT h2)) rfl ix0) rfl dEq0) (fCmp_ok' g1 rfl dEqQ))⟩
  refine Eq.trans e1 ?_
  rw [range_all (fun c q => levenZ h (c, q)) _ hl fun i h1 h2 => by
    have ed1 : cs.getD i 0 = cs[i] := by simp [List.getD, h1]
    have ed2 : ps.getD i 0 = ps[i] := by simp [List.getD, h2]
    rw [ed1, ed2]]
theorem leven_eq {h : Rat} {z : Rat × Rat} (hz : 0 ≤ z.2) : levenZ h z = evenZ h z := by
  unfold levenZ evenZ
  obtain ⟨c, q⟩ := z
  dsimp only at *
  by_cases h1 : c < h
  · have : c - h < 0 := by grind
    simp [h1, this]
  · have h2 : ¬ c - h < 0 := by grind
    by_cases h3 : c = h
    · have : ¬ 0 < c - h := by grind
      simp [h1, h2, h3, this]
      try grind
    · have h4 : 0 < c - h := by grind
      by_cases h5 : q = 0
      · have : ¬ 0 < q := by grind
        simp [h1, h2, h5, this]
        try grind
      · have : 0 < q := by grind
        simp [h1, h2, h3, h4, h5, this]
theorem lisp_core (hp : Qb e ps) (he : 1 + ps.length * (e + 1) ≤ 8000) (hl : ps.length ≤ 1000) (n : Nat) : m__law_is_parting [encQs ps, .int (n : Nat), encQ x] = .ok (.bool (isP n ps && decide (ps.sum = x))) := by
  have h1 : dEq (.int (ps.length : Nat)) (.int (n : Nat)) = some (decide (ps.length = n)) := by
    rw [dEq_int]; congr 1
    by_cases h : ps.length = n
    · subst h; simp
    · simp [h]; omega
  have he' : e ≤ 8000 ∨ ps = [] := by
    cases ps with
    | nil => exact .inr rfl
    | cons q ps => left; rw [List.length_cons, Nat.succ_mul] at he; omega
  have a : fN dAll (fCons (fLc (.nm 3) [3] (fIt (fVar 0)) gYes (fAnd (fCall m__law_is_fraction (fCons (fVar 3) fNil)) (fOfB (gCmp dGe (fOp ixD (fVar 3) (fC (.int 0))) (fC (.int 0)))))) fNil) [some (encQs ps), some (.int (n : Nat)), some (encQ x), none] = .ok (.bool (ps.all fun q => decide (0 ≤ q))) :=
    all_enc encQ (fun q => decide (0 ≤ q)) ps (fIt_ok' rfl rfl) (by omega) fun q hq => ⟨[some (encQs ps), some (.int (n : Nat)), some (encQ x), some (encQ q)], rfl, by
      have he2 : e ≤ 8000 := he'.resolve_right (fun h => by rw [h] at hq; cases hq)
      have := fAnd_ok' (fCall1 (m := m__law_is_fraction) (f := fVar 3) (ρ := [some (encQs ps), some (.int (n : Nat)), some (encQ x), some (encQ q)]) rfl (lisfr_ok (hp q hq) he2)) (fCmp_ok' (fIx_ok' (f := fVar 3) (g := fC (.int 0)) rfl rfl ix0) (g := fC (.int 0)) rfl dGe0)
      simpa using this⟩
  have t : fOfB (gCmp dEq (fCall m__law_total (fCons (fN dList (fCons (fVar 0) fNil)) fNil)) (fVar 2)) [some (encQs ps), some (.int (n : Nat)), some (encQ x), none] = .ok (.bool (decide (ps.sum = x))) :=
    fCmp_ok' (fCall1 (m := m__law_total) (fN1 rfl (show dList [encQs ps] = some (.list (ps.map encQ)) by simp [dList, encQs, flatQs])) (ltotal_ok (x := .list (ps.map encQ)) rfl hp he)) rfl dEqQ
  refine run_ret (n := 4) ?_
  have := fAnd_ok' (fCmp_ok' (o := dEq) (g := fVar 1) (fN1 (f := fVar 0) (b := .int (ps.length : Nat)) rfl (show dLen [encQs ps] = some (.int (ps.length : Nat)) by simp [encQs, dLen])) rfl h1) (fAnd_ok' a t)
  refine Eq.trans this ?_
  unfold isP
  rw [Bool.and_assoc]
theorem lright_ok (hR : BR k Rs) {h : Rat} (hp : Qb e ps) (hh : QB m h) (hb : 2 * k + e + 1 + m ≤ 4000) (hke : k + e ≤ 600) (hm : m ≤ 8000) (hpl : ps.length ≤ 8) (hn : Rs.length ≤ 8) : m__law_is_right [encRs Rs, encQ x, encP (ps, h)] = .ok (.bool (right Rs x ps h)) := by
  show (sem__law_is_right [some (encRs Rs), some (encQ x), some (encP (ps, h)), none, none] >>= fun r => endV r.1) = _
  unfold sem__law_is_right
  rw [seq_nx (unp2 (a := encQs ps) (b := encQ h) rfl)]
  have es : sets [3, 4] [encQs ps, encQ h] [some (encRs Rs), some (encQ x), some (encP (ps, h)), none, none] = [some (encRs Rs), some (encQ x), some (encP (ps, h)), some (encQs ps), some (encQ h)] := rfl
  rw [es]
  have hmm : ps.length * (e + 1) ≤ 8 * (e + 1) := Nat.mul_le_mul_right _ hpl
  have hlen : fN dLen (fCons (fVar 0) fNil) [some (encRs Rs), some (encQ x), some (encP (ps, h)), some (encQs ps), some (encQ h)] = .ok (.int (Rs.length : Nat)) := fN1 rfl (show dLen [encRs Rs] = some (.int (Rs.length : Nat)) by simp [encRs, dLen])
  have a := fCall3 (m := m__law_is_parting) (f := fVar 3) (j := fVar 1) rfl hlen rfl (lisp_core (x := x) hp (by omega) (by omega) Rs.length)
  have b := fCall1 (m := m__law_is_fraction) (f := fVar 4) (ρ := [some (encRs Rs), some (encQ x), some (encP (ps, h)), some (encQs ps), some (encQ h)]) rfl (lisfr_ok hh (by omega))
  unfold right
  cases hc : (isP Rs.length ps && decide (ps.sum = x)) with
  | false =>
    rw [hc] at a
    have : fAnd (fCall m__law_is_parting (fCons (fVar 3) (fCons (fN dLen (fCons (fVar 0) fNil)) (fCons (fVar 1) fNil)))) (fAnd (fCall m__law_is_fraction (fCons (fVar 4) fNil)) (fCall m__law_even (fCons (fCall m__law_costs (fCons (fVar 0) (fCons (fVar 3) fNil))) (fCons (fVar 3) (fCons (fVar 4) fNil))))) [some (encRs Rs), some (encQ x), some (encP (ps, h)), some (encQs ps), some (encQ h)] = .ok (.bool false) := by
      unfold fAnd; rw [a]; rfl
    rw [ret_ok' this]
    rfl
  | true =>
    have hl : Rs.length = ps.length := by
      simp only [isP, Bool.and_eq_true, decide_eq_true_eq] at hc
      exact hc.1.1.symm
    have hnn : ∀ q ∈ ps, 0 ≤ q := by
      simp only [isP, Bool.and_eq_true, decide_eq_true_eq, List.all_eq_true] at hc
      exact hc.1.2
    rw [hc] at a
    have hcl := costs_len hl
    have c := fCall3 (m := m__law_even) (g := fVar 3) (j := fVar 4) (fCall2 (m := m__law_costs) (f := fVar 0) (g := fVar 3) (ρ := [some (encRs Rs), some (encQ x), some (encP (ps, h)), some (encQs ps), some (encQ h)]) rfl rfl (lcosts_ok hR hp hl (by omega) hke)) rfl rfl (leven_ok (costs_bits hR hp hke) hp hh (by omega) (by omega) (by omega))
    have e1 : ((costs Rs ps).zip ps).all (levenZ h) = ((costs Rs ps).zip ps).all (evenZ h) := by
      rw [Bool.eq_iff_iff, List.all_eq_true, List.all_eq_true]
      exact forall_congr' fun z => forall_congr' fun hz => by rw [leven_eq (hnn z.2 (List.of_mem_zip hz).2)]
    rw [e1] at c
    rw [ret_ok' (fAnd_ok' a (fAnd_ok' b c))]
    simp [endV]
end
end PV
end

set_option Elab.async false
set_option linter.all false
set_option maxRecDepth 100000
set_option maxHeartbeats 1000000
set_option autoImplicit false
/-! k52: what the law draws. -/
noncomputable section
namespace PV
open PySem PySem.Spec PyProof.Rows L2 S52
@[simp] theorem eCall_ok {m : List PyData → R PyData} {f : Env → R (List PyData × Env)} {ρ : Env} : eCall m f ρ = f ρ >>= fun r => m r.1 >>= fun d => .ok (d, r.2) := id rfl
section
variable {N : Nat} {ds : List PyData} {ρ : Env} {i : Nat}
/-- int(_law_next(draws)) -/
theorem int_next (hs : slot i ρ = .ok (.list ds)) (hd : Dr N ds) : ∃ (v : Int) (ds' : List PyData), 0 ≤ v ∧ Dr N ds' ∧ eN dInt (eCons (eCallM i m__law_next (eLA fNil)) eNil) ρ = .ok (.int v, ρ.set i (some (.list ds'))) := by
  obtain ⟨v, ds', e, h0, h1, hd'⟩ := next_ok hd
  have e' : m__law_next (.list ds) [] = .ok (.int v, .list ds') := e
  refine ⟨v, ds', h0, hd', ?_⟩
  simp only [eN_ok, eCons_ok, eCallM_ok, hs, ok_bind, eLA_ok, fNil_ok, e', eNil_ok, dInt_int, ofO_some]
theorem mod_next (hs : slot i ρ = .ok (.list ds)) (hd : Dr N ds) {f : Env → R PyData} {m : Nat} (hm : 0 < m) (hf : ∀ ds', f (ρ.set i (some (.list ds'))) = .ok (.int (m : Nat))) : ∃ (j : Nat) (ds' : List PyData), j < m ∧ Dr N ds' ∧ eOp dMod (eN dInt (eCons (eCallM i m__law_next (eLA fNil)) eNil)) (eL f) ρ = .ok (.int (j : Nat), ρ.set i (some (.list ds'))) := by
  obtain ⟨v, ds', h0, hd', e⟩ := int_next hs hd
  have h1 := Int.emod_nonneg v (show (m : Int) ≠ 0 by omega)
  have h2 := Int.emod_lt_of_pos v (show (0 : Int) < m by omega)
  refine ⟨(v % (m : Int)).toNat, ds', by omega, hd', ?_⟩
  have e3 : (((v % (m : Int)).toNat : Nat) : Int) = v % (m : Int) := by omega
  simp only [eOp_ok, e, ok_bind, eL_ok, hf, dMod_int (show (0 : Int) < m by omega), ofO_some, e3]
end
theorem eRg_gen {f : Env → R (List PyData × Env)} {ρ ρ' : Env} {j : Int} {ds : List PyData} (h : f ρ = .ok ([.int j], ρ')) (hs : rangeD [.int j] = some ds) : eRg f ρ = .ok (ds, ρ') := by
  rw [eRg_ok, h]
  simp only [ok_bind, hs, ofO_some]
def partSet (most : Nat) : List Rat := (List.range most).flatMap fun i => (List.range 3).map fun d => mkRat (i : Nat) (1 + d)
theorem part_mem {most i d : Nat} (hi : i < most) (hd : d < 3) : mkRat (i : Nat) (1 + d) ∈ partSet most := List.mem_flatMap.mpr ⟨i, List.mem_range.mpr hi, List.mem_map.mpr ⟨d, List.mem_range.mpr hd, rfl⟩⟩
theorem lleast_mk {a : Int} {b : Nat} (hb : b ≠ 0) (h : b.log2 < 8999) : m__law_least [.int a, .int (b : Nat)] = .ok (encQ (mkRat a b)) := by
  rw [← Rat.normalize_eq_mkRat hb]
  exact lleast_ok hb h
theorem small_log {b : Nat} (h : b < 100) : b.log2 < 8999 := by
  have := log2_of_lt (show b < 2 ^ 7 by omega)
  omega
theorem part_ok {N : Nat} {ds : List PyData} (hd : Dr N ds) {most : Nat} (hm : 0 < most) : ∃ q ds', m__law_part_of (.list ds) [.int (most : Nat)] = .ok (encQ q, .list ds') ∧ Dr N ds' ∧ q ∈ partSet most := by
  obtain ⟨i, ds1, hi, h1, e1⟩ := mod_next (i := 0) (ρ := [some (.list ds), some (.int (most : Nat))]) (f := fVar 1) (m := most) rfl hd hm (fun _ => rfl)
  obtain ⟨d, ds2, hd2, h2, e2⟩ := mod_next (i := 0) (ρ := [some (.list ds1), some (.int (most : Nat))]) (f := fC (.int 3)) (m := 3) rfl h1 (by decide) (fun _ => rfl)
  simp only [List.set_cons_zero] at e1 e2
  have e3 : m__law_least [.int (i : Nat), .int (1 + (d : Int))] = .ok (encQ (mkRat (i : Nat) (1 + d))) := by
    have := lleast_mk (a := (i : Nat)) (b := 1 + d) (by omega) (small_log (by omega))
    have e : (((1 + d : Nat)) : Int) = 1 + (d : Int) := by omega
    rw [e] at this
    exact this
  refine ⟨mkRat (i : Nat) (1 + d), ds2, ?_, h2, part_mem hi hd2⟩
  show (sem__law_part_of [some (.list ds), some (.int (most : Nat))] >>= fun r => endV r.1 >>= fun v => slot 0 r.2 >>= fun d => .ok (v, d)) = _
  unfold sem__law_part_of
  have e4 : (eOp dAdd (eL (fC (.int 1))) (eOp dMod (eN dInt (eCons (eCallM 0 m__law_next (eLA fNil)) eNil)) (eL (fC (.int 3))))) [some (.list ds1), some (.int (most : Nat))] = .ok (.int (1 + (d : Int)), [some (.list ds2), some (.int (most : Nat))]) := by
    rw [eOp_ok, eL_ok, fC_ok]
    simp only [ok_bind, e2, dAdd_int, ofO_some]
  rw [sRet_ok, eCall_ok, eCons_ok, e1]
  simp only [ok_bind]
  rw [eCons_ok, e4]
  simp only [ok_bind, eNil_ok, e3, endV, slot_zero]
def Good (r : Road) : Prop := r.1 ∈ partSet 6 ∧ r.2 ∈ partSet 4 ∧ (0 < r.1 ∨ 0 < r.2)
def chkA (q : Rat) : Bool := decide (q.num.natAbs < 8) && decide (q.den < 8) && isCost q && decide ((q * 12).den = 1)
def chkB (q : Rat) : Bool := decide (q.num.natAbs < 8) && decide (q.den < 8) && isCost q && decide ((2 * q).num.natAbs < 8) && decide ((2 * q).den < 8) && (decide (q.num = 0) || (decide ((1 / q * 12).den = 1) && decide ((1 / (2 * q) * 12).den = 1)))
theorem chkA_all : (partSet 6).all chkA = true := by kernel_rfl
theorem chkB_all : (partSet 4).all chkB = true := by kernel_rfl
theorem IsD.of_den {q : Rat} (h : (q * 12).den = 1) : IsD 12 q := ⟨(q * 12).num, by
  have := num_eq (q * 12)
  rw [h] at this
  rw [this]
  have e : ((12 : Nat) : Rat) = 12 := by push_cast; rfl
  have e2 : ((1 : Nat) : Rat) = 1 := by push_cast; rfl
  rw [e, e2]; grind⟩
theorem good_A {q : Rat} (h : q ∈ partSet 6) : QB 3 q ∧ isCost q = true ∧ IsD 12 q := by
  have := List.all_eq_true.mp chkA_all q h
  simp only [chkA, Bool.and_eq_true, decide_eq_true_eq] at this
  obtain ⟨⟨⟨h1, h2⟩, h3⟩, h4⟩ := this
  exact ⟨⟨h1, h2⟩, h3, IsD.of_den h4⟩
theorem good_B {q : Rat} (h : q ∈ partSet 4) : QB 3 q ∧ isCost q = true ∧ QB 3 (2 * q) ∧ (0 < q → IsD 12 (1 / q)) ∧ (0 < 2 * q → IsD 12 (1 / (2 * q))) := by
  have := List.all_eq_true.mp chkB_all q h
  simp only [chkB, Bool.and_eq_true, Bool.or_eq_true, decide_eq_true_eq] at this
  obtain ⟨⟨⟨⟨⟨h1, h2⟩, h3⟩, h4⟩, h5⟩, h6⟩ := this
  refine ⟨⟨h1, h2⟩, h3, ⟨h4, h5⟩, fun hp => ?_, fun hp => ?_⟩
  · rcases h6 with h6 | h6
    · have := Rat.num_eq_zero.mp h6; grind
    · exact IsD.of_den h6.1
  · rcases h6 with h6 | h6
    · have := Rat.num_eq_zero.mp h6; grind
    · exact IsD.of_den h6.2
section
variable {Rs : List Road}
theorem good_facts (h : ∀ r ∈ Rs, Good r) (h1 : 1 ≤ Rs.length) (h2 : Rs.length ≤ 5) : areRoads Rs = true ∧ BR 3 Rs ∧ BR 3 (dbl Rs) ∧ D12 Rs ∧ D12 (dbl Rs) := by
  refine ⟨?_, fun r hr => ⟨(good_A (h r hr).1).1, (good_B (h r hr).2.1).1⟩, fun r hr => ?_, fun r hr => ⟨(good_A (h r hr).1).2.2, (good_B (h r hr).2.1).2.2.2.1⟩, fun r hr => ?_⟩
  · unfold areRoads
    have : Rs.all okR = true := List.all_eq_true.mpr fun r hr => by
      unfold okR
      rw [(good_A (h r hr).1).2.1, (good_B (h r hr).2.1).2.1]
      have := (h r hr).2.2
      simpa using this
    rw [this]
    simp; omega
  · obtain ⟨s, hs, rfl⟩ := List.mem_map.mp hr
    exact ⟨(good_A (h s hs).1).1, (good_B (h s hs).2.1).2.2.1⟩
  · obtain ⟨s, hs, rfl⟩ := List.mem_map.mp hr
    exact ⟨(good_A (h s hs).1).2.2, (good_B (h s hs).2.1).2.2.2.2⟩
def roadB : FS := (sSeq (sPar 4 5 (eCons (eCallM 0 m__law_part_of (eLA (fCons (fC (.int 6)) fNil))) (eCons (eCallM 0 m__law_part_of (eLA (fCons (fC (.int 4)) fNil))) eNil)))
  (sDrop (eApp 2 (eFlat (eL (fIf (gCmp dGt (fOp dAdd (fOp ixD (fVar 4) (fC (.int 0))) (fOp ixD (fVar 5) (fC (.int 0)))) (fC (.int 0))) (fTup (fCons (fVar 4) (fCons (fVar 5) fNil))) (fTup (fCons (fVar 4) (fCons (fTup (fCons (fC (.int 1)) (fCons (fC (.int 1)) fNil))) fNil)))))))))
def RI (N : Nat) (n : Nat) (ρ : Env) : Prop := ∃ (ds : List PyData) (Rs : List Road) (a1 a3 a4 a5 : Option PyData), ρ = [some (.list ds), a1, some (.list (Rs.map encR)), a3, a4, a5] ∧ Dr N ds ∧ Rs.length = n ∧ ∀ r ∈ Rs, Good r
theorem one_mem : (1 : Rat) ∈ partSet 4 := by
  have := part_mem (most := 4) (i := 1) (d := 0) (by decide) (by decide)
  have e : mkRat ((1 : Nat) : Int) (1 + 0) = 1 := by kernel_rfl
  rw [e] at this; exact this
theorem road_turn {N n : Nat} (hn : n ≤ 1000) {ρ : Env} (h : RI N n ρ) : ∃ ρ', roadB ρ = .ok (.nx, ρ') ∧ RI N (n + 1) ρ' := by
  obtain ⟨ds, Rs, a1, a3, a4, a5, rfl, hd, hl, hg⟩ := h
  obtain ⟨p, ds1, e1, h1, hp⟩ := part_ok hd (most := 6) (by decide)
  obtain ⟨q, ds2, e2, h2, hq⟩ := part_ok h1 (most := 4) (by decide)
  have e1' : m__law_part_of (.list ds) [.int 6] = .ok (encQ p, .list ds1) := e1
  have e2' : m__law_part_of (.list ds1) [.int 4] = .ok (encQ q, .list ds2) := e2
  unfold roadB
  rw [seq_nx (ρ' := [some (.list ds2), a1, some (.list (Rs.map encR)), a3, some (encQ p), some (encQ q)]) (by
    unfold sPar
    simp only [eCons_ok, eCallM_ok, slot_zero, ok_bind, eLA_ok, fCons_ok, fC_ok, fNil_ok, e1', List.set_cons_zero, e2', eNil_ok]
    rfl)]
  have np := cost_nn (good_A hp).2.1
  have nq := cost_nn (good_B hq).2.1
  have hz : (Rs.map encR).length < sizeLine := by rw [List.length_map, sz]; omega
  have t : gCmp dGt (fOp dAdd (fOp ixD (fVar 4) (fC (.int 0))) (fOp ixD (fVar 5) (fC (.int 0)))) (fC (.int 0)) [some (.list ds2), a1, some (.list (Rs.map encR)), a3, some (encQ p), some (encQ q)] = .ok (decide (0 < p.num + q.num)) :=
    gCmp_ok' (fOp_ok' (fIx_ok' rfl rfl ix0) (fIx_ok' rfl rfl ix0) dAdd_int) rfl dGt_int
  have fin : ∀ (r : Road), Good r → fIf (gCmp dGt (fOp dAdd (fOp ixD (fVar 4) (fC (.int 0))) (fOp ixD (fVar 5) (fC (.int 0)))) (fC (.int 0))) (fTup (fCons (fVar 4) (fCons (fVar 5) fNil))) (fTup (fCons (fVar 4) (fCons (fTup (fCons (fC (.int 1)) (fCons (fC (.int 1)) fNil))) fNil))) [some (.list ds2), a1, some (.list (Rs.map encR)), a3, some (encQ p), some (encQ q)] = .ok (encR r) →
      ∃ ρ', sDrop (eApp 2 (eFlat (eL (fIf (gCmp dGt (fOp dAdd (fOp ixD (fVar 4) (fC (.int 0))) (fOp ixD (fVar 5) (fC (.int 0)))) (fC (.int 0))) (fTup (fCons (fVar 4) (fCons (fVar 5) fNil))) (fTup (fCons (fVar 4) (fCons (fTup (fCons (fC (.int 1)) (fCons (fC (.int 1)) fNil))) fNil))))))) [some (.list ds2), a1, some (.list (Rs.map encR)), a3, some (encQ p), some (encQ q)] = .ok (.nx, ρ') ∧ RI N (n + 1) ρ' := fun r hr e => by
    refine ⟨[some (.list ds2), a1, some (.list ((Rs ++ [r]).map encR)), a3, some (encQ p), some (encQ q)], ?_, ds2, Rs ++ [r], a1, a3, _, _, rfl, h2, by simp [hl], fun s hs => ?_⟩
    · rw [sDrop_ok, eApp_ok, eFlat_ok, eL_ok, e]
      have : flat (encR r) = true := rfl
      simp only [slotL_succ, slotL_zero, ok_bind, this, if_true, if_pos hz]
      simp
    · rcases List.mem_append.mp hs with h | h
      · exact hg s h
      · rw [List.mem_singleton.mp h]; exact hr
  by_cases hc : 0 < p.num + q.num
  · refine fin (p, q) ⟨hp, hq, ?_⟩ ((fIf_yes (t.trans (by simp [hc]))).trans (fTup2 rfl rfl))
    by_cases h0 : 0 < p
    · exact .inl h0
    · right
      have := num_pos (q := p)
      have h3 := Rat.num_nonneg (q := p)
      have : ¬ 0 < p.num := fun e => h0 (num_pos.mp e)
      exact num_pos.mp (show 0 < q.num by have := h3.mpr np; omega)
  · exact fin (p, 1) ⟨hp, one_mem, .inr (show (0 : Rat) < 1 by decide)⟩ ((fIf_no (t.trans (by simp [hc]))).trans (fTup2 rfl (fTup2 rfl rfl)))
theorem lroads_ok {N : Nat} {ds : List PyData} (hd : Dr N ds) : ∃ Rs ds', m__law_roads (.list ds) [.int 5] = .ok (encRs Rs, .list ds') ∧ Dr N ds' ∧ 1 ≤ Rs.length ∧ Rs.length ≤ 5 ∧ ∀ r ∈ Rs, Good r := by
  obtain ⟨i, ds1, hi, h1, e1⟩ := mod_next (i := 0) (ρ := [some (.list ds), some (.int 5), some (.list []), none, none, none]) (f := fVar 1) (m := 5) rfl hd (by decide) (fun _ => rfl)
  simp only [List.set_cons_zero] at e1
  have key := for_cnt (t := .nm 3) (f := roadB) 5 (RI N) ((List.range (1 + i)).map fun i => .int (i : Nat)) (fun n d hd hn ρ h => by
    obtain ⟨ds, Rs, a1, a3, a4, a5, rfl, h'⟩ := h
    obtain ⟨ρ', e, h2⟩ := road_turn (n := n) (by omega) (ρ := [some (.list ds), a1, some (.list (Rs.map encR)), some d, a4, a5]) ⟨ds, Rs, a1, some d, a4, a5, rfl, h'⟩
    exact ⟨_, ρ', put_nm, e, h2⟩) 0 [some (.list ds1), some (.int 5), some (.list []), none, none, none] (by simp; omega) ⟨ds1, [], _, none, none, none, rfl, h1, rfl, fun _ h => nomatch h⟩
  obtain ⟨ρ', e2, ds2, Rs, a1, a3, a4, a5, rfl, h2, hl, hg⟩ := key
  simp only [List.length_map, List.length_range, Nat.zero_add] at hl
  refine ⟨Rs, ds2, ?_, h2, by omega, by omega, hg⟩
  show (sem__law_roads [some (.list ds), some (.int 5), none, none, none, none] >>= fun r => endV r.1 >>= fun v => slot 0 r.2 >>= fun d => .ok (v, d)) = _
  unfold sem__law_roads
  rw [seq_nx (ρ' := [some (.list ds), some (.int 5), some (.list []), none, none, none]) rfl]
  have e3 : eRg (eCons (eOp dAdd (eL (fC (.int 1))) (eOp dMod (eN dInt (eCons (eCallM 0 m__law_next (eLA fNil)) eNil)) (eL (fVar 1)))) eNil) [some (.list ds), some (.int 5), some (.list []), none, none, none] = .ok ((List.range (1 + i)).map fun i => .int (i : Nat), [some (.list ds1), some (.int 5), some (.list []), none, none, none]) := by
    refine eRg_gen (j := ((1 + i : Nat) : Int)) ?_ (range_nat (n := 1 + i) (by omega))
    have e : (((1 + i : Nat)) : Int) = 1 + (i : Int) := by omega
    rw [e, eCons_ok, eOp_ok, eL_ok, fC_ok]
    simp only [ok_bind, e1, dAdd_int, ofO_some, eNil_ok]
  have s3 := (show sFor (.nm 3) (eRg (eCons (eOp dAdd (eL (fC (.int 1))) (eOp dMod (eN dInt (eCons (eCallM 0 m__law_next (eLA fNil)) eNil)) (eL (fVar 1)))) eNil)) roadB [some (.list ds), some (.int 5), some (.list []), none, none, none] = sForL (.nm 3) roadB ((List.range (1 + i)).map fun i => .int (i : Nat)) [some (.list ds1), some (.int 5), some (.list []), none, none, none] from by
    rw [sFor_ok, e3]; rfl).trans e2
  unfold roadB at s3
  rw [seq_nx s3]
  have hfl : flatL (Rs.map encR) = true := flatL_iff.mpr fun d hd => by
    obtain ⟨r, _, rfl⟩ := List.mem_map.mp hd; rfl
  rw [ret_ok' (fN1 (f := fVar 2) rfl (dTupleL hfl))]
  rfl
def xSet : List Rat := (List.range 9).flatMap fun i => (List.range 4).map fun j => mkRat ((1 + i : Nat)) (1 + j)
def chkX (x : Rat) : Bool := decide (x.num.natAbs < 16) && decide (x.den < 16) && isAmount x && decide ((x * 12).den = 1) && decide (x ≤ 15) && isAmount (x + mkRat 1 3)
theorem chkX_all : xSet.all chkX = true := by kernel_rfl
theorem good_X {x : Rat} (h : x ∈ xSet) : QB 4 x ∧ isAmount x = true ∧ IsD 12 x ∧ x ≤ 15 ∧ isAmount (x + mkRat 1 3) = true := by
  have := List.all_eq_true.mp chkX_all x h
  simp only [chkX, Bool.and_eq_true, decide_eq_true_eq] at this
  obtain ⟨⟨⟨⟨⟨h1, h2⟩, h3⟩, h4⟩, h5⟩, h6⟩ := this
  exact ⟨⟨h1, h2⟩, h3, IsD.of_den h4, h5, h6⟩
end
end PV
end

set_option Elab.async false
set_option linter.all false
set_option maxRecDepth 100000
set_option maxHeartbeats 1000000
set_option autoImplicit false
/-! k52: what is asked; what goes wrong. -/
noncomputable section
namespace PV
open PySem PySem.Spec PyProof.Rows L2 S52
/-! ### _law_kind -/
theorem fIsE_ok' {a : Addr} {b : Bool} {ρ : Env} : fIsE a b (fVar 0) (some (adrD a) :: ρ) = .ok (.bool b) := by simp [fIsE, adrD]
theorem lst_le {ds : List PyData} (h : ds.length ≤ 1000) {α : Type} {p q : R α} : (if ds.length ≤ sizeLine then p else q) = p := if_pos (by rw [sz]; omega)
def seven : PyData := .list [.str "stakes", .str "table", .str "mix", .str "paper", .str "number", .str "answer", .str "large"]
theorem kind_core {z w : Str} {b1 b2 b3 b4 b5 b6 b7 b8 : Bool} (i1 : isC z "NotStakes" = b1) (i2 : isC z "NotTable" = b2) (i3 : isC z "NotMix" = b3) (i4 : isC z "NotPaper" = b4) (i5 : isC z "BadNumber" = b5) (i6 : isC z "NoAnswer" = b6) (i7 : isC z "TooLarge" = b7) (i8 : isC z "StakeError" = b8)
    (hf : ∀ (d : PyData) (f8 : Env → R PyData), (∀ ρ, f8 (some d :: ρ) = .ok (.bool b8)) → (sRet (eL (fIf (gAnd (gCmp dEq (fMe isList dCount (fVar 2) (fCons (fC (.bool true)) fNil)) (fC (.int 1))) (gTru dTru f8)) (fOp dAdd (fC (.str "!")) (fOp ixD (fVar 1) (fMe isList dIndex (fVar 2) (fCons (fC (.bool true)) fNil)))) (fC (.str "!other"))))) [some d, some seven, some (.list [.bool b1, .bool b2, .bool b3, .bool b4, .bool b5, .bool b6, .bool b7])] = .ok (.rt (.str w), [some d, some seven, some (.list [.bool b1, .bool b2, .bool b3, .bool b4, .bool b5, .bool b6, .bool b7])])) (a : Addr) : m__law_kind z a [adrD a] = .ok (.str w) := by
  unfold m__law_kind runF sem__law_kind
  have e : rho0 3 [adrD a] = [some (adrD a), none, none] := rfl
  rw [e]
  generalize hd : adrD a = d
  have h : ∀ (b : Bool) (ρ : Env), fIsE a b (fVar 0) (some d :: ρ) = .ok (.bool b) := fun b ρ => by rw [← hd]; exact fIsE_ok'
  rw [seq_nx (ρ' := [some d, some seven, none]) (by
    rw [sSet_ok, eL_ok, fLst_ok]
    simp only [fCons_ok, fC_ok, fNil_ok, ok_bind]
    rw [lst_le (by simp)]
    rfl)]
  rw [seq_nx (ρ' := [some d, some seven, some (.list [.bool b1, .bool b2, .bool b3, .bool b4])]) (by
    rw [sSet_ok, eL_ok, fLst_ok]
    simp only [fCons_ok, fC_ok, fNil_ok, ok_bind, h, i1, i2, i3, i4]
    rw [lst_le (by simp)]
    rfl)]
  rw [seq_nx (ρ' := [some d, some seven, some (.list [.bool b1, .bool b2, .bool b3, .bool b4, .bool b5, .bool b6, .bool b7])]) (by
    rw [sSet_ok, eL_ok, fOp_ok, fLst_ok]
    simp only [fCons_ok, fC_ok, fNil_ok, ok_bind, h, i5, i6, i7, fVar_zero, fVar_succ]
    rw [lst_le (by simp)]
    have c : dAdd (.list [.bool b1, .bool b2, .bool b3, .bool b4]) (.list [.bool b5, .bool b6, .bool b7]) = some (.list [.bool b1, .bool b2, .bool b3, .bool b4, .bool b5, .bool b6, .bool b7]) := by
      have : (4 : Nat) + 3 ≤ sizeLine := by rw [sz]; decide
      simp [dAdd, iOp, sCat, lCat, flatL, flat, this]
    simp only [ok_bind, c, ofO_some]
    rfl)]
  rw [i8, hf d _ (h _)]
  rfl
theorem kind_table (a : Addr) : m__law_kind "NotTable" a [adrD a] = .ok (.str "!table") :=
  kind_core (b1 := false) (b2 := true) (b3 := false) (b4 := false) (b5 := false) (b6 := false) (b7 := false) (by decide) (by decide) (by decide) (by decide) (by decide) (by decide) (by decide) (b8 := true) (by decide) (fun d f8 h8 => by
    have t := gAnd_ok' (b := true) (show gCmp dEq (fMe isList dCount (fVar 2) (fCons (fC (.bool true)) fNil)) (fC (.int 1)) [some d, some seven, some (.list [.bool false, .bool true, .bool false, .bool false, .bool false, .bool false, .bool false])] = .ok true by kernel_rfl) (gTru_ok' (h8 _))
    refine ret_ok' ((fIf_yes t).trans ?_)
    kernel_rfl) a
theorem kind_number (a : Addr) : m__law_kind "BadNumber" a [adrD a] = .ok (.str "!number") :=
  kind_core (b1 := false) (b2 := false) (b3 := false) (b4 := false) (b5 := true) (b6 := false) (b7 := false) (by decide) (by decide) (by decide) (by decide) (by decide) (by decide) (by decide) (b8 := true) (by decide) (fun d f8 h8 => by
    have t := gAnd_ok' (b := true) (show gCmp dEq (fMe isList dCount (fVar 2) (fCons (fC (.bool true)) fNil)) (fC (.int 1)) [some d, some seven, some (.list [.bool false, .bool false, .bool false, .bool false, .bool true, .bool false, .bool false])] = .ok true by kernel_rfl) (gTru_ok' (h8 _))
    refine ret_ok' ((fIf_yes t).trans ?_)
    kernel_rfl) a
/-! ### _law_asked -/
section
variable {K : PySem.W.Frag} {X Y Z : PyData}
abbrev Nd (K : PySem.W.Frag) : Prop := ([He.ga K "level", He.ga K "level_paper", He.ga K "best_parting", He.ga K "least_stream_sum", He.ga K "tolls"] : List Addr).Nodup
theorem ieq' {a b : Addr} (h : a ≠ b) : ((a : Int) == (b : Int)) = false := by rw [beq_eq_false_iff_ne]; exact fun e => h (Int.ofNat.inj e)
/-- what is asked -/
def due (way : Nat) (X Y Z : PyData) : R PyData := match way with
  | 0 => m_level [X, Y]
  | 1 => m_level_paper [X, Y]
  | 2 => m_best_parting [X, Y]
  | 3 => m_least_stream_sum [X, Y]
  | 4 => m_tolls [X, Y]
  | 5 => m_parting_sum [X, Y]
  | _ => m_is_level_paper [X, Y, Z]
def askB (K : PySem.W.Frag) : FS := (sSeq (sIf (eLT (gCmp dLt (fVar 0) (fC (.int 5)))) (sRet (eL (fCallX (ct__law_asked K) (fOp ixD (fLst (fCons (fC (adrD (He.ga K "level"))) (fCons (fC (adrD (He.ga K "level_paper"))) (fCons (fC (adrD (He.ga K "best_parting"))) (fCons (fC (adrD (He.ga K "least_stream_sum"))) (fCons (fC (adrD (He.ga K "tolls"))) fNil)))))) (fVar 0)) (fCons (fVar 1) (fCons (fVar 2) fNil)))))
  sNil)
  (sRet (eL (fIf (gCmp dEq (fVar 0) (fC (.int 5))) (fCall m_parting_sum (fCons (fVar 1) (fCons (fVar 2) fNil))) (fCall m_is_level_paper (fCons (fVar 1) (fCons (fVar 2) (fCons (fVar 3) fNil))))))))
theorem callX_ok {tab : List (Addr × (List PyData → R PyData))} {g : Env → R PyData} {f : Env → R (List PyData)} {ρ : Env} {a b : Addr} {m : List PyData → R PyData} {xs : List PyData} (hg : g ρ = .ok (adrD a)) (ht : tab.find? (fun q => (a : Int) == (q.1 : Int)) = some (b, m)) (hf : f ρ = .ok xs) : fCallX tab g f ρ = m xs := by
  unfold fCallX
  rw [hg]
  have : adrOf (adrD a) = some (a : Int) := rfl
  simp only [ok_bind, this, Option.bind_some, ht, ofO_some, hf]
theorem lst5 {a b c d e : PyData} {ρ : Env} : fLst (fCons (fC a) (fCons (fC b) (fCons (fC c) (fCons (fC d) (fCons (fC e) fNil))))) ρ = .ok (.list [a, b, c, d, e]) := by
  rw [fLst_ok]
  simp only [fCons_ok, fC_ok, fNil_ok, ok_bind]
  rw [lst_le (by simp)]
theorem ret_bind {f : Env → R PyData} {ρ : Env} {r : R PyData} (h : f ρ = r) : sRet (eL f) ρ = r >>= fun d => .ok (.rt d, ρ) := by
  rw [sRet_ok, eL_ok, h]; cases r <;> rfl
theorem askB_ok (nd : Nd K) (way : Nat) (hw : way < 7) : askB K [some (.int (way : Nat)), some X, some Y, some Z, none] = due way X Y Z >>= fun d => .ok (.rt d, [some (.int (way : Nat)), some X, some Y, some Z, none]) := by
  simp only [Nd, List.nodup_cons, List.mem_cons, List.not_mem_nil, or_false, not_or] at nd
  obtain ⟨⟨n1, n2, n3, n4⟩, ⟨n5, n6, n7⟩, ⟨n8, n9⟩, n10, _⟩ := nd
  unfold askB
  have fx : (fCons (fVar 1) (fCons (fVar 2) fNil)) [some (.int (way : Nat)), some X, some Y, some Z, none] = .ok [X, Y] := rfl
  by_cases h5 : way < 5
  · have t : gCmp dLt (fVar 0) (fC (.int 5)) [some (.int (way : Nat)), some X, some Y, some Z, none] = .ok true := by
      rw [gCmp_ok' (o := dLt) (f := fVar 0) (g := fC (.int 5)) rfl rfl dLt_int]
      simp; omega
    have go : ∀ {a b : Addr} {m : List PyData → R PyData}, ixD (.list [adrD (He.ga K "level"), adrD (He.ga K "level_paper"), adrD (He.ga K "best_parting"), adrD (He.ga K "least_stream_sum"), adrD (He.ga K "tolls")]) (.int (way : Nat)) = some (adrD a) → (ct__law_asked K).find? (fun q => (a : Int) == (q.1 : Int)) = some (b, m) →
        sIf (eLT (gCmp dLt (fVar 0) (fC (.int 5)))) (sRet (eL (fCallX (ct__law_asked K) (fOp ixD (fLst (fCons (fC (adrD (He.ga K "level"))) (fCons (fC (adrD (He.ga K "level_paper"))) (fCons (fC (adrD (He.ga K "best_parting"))) (fCons (fC (adrD (He.ga K "least_stream_sum"))) (fCons (fC (adrD (He.ga K "tolls"))) fNil)))))) (fVar 0)) (fCons (fVar 1) (fCons (fVar 2) fNil))))) sNil [some (.int (way : Nat)), some X, some Y, some Z, none]
          = m [X, Y] >>= fun d => .ok (.rt d, [some (.int (way : Nat)), some X, some Y, some Z, none]) := fun hi ht => by
      rw [if_yes t, ret_bind (callX_ok (fIx_ok' lst5 rfl hi) ht fx)]
    have fin : ∀ {m : List PyData → R PyData} {g : FS}, sIf (eLT (gCmp dLt (fVar 0) (fC (.int 5)))) (sRet (eL (fCallX (ct__law_asked K) (fOp ixD (fLst (fCons (fC (adrD (He.ga K "level"))) (fCons (fC (adrD (He.ga K "level_paper"))) (fCons (fC (adrD (He.ga K "best_parting"))) (fCons (fC (adrD (He.ga K "least_stream_sum"))) (fCons (fC (adrD (He.ga K "tolls"))) fNil)))))) (fVar 0)) (fCons (fVar 1) (fCons (fVar 2) fNil))))) sNil [some (.int (way : Nat)), some X, some Y, some Z, none]
          = m [X, Y] >>= (fun d => .ok (.rt d, [some (.int (way : Nat)), some X, some Y, some Z, none])) → sSeq (sIf (eLT (gCmp dLt (fVar 0) (fC (.int 5)))) (sRet (eL (fCallX (ct__law_asked K) (fOp ixD (fLst (fCons (fC (adrD (He.ga K "level"))) (fCons (fC (adrD (He.ga K "level_paper"))) (fCons (fC (adrD (He.ga K "best_parting"))) (fCons (fC (adrD (He.ga K "least_stream_sum"))) (fCons (fC (adrD (He.ga K "tolls"))) fNil)))))) (fVar 0)) (fCons (fVar 1) (fCons (fVar 2) fNil))))) sNil) g [some (.int (way : Nat)), some X, some Y, some Z, none] = m [X, Y] >>= fun d => .ok (.rt d, [some (.int (way : Nat)), some X, some Y, some Z, none]) := fun {m g} h => by
      rw [sSeq_ok, h]; cases m [X, Y] <;> rfl
    have hc : way = 0 ∨ way = 1 ∨ way = 2 ∨ way = 3 ∨ way = 4 := by omega
    rcases hc with rfl | rfl | rfl | rfl | rfl
    · exact fin (go (a := He.ga K "level") (b := He.ga K "level") (m := m_level) rfl (by simp [ct__law_asked]))
    · exact fin (go (a := He.ga K "level_paper") (b := He.ga K "level_paper") (m := m_level_paper) rfl (by simp [ct__law_asked, ieq' (Ne.symm n1)]))
    · exact fin (go (a := He.ga K "best_parting") (b := He.ga K "best_parting") (m := m_best_parting) rfl (by simp [ct__law_asked, ieq' (Ne.symm n2), ieq' (Ne.symm n5)]))
    · exact fin (go (a := He.ga K "least_stream_sum") (b := He.ga K "least_stream_sum") (m := m_least_stream_sum) rfl (by simp [ct__law_asked, ieq' (Ne.symm n3), ieq' (Ne.symm n6), ieq' (Ne.symm n8)]))
    · exact fin (go (a := He.ga K "tolls") (b := He.ga K "tolls") (m := m_tolls) rfl (by simp [ct__law_asked, ieq' (Ne.symm n4), ieq' (Ne.symm n7), ieq' (Ne.symm n9), ieq' (Ne.symm n10)]))
  · have t : gCmp dLt (fVar 0) (fC (.int 5)) [some (.int (way : Nat)), some X, some Y, some Z, none] = .ok false := by
      rw [gCmp_ok' (o := dLt) (f := fVar 0) (g := fC (.int 5)) rfl rfl dLt_int]
      simp; omega
    rw [seq_nx (if_no t)]
    have h56 : way = 5 ∨ way = 6 := by omega
    rcases h56 with rfl | rfl
    · refine ret_bind ((fIf_yes ?_).trans (fCall2 rfl rfl rfl))
      exact gCmp_ok' (o := dEq) (f := fVar 0) (g := fC (.int 5)) rfl rfl (by rw [dEq_int]; rfl)
    · refine ret_bind ((fIf_no ?_).trans (fCall3 rfl rfl rfl rfl))
      exact gCmp_ok' (o := dEq) (f := fVar 0) (g := fC (.int 5)) rfl rfl (by rw [dEq_int]; rfl)
theorem asked_ok (nd : Nd K) {way : Nat} (hw : way < 7) {d : PyData} (h : due way X Y Z = .ok d) : m__law_asked K [.int (way : Nat), X, Y, Z] = .ok d := by
  have e := askB_ok (X := X) (Y := Y) (Z := Z) nd way hw
  rw [h] at e
  show (sem__law_asked K [some (.int (way : Nat)), some X, some Y, some Z, none] >>= fun r => endV r.1) = _
  unfold sem__law_asked sTry
  unfold askB at e
  rw [e]
  rfl
theorem asked_ex (nd : Nd K) {way : Nat} (hw : way < 7) {z w : Str} (h : due way X Y Z = .ex ⟨z, none⟩) (hz : z ∈ exNames) (hk : ∀ a, m__law_kind z a [adrD a] = .ok (.str w)) : m__law_asked K [.int (way : Nat), X, Y, Z] = .ok (.str w) := by
  have e := askB_ok (X := X) (Y := Y) (Z := Z) nd way hw
  rw [h] at e
  show (sem__law_asked K [some (.int (way : Nat)), some X, some Y, some Z, none] >>= fun r => endV r.1) = _
  unfold sem__law_asked sTry
  unfold askB at e
  rw [e]
  have hx : (Option.isNone (none : Option (Str × PyData)) && decide (z ∈ exNames)) = true := by simp [hz]
  show (if (Option.isNone (none : Option (Str × PyData)) && decide (z ∈ exNames)) = true then _ else _) >>= _ = _
  rw [if_pos hx]
  have key : ∀ a : Addr, (noX ((sRet (eL (fCall (m__law_kind z a) (fCons (fVar 4) fNil)))) ((keepE [0, 1, 2, 3] [some (.int (way : Nat)), some X, some Y, some Z, none]).set 4 (some (adrD a)))) >>= fun r => R.ok (r.1, r.2.set 4 none)) = .ok (.rt (.str w), [some (.int (way : Nat)), some X, some Y, some Z, none]) := fun a => by
    have e : (keepE [0, 1, 2, 3] [some (.int (way : Nat)), some X, some Y, some Z, none]).set 4 (some (adrD a)) = [some (.int (way : Nat)), some X, some Y, some Z, some (adrD a)] := rfl
    rw [e, ret_ok' (fCall1 (m := m__law_kind z a) (f := fVar 4) rfl (hk a))]
    rfl
  have e2 := funext key
  rw [(congrArg allA e2).trans (allA_const _)]
  rfl
end
end PV
end

set_option Elab.async false
set_option linter.all false
set_option maxRecDepth 100000
set_option maxHeartbeats 1000000
set_option autoImplicit false
/-! k52: drawn partings; the greatest; papers and calls that are wrong. -/
noncomputable section
namespace PV
open PySem PySem.Spec PyProof.Rows L2 S52
section
variable {p q x : Rat} {k l m e : Nat} {Rs : List Road} {ps cs : List Rat}
/-! ### _law_drawn -/
def drawnL (x : Rat) (ns : List Nat) : List Rat := ns.map fun n => x * mkRat (n : Nat) ns.sum
theorem drawn_sum {x : Rat} {ns : List Nat} (h : 0 < ns.sum) : (drawnL x ns).sum = x := by
  have h1 : ∀ (ms : List Nat) (S : Nat), (ms.map fun n => x * mkRat (n : Nat) S).sum = x * ((ms.sum : Nat) : Rat) / (S : Rat) := fun ms S => by
    induction ms with
    | nil => simp; grind
    | cons n ms ih =>
      rw [List.map_cons, List.sum_cons, ih, List.sum_cons, Rat.mkRat_eq_div]
      push_cast
      clear ih
      generalize ((ms.sum : Nat) : Rat) = a
      generalize ((n : Nat) : Rat) = b
      generalize ((S : Nat) : Rat) = c
      grind
  have h2 : ((ns.sum : Nat) : Rat) ≠ 0 := by
    intro e
    have : ns.sum = 0 := by exact_mod_cast e
    omega
  unfold drawnL
  rw [h1]
  grind
theorem drawn_nn {ns : List Nat} (hx : 0 ≤ x) : ∀ q ∈ drawnL x ns, 0 ≤ q := fun q hq => by
  obtain ⟨n, _, rfl⟩ := List.mem_map.mp hq
  refine Rat.mul_nonneg hx ?_
  by_cases h0 : ns.sum = 0
  · rw [h0]; simp
  · rw [Rat.mkRat_eq_div]
    exact div_nonneg (by exact_mod_cast Nat.zero_le n) (by
      have : 0 < ns.sum := by omega
      exact_mod_cast this)
theorem asInts_nat : ∀ (ns : List Nat), asInts (ns.map fun n => PyData.int (n : Nat)) = some (ns.map fun n => ((n : Nat) : Int))
  | [] => rfl
  | n :: ns => by simp [asInts, asInts_nat ns]
theorem sum_cast : ∀ (ns : List Nat), (ns.map fun n => ((n : Nat) : Int)).sum = ((ns.sum : Nat) : Int)
  | [] => rfl
  | n :: ns => by simp [sum_cast ns]
theorem dSum_nat (ns : List Nat) : dSum [.list (ns.map fun n => PyData.int (n : Nat))] = some (.int (ns.sum : Nat)) := by
  simp only [dSum, asInts_nat, Option.map_some, sum_cast]
theorem store_ok2 {i : Nat} {f g : Env → R PyData} {ρ : Env} {d : PyData} {ds : List PyData} {j : Nat} (hf : f ρ = .ok d) (hs : slotL i ρ = .ok ds) (hg : g ρ = .ok (.int (j : Nat))) (hj : j < ds.length) : sStore i (eL f) g ρ = .ok (.nx, ρ.set i (some (.list (ds.set j d)))) := by
  unfold sStore
  rw [eL_ok, hf]
  have e : ixN ds.length (j : Int) = some j := by
    unfold ixN
    rw [if_pos (by omega)]
    simp [hj]
  simp only [ok_bind, hs, hg, e]
theorem nat_sum_le : ∀ {ns : List Nat}, (∀ n ∈ ns, n ≤ 4) → ns.sum ≤ 4 * ns.length
  | [], _ => by simp
  | n :: ns, h => by
    have h1 := h n (List.mem_cons_self ..)
    have h2 := nat_sum_le fun m hm => h m (List.mem_cons_of_mem _ hm)
    rw [List.sum_cons, List.length_cons]
    omega
theorem mkRat_bits {n S : Nat} (hS : S ≠ 0) (h1 : n < 2 ^ 6) (h2 : S < 2 ^ 6) : QB 6 (mkRat (n : Nat) S) := by
  rw [← Rat.normalize_eq_mkRat hS]
  exact norm_bits hS (by simpa using h1) h2
theorem drawn_ok {N : Nat} {ds : List PyData} (hd : Dr N ds) {n : Nat} (h1 : 1 ≤ n) (h5 : n ≤ 5) (hx : QB 4 x) : ∃ ns ds', m__law_drawn (.list ds) [.int (n : Nat), encQ x] = .ok (encQs (drawnL x ns), .list ds') ∧ Dr N ds' ∧ ns.length = n ∧ 0 < ns.sum ∧ Qb 10 (drawnL x ns) := by
  have key := lc_inv (t := .nm 4) (own := [4]) (fe := eOp dMod (eN dInt (eCons (eCallM 0 m__law_next (eLA fNil)) eNil)) (eL (fC (.int 4)))) (fun ρ => ∃ (ds : List PyData) (b : Option PyData), ρ = [some (.list ds), some (.int (n : Nat)), some (encQ x), none, b, none] ∧ b = none ∧ Dr N ds) (fun y => ∃ j : Nat, y = .int (j : Nat) ∧ j < 4) ((List.range n).map fun i => .int (i : Nat)) (fun d _ ρ ⟨ds, b, e, _, hd⟩ => by
    subst e
    obtain ⟨j, ds1, hj, h1, e1⟩ := mod_next (i := 0) (ρ := [some (.list ds), some (.int (n : Nat)), some (encQ x), none, some d, none]) (f := fC (.int 4)) (m := 4) rfl hd (by decide) (fun _ => rfl)
    exact ⟨_, .int (j : Nat), _, put_nm, e1, ⟨j, rfl, hj⟩, ds1, none, rfl, rfl, h1⟩)
    [some (.list ds), some (.int (n : Nat)), some (encQ x), none, none, none] ⟨ds, none, rfl, rfl, hd⟩
  obtain ⟨ys, ρ', e2, q2, l2, ds2, b, rfl, rfl, h2⟩ := key
  have hns : ∃ ns : List Nat, ys = ns.map (fun n => PyData.int (n : Nat)) ∧ ∀ m ∈ ns, m < 4 := by
    clear e2 l2
    induction ys with
    | nil => exact ⟨[], rfl, fun _ h => nomatch h⟩
    | cons y ys ih =>
      obtain ⟨j, rfl, hj⟩ := q2 y (List.mem_cons_self ..)
      obtain ⟨ns, rfl, hn⟩ := ih fun y hy => q2 y (List.mem_cons_of_mem _ hy)
      exact ⟨j :: ns, rfl, fun m hm => (List.mem_cons.mp hm).elim (fun e => e ▸ hj) (hn m)⟩
  obtain ⟨ns, rfl, hn4⟩ := hns
  simp only [List.length_map, List.length_range] at l2
  match ns, l2 with
  | n0 :: ns, l2 =>
  have h0 := hn4 n0 (List.mem_cons_self ..)
  generalize hms : (n0 + 1) :: ns = ms
  have hml : ms.length = n := by rw [← hms]; simpa using l2
  have hm4 : ∀ m ∈ ms, m ≤ 4 := fun m hm => by
    rw [← hms] at hm
    rcases List.mem_cons.mp hm with rfl | hm
    · omega
    · have := hn4 m (List.mem_cons_of_mem _ hm); omega
  have hms0 : 0 < ms.sum := by rw [← hms, List.sum_cons]; omega
  have hmsle := nat_sum_le hm4
  have hS : ms.sum < 2 ^ 6 := by rw [hml] at hmsle; omega
  have hq : ∀ m ∈ ms, m__law_least [.int (m : Nat), .int (ms.sum : Nat)] = .ok (encQ (mkRat (m : Nat) ms.sum)) ∧ m__law_times [encQ x, encQ (mkRat (m : Nat) ms.sum)] = .ok (encQ (x * mkRat (m : Nat) ms.sum)) ∧ QB 10 (x * mkRat (m : Nat) ms.sum) := fun m hm => by
    have hb := mkRat_bits (n := m) (S := ms.sum) (by omega) (by have := hm4 m hm; omega) hS
    exact ⟨lleast_mk (by omega) (small_log (by omega)), ltimes_ok hx hb (by omega), (times_ok hx hb (by omega)).2⟩
  refine ⟨ms, ds2, ?_, h2, hml, hms0, fun q hq' => ?_⟩
  · show (sem__law_drawn [some (.list ds), some (.int (n : Nat)), some (encQ x), none, none, none] >>= fun r => endV r.1 >>= fun v => slot 0 r.2 >>= fun d => .ok (v, d)) = _
    unfold sem__law_drawn
    have e3 : eLc (.nm 4) [4] (eRg (eLA (fCons (fVar 1) fNil))) egYes (eOp dMod (eN dInt (eCons (eCallM 0 m__law_next (eLA fNil)) eNil)) (eL (fC (.int 4)))) [some (.list ds), some (.int (n : Nat)), some (encQ x), none, none, none] = .ok (.list ((n0 :: ns).map fun n => PyData.int (n : Nat)), [some (.list ds2), some (.int (n : Nat)), some (encQ x), none, none, none]) := by
      have z : ((n0 :: ns).map fun n => PyData.int (n : Nat)).length ≤ sizeLine := by rw [List.length_map, sz]; omega
      unfold eLc
      rw [eRg_ok' (n := n) rfl (by omega)]
      simp only [ok_bind]
      have w : wipeE [some (.list ds), some (.int (n : Nat)), some (encQ x), none, none, none] [4] = [some (.list ds), some (.int (n : Nat)), some (encQ x), none, none, none] := rfl
      rw [w, e2]
      simp only [ok_bind, lstE, if_pos z]
    rw [seq_nx (ρ' := [some (.list ds2), some (.int (n : Nat)), some (encQ x), some (.list ((n0 :: ns).map fun n => PyData.int (n : Nat))), none, none]) (by rw [sSet_ok, e3]; rfl)]
    have st := store_ok2 (i := 3) (f := fOp dAdd (fOp ixD (fVar 3) (fC (.int 0))) (fC (.int 1))) (g := fC (.int 0)) (j := 0) (ρ := [some (.list ds2), some (.int (n : Nat)), some (encQ x), some (.list ((n0 :: ns).map fun n => PyData.int (n : Nat))), none, none]) (fOp_ok' (fIx_ok' rfl rfl (show ixD (.list ((n0 :: ns).map fun n => PyData.int (n : Nat))) (.int 0) = some (.int (n0 : Nat)) from ixD_list (by decide) rfl)) rfl dAdd_int) rfl rfl (by simp)
    have em : ((n0 :: ns).map fun n => PyData.int (n : Nat)).set 0 (.int ((n0 : Nat) + 1)) = ms.map fun n => PyData.int (n : Nat) := by
      rw [← hms]; simp
    rw [em] at st
    rw [seq_nx st]
    simp only [List.set_cons_succ, List.set_cons_zero]
    have hfl : flatL (ms.map fun n => PyData.int (n : Nat)) = true := flatL_iff.mpr fun d hd => by
      obtain ⟨r, _, rfl⟩ := List.mem_map.mp hd; rfl
    have hi : fItF (fVar 3) [some (.list ds2), some (.int (n : Nat)), some (encQ x), some (.list (ms.map fun n => PyData.int (n : Nat))), none, none] = .ok (ms.map fun n => PyData.int (n : Nat)) := by
      unfold fItF
      simp only [fVar_succ, fVar_zero, ok_bind, itemsD, ofO_some, hfl, if_true]
    have e4 := lc_enc (t := .nm 5) (own := [5]) (fe := fCall m__law_times (fCons (fVar 2) (fCons (fCall m__law_least (fCons (fVar 5) (fCons (fN dSum (fCons (fVar 3) fNil)) fNil))) fNil))) (fun n : Nat => PyData.int (n : Nat)) (fun m => encQ (x * mkRat (m : Nat) ms.sum)) ms hi (by omega) fun m hm => ⟨[some (.list ds2), some (.int (n : Nat)), some (encQ x), some (.list (ms.map fun n => PyData.int (n : Nat))), none, some (.int (m : Nat))], rfl, fCall2 rfl (fCall2 rfl (fN1 rfl (dSum_nat ms)) (hq m hm).1) (hq m hm).2.1⟩
    have e5 : (ms.map fun m => encQ (x * mkRat (m : Nat) ms.sum)) = (drawnL x ms).map encQ := by simp [drawnL, Function.comp_def]
    rw [e5] at e4
    rw [ret_ok' (fN1 e4 (dTupleL flatQs))]
    rfl
  · obtain ⟨m, hm, rfl⟩ := List.mem_map.mp hq'
    exact (hq m hm).2.2
  | [], l2 => exact absurd l2 (by show ¬ (0 = n); omega)
/-! ### _law_greatest of equal ones -/
def gtF : FS := sSet 1 (eL (fIf (gTru dTru (fCall m__law_is_less (fCons (fVar 1) (fCons (fVar 2) fNil)))) (fVar 2) (fVar 1)))
theorem gt_loop {X : PyData} (hq : QB k q) (hk : k + k ≤ 8000) : ∀ (n : Nat) (t : Option PyData), ∃ t', sForL (.nm 2) gtF ((List.replicate n q).map encQ) [some X, some (encQ q), t] = .ok (.nx, [some X, some (encQ q), t'])
  | 0, t => ⟨t, rfl⟩
  | n + 1, t => by
    obtain ⟨t', e⟩ := gt_loop (X := X) hq hk n (some (encQ q))
    refine ⟨t', ?_⟩
    rw [List.replicate_succ, List.map_cons]
    unfold sForL
    have h := gTru_ok' (fCall2 (m := m__law_is_less) (f := fVar 1) (g := fVar 2) (ρ := [some X, some (encQ q), some (encQ q)]) rfl rfl (isless_ok hq hq hk))
    have hn : decide (q < q) = false := decide_eq_false (by grind)
    rw [hn] at h
    have s1 : gtF [some X, some (encQ q), some (encQ q)] = .ok (.nx, [some X, some (encQ q), some (encQ q)]) := set_ok' ((fIf_no h).trans rfl)
    simp only [put_nm, ok_bind, List.set_cons_succ, List.set_cons_zero, s1]
    exact e
theorem greatest_ok (hq : QB k q) (hk : k + k ≤ 8000) (n : Nat) : m__law_greatest [.list ((List.replicate (n + 1) q).map encQ)] = .ok (encQ q) := by
  obtain ⟨t', e⟩ := gt_loop (X := .list ((List.replicate (n + 1) q).map encQ)) hq hk (n + 1) none
  show (sem__law_greatest [some (.list ((List.replicate (n + 1) q).map encQ)), none, none] >>= fun r => endV r.1) = _
  unfold sem__law_greatest
  rw [seq_nx (set_ok' (fIx_ok' rfl rfl (show ixD (.list ((List.replicate (n + 1) q).map encQ)) (.int 0) = some (encQ q) from ixD_list (by decide) (by simp))))]
  simp only [List.set_cons_succ, List.set_cons_zero]
  have s3 := (show sFor (.nm 2) (eIt (eL (fVar 0))) gtF [some (.list ((List.replicate (n + 1) q).map encQ)), some (encQ q), none] = sForL (.nm 2) gtF ((List.replicate (n + 1) q).map encQ) [some (.list ((List.replicate (n + 1) q).map encQ)), some (encQ q), none] from by
    rw [sFor_ok, eIt_ok' rfl rfl]; rfl).trans e
  unfold gtF at s3
  rw [seq_nx s3]
  rfl
/-! ### papers that are wrong -/
def wTup (n : Nat) (v : PyData) : PyData := .tuple (List.replicate n v)
theorem flatten_rep (n : Nat) (v : PyData) : (List.replicate n [v]).flatten = List.replicate n v := by
  induction n with
  | zero => rfl
  | succ n ih => rw [List.replicate_succ, List.flatten_cons, ih]; rfl
theorem dMulT_ok {v : PyData} (hv : flat v = true) {n : Nat} (h1 : 1 ≤ n) (h2 : n ≤ 1000) : dMulT (.tuple [v]) (.int (n : Nat)) = some (wTup n v) := by
  have hf : flatL [v] = true := by simp [flatL, hv]
  by_cases h : n = 1
  · subst h
    have e1 : dMul (.tuple [v]) (.int ((1 : Nat) : Int)) = none := by
      simp [dMul, iMul, iOp, lMul, tMul]
    unfold dMulT
    rw [e1]
    simp [tMul1, hf, wTup]
  · have e1 : dMul (.tuple [v]) (.int (n : Int)) = some (.tuple (List.replicate n [v]).flatten) := by
      have c1 : (2 : Int) ≤ (n : Int) := by omega
      have c2 : (n : Int) ≤ 1000 := by omega
      simp [dMul, iMul, iOp, lMul, tMul, hf, c1, c2]
    unfold dMulT
    rw [e1, flatten_rep]
    rfl
def badEl (v : PyData) : Prop := fAnd (fCall m_is_fraction (fCons (fC v) fNil)) (fOfB (gCmp dGe (fOp ixD (fC v) (fC (.int 0))) (fC (.int 0)))) [] = .ok (.bool false)
theorem all_rep {t : Tg} {own : List Nat} {ρ : Env} {fi : Env → R (List PyData)} {fe : Env → R PyData} {n : Nat} {v : PyData} (h1 : 1 ≤ n) (hn : n ≤ 1000) (hi : fi ρ = .ok (List.replicate n v)) (h : ∃ ρ1, put t v (wipeE ρ own) = .ok ρ1 ∧ fe ρ1 = .ok (.bool false)) : fN dAll (fCons (fLc t own fi gYes fe) fNil) ρ = .ok (.bool false) := by
  have e := all_enc (t := t) (own := own) (fi := fi) (fe := fe) (ρ := ρ) (fun _ : Nat => v) (fun _ => false) (List.range n) (by rw [hi]; simp [List.map_const']) (by simp; omega) fun _ _ => h
  rw [e]
  have : (List.range n).all (fun _ => false) = false := by
    cases n with
    | zero => omega
    | succ n => simp [List.range_succ_eq_map]
  rw [this]
/-- not a fraction from 0 on -/
def Bad (v : PyData) : Prop := (∀ (f : Env → R PyData) (ρ : Env), f ρ = .ok v → fAnd (fCall m_is_fraction (fCons f fNil)) (fOfB (gCmp dGe (fOp ixD f (fC (.int 0))) (fC (.int 0)))) ρ = .ok (.bool false)) ∧ (∀ (f : Env → R PyData) (ρ : Env), f ρ = .ok v → fAnd (fCall m__law_is_fraction (fCons f fNil)) (fOfB (gCmp dGe (fOp ixD f (fC (.int 0))) (fC (.int 0)))) ρ = .ok (.bool false))
theorem fAnd_no {t u : Env → R PyData} {ρ : Env} (h : t ρ = .ok (.bool false)) : fAnd t u ρ = .ok (.bool false) := by unfold fAnd; rw [h]; rfl
def v24 : PyData := .tuple [.int 2, .int 4]
def vm11 : PyData := .tuple [.int (-1), .int 1]
theorem f24 : m_is_fraction [v24] = .ok (.bool false) := by kernel_rfl
theorem lf24 : m__law_is_fraction [v24] = .ok (.bool false) := by kernel_rfl
theorem bad24 : Bad v24 := ⟨fun f ρ h => fAnd_no (fCall1 h f24), fun f ρ h => fAnd_no (fCall1 h lf24)⟩
theorem badm11 : Bad vm11 := ⟨fun f ρ h => fAnd_ok' (b := true) (c := false) (fCall1 h (by kernel_rfl)) (fCmp_ok' (fIx_ok' h rfl (show ixD vm11 (.int 0) = some (.int (-1)) from rfl)) rfl rfl), fun f ρ h => fAnd_ok' (b := true) (c := false) (fCall1 h (by kernel_rfl)) (fCmp_ok' (fIx_ok' h rfl (show ixD vm11 (.int 0) = some (.int (-1)) from rfl)) rfl rfl)⟩
theorem isp_W {v : PyData} (hv : Bad v) {n : Nat} (h1 : 1 ≤ n) (hn : n ≤ 1000) : m_is_parting [.int (n : Nat), wTup n v] = .ok (.bool false) := by
  refine run_ret (n := 3) ?_
  have h := fAnd_ok' (fCmp_ok' (o := dEq) (f := fN dLen (fCons (fVar 1) fNil)) (g := fVar 0) (ρ := [some (.int (n : Nat)), some (wTup n v), none]) (fN1 rfl (show dLen [wTup n v] = some (.int (n : Nat)) by simp [wTup, dLen])) rfl dEq_int) (all_rep (t := .nm 2) (own := [2]) (fi := fIt (fVar 1)) h1 hn (fIt_ok' rfl rfl) ⟨_, put_nm, hv.1 (fVar 2) _ rfl⟩)
  exact h.trans (by simp)
theorem lisp_W {v : PyData} (hv : Bad v) {n : Nat} (h1 : 1 ≤ n) (hn : n ≤ 1000) {Y : PyData} : m__law_is_parting [wTup n v, .int (n : Nat), Y] = .ok (.bool false) := by
  refine run_ret (n := 4) ?_
  have a := all_rep (t := .nm 3) (own := [3]) (fi := fIt (fVar 0)) (ρ := [some (wTup n v), some (.int (n : Nat)), some Y, none]) h1 hn (fIt_ok' rfl rfl) ⟨_, put_nm, hv.2 (fVar 3) _ rfl⟩
  have h : fAnd (fOfB (gCmp dEq (fN dLen (fCons (fVar 0) fNil)) (fVar 1))) (fAnd (fN dAll (fCons (fLc (.nm 3) [3] (fIt (fVar 0)) gYes (fAnd (fCall m__law_is_fraction (fCons (fVar 3) fNil)) (fOfB (gCmp dGe (fOp ixD (fVar 3) (fC (.int 0))) (fC (.int 0)))))) fNil)) (fOfB (gCmp dEq (fCall m__law_total (fCons (fN dList (fCons (fVar 0) fNil)) fNil)) (fVar 2)))) [some (wTup n v), some (.int (n : Nat)), some Y, none] = .ok (.bool (((n : Int) == (n : Int)) && false)) :=
    fAnd_ok' (fCmp_ok' (o := dEq) (g := fVar 1) (fN1 rfl (show dLen [wTup n v] = some (.int (n : Nat)) by simp [wTup, dLen])) rfl dEq_int) (fAnd_no a)
  exact h.trans (by simp)
/-- both judges say False of a paper -/
def Agree (Rs : List Road) (x : Rat) (pp : PyData) : Prop := ∃ b : Bool, due 6 (encRs Rs) (encQ x) pp = .ok (.bool b) ∧ m__law_is_right [encRs Rs, encQ x, pp] = .ok (.bool b)
theorem lenRs : dLen [encRs Rs] = some (.int (Rs.length : Nat)) := by simp [encRs, dLen]
theorem judge_no {W H : PyData} (ha : areRoads Rs = true) (hx : isAmount x = true) (hR : BR k Rs) (hq : QB l x) (hk : k ≤ 600) (hl' : l ≤ 600) (h1 : m_is_parting [.int (Rs.length : Nat), W] = .ok (.bool false)) : m_is_level_paper [encRs Rs, encQ x, .tuple [W, H]] = .ok (.bool false) := by
  show (sem_is_level_paper [some (encRs Rs), some (encQ x), some (.tuple [W, H]), none, none, none, none, none] >>= fun r => endV r.1) = _
  unfold sem_is_level_paper
  rw [seq_nx (drop_ok' (fCall2 rfl rfl (check_ok ha hx hR hq (by omega) (by omega))))]
  rw [seq_nx (unp2 (a := W) (b := H) rfl)]
  have es : sets [3, 4] [W, H] [some (encRs Rs), some (encQ x), some (.tuple [W, H]), none, none, none, none, none] = [some (encRs Rs), some (encQ x), some (.tuple [W, H]), some W, some H, none, none, none] := rfl
  rw [es]
  have t := gNot_ok' (gTru_ok' (fCall2 (m := m_is_parting) (f := fN dLen (fCons (fVar 0) fNil)) (g := fVar 3) (ρ := [some (encRs Rs), some (encQ x), some (.tuple [W, H]), some W, some H, none, none, none]) (fN1 rfl lenRs) rfl h1))
  have t2 : ∀ u : Env → R Bool, gOr (gNot (gTru dTru (fCall m_is_parting (fCons (fN dLen (fCons (fVar 0) fNil)) (fCons (fVar 3) fNil))))) u [some (encRs Rs), some (encQ x), some (.tuple [W, H]), some W, some H, none, none, none] = .ok true := fun u => by rw [gOr_ok, t]; rfl
  rw [seq_rt (by rw [if_yes (t2 _)]; rfl)]
  rfl
theorem lright_no {W H Y : PyData} (h1 : m__law_is_parting [W, .int (Rs.length : Nat), Y] = .ok (.bool false)) : m__law_is_right [encRs Rs, Y, .tuple [W, H]] = .ok (.bool false) := by
  show (sem__law_is_right [some (encRs Rs), some Y, some (.tuple [W, H]), none, none] >>= fun r => endV r.1) = _
  unfold sem__law_is_right
  rw [seq_nx (unp2 (a := W) (b := H) rfl)]
  have es : sets [3, 4] [W, H] [some (encRs Rs), some Y, some (.tuple [W, H]), none, none] = [some (encRs Rs), some Y, some (.tuple [W, H]), some W, some H] := rfl
  rw [es, ret_ok' (fAnd_no (fCall3 (m := m__law_is_parting) rfl (fN1 rfl lenRs) rfl h1))]
  rfl
theorem agree_W (ha : areRoads Rs = true) (hx : isAmount x = true) (hR : BR k Rs) (hq : QB l x) (hk : k ≤ 600) (hl' : l ≤ 600) {v H : PyData} (hv : Bad v) : Agree Rs x (.tuple [wTup Rs.length v, H]) := by
  obtain ⟨hO, hl⟩ := areRoads_ok ha
  have h1 : 1 ≤ Rs.length := List.length_pos_iff.mpr hO.1
  exact ⟨false, judge_no ha hx hR hq hk hl' (isp_W hv h1 (by omega)), lright_no (lisp_W hv h1 (by omega))⟩
theorem agree_P (ha : areRoads Rs = true) (hx : isAmount x = true) (hR : BR k Rs) (hq : QB l x) (hk : k ≤ 600) (hl' : l ≤ 600) {h : Rat} (hp : Qb e ps) (hh : QB m h) (hb : 2 * k + e + 1 + m ≤ 4000) (hpl : ps.length ≤ 8) (hke : 1 + 8 * (e + 1) ≤ 7000) (hke2 : k + e ≤ 600) (hm : m ≤ 8000) : Agree Rs x (encP (ps, h)) :=
  ⟨right Rs x ps h, judge_ok ha hx hR hq hk hl' hp hh hb hpl hke, lright_ok hR hp hh hb hke2 hm hpl (areRoads_ok ha).2⟩
/-- a parting, a level that is none -/
theorem agree_H (ha : areRoads Rs = true) (hx : isAmount x = true) (hR : BR k Rs) (hq : QB l x) (hk : k ≤ 600) (hl' : l ≤ 600) (hp : Qb e ps) (hpl : ps.length ≤ 8) (hke : 1 + 8 * (e + 1) ≤ 7000) (h1 : isP Rs.length ps = true) (h2 : ps.sum = x) : Agree Rs x (.tuple [encQs ps, v24]) := by
  have hmm : ps.length * (e + 1) ≤ 8 * (e + 1) := Nat.mul_le_mul_right _ hpl
  refine ⟨false, ?_, ?_⟩
  · show m_is_level_paper _ = _
    show (sem_is_level_paper [some (encRs Rs), some (encQ x), some (.tuple [encQs ps, v24]), none, none, none, none, none] >>= fun r => endV r.1) = _
    unfold sem_is_level_paper
    rw [seq_nx (drop_ok' (fCall2 rfl rfl (check_ok ha hx hR hq (by omega) (by omega))))]
    rw [seq_nx (unp2 (a := encQs ps) (b := v24) rfl)]
    have es : sets [3, 4] [encQs ps, v24] [some (encRs Rs), some (encQ x), some (.tuple [encQs ps, v24]), none, none, none, none, none] = [some (encRs Rs), some (encQ x), some (.tuple [encQs ps, v24]), some (encQs ps), some v24, none, none, none] := rfl
    rw [es]
    have t := gOr_ok' (gNot_ok' (gTru_ok' (fCall2 (m := m_is_parting) (f := fN dLen (fCons (fVar 0) fNil)) (g := fVar 3) (ρ := [some (encRs Rs), some (encQ x), some (.tuple [encQs ps, v24]), some (encQs ps), some v24, none, none, none]) (fN1 rfl lenRs) rfl (isp_ok hp (by omega) (by omega) Rs.length)))) (gOr_ok' (gCmp_ok' (o := dNe) (fCall1 (m := m_total) (f := fVar 3) rfl (total_ok (x := encQs ps) rfl hp (by omega)).1) (fN1 (f := fVar 1) rfl dTupleQ') dNeQ) (gNot_ok' (gTru_ok' (fCall1 (m := m_is_fraction) (f := fVar 4) rfl f24))))
    unfold isP at h1
    rw [h1] at t
    rw [seq_rt (by rw [if_yes (t.trans (by simp))]; rfl)]
    rfl
  · show (sem__law_is_right [some (encRs Rs), some (encQ x), some (.tuple [encQs ps, v24]), none, none] >>= fun r => endV r.1) = _
    unfold sem__law_is_right
    rw [seq_nx (unp2 (a := encQs ps) (b := v24) rfl)]
    have es : sets [3, 4] [encQs ps, v24] [some (encRs Rs), some (encQ x), some (.tuple [encQs ps, v24]), none, none] = [some (encRs Rs), some (encQ x), some (.tuple [encQs ps, v24]), some (encQs ps), some v24] := rfl
    rw [es]
    have a := fCall3 (m := m__law_is_parting) (f := fVar 3) (g := fN dLen (fCons (fVar 0) fNil)) (j := fVar 1) (ρ := [some (encRs Rs), some (encQ x), some (.tuple [encQs ps, v24]), some (encQs ps), some v24]) rfl (fN1 rfl lenRs) rfl (lisp_core (x := x) hp (by omega) (by omega) Rs.length)
    rw [h1, h2] at a
    rw [ret_ok' (fAnd_ok' (c := false) a (fAnd_no (fCall1 (m := m__law_is_fraction) (f := fVar 4) rfl lf24)))]
    simp [endV]
/-! ### calls that are wrong -/
theorem due_check {X Y Z : PyData} {c : Ex} (h : m_check_amount [X, Y] = .ex c) {way : Nat} (hw : way = 0 ∨ way = 1 ∨ way = 2 ∨ way = 3 ∨ way = 4 ∨ way = 6) : due way X Y Z = .ex c := by
  have hb : m_best_parting [X, Y] = .ex c := by
    show (sem_best_parting [some X, some Y] >>= fun r => endV r.1) = _
    unfold sem_best_parting
    rw [seq_ex (drop_ex (fCall2 rfl rfl h))]; rfl
  rcases hw with rfl | rfl | rfl | rfl | rfl | rfl
  · show (sem_level [some X, some Y] >>= fun r => endV r.1) = _
    unfold sem_level
    rw [seq_ex (drop_ex (fCall2 rfl rfl h))]; rfl
  · show (sem_level_paper [some X, some Y] >>= fun r => endV r.1) = _
    unfold sem_level_paper
    rw [seq_ex (drop_ex (fCall2 rfl rfl h))]; rfl
  · exact hb
  · show (sem_least_stream_sum [some X, some Y] >>= fun r => endV r.1) = _
    unfold sem_least_stream_sum
    have : fCall m_sum_by (fCons (fVar 0) (fCons (fCall m_best_parting (fCons (fVar 0) (fCons (fVar 1) fNil))) fNil)) [some X, some Y] = .ex c := by
      rw [fCall_ok, fCons_ok, fVar_zero]
      simp only [ok_bind]
      rw [fCons_ok, fCall2 rfl rfl hb]; rfl
    rw [sRet_ok, eL_ok, this]; rfl
  · show (sem_tolls [some X, some Y, none, none, none] >>= fun r => endV r.1) = _
    unfold sem_tolls
    have : fZip (fCons (fVar 0) (fCons (fCall m_best_parting (fCons (fVar 0) (fCons (fVar 1) fNil))) fNil)) [some X, some Y, none, none, none] = .ex c := by
      unfold fZip
      rw [fCons_ok, fVar_zero]
      simp only [ok_bind]
      rw [fCons_ok, fCall2 rfl rfl hb]; rfl
    have h2 : fLc (.tp [(.tp [(.nm 3), (.nm 4)]), (.nm 2)]) [3, 4, 2] (fZip (fCons (fVar 0) (fCons (fCall m_best_parting (fCons (fVar 0) (fCons (fVar 1) fNil))) fNil))) gYes (fCall m_times (fCons (fVar 4) (fCons (fVar 2) fNil))) [some X, some Y, none, none, none] = .ex c := by
      unfold fLc; rw [this]; rfl
    rw [sRet_ok, eL_ok, fN_ok, fCons_ok, h2]; rfl
  · show (sem_is_level_paper [some X, some Y, some Z, none, none, none, none, none] >>= fun r => endV r.1) = _
    unfold sem_is_level_paper
    rw [seq_ex (drop_ex (fCall2 rfl rfl h))]; rfl
theorem psum_table {X Y : PyData} (h : m_are_roads [X] = .ok (.bool false)) : m_parting_sum [X, Y] = .ex ⟨"NotTable", none⟩ := by
  show (sem_parting_sum [some X, some Y] >>= fun r => endV r.1) = _
  unfold sem_parting_sum
  have t1 := gNot_ok' (gTru_ok' (fCall1 (m := m_are_roads) (f := fVar 0) (ρ := [some X, some Y]) rfl h))
  rw [seq_ex (by rw [if_yes t1])]; rfl
theorem psum_number {Y : PyData} (ha : areRoads Rs = true) (hR : BR k Rs) (hk : k ≤ 600) (h : m_is_parting [.int (Rs.length : Nat), Y] = .ok (.bool false)) : m_parting_sum [encRs Rs, Y] = .ex ⟨"BadNumber", none⟩ := by
  show (sem_parting_sum [some (encRs Rs), some Y] >>= fun r => endV r.1) = _
  unfold sem_parting_sum
  have t1 := gNot_ok' (gTru_ok' (fCall1 (m := m_are_roads) (f := fVar 0) (ρ := [some (encRs Rs), some Y]) rfl (roads_ok (by have := (areRoads_ok ha).2; omega) (by omega) hR)))
  rw [ha] at t1
  have t2 := gNot_ok' (gTru_ok' (fCall2 (m := m_is_parting) (f := fN dLen (fCons (fVar 0) fNil)) (g := fVar 1) (ρ := [some (encRs Rs), some Y]) (fN1 rfl lenRs) rfl h))
  rw [seq_nx (if_no t1), seq_ex (by rw [if_yes t2])]; rfl
end
def wrongL : List PyData := [.tuple [], .tuple (List.replicate 9 (.tuple [.tuple [.int 1, .int 1], .tuple [.int 0, .int 1]])), .tuple [.tuple [.tuple [.int 0, .int 1], .tuple [.int 0, .int 1]]], .tuple [.tuple [.tuple [.int 2, .int 4], .tuple [.int 1, .int 1]]], .tuple [.tuple [.tuple [.int (-1), .int 1], .tuple [.int 1, .int 1]]], .tuple [.tuple [.tuple [.int 1001, .int 1], .tuple [.int 1, .int 1]]], .tuple [.tuple [.tuple [.int 1, .int 1], .tuple [.int 1, .int 1001]]]]
theorem wrong_ok : m__law_wrong_roads [] = .ok (.list wrongL) := by kernel_rfl
def isNo (X : PyData) : Bool := match m_are_roads [X] with
  | .ok (.bool false) => true
  | _ => false
theorem wrong_all : wrongL.all isNo = true := by kernel_rfl
theorem wrong_no {X : PyData} (h : X ∈ wrongL) : m_are_roads [X] = .ok (.bool false) := by
  have := List.all_eq_true.mp wrong_all X h
  unfold isNo at this
  split at this
  · assumption
  · cases this
def farL : List PyData := [.tuple [.int 0, .int 1], .tuple [.int (-1), .int 1], .tuple [.int 2, .int 4], .tuple [.int 1001, .int 1]]
def isNoA (X : PyData) : Bool := match m_is_amount [X] with
  | .ok (.bool false) => true
  | _ => false
theorem far_all : farL.all isNoA = true := by kernel_rfl
theorem far_no {X : PyData} (h : X ∈ farL) : m_is_amount [X] = .ok (.bool false) := by
  have := List.all_eq_true.mp far_all X h
  unfold isNoA at this
  split at this
  · assumption
  · cases this
end PV
end

set_option Elab.async false
set_option linter.all false
set_option maxRecDepth 100000
set_option maxHeartbeats 1000000
set_option autoImplicit false
/-! k52: what is known of the slots. -/
noncomputable section
namespace PV
open PySem PySem.Spec PyProof.Rows L2 S52
theorem two_ok {ρ : Env} : fTup (fCons (fC (.int 2)) (fCons (fC (.int 1)) fNil)) ρ = .ok (encQ 2) := fTup2 (x := .int 2) (y := .int 1) rfl rfl
theorem eCallM_gen {i : Nat} {m : PyData → List PyData → R (PyData × PyData)} {f : Env → R (List PyData × Env)} {ρ ρ1 : Env} {d0 d1 d2 v : PyData} {xs : List PyData} (h1 : PV.slot i ρ = .ok d0) (h2 : f ρ = .ok (xs, ρ1)) (h3 : PV.slot i ρ1 = .ok d1) (h4 : m d1 xs = .ok (v, d2)) : eCallM i m f ρ = .ok (v, ρ1.set i (some d2)) := by
  rw [eCallM_ok, h1]
  simp only [ok_bind, h2, h3, h4]
theorem eLA2 {f g : Env → R PyData} {ρ : Env} {a b : PyData} (hf : f ρ = .ok a) (hg : g ρ = .ok b) : eLA (fCons f (fCons g fNil)) ρ = .ok ([a, b], ρ) := by
  rw [eLA_ok, fCons_ok, hf]
  simp only [ok_bind, fCons_ok, hg, fNil_ok]
theorem eLA1 {f : Env → R PyData} {ρ : Env} {a : PyData} (hf : f ρ = .ok a) : eLA (fCons f fNil) ρ = .ok ([a], ρ) := by
  rw [eLA_ok, fCons_ok, hf]
  simp only [ok_bind, fNil_ok]
abbrev Mp := Nat → Option PyData
def mset (m : Mp) (i : Nat) (d : PyData) : Mp := fun j => if j = i then some d else m j
def mrem (m : Mp) (i : Nat) : Mp := fun j => if j = i then none else m j
def Kn (n : Nat) (ρ : Env) (m : Mp) : Prop := ρ.length = n ∧ ∀ i d, m i = some d → ρ[i]? = some (some d)
section
variable {n i j : Nat} {ρ : Env} {m m' : Mp} {d e : PyData}
theorem Kn.get (h : Kn n ρ m) (he : m i = some d) : fVar i ρ = .ok d := by
  have := h.2 i d he
  simp [fVar, this]
theorem Kn.slot (h : Kn n ρ m) (he : m i = some d) : PV.slot i ρ = .ok d := by
  have := h.2 i d he
  simp [PV.slot, this]
theorem Kn.set (h : Kn n ρ m) (hi : i < n) (d : PyData) : Kn n (ρ.set i (some d)) (mset m i d) := by
  refine ⟨by simp [h.1], fun j e he => ?_⟩
  unfold mset at he
  by_cases hij : j = i
  · rw [if_pos hij] at he
    cases he
    subst hij
    rw [List.getElem?_set_self (by rw [h.1]; exact hi)]
  · rw [if_neg hij] at he
    rw [List.getElem?_set_ne (by omega)]
    exact h.2 j e he
theorem Kn.rem (h : Kn n ρ m) (i : Nat) : Kn n (ρ.set i none) (mrem m i) := by
  refine ⟨by simp [h.1], fun j e he => ?_⟩
  unfold mrem at he
  by_cases hij : j = i
  · rw [if_pos hij] at he; cases he
  · rw [if_neg hij] at he
    rw [List.getElem?_set_ne (by omega)]
    exact h.2 j e he
theorem Kn.weak (h : Kn n ρ m) (hm : ∀ i d, m' i = some d → m i = some d) : Kn n ρ m' := ⟨h.1, fun i d e => h.2 i d (hm i d e)⟩
theorem Kn.wipe1 (h : Kn n ρ m) (i : Nat) : Kn n (wipeE ρ [i]) (mrem m i) := h.rem i
theorem Kn.wipe2 (h : Kn n ρ m) (i j : Nat) : Kn n (wipeE ρ [i, j]) (mrem (mrem m j) i) := (h.rem j).rem i
theorem Kn.sets2 (h : Kn n ρ m) (hi : i < n) (hj : j < n) (a b : PyData) : Kn n (sets [i, j] [a, b] ρ) (mset (mset m i a) j b) := (h.set hi a).set hj b
theorem Kn.unset (h : Kn n ρ (mset m j d)) (hn : m j = none) : Kn n ρ m := h.weak fun i e he => by
  unfold mset
  rw [if_neg (fun hij => by rw [hij, hn] at he; cases he)]
  exact he
theorem Kn.dup (h : Kn n ρ (mset (mset m j d) j e)) : Kn n ρ (mset m j e) := h.weak fun i f he => by
  unfold mset at *
  by_cases hij : i = j
  · rw [if_pos hij] at he ⊢; exact he
  · rw [if_neg hij] at he ⊢; rw [if_neg hij]; exact he
theorem Kn.unrem (h : Kn n ρ (mrem m j)) (hn : m j = none) : Kn n ρ m := h.weak fun i e he => by
  unfold mrem
  rw [if_neg (fun hij => by rw [hij, hn] at he; cases he)]
  exact he
theorem step_e {f : FE} {ρ1 : Env} (hf : f ρ = .ok (d, ρ1)) (h : Kn n ρ1 m) (hi : i < n) : ∃ ρ', sSet i f ρ = .ok (.nx, ρ') ∧ Kn n ρ' (mset m i d) := ⟨_, by rw [sSet_ok, hf]; rfl, h.set hi d⟩
/-- a statement's step -/
theorem step_set {f : Env → R PyData} (h : Kn n ρ m) (hi : i < n) (hf : f ρ = .ok d) : ∃ ρ', sSet i (eL f) ρ = .ok (.nx, ρ') ∧ Kn n ρ' (mset m i d) := ⟨_, set_ok' hf, h.set hi d⟩
theorem step_unp {f : Env → R PyData} {a b : PyData} (h : Kn n ρ m) (hi : i < n) (hj : j < n) (hf : f ρ = .ok (.tuple [a, b])) : ∃ ρ', sUnp [i, j] (eL f) ρ = .ok (.nx, ρ') ∧ Kn n ρ' (mset (mset m i a) j b) := ⟨_, unp2 hf, h.sets2 hi hj a b⟩
end
section
variable {α : Type} {n i : Nat} {ρ : Env} {m : Mp}
/-- [fe for i in ..], the slots known -/
theorem kn_lc {fi : Env → R (List PyData)} {fe : Env → R PyData} (hk : Kn n ρ m) (hin : i < n) (enc : α → PyData) (g : α → PyData) (xs : List α) (hi : fi ρ = .ok (xs.map enc)) (hl : xs.length ≤ 1000000) (h : ∀ x ∈ xs, ∀ ρ1, Kn n ρ1 (mset (mrem m i) i (enc x)) → fe ρ1 = .ok (g x)) : fLc (.nm i) [i] fi gYes fe ρ = .ok (.list (xs.map g)) :=
  lc_enc enc g xs hi hl fun x hx => ⟨_, put_nm, h x hx _ ((hk.wipe1 i).set hin _)⟩
theorem kn_filt {fi : Env → R (List PyData)} {ft : Env → R Bool} {fe : Env → R PyData} (hk : Kn n ρ m) (hin : i < n) (enc : α → PyData) (c : α → Bool) (g : α → PyData) (xs : List α) (hi : fi ρ = .ok (xs.map enc)) (hl : xs.length ≤ 1000000) (h : ∀ x ∈ xs, ∀ ρ1, Kn n ρ1 (mset (mrem m i) i (enc x)) → ft ρ1 = .ok (c x) ∧ (c x = true → fe ρ1 = .ok (g x))) : fLc (.nm i) [i] fi ft fe ρ = .ok (.list ((xs.filter c).map g)) :=
  lc_filt enc c g xs hi hl fun x hx => ⟨_, put_nm, h x hx _ ((hk.wipe1 i).set hin _)⟩
theorem kn_any {fi : Env → R (List PyData)} {fe : Env → R PyData} (hk : Kn n ρ m) (hin : i < n) (enc : α → PyData) (xs : List α) (hi : fi ρ = .ok (xs.map enc)) (hl : xs.length ≤ 1000000) (h : ∀ x ∈ xs, ∀ ρ1, Kn n ρ1 (mset (mrem m i) i (enc x)) → fe ρ1 = .ok (.bool false)) : fN dAny (fCons (fLc (.nm i) [i] fi gYes fe) fNil) ρ = .ok (.bool false) := by
  have e := any_enc (t := .nm i) (own := [i]) enc (fun _ => false) xs hi hl fun x hx => ⟨_, put_nm, h x hx _ ((hk.wipe1 i).set hin _)⟩
  rw [e]
  have : xs.any (fun _ => false) = false := by simp
  rw [this]
/-- the same, stored within itself -/
theorem kn_elc {fi : Env → R (List PyData × Env)} {ft : Env → R Bool} {fe : Env → R PyData} (hk : Kn n ρ m) (hin : i < n) (enc : α → PyData) (c : α → Bool) (g : α → PyData) (xs : List α) (hi : fi ρ = .ok (xs.map enc, ρ)) (hl : xs.length ≤ 1000000) (h : ∀ x ∈ xs, ∀ ρ1, Kn n ρ1 (mset (mrem m i) i (enc x)) → ft ρ1 = .ok (c x) ∧ (c x = true → fe ρ1 = .ok (g x))) : eLc (.nm i) [i] fi (eLT ft) (eL fe) ρ = .ok (.list ((xs.filter c).map g), wipeE ρ [i]) :=
  eLc_filt enc c g xs hi rfl hl fun x hx => by
    obtain ⟨h1, h2⟩ := h x hx _ ((hk.wipe1 i).set hin (enc x))
    refine ⟨_, put_nm, h1, ?_, h2⟩
    show ((ρ.set i none).set i (some (enc x))).set i none = ρ.set i none
    rw [List.set_set, List.set_set]
theorem kn_elcm {fi : Env → R (List PyData × Env)} {fe : Env → R PyData} (hk : Kn n ρ m) (hin : i < n) (enc : α → PyData) (g : α → PyData) (xs : List α) (hi : fi ρ = .ok (xs.map enc, ρ)) (hl : xs.length ≤ 1000000) (h : ∀ x ∈ xs, ∀ ρ1, Kn n ρ1 (mset (mrem m i) i (enc x)) → fe ρ1 = .ok (g x)) : eLc (.nm i) [i] fi egYes (eL fe) ρ = .ok (.list (xs.map g), wipeE ρ [i]) :=
  eLc_map enc g xs hi rfl hl fun x hx => by
    have h2 := h x hx _ ((hk.wipe1 i).set hin (enc x))
    refine ⟨_, put_nm, ?_, h2⟩
    show ((ρ.set i none).set i (some (enc x))).set i none = ρ.set i none
    rw [List.set_set, List.set_set]
/-- a pair as the target -/
theorem kn_lc2 {j : Nat} {fi : Env → R (List PyData)} {fe : Env → R PyData} (hk : Kn n ρ m) (hin : i < n) (hjn : j < n) (a b : α → PyData) (g : α → PyData) (xs : List α) (hi : fi ρ = .ok (xs.map fun x => .tuple [a x, b x])) (hl : xs.length ≤ 1000000) (h : ∀ x ∈ xs, ∀ ρ1, Kn n ρ1 (mset (mset (mrem (mrem m j) i) i (a x)) j (b x)) → fe ρ1 = .ok (g x)) : fLc (.tp [.nm i, .nm j]) [i, j] fi gYes fe ρ = .ok (.list (xs.map g)) :=
  lc_enc (fun x => .tuple [a x, b x]) g xs hi hl fun x hx => ⟨_, put2, h x hx _ (((hk.wipe2 i j).set hin _).set hjn _)⟩
end
end PV
end

set_option Elab.async false
set_option linter.all false
set_option maxRecDepth 100000
set_option maxHeartbeats 4000000
set_option autoImplicit false
/-! k52: the law, to the drawn partings. -/
noncomputable section
namespace PV
open PySem PySem.Spec PyProof.Rows L2 S52
def Fin (r : R (Fl × Env)) : Prop := ∃ ρ', r = .ok (.rt (.bool true), ρ')
theorem go {f g : FS} {ρ : Env} {Q : Env → Prop} (h : ∃ ρ', f ρ = .ok (.nx, ρ') ∧ Q ρ') (k : ∀ ρ', Q ρ' → Fin (g ρ')) : Fin (sSeq f g ρ) := by
  obtain ⟨ρ', e, q⟩ := h
  rw [seq_nx e]; exact k ρ' q
theorem go_if {t : Env → R Bool} {f g : FS} {ρ : Env} (h : t ρ = .ok false) (k : Fin (g ρ)) : Fin (sSeq (sIf (eLT t) f sNil) g ρ) := by
  rw [seq_nx (if_no h)]; exact k
theorem gOr_no {t u : Env → R Bool} {ρ : Env} (h : t ρ = .ok false) (h2 : u ρ = .ok false) : gOr t u ρ = .ok false := gOr_ok' h h2
theorem gNot_no {t : Env → R Bool} {ρ : Env} (h : t ρ = .ok true) : gNot t ρ = .ok false := gNot_ok' h
theorem gTru_y {f : Env → R PyData} {ρ : Env} (h : f ρ = .ok (.bool true)) : gTru dTru f ρ = .ok true := gTru_ok' h
theorem gTru_n {f : Env → R PyData} {ρ : Env} (h : f ρ = .ok (.bool false)) : gTru dTru f ρ = .ok false := gTru_ok' h
/-- what is drawn -/
structure Dn (Rs : List Road) (x : Rat) : Prop where
  good : ∀ r ∈ Rs, Good r
  l1 : 1 ≤ Rs.length
  l5 : Rs.length ≤ 5
  hx : x ∈ xSet
structure PG (Rs : List Road) (x : Rat) (ps : List Rat) : Prop where
  len : ps.length = Rs.length
  nn : ∀ q ∈ ps, 0 ≤ q
  sum : ps.sum = x
  bits : Qb 115 ps
section
variable {Rs : List Road} {x : Rat} {K : PySem.W.Frag}
theorem Dn.areRoads (h : Dn Rs x) : areRoads Rs = true := (good_facts h.good h.l1 h.l5).1
theorem Dn.br (h : Dn Rs x) : BR 3 Rs := (good_facts h.good h.l1 h.l5).2.1
theorem Dn.brd (h : Dn Rs x) : BR 3 (dbl Rs) := (good_facts h.good h.l1 h.l5).2.2.1
theorem Dn.ok (h : Dn Rs x) : Ok Rs := (areRoads_ok h.areRoads).1
theorem Dn.am (h : Dn Rs x) : isAmount x = true := (good_X h.hx).2.1
theorem Dn.pos (h : Dn Rs x) : 0 < x := amount_pos h.am
theorem Dn.qx (h : Dn Rs x) : QB 4 x := (good_X h.hx).1
theorem Dn.dlen (h : Dn Rs x) : (dbl Rs).length ≤ 8 := by have := h.l5; simp [dbl]; omega
theorem Dn.told (h : Dn Rs x) : QB 103 (told Rs x) := (told_ok (X := encRs Rs) rfl h.ok h.br h.qx (by have := h.l5; omega) (by omega)).2.mono (by omega)
theorem Dn.toldd (h : Dn Rs x) : QB 103 (S52.told (dbl Rs) x) := (told_ok (X := .list ((dbl Rs).map encR)) rfl (dbl_ok h.ok) h.brd h.qx h.dlen (by omega)).2.mono (by omega)
theorem Dn.pg (h : Dn Rs x) : PG Rs x (parting Rs x) := by
  obtain ⟨h1, h2, h3, _⟩ := parting_ok h.ok h.pos
  exact ⟨h1, h2, h3, parting_bits h.ok h.pos (good_facts h.good h.l1 h.l5).2.2.2.1 (good_X h.hx).2.2.1 (good_X h.hx).2.2.2.1 h.told⟩
theorem Dn.bpg (h : Dn Rs x) : PG Rs x (best Rs x) := by
  obtain ⟨h1, h2, h3, _⟩ := best_ok h.ok h.pos
  exact ⟨h1, h2, h3, parting_bits (dbl_ok h.ok) h.pos (good_facts h.good h.l1 h.l5).2.2.2.2 (good_X h.hx).2.2.1 (good_X h.hx).2.2.2.1 h.toldd⟩
theorem PG.isP {ps : List Rat} (h : PG Rs x ps) : isP Rs.length ps = true := by
  unfold PV.isP
  simp only [Bool.and_eq_true, decide_eq_true_eq, List.all_eq_true]
  exact ⟨h.len, h.nn⟩
theorem even_right {ps : List Rat} {l : Rat} (hp : PG Rs x ps) (he : Even Rs ps l) : right Rs x ps l = true := by
  unfold right
  rw [hp.isP, hp.sum]
  simp only [Bool.true_and, decide_true, List.all_eq_true]
  intro z hz
  have hz2 : ∃ r, (r, z.2) ∈ Rs.zip ps ∧ z.1 = cost (r, z.2) := by
    unfold costs at hz
    have : ∀ (R : List Road) (p : List Rat), z ∈ ((R.zip p).map cost).zip p → ∃ r, (r, z.2) ∈ R.zip p ∧ z.1 = cost (r, z.2) := by
      intro R
      induction R with
      | nil => intro p h; simp at h
      | cons r R ih =>
        intro p h
        cases p with
        | nil => simp at h
        | cons q p =>
          simp only [List.zip_cons_cons, List.map_cons] at h
          rcases List.mem_cons.mp h with rfl | h
          · exact ⟨r, List.mem_cons_self .., rfl⟩
          · obtain ⟨s, h1, h2⟩ := ih p h
            exact ⟨s, List.mem_cons_of_mem _ h1, h2⟩
    exact this Rs ps hz
  obtain ⟨r, h1, h2⟩ := hz2
  have := he (r, z.2) h1
  unfold evenZ
  rw [h2]
  dsimp only at this
  have hn : ¬ cost (r, z.2) - l < 0 := by grind
  rcases this.2 with e | e
  · have : ¬ 0 < z.2 := by grind
    simp [hn, this]
  · have : ¬ 0 < cost (r, z.2) - l := by grind
    simp [hn, this]
theorem isi_tup {ds : List PyData} : isiD "tuple" (.tuple ds) = some true := by
  have : kitB "tuple" "tuple" = some true := by kernel_rfl
  exact this
theorem fIsi_ok' {T : String} {f : Env → R PyData} {ρ : Env} {d : PyData} {b : Bool} (h : f ρ = .ok d) (hb : isiD T d = some b) : fIsi T f ρ = .ok (.bool b) := by
  unfold fIsi; rw [h]; simp [hb]
theorem dIsT : dIs true (.bool true) (.bool true) = some false := by kernel_rfl
/-- what the first steps give -/
def mA (Rs : List Road) (x : Rat) (ds : List PyData) : Mp := mset (mset (fun i => if i = 1 then some (.list ds) else none) 15 (encRs Rs)) 16 (encQ x)
theorem start_ok (ns : List Int) (hn : ns.length ≤ 63) {g : FS} (hg : ∀ Rs x ds ρ, Dn Rs x → Dr 3860 ds → Kn 32 ρ (mA Rs x ds) → Fin (g ρ)) :
    Fin ((sSeq (sSet 1 (eL (fCall m__law_draws (fCons (fVar 0) fNil))))
  (sSeq (sSet 1 (eCallM 1 m__law_more (eLA (fCons (fC (.int 80)) fNil))))
  (sSeq (sUnp [15, 16] (eTup (eCons (eCallM 1 m__law_roads (eLA (fCons (fC (.int 5)) fNil))) (eCons (eCall m__law_least (eCons (eOp dAdd (eL (fC (.int 1))) (eOp dMod (eN dInt (eCons (eCallM 1 m__law_next (eLA fNil)) eNil)) (eL (fC (.int 9))))) (eCons (eOp dAdd (eL (fC (.int 1))) (eOp dMod (eN dInt (eCons (eCallM 1 m__law_next (eLA fNil)) eNil)) (eL (fC (.int 4))))) eNil))) eNil)))) g))) (rho0 32 [frzD (ns.map .int)])) := by
  obtain ⟨ds0, e0, h0⟩ := draws_ok ns hn
  obtain ⟨ds1, dsx, e1, h1⟩ := more_ok h0 (by decide) 80 (by decide)
  have e0' : m__law_draws [frzD (ns.map .int)] = .ok (.list ds0) := e0
  have e1' : m__law_more (.list ds0) [.int 80] = .ok (.list ds1, .list dsx) := e1
  have h1 : Dr 3860 ds1 := h1
  obtain ⟨Rs, ds2, e2, h2, l1, l5, hg2⟩ := lroads_ok h1
  generalize frzD (ns.map .int) = s0 at e0'
  have r0 : rho0 32 [s0] = some s0 :: List.replicate 31 none := rfl
  refine go (Q := fun ρ => ∃ r, ρ = some s0 :: some (.list ds0) :: r ∧ r.length = 30) ⟨some s0 :: some (.list ds0) :: List.replicate 30 none, ?_, _, rfl, rfl⟩ ?_
  · rw [r0, set_ok' (fCall1 rfl e0')]; rfl
  rintro ρ ⟨r, rfl, hr⟩
  refine go (Q := fun ρ => ρ = some s0 :: some (.list ds1) :: r) ⟨_, ?_, rfl⟩ ?_
  · rw [sSet_ok, eCallM_ok]
    simp only [slot_succ, slot_zero, ok_bind, eLA_ok, fCons_ok, fC_ok, fNil_ok, e1', List.set_cons_succ, List.set_cons_zero]
  rintro ρ rfl
  obtain ⟨i, ds3, hi, h3, e3⟩ := mod_next (i := 1) (ρ := some s0 :: some (.list ds2) :: r) (f := fC (.int 9)) (m := 9) rfl h2 (by decide) (fun _ => rfl)
  obtain ⟨j, ds4, hj, h4, e4⟩ := mod_next (i := 1) (ρ := some s0 :: some (.list ds3) :: r) (f := fC (.int 4)) (m := 4) rfl h3 (by decide) (fun _ => rfl)
  simp only [List.set_cons_succ, List.set_cons_zero] at e3 e4
  have e5 : m__law_least [.int (1 + (i : Int)), .int (1 + (j : Int))] = .ok (encQ (mkRat ((1 + i : Nat)) (1 + j))) := by
    have := lleast_mk (a := ((1 + i : Nat) : Int)) (b := 1 + j) (by omega) (small_log (by omega))
    have c1 : (((1 + i : Nat)) : Int) = 1 + (i : Int) := by omega
    have c2 : (((1 + j : Nat)) : Int) = 1 + (j : Int) := by omega
    rw [c2] at this
    rw [← c1]
    exact this
  have hx : mkRat ((1 + i : Nat)) (1 + j) ∈ xSet := List.mem_flatMap.mpr ⟨i, List.mem_range.mpr hi, List.mem_map.mpr ⟨j, List.mem_range.mpr hj, rfl⟩⟩
  refine go (Q := fun ρ => Kn 32 ρ (mA Rs (mkRat ((1 + i : Nat)) (1 + j)) ds4)) ⟨sets [15, 16] [encRs Rs, encQ (mkRat ((1 + i : Nat)) (1 + j))] (some s0 :: some (.list ds4) :: r), ?_, ?_⟩ fun ρ hk => hg Rs _ ds4 ρ ⟨hg2, l1, l5, hx⟩ h4 hk
  · have a1 : (eOp dAdd (eL (fC (.int 1))) (eOp dMod (eN dInt (eCons (eCallM 1 m__law_next (eLA fNil)) eNil)) (eL (fC (.int 9))))) (some s0 :: some (.list ds2) :: r) = .ok (.int (1 + (i : Int)), some s0 :: some (.list ds3) :: r) := by
      rw [eOp_ok, eL_ok, fC_ok]
      simp only [ok_bind, e3, dAdd_int, ofO_some]
    have a2 : (eOp dAdd (eL (fC (.int 1))) (eOp dMod (eN dInt (eCons (eCallM 1 m__law_next (eLA fNil)) eNil)) (eL (fC (.int 4))))) (some s0 :: some (.list ds3) :: r) = .ok (.int (1 + (j : Int)), some s0 :: some (.list ds4) :: r) := by
      rw [eOp_ok, eL_ok, fC_ok]
      simp only [ok_bind, e4, dAdd_int, ofO_some]
    have a0 : eCallM 1 m__law_roads (eLA (fCons (fC (.int 5)) fNil)) (some s0 :: some (.list ds1) :: r) = .ok (encRs Rs, some s0 :: some (.list ds2) :: r) := by
      rw [eCallM_ok]
      simp only [slot_succ, slot_zero, ok_bind, eLA_ok, fCons_ok, fC_ok, fNil_ok, e2, List.set_cons_succ, List.set_cons_zero]
    have a3 : eCall m__law_least (eCons (eOp dAdd (eL (fC (.int 1))) (eOp dMod (eN dInt (eCons (eCallM 1 m__law_next (eLA fNil)) eNil)) (eL (fC (.int 9))))) (eCons (eOp dAdd (eL (fC (.int 1))) (eOp dMod (eN dInt (eCons (eCallM 1 m__law_next (eLA fNil)) eNil)) (eL (fC (.int 4))))) eNil)) (some s0 :: some (.list ds2) :: r) = .ok (encQ (mkRat ((1 + i : Nat)) (1 + j)), some s0 :: some (.list ds4) :: r) := by
      rw [eCall_ok, eCons_ok, a1]
      simp only [ok_bind]
      rw [eCons_ok, a2]
      simp only [ok_bind, eNil_ok, e5]
    have z : ([encRs Rs, encQ (mkRat ((1 + i : Nat)) (1 + j))] : List PyData).length ≤ sizeLine := by rw [sz]; exact of_decide_eq_true rfl
    unfold sUnp eTup
    rw [eCons_ok, a0]
    simp only [ok_bind]
    rw [eCons_ok, a3]
    simp only [ok_bind, eNil_ok, if_pos z]
    rfl
  · have base : Kn 32 (some s0 :: some (.list ds4) :: r) (fun i => if i = 1 then some (.list ds4) else none) := by
      refine ⟨by simp [hr], fun i d e => ?_⟩
      dsimp only at e
      by_cases h : i = 1
      · subst h
        rw [if_pos rfl] at e
        cases e; rfl
      · rw [if_neg h] at e; cases e
    exact base.sets2 (by decide) (by decide) _ _
end
end PV
end

set_option Elab.async false
set_option linter.all false
set_option maxRecDepth 100000
set_option maxHeartbeats 4000000
set_option autoImplicit false
/-! k52: the law, first half. -/
noncomputable section
namespace PV
open PySem PySem.Spec PyProof.Rows L2 S52
section
variable {Rs : List Road} {x : Rat} {K : PySem.W.Frag} {ρ : Env} {ds : List PyData}
abbrev P0 (Rs : List Road) (x : Rat) := encQs (parting Rs x)
abbrev B0 (Rs : List Road) (x : Rat) := encQs (best Rs x)
abbrev L0 (Rs : List Road) (x : Rat) := encQ (told Rs x)
abbrev S0 (Rs : List Road) (x : Rat) := encQ (sumBy Rs (best Rs x))
def mB (Rs : List Road) (x : Rat) (ds : List PyData) : Mp := mset (mset (mA Rs x ds) 17 (.int (Rs.length : Nat))) 18 (encP (parting Rs x, told Rs x))
theorem w0 (h : Dn Rs x) {Z : PyData} : due 0 (encRs Rs) (encQ x) Z = .ok (L0 Rs x) := level_ok h.areRoads h.am h.br h.qx (by decide)
theorem w1 (h : Dn Rs x) {Z : PyData} : due 1 (encRs Rs) (encQ x) Z = .ok (encP (parting Rs x, told Rs x)) := level_paper_ok h.areRoads h.am h.br h.qx (by decide)
theorem w2 (h : Dn Rs x) {Z : PyData} : due 2 (encRs Rs) (encQ x) Z = .ok (B0 Rs x) := best_parting_ok h.areRoads h.am h.br h.brd h.qx (by decide)
theorem w3 (h : Dn Rs x) {Z : PyData} : due 3 (encRs Rs) (encQ x) Z = .ok (S0 Rs x) := least_sum_ok h.areRoads h.am h.br h.brd h.qx (by decide) (by have := h.l5; omega) h.bpg.bits (by decide)
theorem w4 (h : Dn Rs x) {Z : PyData} : due 4 (encRs Rs) (encQ x) Z = .ok (encQs (tolls Rs x)) ∧ Qb 118 (tolls Rs x) := tolls_ok h.areRoads h.am h.br h.brd h.qx (by decide) h.bpg.bits (by decide)
theorem w5 (h : Dn Rs x) {ps : List Rat} (hp : PG Rs x ps) {Z : PyData} : due 5 (encRs Rs) (encQs ps) Z = .ok (encQ (sumBy Rs ps)) := parting_sum_ok h.areRoads h.br hp.bits (by decide) (by have := h.l5; omega) hp.isP (by have := h.l5; have := hp.len; omega)
theorem fCall4 {m : List PyData → R PyData} {f g j l : Env → R PyData} {ρ : Env} {a b c d : PyData} {r : R PyData} (hf : f ρ = .ok a) (hg : g ρ = .ok b) (hj : j ρ = .ok c) (hl : l ρ = .ok d) (h : m [a, b, c, d] = r) : fCall m (fCons f (fCons g (fCons j (fCons l fNil)))) ρ = r := by
  rw [fCall_ok, fCons_ok, hf]; simp [hg, hj, hl, h]
theorem lsumP (h : Dn Rs x) {ps : List Rat} (hp : PG Rs x ps) : m__law_sum [encRs Rs, encQs ps] = .ok (encQ (sumBy Rs ps)) := lsum_ok h.br hp.bits hp.len.symm (by have := h.l5; omega) (by decide)
theorem sumQB (h : Dn Rs x) {ps : List Rat} (hp : PG Rs x ps) : QB 1500 (sumBy Rs ps) := (sumBy_bits h.br hp.bits (by decide) (by have := h.l5; omega)).1.mono (by decide)
theorem part1 (h : Dn Rs x) (nd : Nd K) (hk : Kn 32 ρ (mA Rs x ds)) {g : FS} (hg : ∀ ρ, Kn 32 ρ (mset (mset (mB Rs x ds) 19 (P0 Rs x)) 20 (L0 Rs x)) → Fin (g ρ)) :
    Fin ((sSeq (sUnp [17, 18] (eL (fTup (fCons (fN dLen (fCons (fVar 15) fNil)) (fCons (fCall (m__law_asked K) (fCons (fC (.int 1)) (fCons (fVar 15) (fCons (fVar 16) (fCons (fC .none) fNil))))) fNil)))))
  (sSeq (sIf (eLT (gOr (gCmp (dIs true) (fCall m_are_roads (fCons (fVar 15) fNil)) (fC (.bool true))) (gOr (gNot (gTru dTru (fIsi "tuple" (fVar 18)))) (gOr (gNot (gTru dTru (fCall m__law_is_right (fCons (fVar 15) (fCons (fVar 16) (fCons (fVar 18) fNil)))))) (gCmp dNe (fCall (m__law_asked K) (fCons (fC (.int 0)) (fCons (fVar 15) (fCons (fVar 16) (fCons (fC .none) fNil))))) (fOp ixD (fVar 18) (fC (.int 1)))))))) (sRet (eL (fC (.bool false))))
  sNil)
  (sSeq (sUnp [19, 20] (eL (fVar 18))) g))) ρ) := by
  refine go (step_unp hk (by decide) (by decide) (fTup2 (fN1 (hk.get rfl) lenRs) (fCall4 rfl (hk.get rfl) (hk.get rfl) rfl (asked_ok nd (way := 1) (by decide) (w1 h))))) fun ρ hk => ?_
  have hk : Kn 32 ρ (mB Rs x ds) := hk
  have hr : m_are_roads [encRs Rs] = .ok (.bool true) := by
    have := roads_ok (by have := h.l5; omega) (by decide) h.br
    rw [h.areRoads] at this
    exact this
  have hright : m__law_is_right [encRs Rs, encQ x, encP (parting Rs x, told Rs x)] = .ok (.bool true) := by
    have := lright_ok (x := x) h.br h.pg.bits h.told (by decide) (by decide) (by decide) (by have := h.pg.len; have := h.l5; omega) (by have := h.l5; omega)
    rw [even_right h.pg (parting_ok h.ok h.pos).2.2.2] at this
    exact this
  refine go_if (gOr_no (gCmp_ok' (fCall1 (hk.get rfl) hr) rfl dIsT) (gOr_no (gNot_no (gTru_y (fIsi_ok' (hk.get rfl) isi_tup))) (gOr_no (gNot_no (gTru_y (fCall3 (hk.get rfl) (hk.get rfl) (hk.get rfl) hright))) ((gCmp_ok' (o := dNe) (fCall4 rfl (hk.get rfl) (hk.get rfl) rfl (asked_ok nd (way := 0) (by decide) (w0 h))) (fIx_ok' (hk.get rfl) rfl (show ixD (encP (parting Rs x, told Rs x)) (.int 1) = some (L0 Rs x) from rfl)) dNeQ).trans (by simp))))) ?_
  refine go (step_unp hk (by decide) (by decide) (hk.get (i := 18) rfl)) fun ρ hk => hg ρ hk
/-- marks -/
theorem lec {n : Nat} {v : Rat} : ∀ {l : List Rat}, (∀ a ∈ l, a = v) → l.length = n → l = List.replicate n v := fun {l} h hl => List.eq_replicate_iff.mpr ⟨hl, h⟩
theorem dblQ (h : Dn Rs x) : m__law_costs [encRs (dbl Rs), B0 Rs x] = .ok (.list ((costs (dbl Rs) (best Rs x)).map encQ)) := lcosts_ok h.brd h.bpg.bits (by rw [h.bpg.len]; simp [dbl]) (by have := h.dlen; omega) (by decide)
theorem markQ (h : Dn Rs x) : Qb 122 (costs (dbl Rs) (best Rs x)) := fun q hq => (costs_bits h.brd h.bpg.bits (by decide) q hq).mono (by decide)
theorem markLen (h : Dn Rs x) : (costs (dbl Rs) (best Rs x)).length = Rs.length := by rw [costs_len (by rw [h.bpg.len]; simp [dbl])]; simp [dbl]
theorem costs_get {R : List Road} {p : List Rat} {i : Nat} (h1 : i < R.length) (h2 : i < p.length) : (costs R p)[i]? = some (cost (R[i], p[i])) := by
  unfold costs
  rw [List.getElem?_map, List.getElem?_zip_eq_some (z := (R[i], p[i])) |>.mpr ⟨List.getElem?_eq_getElem h1, List.getElem?_eq_getElem h2⟩]
  rfl
/-- a road that is used -/
theorem mark_used (h : Dn Rs x) {i : Nat} (hi : i < Rs.length) (hp : 0 < (best Rs x).getD i 0) : (costs (dbl Rs) (best Rs x)).getD i 0 = told (dbl Rs) x := by
  have h2 : i < (best Rs x).length := by rw [h.bpg.len]; exact hi
  have h1 : i < (dbl Rs).length := by simpa [dbl] using hi
  have e := costs_get h1 h2
  have he := (best_ok h.ok h.pos).2.2.2 ((dbl Rs)[i], (best Rs x)[i]) (List.mem_iff_getElem?.mpr ⟨i, List.getElem?_zip_eq_some.mpr ⟨List.getElem?_eq_getElem h1, List.getElem?_eq_getElem h2⟩⟩)
  have ed : (best Rs x).getD i 0 = (best Rs x)[i] := by simp [List.getD, h2]
  rw [ed] at hp
  rw [List.getD_eq_getElem?_getD, e]
  rcases he.2 with e0 | e0
  · dsimp only at e0; rw [e0] at hp; grind
  · exact e0
def usedIx (Rs : List Road) (x : Rat) : List Nat := (List.range Rs.length).filter fun i => decide (0 < (best Rs x).getD i 0)
theorem sum_pos {ps : List Rat} (h : 0 < ps.sum) : ∃ q ∈ ps, 0 < q := by
  have := exists_pos (f := fun q : Rat => q) (xs := ps) (by simpa using h)
  exact this
theorem used_ne (h : Dn Rs x) : ∃ n, (usedIx Rs x).length = n + 1 := by
  have hs : 0 < (best Rs x).sum := by rw [h.bpg.sum]; exact h.pos
  obtain ⟨q, hq, h0⟩ := sum_pos hs
  obtain ⟨i, hi, rfl⟩ := List.mem_iff_getElem.mp hq
  have hm : i ∈ usedIx Rs x := List.mem_filter.mpr ⟨List.mem_range.mpr (by rw [← h.bpg.len]; exact hi), by simpa [List.getD, hi] using h0⟩
  have := List.length_pos_of_mem hm
  exact ⟨(usedIx Rs x).length - 1, by omega⟩
theorem used_marks (h : Dn Rs x) : ∃ n, ((usedIx Rs x).map fun i => encQ ((costs (dbl Rs) (best Rs x)).getD i 0)) = (List.replicate (n + 1) (told (dbl Rs) x)).map encQ := by
  obtain ⟨n, hn⟩ := used_ne h
  refine ⟨n, ?_⟩
  have : ((usedIx Rs x).map fun i => (costs (dbl Rs) (best Rs x)).getD i 0) = List.replicate (n + 1) (told (dbl Rs) x) := lec (fun a ha => by
    obtain ⟨i, hi, rfl⟩ := List.mem_map.mp ha
    obtain ⟨h1, h2⟩ := List.mem_filter.mp hi
    exact mark_used h (List.mem_range.mp h1) (by simpa using h2)) (by simpa using hn)
  rw [← this]
  simp [Function.comp_def]
theorem leven_best (h : Dn Rs x) : m__law_even [.list ((costs (dbl Rs) (best Rs x)).map encQ), B0 Rs x, encQ (told (dbl Rs) x)] = .ok (.bool true) := by
  have hl : (costs (dbl Rs) (best Rs x)).length = (best Rs x).length := by rw [markLen h, h.bpg.len]
  rw [leven_ok (markQ h) h.bpg.bits h.toldd hl (by have := markLen h; have := h.l5; omega) (by decide)]
  have : (((costs (dbl Rs) (best Rs x)).zip (best Rs x)).all (levenZ (told (dbl Rs) x))) = true := by
    rw [List.all_eq_true]
    intro z hz
    obtain ⟨i, hi⟩ := List.mem_iff_getElem?.mp hz
    obtain ⟨c1, c2⟩ := List.getElem?_zip_eq_some.mp hi
    obtain ⟨h2, e2⟩ := List.getElem?_eq_some_iff.mp c2
    have h1 : i < (dbl Rs).length := by rw [h.bpg.len] at h2; simpa [dbl] using h2
    have e := costs_get h1 h2
    rw [e] at c1
    have he := (best_ok h.ok h.pos).2.2.2 ((dbl Rs)[i], (best Rs x)[i]) (List.mem_iff_getElem?.mpr ⟨i, List.getElem?_zip_eq_some.mpr ⟨List.getElem?_eq_getElem h1, List.getElem?_eq_getElem h2⟩⟩)
    have e1 := Option.some.inj c1
    unfold levenZ
    rw [← e1, ← e2]
    dsimp only at he
    have hn : ¬ cost ((dbl Rs)[i], (best Rs x)[i]) < told (dbl Rs) x := by grind
    rcases he.2 with e0 | e0
    · rw [decide_eq_false hn, e0]; simp
    · rw [decide_eq_false hn]; simp [e0]
  rw [this]
theorem dNe_same {q : Rat} : dNe (encQ q) (encQ q) = some false := dNeQ.trans (by simp)
def mC (Rs : List Road) (x : Rat) (ds : List PyData) : Mp := mset (mset (mset (mset (mB Rs x ds) 19 (P0 Rs x)) 20 (L0 Rs x)) 21 (B0 Rs x)) 22 (S0 Rs x)
theorem part2 (h : Dn Rs x) (nd : Nd K) (hk : Kn 32 ρ (mset (mset (mB Rs x ds) 19 (P0 Rs x)) 20 (L0 Rs x))) {g : FS} (hg : ∀ ρ, Kn 32 ρ (mC Rs x ds) → Fin (g ρ)) :
    Fin ((sSeq (sUnp [21, 22] (eL (fTup (fCons (fCall (m__law_asked K) (fCons (fC (.int 2)) (fCons (fVar 15) (fCons (fVar 16) (fCons (fC .none) fNil))))) (fCons (fCall (m__law_asked K) (fCons (fC (.int 3)) (fCons (fVar 15) (fCons (fVar 16) (fCons (fC .none) fNil))))) fNil)))))
  (sSeq (sSet 2 (eL (fN dTuple (fCons (fLc (.tp [(.nm 29), (.nm 30)]) [29, 30] (fIt (fVar 15)) gYes (fTup (fCons (fVar 29) (fCons (fCall m__law_times (fCons (fTup (fCons (fC (.int 2)) (fCons (fC (.int 1)) fNil))) (fCons (fVar 30) fNil))) fNil)))) fNil))))
  (sSeq (sIf (eLT (gOr (gNot (gTru dTru (fCall m__law_is_parting (fCons (fVar 21) (fCons (fVar 17) (fCons (fVar 16) fNil)))))) (gCmp dNe (fVar 22) (fCall m__law_sum (fCons (fVar 15) (fCons (fVar 21) fNil)))))) (sRet (eL (fC (.bool false))))
  sNil)
  (sSeq (sSet 3 (eL (fCall m__law_costs (fCons (fVar 2) (fCons (fVar 21) fNil)))))
  (sSeq (sSet 4 (eLc (.nm 24) [24] (eRg (eLA (fCons (fVar 17) fNil))) (eLT (gCmp dGt (fOp ixD (fOp ixD (fVar 21) (fVar 24)) (fC (.int 0))) (fC (.int 0)))) (eL (fOp ixD (fVar 3) (fVar 24)))))
  (sSeq (sIf (eLT (gOr (gNot (gTru dTru (fCall m__law_even (fCons (fVar 3) (fCons (fVar 21) (fCons (fOp ixD (fVar 4) (fC (.int 0))) fNil)))))) (gTru dTru (fCall m__law_is_less (fCons (fCall m__law_times (fCons (fTup (fCons (fC (.int 4)) (fCons (fC (.int 3)) fNil))) (fCons (fVar 22) fNil))) (fCons (fCall m__law_sum (fCons (fVar 15) (fCons (fVar 19) fNil))) fNil)))))) (sRet (eL (fC (.bool false))))
  sNil) g)))))) ρ) := by
  refine go (step_unp hk (by decide) (by decide) (fTup2 (fCall4 rfl (hk.get rfl) (hk.get rfl) rfl (asked_ok nd (way := 2) (by decide) (w2 h))) (fCall4 rfl (hk.get rfl) (hk.get rfl) rfl (asked_ok nd (way := 3) (by decide) (w3 h))))) fun ρ hk => ?_
  have hk : Kn 32 ρ (mC Rs x ds) := hk
  have e2 := kn_lc2 hk (i := 29) (j := 30) (by decide) (by decide) (fun r : Road => encQ r.1) (fun r => encQ r.2) (fun r => encR (r.1, 2 * r.2)) Rs (fi := fIt (fVar 15)) (fe := fTup (fCons (fVar 29) (fCons (fCall m__law_times (fCons (fTup (fCons (fC (.int 2)) (fCons (fC (.int 1)) fNil))) (fCons (fVar 30) fNil))) fNil))) (fIt_ok' (hk.get rfl) rfl) (by have := h.l5; omega) fun r hr ρ1 k1 => fTup2 (k1.get rfl) (fCall2 two_ok (k1.get rfl) (ltimes_ok QB2 (h.br r hr).2 (by decide)))
  have e3 : (Rs.map fun r => encR (r.1, 2 * r.2)) = (dbl Rs).map encR := by simp [dbl, Function.comp_def]
  rw [e3] at e2
  have hfl : flatL ((dbl Rs).map encR) = true := flatL_iff.mpr fun d hd => by
    obtain ⟨r, _, rfl⟩ := List.mem_map.mp hd; rfl
  refine go (step_set hk (by decide) (fN1 e2 (dTupleL hfl))) fun ρ hk => ?_
  have hisp : m__law_is_parting [B0 Rs x, .int (Rs.length : Nat), encQ x] = .ok (.bool true) := by
    rw [lisp_core h.bpg.bits (by have := h.bpg.len; have := h.l5; have : (best Rs x).length * (115 + 1) ≤ 5 * (115 + 1) := Nat.mul_le_mul_right _ (by omega)
                                 omega) (by have := h.bpg.len; have := h.l5; omega) Rs.length, h.bpg.isP, h.bpg.sum]
    simp
  refine go_if (gOr_no (gNot_no (gTru_y (fCall3 (hk.get rfl) (hk.get rfl) (hk.get rfl) hisp))) (gCmp_ok' (hk.get rfl) (fCall2 (hk.get rfl) (hk.get rfl) (lsumP h h.bpg)) dNe_same)) ?_
  refine go (step_set hk (by decide) (fCall2 (hk.get rfl) (hk.get rfl) (dblQ h))) fun ρ hk => ?_
  have e4 := kn_elc hk (i := 24) (by decide) (fun i : Nat => .int (i : Nat)) (fun i => decide (0 < (best Rs x).getD i 0)) (fun i => encQ ((costs (dbl Rs) (best Rs x)).getD i 0)) (List.range Rs.length) (fi := eRg (eLA (fCons (fVar 17) fNil))) (ft := gCmp dGt (fOp ixD (fOp ixD (fVar 21) (fVar 24)) (fC (.int 0))) (fC (.int 0))) (fe := fOp ixD (fVar 3) (fVar 24)) (eRg_ok' (hk.get rfl) (by have := h.l5; omega)) (by have := h.l5; simp; omega) fun i hi ρ1 k1 => by
    have hi := List.mem_range.mp hi
    have h2 : i < (best Rs x).length := by rw [h.bpg.len]; exact hi
    have h3 : i < (costs (dbl Rs) (best Rs x)).length := by rw [markLen h]; exact hi
    have ed1 : (best Rs x).getD i 0 = (best Rs x)[i] := by simp [List.getD, h2]
    have ed2 : (costs (dbl Rs) (best Rs x)).getD i 0 = (costs (dbl Rs) (best Rs x))[i] := by simp [List.getD, h3]
    rw [ed1, ed2]
    exact ⟨gCmp_ok' (fIx_ok' (fIx_ok' (k1.get rfl) (k1.get rfl) (ixT h2)) rfl ix0) rfl dGt0, fun _ => fIx_ok' (k1.get rfl) (k1.get rfl) (ixL h3)⟩
  obtain ⟨n, hu⟩ := used_marks h
  unfold usedIx at hu
  rw [hu] at e4
  refine go (step_e e4 (hk.wipe1 24) (by decide)) fun ρ hk => ?_
  have e5 : ixD (.list ((List.replicate (n + 1) (told (dbl Rs) x)).map encQ)) (.int 0) = some (encQ (told (dbl Rs) x)) := ixD_list (by decide) (by simp)
  have q43 : m__law_times [encQ (mkRat 4 3), S0 Rs x] = .ok (encQ (mkRat 4 3 * sumBy Rs (best Rs x))) ∧ QB 1503 (mkRat 4 3 * sumBy Rs (best Rs x)) := by
    have hb : QB 3 (mkRat 4 3) := ⟨by decide +kernel, by decide +kernel⟩
    exact ⟨ltimes_ok hb (sumQB h h.bpg) (by decide), (times_ok hb (sumQB h h.bpg) (by decide)).2⟩
  have hlt : decide (mkRat 4 3 * sumBy Rs (best Rs x) < sumBy Rs (parting Rs x)) = false := by
    have := four_thirds h.ok h.pos
    have e : mkRat 4 3 = 4 / 3 := by decide +kernel
    rw [e]
    exact decide_eq_false (by grind)
  have hq : encQ (mkRat 4 3) = .tuple [.int 4, .int 3] := by kernel_rfl
  rw [hq] at q43
  refine go_if (gOr_no (gNot_no (gTru_y (fCall3 (hk.get rfl) (hk.get rfl) (fIx_ok' (hk.get rfl) rfl e5) (leven_best h)))) (gTru_n ((fCall2 (fCall2 (fTup2 rfl rfl) (hk.get rfl) q43.1) (fCall2 (hk.get rfl) (hk.get rfl) (lsumP h h.pg)) (isless_ok q43.2 (sumQB h h.pg) (by decide))).trans (by rw [hlt])))) ?_
  exact hg ρ ((((hk.unset rfl).unrem rfl).unset rfl).unset rfl)
end
end PV
end

set_option Elab.async false
set_option linter.all false
set_option maxRecDepth 100000
set_option maxHeartbeats 4000000
set_option autoImplicit false
/-! k52: the law, drawn partings and papers. -/
noncomputable section
namespace PV
open PySem PySem.Spec PyProof.Rows L2 S52
section
variable {Rs : List Road} {x : Rat} {K : PySem.W.Frag} {ρ : Env} {ds : List PyData}
theorem eLc_gen {t : Tg} {own : List Nat} {fi : Env → R (List PyData × Env)} {ft : Env → R (Bool × Env)} {fe : FE} {ρ ρ1 ρ2 : Env} {xs ys : List PyData} (h1 : fi ρ = .ok (xs, ρ1)) (h2 : eLcL t own ft fe xs (wipeE ρ1 own) = .ok (ys, ρ2)) (h3 : ys.length ≤ sizeLine) : eLc t own fi ft fe ρ = .ok (.list ys, ρ2) := by
  unfold eLc
  simp only [h1, ok_bind, h2, lstE, if_pos h3]
/-- the drawn partings -/
theorem drawn3 (h : Dn Rs x) (hd : Dr 3860 ds) (hk : Kn 32 ρ (mC Rs x ds)) : ∃ (Ps : List (List Rat)) (ds' : List PyData) (ρ' : Env), eLc (.nm 25) [25] (eRg (eLA (fCons (fC (.int 3)) fNil))) egYes (eCallM 1 m__law_drawn (eLA (fCons (fVar 17) (fCons (fVar 16) fNil)))) ρ = .ok (.list (Ps.map encQs), ρ') ∧ Kn 32 ρ' (mset (mC Rs x ds) 1 (.list ds')) ∧ Dr 3860 ds' ∧ Ps.length = 3 ∧ ∀ ps ∈ Ps, PG Rs x ps := by
  have key := lc_inv (t := .nm 25) (own := [25]) (fe := eCallM 1 m__law_drawn (eLA (fCons (fVar 17) (fCons (fVar 16) fNil)))) (fun ρ => ∃ ds', Kn 32 ρ (mset (mC Rs x ds) 1 (.list ds')) ∧ Dr 3860 ds') (fun y => ∃ ps, y = encQs ps ∧ PG Rs x ps) ((List.range 3).map fun i => .int (i : Nat)) (fun d _ ρ ⟨ds1, hk, hd⟩ => by
    obtain ⟨ns, ds2, e, h2, hl, hs, hb⟩ := drawn_ok hd h.l1 h.l5 h.qx
    have hk1 := hk.set (i := 25) (by decide) d
    refine ⟨_, encQs (drawnL x ns), (ρ.set 25 (some d)).set 1 (some (.list ds2)), put_nm, ?_, ⟨drawnL x ns, rfl, by simp [drawnL, hl], drawn_nn (by have := h.pos; grind), drawn_sum hs, fun q hq => (hb q hq).mono (by decide)⟩, ds2, ?_, h2⟩
    · have s1 := hk1.slot (i := 1) (d := .list ds1) rfl
      have v1 := hk1.get (i := 17) (d := .int (Rs.length : Nat)) rfl
      have v2 := hk1.get (i := 16) (d := encQ x) rfl
      exact eCallM_gen s1 (eLA2 v1 v2) s1 e
    · refine ((((hk1.set (i := 1) (by decide) (.list ds2)).wipe1 25)).weak fun i d' e' => ?_)
      unfold mset mrem at *
      by_cases h25 : i = 25
      · subst h25; simp [mC, mB, mA, mset] at e'
      · by_cases h1 : i = 1
        · subst h1; simpa using e'
        · simpa [h25, h1] using e') (wipeE ρ [25]) ⟨ds, by
      refine (hk.wipe1 25).weak fun i d' e' => ?_
      unfold mset mrem at *
      by_cases h25 : i = 25
      · subst h25; simp [mC, mB, mA, mset] at e'
      · by_cases h1 : i = 1
        · subst h1; simp [mC, mB, mA, mset] at e' ⊢; exact e'
        · simpa [h25, h1] using e', hd⟩
  obtain ⟨ys, ρ', e2, q2, l2, ds', hk', hd'⟩ := key
  have hps : ∃ Ps : List (List Rat), ys = Ps.map encQs ∧ ∀ ps ∈ Ps, PG Rs x ps := by
    clear e2 l2
    induction ys with
    | nil => exact ⟨[], rfl, fun _ h => nomatch h⟩
    | cons y ys ih =>
      obtain ⟨ps, rfl, hp⟩ := q2 y (List.mem_cons_self ..)
      obtain ⟨Ps, rfl, hn⟩ := ih fun y hy => q2 y (List.mem_cons_of_mem _ hy)
      exact ⟨ps :: Ps, rfl, fun m hm => (List.mem_cons.mp hm).elim (fun e => e ▸ hp) (hn m)⟩
  obtain ⟨Ps, rfl, hP⟩ := hps
  simp only [List.length_map, List.length_range] at l2
  refine ⟨Ps, ds', ρ', ?_, hk', hd', l2, hP⟩
  have z : (Ps.map encQs).length ≤ sizeLine := by rw [List.length_map, sz]; omega
  exact eLc_gen (eRg_ok' (n := 3) rfl (by decide)) e2 z
theorem flatPs {Ps : List (List Rat)} : flatL (Ps.map encQs) = true := flatL_iff.mpr fun d hd => by
  obtain ⟨ps, _, rfl⟩ := List.mem_map.mp hd; exact flatQt
theorem lcat {xs ys : List PyData} (hx : flatL xs = true) (hy : flatL ys = true) (hl : xs.length + ys.length ≤ 100000) : dAdd (.list xs) (.list ys) = some (.list (xs ++ ys)) := by
  have : xs.length + ys.length ≤ 16777216 := by omega
  simp [dAdd, iOp, sCat, lCat, hx, hy, sz, this]
theorem tcat {xs ys : List PyData} (hx : flatL xs = true) (hy : flatL ys = true) (hl : xs.length + ys.length ≤ 100000) : dAdd (.tuple xs) (.tuple ys) = some (.tuple (xs ++ ys)) := by
  have : xs.length + ys.length ≤ 16777216 := by omega
  simp [dAdd, iOp, sCat, lCat, tCat, hx, hy, sz, this]
theorem fLst2 {f g : Env → R PyData} {ρ : Env} {a b : PyData} (hf : f ρ = .ok a) (hg : g ρ = .ok b) : fLst (fCons f (fCons g fNil)) ρ = .ok (.list [a, b]) := by
  rw [fLst_ok, fCons_ok, hf]
  simp only [ok_bind, fCons_ok, hg, fNil_ok]
  rw [lst_le (by simp)]
theorem fLst1 {f : Env → R PyData} {ρ : Env} {a : PyData} (hf : f ρ = .ok a) : fLst (fCons f fNil) ρ = .ok (.list [a]) := by
  rw [fLst_ok, fCons_ok, hf]
  simp only [ok_bind, fNil_ok]
  rw [lst_le (by simp)]
/-- a loop that keeps what is known, but one slot -/
theorem kn_for {n i : Nat} {m : Mp} {f : FS} (hin : i < n) (hm : m i = none) : ∀ (xs : List PyData) (ρ : Env), Kn n ρ m → (∀ d ∈ xs, ∀ ρ1, Kn n ρ1 (mset m i d) → f ρ1 = .ok (.nx, ρ1)) → ∃ ρ', sForL (.nm i) f xs ρ = .ok (.nx, ρ') ∧ Kn n ρ' m
  | [], ρ, hk, _ => ⟨ρ, rfl, hk⟩
  | d :: xs, ρ, hk, h => by
    have k1 := hk.set hin d
    have e1 := h d (List.mem_cons_self ..) _ k1
    obtain ⟨ρ', e2, k2⟩ := kn_for hin hm xs _ (k1.unset hm) fun e he => h e (List.mem_cons_of_mem _ he)
    refine ⟨ρ', ?_, k2⟩
    unfold sForL
    simp only [put_nm, ok_bind, e1]
    exact e2
def allP (Rs : List Road) (x : Rat) (Ps : List (List Rat)) : List (List Rat) := Ps ++ [parting Rs x, best Rs x]
theorem allP_pg (h : Dn Rs x) {Ps : List (List Rat)} (hP : ∀ ps ∈ Ps, PG Rs x ps) : ∀ ps ∈ allP Rs x Ps, PG Rs x ps := fun ps hp => by
  rcases List.mem_append.mp hp with hp | hp
  · exact hP ps hp
  · simp only [List.mem_cons, List.not_mem_nil, or_false] at hp
    rcases hp with rfl | rfl
    · exact h.pg
    · exact h.bpg
theorem not_less (h : Dn Rs x) {ps : List Rat} (hp : PG Rs x ps) : m__law_is_less [encQ (sumBy Rs ps), S0 Rs x] = .ok (.bool false) := by
  refine (isless_ok (sumQB h hp) (sumQB h h.bpg) (by decide)).trans ?_
  have := best_le h.ok h.pos hp.len hp.nn hp.sum
  rw [decide_eq_false (by grind)]
def mD (Rs : List Road) (x : Rat) (ds0 ds : List PyData) (Ps : List (List Rat)) : Mp := mset (mset (mC Rs x ds0) 1 (.list ds)) 5 (.list (Ps.map encQs))
/-- what each judge is asked -/
def papersL (Rs : List Road) (x : Rat) (Ps : List (List Rat)) : List PyData :=
  [encP (parting Rs x, told Rs x), encP (parting Rs x, told Rs x + mkRat 1 2), encP ((parting Rs x).drop 1, told Rs x), encP (parting Rs x ++ [0], told Rs x), encP ((parting Rs x).reverse, told Rs x), .tuple [wTup Rs.length v24, L0 Rs x], .tuple [P0 Rs x, v24]]
    ++ (Ps ++ [best Rs x]).map (fun ps => encP (ps, told Rs x)) ++ [encP ((parting Rs x).map (2 * ·), told Rs x)]
theorem Qb.mono {a b : Nat} {ps : List Rat} (h : Qb a ps) (hab : a ≤ b) : Qb b ps := fun q hq => (h q hq).mono hab
theorem papers_agree (h : Dn Rs x) {Ps : List (List Rat)} (hP : ∀ ps ∈ Ps, PG Rs x ps) : ∀ pp ∈ papersL Rs x Ps, Agree Rs x pp := by
  have l5 := h.l5
  have ap : ∀ {ps : List Rat} {l : Rat}, Qb 117 ps → QB 106 l → ps.length ≤ 8 → Agree Rs x (encP (ps, l)) := fun hp hl hn => agree_P h.areRoads h.am h.br h.qx (by decide) (by decide) hp hl (by decide) hn (by decide) (by decide) (by decide)
  have pl := h.pg.len
  have hh := h.told.mono (m := 106) (by decide)
  have hpq := h.pg.bits.mono (b := 117) (by decide)
  have half : QB 2 (mkRat 1 2) := ⟨by decide +kernel, by decide +kernel⟩
  intro pp hpp
  simp only [papersL, List.mem_append, List.mem_cons, List.not_mem_nil, or_false, List.mem_map] at hpp
  rcases hpp with ((rfl | rfl | rfl | rfl | rfl | rfl | rfl) | ⟨ps, hps, rfl⟩) | rfl
  · exact ap hpq hh (by omega)
  · exact ap hpq ((add_ok h.told half (by decide)).2) (by omega)
  · exact ap (fun q hq => hpq q (List.mem_of_mem_drop hq)) hh (by simp; omega)
  · exact ap (fun q hq => by
      rcases List.mem_append.mp hq with hq | hq
      · exact hpq q hq
      · rw [List.mem_singleton.mp hq]; exact QB0.mono (by decide)) hh (by simp; omega)
  · exact ap (fun q hq => hpq q (List.mem_reverse.mp hq)) hh (by simp; omega)
  · exact agree_W h.areRoads h.am h.br h.qx (by decide) (by decide) bad24
  · exact agree_H h.areRoads h.am h.br h.qx (by decide) (by decide) h.pg.bits (by omega) (by decide) h.pg.isP h.pg.sum
  · have hg : PG Rs x ps := hps.elim (hP ps) fun e => by rw [e]; exact h.bpg
    exact ap (hg.bits.mono (by decide)) hh (by rw [hg.len]; omega)
  · exact ap (fun q hq => by
      obtain ⟨r, hr, rfl⟩ := List.mem_map.mp hq
      exact (times_ok QB2 (h.pg.bits r hr) (by decide)).2) hh (by simp; omega)
theorem flatPP {ps : List Rat} {l : Rat} : flat (encP (ps, l)) = true := by
  unfold encP
  simp only [flat, flatL, flatQ, Bool.and_true]
  exact flatQt
theorem flat_rep {n : Nat} {v : PyData} (h : flat v = true) : flat (wTup n v) = true := by
  unfold wTup
  simp only [flat]
  exact flatL_iff.mpr fun d hd => by rw [List.eq_of_mem_replicate hd]; exact h
theorem papers_flat {Ps : List (List Rat)} : ∀ pp ∈ papersL Rs x Ps, flat pp = true := by
  intro pp hpp
  simp only [papersL, List.mem_append, List.mem_cons, List.not_mem_nil, or_false, List.mem_map] at hpp
  rcases hpp with ((rfl | rfl | rfl | rfl | rfl | rfl | rfl) | ⟨ps, hps, rfl⟩) | rfl
  all_goals first | exact flatPP | skip
  · simp only [flat, flatL, Bool.and_true]
    rw [flat_rep (by rfl)]; rfl
  · simp only [flat, flatL, Bool.and_true]
    rw [flatQt]; rfl
end
end PV
end

set_option Elab.async false
set_option linter.all false
set_option maxRecDepth 100000
set_option maxHeartbeats 4000000
set_option autoImplicit false
/-! k52: the law, the loop over partings; papers. -/
noncomputable section
namespace PV
open PySem PySem.Spec PyProof.Rows L2 S52 HT
section
variable {Rs : List Road} {x : Rat} {K : PySem.W.Frag} {ρ : Env} {ds : List PyData}
theorem fLst7 {f1 f2 f3 f4 f5 f6 f7 : Env → R PyData} {ρ : Env} {a1 a2 a3 a4 a5 a6 a7 : PyData} (h1 : f1 ρ = .ok a1) (h2 : f2 ρ = .ok a2) (h3 : f3 ρ = .ok a3) (h4 : f4 ρ = .ok a4) (h5 : f5 ρ = .ok a5) (h6 : f6 ρ = .ok a6) (h7 : f7 ρ = .ok a7) :
    fLst (fCons f1 (fCons f2 (fCons f3 (fCons f4 (fCons f5 (fCons f6 (fCons f7 fNil))))))) ρ = .ok (.list [a1, a2, a3, a4, a5, a6, a7]) := by
  rw [fLst_ok]
  simp only [fCons_ok, h1, h2, h3, h4, h5, h6, h7, fNil_ok, ok_bind]
  rw [lst_le (by simp)]
theorem fSl_ok' {f : Env → R PyData} {g h : Env → R (Option Int)} {ρ : Env} {d e : PyData} {lo hi : Option Int} (hf : f ρ = .ok d) (hg : g ρ = .ok lo) (hh : h ρ = .ok hi) (hs : slD d lo hi = some e) : fSl f g h ρ = .ok e := by
  unfold fSl; rw [hf]; simp only [ok_bind, hg, hh, hs, ofO_some]
theorem fPart_ok' {f : Env → R PyData} {ρ : Env} {i : Int} (h : f ρ = .ok (.int i)) : fPart f ρ = .ok (some i) := by
  unfold fPart; rw [h]; rfl
theorem cut1 {xs : List PyData} : cut xs (some 1) none = xs.drop 1 := by
  unfold cut
  cases xs with
  | nil => rfl
  | cons a xs =>
    have e1 : sIx (a :: xs).length 0 (some 1) = 1 := by
      have := sIx_nat (a :: xs).length 0 1
      simp at this
      exact this
    have e2 : sIx (a :: xs).length (a :: xs).length none = (a :: xs).length := rfl
    rw [e1, e2]
    simp
theorem fRev_ok' {f : Env → R PyData} {ρ : Env} {xs : List PyData} (h : f ρ = .ok (.tuple xs)) (hf : flatL xs = true) : fRev f ρ = .ok (.tuple xs.reverse) := by
  unfold fRev; rw [h]
  show (if flatL xs = true then R.ok (PyData.tuple xs.reverse) else R.no) = _
  rw [if_pos hf]
theorem v24_ok {ρ : Env} : fTup (fCons (fC (.int 2)) (fCons (fC (.int 4)) fNil)) ρ = .ok v24 := fTup2 rfl rfl
theorem tup1 {f : Env → R PyData} {ρ : Env} {a : PyData} (h : f ρ = .ok a) : fTup (fCons f fNil) ρ = .ok (.tuple [a]) := by
  rw [fTup_ok, fCons_ok, h]
  simp only [ok_bind, fNil_ok]
  rw [lst_le (by simp)]
theorem half_ok {ρ : Env} : fTup (fCons (fC (.int 1)) (fCons (fC (.int 2)) fNil)) ρ = .ok (encQ (mkRat 1 2)) := by
  have e : encQ (mkRat 1 2) = .tuple [.int 1, .int 2] := by kernel_rfl
  rw [e]; exact fTup2 rfl rfl
theorem zero_ok {ρ : Env} : fTup (fCons (fC (.int 0)) (fCons (fC (.int 1)) fNil)) ρ = .ok (encQ 0) := by
  have e : encQ 0 = .tuple [.int 0, .int 1] := by kernel_rfl
  rw [e]; exact fTup2 rfl rfl
def papers1 (Rs : List Road) (x : Rat) : List PyData := [encP (parting Rs x, told Rs x), encP (parting Rs x, told Rs x + mkRat 1 2), encP ((parting Rs x).drop 1, told Rs x), encP (parting Rs x ++ [0], told Rs x), encP ((parting Rs x).reverse, told Rs x), .tuple [wTup Rs.length v24, L0 Rs x], .tuple [P0 Rs x, v24]]
theorem dNe_bool {b : Bool} : dNe (.bool b) (.bool b) = some false := by cases b <;> kernel_rfl
theorem part3 (h : Dn Rs x) (nd : Nd K) (hd : Dr 3860 ds) (hk : Kn 32 ρ (mC Rs x ds)) {g : FS} (hg : ∀ ρ ds0 ds Ps, Dr 3860 ds → Kn 32 ρ (mD Rs x ds0 ds Ps) → Fin (g ρ)) :
    Fin ((sSeq (sSet 5 (eLc (.nm 25) [25] (eRg (eLA (fCons (fC (.int 3)) fNil))) egYes (eCallM 1 m__law_drawn (eLA (fCons (fVar 17) (fCons (fVar 16) fNil))))))
  (sSeq (sFor (.nm 6) (eIt (eL (fOp dAdd (fVar 5) (fLst (fCons (fVar 19) (fCons (fVar 21) fNil)))))) (sIf (eLT (gOr (gCmp dNe (fN dRepr (fCons (fCall (m__law_asked K) (fCons (fC (.int 5)) (fCons (fVar 15) (fCons (fVar 6) (fCons (fC .none) fNil))))) fNil)) (fN dRepr (fCons (fCall m__law_sum (fCons (fVar 15) (fCons (fVar 6) fNil))) fNil))) (gTru dTru (fCall m__law_is_less (fCons (fCall m__law_sum (fCons (fVar 15) (fCons (fVar 6) fNil))) (fCons (fVar 22) fNil)))))) (sRet (eL (fC (.bool false))))
  sNil))
  (sSeq (sSet 7 (eL (fLst (fCons (fVar 18) (fCons (fTup (fCons (fVar 19) (fCons (fCall m__law_add (fCons (fVar 20) (fCons (fTup (fCons (fC (.int 1)) (fCons (fC (.int 2)) fNil))) fNil))) fNil))) (fCons (fTup (fCons (fSl (fVar 19) (fPart (fC (.int 1))) fNoPart) (fCons (fVar 20) fNil))) (fCons (fTup (fCons (fOp dAdd (fVar 19) (fTup (fCons (fTup (fCons (fC (.int 0)) (fCons (fC (.int 1)) fNil))) fNil))) (fCons (fVar 20) fNil))) (fCons (fTup (fCons (fRev (fVar 19)) (fCons (fVar 20) fNil))) (fCons (fTup (fCons (fOp dMulT (fTup (fCons (fTup (fCons (fC (.int 2)) (fCons (fC (.int 4)) fNil))) fNil)) (fVar 17)) (fCons (fVar 20) fNil))) (fCons (fTup (fCons (fVar 19) (fCons (fTup (fCons (fC (.int 2)) (fCons (fC (.int 4)) fNil))) fNil))) fNil))))))))))
  (sSeq (sSet 7 (eL (fOp dAdd (fOp dAdd (fVar 7) (fLc (.nm 6) [6] (fIt (fOp dAdd (fVar 5) (fLst (fCons (fVar 21) fNil)))) gYes (fTup (fCons (fVar 6) (fCons (fVar 20) fNil))))) (fLst (fCons (fTup (fCons (fN dTuple (fCons (fLc (.nm 27) [27] (fIt (fVar 19)) gYes (fCall m__law_times (fCons (fTup (fCons (fC (.int 2)) (fCons (fC (.int 1)) fNil))) (fCons (fVar 27) fNil)))) fNil)) (fCons (fVar 20) fNil))) fNil)))))
  (sSeq (sIf (eLT (gTru dTru (fN dAny (fCons (fLc (.nm 6) [6] (fIt (fVar 7)) gYes (fOfB (gCmp dNe (fN dRepr (fCons (fCall (m__law_asked K) (fCons (fC (.int 6)) (fCons (fVar 15) (fCons (fVar 16) (fCons (fVar 6) fNil))))) fNil)) (fN dRepr (fCons (fCall m__law_is_right (fCons (fVar 15) (fCons (fVar 16) (fCons (fVar 6) fNil)))) fNil))))) fNil)))) (sRet (eL (fC (.bool false))))
  sNil) g))))) ρ) := by
  obtain ⟨Ps, ds', ρ', e1, k1, hd', hl3, hP⟩ := drawn3 h hd hk
  refine go (step_e e1 k1 (by decide)) fun ρ hk => ?_
  have hk : Kn 32 ρ (mD Rs x ds ds' Ps) := hk
  have l5 := h.l5
  have fl2 : flatL [P0 Rs x, B0 Rs x] = true := by simp only [flatL, Bool.and_true]; rw [flatQt, flatQt]; rfl
  have ec : Ps.map encQs ++ [P0 Rs x, B0 Rs x] = (allP Rs x Ps).map encQs := by simp [allP]
  have c1 := lcat flatPs fl2 (by simp [hl3] : (Ps.map encQs).length + [P0 Rs x, B0 Rs x].length ≤ 100000)
  rw [ec] at c1
  obtain ⟨ρ2, e2, hk2⟩ := kn_for (n := 32) (i := 6) (m := mD Rs x ds ds' Ps) (f := (sIf (eLT (gOr (gCmp dNe (fN dRepr (fCons (fCall (m__law_asked K) (fCons (fC (.int 5)) (fCons (fVar 15) (fCons (fVar 6) (fCons (fC .none) fNil))))) fNil)) (fN dRepr (fCons (fCall m__law_sum (fCons (fVar 15) (fCons (fVar 6) fNil))) fNil))) (gTru dTru (fCall m__law_is_less (fCons (fCall m__law_sum (fCons (fVar 15) (fCons (fVar 6) fNil))) (fCons (fVar 22) fNil)))))) (sRet (eL (fC (.bool false))))
  sNil)) (by decide) rfl ((allP Rs x Ps).map encQs) ρ hk fun d hd ρ1 k1 => by
    obtain ⟨ps, hps, rfl⟩ := List.mem_map.mp hd
    have hg := allP_pg h hP ps hps
    refine if_no (gOr_no (repr_same (repr_Q (sumQB h hg) (by decide)) (fCall4 rfl (k1.get rfl) (k1.get rfl) rfl (asked_ok nd (way := 5) (by decide) (w5 h hg))) (fCall2 (k1.get rfl) (k1.get rfl) (lsumP h hg))) (gTru_n (fCall2 (fCall2 (k1.get rfl) (k1.get rfl) (lsumP h hg)) (k1.get rfl) (not_less h hg))))
  refine go (Q := fun ρ => Kn 32 ρ (mD Rs x ds ds' Ps)) ⟨ρ2, ?_, hk2⟩ fun ρ hk => ?_
  · have ei := eIt_ok' (ρ := ρ) (fOp_ok' (o := dAdd) (hk.get (i := 5) rfl) (fLst2 (hk.get (i := 19) rfl) (hk.get (i := 21) rfl)) c1) rfl
    rw [sFor_ok, ei]
    exact e2
  have hP0 : P0 Rs x = .tuple ((parting Rs x).map encQ) := rfl
  have s1 : slD (P0 Rs x) (some 1) none = some (encQs ((parting Rs x).drop 1)) := by
    show some (PyData.tuple (cut ((parting Rs x).map encQ) (some 1) none)) = _
    rw [cut1, ← List.map_drop]; rfl
  have s2 : dAdd (P0 Rs x) (.tuple [encQ 0]) = some (encQs (parting Rs x ++ [0])) := by
    have := tcat (xs := (parting Rs x).map encQ) (ys := [encQ 0]) flatQs (by rfl) (by have := h.pg.len; simp; omega)
    rw [hP0, this]; simp [encQs]
  have half : QB 2 (mkRat 1 2) := ⟨by decide +kernel, by decide +kernel⟩
  have s3 : fRev (fVar 19) ρ = .ok (encQs (parting Rs x).reverse) := by
    have := fRev_ok' (f := fVar 19) (ρ := ρ) (xs := (parting Rs x).map encQ) (hk.get rfl) flatQs
    rw [this]; simp [encQs]
  refine go (step_set (d := .list (papers1 Rs x)) hk (by decide) (fLst7 (hk.get rfl) (fTup2 (hk.get rfl) (fCall2 (hk.get rfl) half_ok (ladd_ok h.told half (by decide)))) (fTup2 (fSl_ok' (hk.get rfl) (fPart_ok' rfl) rfl s1) (hk.get rfl)) (fTup2 (fOp_ok' (hk.get rfl) (tup1 zero_ok) s2) (hk.get rfl)) (fTup2 s3 (hk.get rfl)) (fTup2 (fOp_ok' (tup1 v24_ok) (hk.get rfl) (dMulT_ok (by rfl) h.l1 (by omega))) (hk.get rfl)) (fTup2 (hk.get rfl) v24_ok))) fun ρ hk => ?_
  have fl1 : flatL [B0 Rs x] = true := by simp only [flatL, Bool.and_true]; exact flatQt
  have ec2 : Ps.map encQs ++ [B0 Rs x] = (Ps ++ [best Rs x]).map encQs := by simp
  have c2 := lcat flatPs fl1 (by simp [hl3] : (Ps.map encQs).length + [B0 Rs x].length ≤ 100000)
  rw [ec2] at c2
  have e3 := kn_lc hk (i := 6) (by decide) encQs (fun ps => encP (ps, told Rs x)) (Ps ++ [best Rs x]) (fi := fIt (fOp dAdd (fVar 5) (fLst (fCons (fVar 21) fNil)))) (fe := fTup (fCons (fVar 6) (fCons (fVar 20) fNil))) (fIt_ok' (fOp_ok' (hk.get rfl) (fLst1 (hk.get rfl)) c2) rfl) (by simp [hl3]) fun ps hps ρ1 k1 => fTup2 (k1.get rfl) (k1.get rfl)
  have e4 := kn_lc hk (i := 27) (by decide) encQ (fun q => encQ (2 * q)) (parting Rs x) (fi := fIt (fVar 19)) (fe := fCall m__law_times (fCons (fTup (fCons (fC (.int 2)) (fCons (fC (.int 1)) fNil))) (fCons (fVar 27) fNil))) (fIt_ok' (hk.get rfl) rfl) (by have := h.pg.len; omega) fun q hq ρ1 k1 => fCall2 two_ok (k1.get rfl) (ltimes_ok QB2 (h.pg.bits q hq) (by decide))
  have ec4 : ((parting Rs x).map fun q => encQ (2 * q)) = ((parting Rs x).map (2 * ·)).map encQ := by simp [Function.comp_def]
  rw [ec4] at e4
  have pf := papers_flat (Rs := Rs) (x := x) (Ps := Ps)
  have pf1 : flatL (papers1 Rs x) = true := flatL_iff.mpr fun d hd => pf d (by unfold papersL; exact List.mem_append_left _ (List.mem_append_left _ hd))
  have pf2 : flatL ((Ps ++ [best Rs x]).map fun ps => encP (ps, told Rs x)) = true := flatL_iff.mpr fun d hd => pf d (by unfold papersL; exact List.mem_append_left _ (List.mem_append_right _ hd))
  have pf12 : flatL (papers1 Rs x ++ (Ps ++ [best Rs x]).map fun ps => encP (ps, told Rs x)) = true := flatL_iff.mpr fun d hd => (List.mem_append.mp hd).elim (flatL_iff.mp pf1 d) (flatL_iff.mp pf2 d)
  have pf3 : flatL [encP ((parting Rs x).map (2 * ·), told Rs x)] = true := by simp only [flatL, Bool.and_true]; exact flatPP
  have c3 := lcat pf1 pf2 (by simp [papers1, hl3])
  have c4 := lcat pf12 pf3 (by simp [papers1, hl3])
  refine go (step_set (d := .list (papersL Rs x Ps)) hk (by decide) (fOp_ok' (fOp_ok' (hk.get rfl) e3 c3) (fLst1 (fTup2 (fN1 e4 (dTupleL flatQs)) (hk.get rfl))) c4)) fun ρ hk => ?_
  refine go_if (gTru_n (kn_any hk (i := 6) (by decide) (fun d => d) (papersL Rs x Ps) (fIt_ok' (hk.get rfl) (by simp [itemsD])) (by simp [papersL, hl3]) fun pp hpp ρ1 k1 => ?_)) ?_
  · obtain ⟨b, h1, h2⟩ := papers_agree h hP pp hpp
    have := repr_same (repr_B b) (fCall4 (m := m__law_asked K) (f := fC (.int 6)) (g := fVar 15) (j := fVar 16) (l := fVar 6) rfl (k1.get rfl) (k1.get rfl) (k1.get rfl) (asked_ok nd (way := 6) (by decide) h1)) (fCall3 (m := m__law_is_right) (f := fVar 15) (g := fVar 16) (j := fVar 6) (k1.get rfl) (k1.get rfl) (k1.get rfl) h2)
    unfold fOfB
    rw [this]; rfl
  exact hg ρ ds ds' Ps hd' (hk.dup.unset rfl)
end
end PV
end

set_option Elab.async false
set_option linter.all false
set_option maxRecDepth 100000
set_option maxHeartbeats 4000000
set_option autoImplicit false
/-! k52: the law, tolls; more roads; what is wrong. -/
noncomputable section
namespace PV
open PySem PySem.Spec PyProof.Rows L2 S52 HT
section
variable {Rs : List Road} {x : Rat} {K : PySem.W.Frag} {ρ : Env} {ds ds0 : List PyData} {Ps : List (List Rat)}
theorem tollsLen (h : Dn Rs x) : (tolls Rs x).length = Rs.length := by simp [tolls, h.bpg.len]
theorem tolls_get (h : Dn Rs x) {i : Nat} (h1 : i < Rs.length) (h2 : i < (best Rs x).length) (h3 : i < (tolls Rs x).length) : (tolls Rs x)[i] = Rs[i].2 * (best Rs x)[i] := by
  simp [tolls]
theorem tolls_nn (h : Dn Rs x) : ∀ q ∈ tolls Rs x, 0 ≤ q := fun q hq => by
  obtain ⟨z, hz, rfl⟩ := List.mem_map.mp hq
  obtain ⟨h1, h2⟩ := zip_mem1 hz
  exact Rat.mul_nonneg (h.ok.2 z.1 h1).2 (h.bpg.nn z.2 h2)
theorem paidLen (h : Dn Rs x) : (paidR Rs x).length = Rs.length := by simp [paidR, tollsLen h]
theorem paid_bits (h : Dn Rs x) : BR 122 (paidR Rs x) := fun r hr => by
  obtain ⟨z, hz, rfl⟩ := List.mem_map.mp hr
  obtain ⟨h1, h2⟩ := List.of_mem_zip hz
  exact ⟨(add_ok (h.br z.1 h1).1 ((w4 h (Z := .none)).2 z.2 h2) (by decide)).2, (h.br z.1 h1).2.mono (by decide)⟩
theorem paid_ok (h : Dn Rs x) (hk : Kn 32 ρ (mset (mD Rs x ds0 ds Ps) 8 (encQs (tolls Rs x)))) : fLc (.nm 24) [24] (fRg (fCons (fVar 17) fNil)) gYes (fTup (fCons (fCall m__law_add (fCons (fOp ixD (fOp ixD (fVar 15) (fVar 24)) (fC (.int 0))) (fCons (fOp ixD (fVar 8) (fVar 24)) fNil))) (fCons (fOp ixD (fOp ixD (fVar 15) (fVar 24)) (fC (.int 1))) fNil))) ρ = .ok (.list ((paidR Rs x).map encR)) := by
  have tl := tollsLen h
  have e1 := kn_lc hk (i := 24) (by decide) (fun i : Nat => .int (i : Nat)) (fun i => encR ((Rs.getD i (0, 0)).1 + (tolls Rs x).getD i 0, (Rs.getD i (0, 0)).2)) (List.range Rs.length) (fi := fRg (fCons (fVar 17) fNil)) (fe := fTup (fCons (fCall m__law_add (fCons (fOp ixD (fOp ixD (fVar 15) (fVar 24)) (fC (.int 0))) (fCons (fOp ixD (fVar 8) (fVar 24)) fNil))) (fCons (fOp ixD (fOp ixD (fVar 15) (fVar 24)) (fC (.int 1))) fNil))) (fRg_ok' (hk.get rfl) (by have := h.l5; omega)) (by have := h.l5; simp; omega) fun i hi ρ1 k1 => by
    have h1 := List.mem_range.mp hi
    have h3 : i < (tolls Rs x).length := by omega
    have ed1 : Rs.getD i (0, 0) = Rs[i] := by simp [List.getD, h1]
    have ed2 : (tolls Rs x).getD i 0 = (tolls Rs x)[i] := by simp [List.getD, h3]
    rw [ed1, ed2]
    have g1 : fOp ixD (fVar 15) (fVar 24) ρ1 = .ok (encR Rs[i]) := fIx_ok' (k1.get (i := 15) (d := encRs Rs) rfl) (k1.get rfl) (ixT h1)
    exact fTup2 (fCall2 (fIx_ok' g1 rfl rfl) (fIx_ok' (k1.get (i := 8) (d := encQs (tolls Rs x)) rfl) (k1.get rfl) (ixT h3)) (ladd_ok (h.br Rs[i] (List.getElem_mem h1)).1 ((w4 h (Z := .none)).2 _ (List.getElem_mem h3)) (by decide))) (fIx_ok' g1 rfl rfl)
  rw [e1, range_zip (xs := Rs) (ys := tolls Rs x) (fun r t => encR (r.1 + t, r.2)) _ tl.symm fun i h1 h2 => by
    have ed1 : Rs.getD i (0, 0) = Rs[i] := by simp [List.getD, h1]
    have ed2 : (tolls Rs x).getD i 0 = (tolls Rs x)[i] := by simp [List.getD, h2]
    rw [ed1, ed2]]
  simp [paidR, Function.comp_def]
theorem bcosts (h : Dn Rs x) : m__law_costs [encRs Rs, B0 Rs x] = .ok (.list ((costs Rs (best Rs x)).map encQ)) := lcosts_ok h.br h.bpg.bits h.bpg.len.symm (by have := h.l5; omega) (by decide)
theorem bcostsLen (h : Dn Rs x) : (costs Rs (best Rs x)).length = Rs.length := costs_len h.bpg.len.symm
theorem charged_ok (h : Dn Rs x) (hk : Kn 32 ρ (mset (mset (mD Rs x ds0 ds Ps) 8 (encQs (tolls Rs x))) 9 (encRs (paidR Rs x)))) : fLc (.tp [(.nm 24), (.nm 27)]) [24, 27] (fEnum (fCons (fCall m__law_costs (fCons (fVar 15) (fCons (fVar 21) fNil))) fNil)) gYes (fCall m__law_add (fCons (fVar 27) (fCons (fOp ixD (fVar 8) (fVar 24)) fNil))) ρ = .ok (.list ((costs (dbl Rs) (best Rs x)).map encQ)) := by
  have tl := tollsLen h
  have cl := bcostsLen h
  have he := fEnum_ok' (fCall2 (m := m__law_costs) (f := fVar 15) (g := fVar 21) (hk.get rfl) (hk.get rfl) (bcosts h)) rfl
  rw [List.length_map, enum_enc] at he
  have e1 := kn_lc2 hk (i := 24) (j := 27) (by decide) (by decide) (fun z : Rat × Nat => .int (z.2 : Nat)) (fun z => encQ z.1) (fun z => encQ (z.1 + (tolls Rs x).getD z.2 0)) (costs Rs (best Rs x)).zipIdx (fe := fCall m__law_add (fCons (fVar 27) (fCons (fOp ixD (fVar 8) (fVar 24)) fNil))) he (by have := h.l5; simp; omega) fun z hz ρ1 k1 => by
    obtain ⟨i, hi, e⟩ := List.mem_iff_getElem.mp hz
    have hi' : i < (costs Rs (best Rs x)).length := by simpa using hi
    have ez : z = ((costs Rs (best Rs x))[i], i) := by rw [← e]; simp
    subst ez
    have h3 : i < (tolls Rs x).length := by omega
    have ed2 : (tolls Rs x).getD i 0 = (tolls Rs x)[i] := by simp [List.getD, h3]
    rw [ed2]
    exact fCall2 (k1.get rfl) (fIx_ok' (k1.get (i := 8) (d := encQs (tolls Rs x)) rfl) (k1.get rfl) (ixT h3)) (ladd_ok (costs_bits h.br h.bpg.bits (by decide) _ (List.getElem_mem hi')) ((w4 h (Z := .none)).2 _ (List.getElem_mem h3)) (by decide))
  refine e1.trans (congrArg (fun l => R.ok (PyData.list l)) ?_)
  refine List.ext_getElem (by simp [cl, markLen h]) fun i h1 h2 => ?_
  have i1 : i < Rs.length := by simp [cl] at h1; omega
  have i2 : i < (best Rs x).length := by rw [h.bpg.len]; exact i1
  have i3 : i < (tolls Rs x).length := by omega
  have i4 : i < (dbl Rs).length := by simpa [dbl] using i1
  have ed2 : (tolls Rs x).getD i 0 = (tolls Rs x)[i] := by simp [List.getD, i3]
  have g1 := costs_get i1 i2
  have g2 := costs_get i4 i2
  have i5 : i < (costs Rs (best Rs x)).length := by omega
  have i6 : i < (costs (dbl Rs) (best Rs x)).length := by rw [markLen h]; exact i1
  rw [List.getElem?_eq_getElem i5] at g1
  rw [List.getElem?_eq_getElem i6] at g2
  have g1 := Option.some.inj g1
  have g2 := Option.some.inj g2
  simp only [List.getElem_map, List.getElem_zipIdx, Nat.zero_add]
  rw [g1, g2, ed2, tolls_get h i1 i2 i3]
  congr 1
  have e5 : (dbl Rs)[i] = (Rs[i].1, 2 * Rs[i].2) := by simp [dbl]
  rw [e5]
  unfold cost
  dsimp only
  grind
theorem dNe_int {i j : Int} : dNe (.int i) (.int j) = some (!(i == j)) := by simp [dNe, shaped_int, PyData.eqv]
theorem used_list (h : Dn Rs x) {m : Mp} (hk : Kn 32 ρ m) {j : Nat} (hj : j ≠ 24) (v17 : m 17 = some (.int (Rs.length : Nat))) (v21 : m 21 = some (B0 Rs x)) (vj : m j = some (.list ((costs (dbl Rs) (best Rs x)).map encQ))) :
    ∃ n, fLc (.nm 24) [24] (fRg (fCons (fVar 17) fNil)) (gCmp dGt (fOp ixD (fOp ixD (fVar 21) (fVar 24)) (fC (.int 0))) (fC (.int 0))) (fOp ixD (fVar j) (fVar 24)) ρ = .ok (.list ((List.replicate (n + 1) (told (dbl Rs) x)).map encQ)) := by
  have e4 := kn_filt hk (i := 24) (by decide) (fun i : Nat => .int (i : Nat)) (fun i => decide (0 < (best Rs x).getD i 0)) (fun i => encQ ((costs (dbl Rs) (best Rs x)).getD i 0)) (List.range Rs.length) (fi := fRg (fCons (fVar 17) fNil)) (ft := gCmp dGt (fOp ixD (fOp ixD (fVar 21) (fVar 24)) (fC (.int 0))) (fC (.int 0))) (fe := fOp ixD (fVar j) (fVar 24)) (fRg_ok' (hk.get v17) (by have := h.l5; omega)) (by have := h.l5; simp; omega) fun i hi ρ1 k1 => by
    have hi := List.mem_range.mp hi
    have h2 : i < (best Rs x).length := by rw [h.bpg.len]; exact hi
    have h3 : i < (costs (dbl Rs) (best Rs x)).length := by rw [markLen h]; exact hi
    have ed1 : (best Rs x).getD i 0 = (best Rs x)[i] := by simp [List.getD, h2]
    have ed2 : (costs (dbl Rs) (best Rs x)).getD i 0 = (costs (dbl Rs) (best Rs x))[i] := by simp [List.getD, h3]
    have u21 : mset (mrem m 24) 24 (.int (i : Nat)) 21 = some (B0 Rs x) := v21
    have uj : mset (mrem m 24) 24 (.int (i : Nat)) j = some (.list ((costs (dbl Rs) (best Rs x)).map encQ)) := by
      unfold mset mrem; rw [if_neg hj, if_neg hj]; exact vj
    rw [ed1, ed2]
    exact ⟨gCmp_ok' (fIx_ok' (fIx_ok' (k1.get u21) (k1.get rfl) (ixT h2)) rfl ix0) rfl dGt0, fun _ => fIx_ok' (k1.get uj) (k1.get rfl) (ixL h3)⟩
  obtain ⟨n, hu⟩ := used_marks h
  unfold usedIx at hu
  rw [hu] at e4
  exact ⟨n, e4⟩
def moreR : Road := (mkRat 5 2, mkRat 1 2)
theorem more_enc : (PyData.tuple [.tuple [.int 5, .int 2], .tuple [.int 1, .int 2]]) = encR moreR := by kernel_rfl
theorem more_facts : QB 3 moreR.1 ∧ QB 3 moreR.2 ∧ okR moreR = true := ⟨⟨by decide +kernel, by decide +kernel⟩, ⟨by decide +kernel, by decide +kernel⟩, by decide +kernel⟩
theorem third_enc : (PyData.tuple [.int 1, .int 3]) = encQ (mkRat 1 3) := by kernel_rfl
theorem third_bits : QB 2 (mkRat 1 3) := ⟨by decide +kernel, by decide +kernel⟩
theorem flatRs {R : List Road} : flatL (R.map encR) = true := flatL_iff.mpr fun d hd => by
  obtain ⟨r, _, rfl⟩ := List.mem_map.mp hd; rfl
theorem areMore (h : Dn Rs x) : areRoads (Rs ++ [moreR]) = true := by
  have := h.areRoads
  unfold areRoads at this ⊢
  simp only [Bool.and_eq_true, decide_eq_true_eq, List.all_append, List.all_cons, List.all_nil, Bool.and_true, List.length_append, List.length_cons, List.length_nil] at this ⊢
  have l5 := h.l5
  exact ⟨⟨by omega, by omega⟩, this.2, more_facts.2.2⟩
theorem brMore (h : Dn Rs x) : BR 3 (Rs ++ [moreR]) := fun r hr => by
  rcases List.mem_append.mp hr with hr | hr
  · exact h.br r hr
  · rw [List.mem_singleton.mp hr]; exact ⟨more_facts.1, more_facts.2.1⟩
theorem part4 (h : Dn Rs x) (nd : Nd K) (hk : Kn 32 ρ (mD Rs x ds0 ds Ps)) {g : FS} (hg : ∀ ρ, Kn 32 ρ (mD Rs x ds0 ds Ps) → Fin (g ρ)) :
    Fin ((sSeq (sSet 8 (eL (fCall (m__law_asked K) (fCons (fC (.int 4)) (fCons (fVar 15) (fCons (fVar 16) (fCons (fC .none) fNil)))))))
  (sSeq (sSet 9 (eL (fN dTuple (fCons (fLc (.nm 24) [24] (fRg (fCons (fVar 17) fNil)) gYes (fTup (fCons (fCall m__law_add (fCons (fOp ixD (fOp ixD (fVar 15) (fVar 24)) (fC (.int 0))) (fCons (fOp ixD (fVar 8) (fVar 24)) fNil))) (fCons (fOp ixD (fOp ixD (fVar 15) (fVar 24)) (fC (.int 1))) fNil)))) fNil))))
  (sSeq (sSet 10 (eL (fLc (.tp [(.nm 24), (.nm 27)]) [24, 27] (fEnum (fCons (fCall m__law_costs (fCons (fVar 15) (fCons (fVar 21) fNil))) fNil)) gYes (fCall m__law_add (fCons (fVar 27) (fCons (fOp ixD (fVar 8) (fVar 24)) fNil))))))
  (sSeq (sIf (eLT (gOr (gCmp dNe (fN dLen (fCons (fVar 8) fNil)) (fVar 17)) (gOr (gTru dTru (fN dAny (fCons (fLc (.nm 27) [27] (fIt (fVar 8)) gYes (fOfB (gCmp dLt (fOp ixD (fVar 27) (fC (.int 0))) (fC (.int 0))))) fNil))) (gAnd (gTru dTru (fCall m_are_roads (fCons (fVar 9) fNil))) (gCmp dNe (fCall m_level (fCons (fVar 9) (fCons (fVar 16) fNil))) (fCall m__law_greatest (fCons (fLc (.nm 24) [24] (fRg (fCons (fVar 17) fNil)) (gCmp dGt (fOp ixD (fOp ixD (fVar 21) (fVar 24)) (fC (.int 0))) (fC (.int 0))) (fOp ixD (fVar 10) (fVar 24))) fNil))))))) (sRet (eL (fC (.bool false))))
  sNil)
  (sSeq (sSet 11 (eL (fTup (fCons (fTup (fCons (fTup (fCons (fC (.int 5)) (fCons (fC (.int 2)) fNil))) (fCons (fTup (fCons (fC (.int 1)) (fCons (fC (.int 2)) fNil))) fNil))) fNil))))
  (sSeq (sIf (eLT (gOr (gTru dTru (fCall m__law_is_less (fCons (fVar 20) (fCons (fCall m_level (fCons (fOp dAdd (fVar 15) (fVar 11)) (fCons (fVar 16) fNil))) fNil)))) (gTru dTru (fCall m__law_is_less (fCons (fCall m_level (fCons (fVar 15) (fCons (fCall m__law_add (fCons (fVar 16) (fCons (fTup (fCons (fC (.int 1)) (fCons (fC (.int 3)) fNil))) fNil))) fNil))) (fCons (fVar 20) fNil)))))) (sRet (eL (fC (.bool false))))
  sNil) g)))))) ρ) := by
  refine go (step_set hk (by decide) (fCall4 rfl (hk.get rfl) (hk.get rfl) rfl (asked_ok nd (way := 4) (by decide) (w4 h).1))) fun ρ hk => ?_
  refine go (step_set (d := encRs (paidR Rs x)) hk (by decide) (fN1 (paid_ok h hk) (dTupleL flatRs))) fun ρ hk => ?_
  refine go (step_set hk (by decide) (charged_ok h hk)) fun ρ hk => ?_
  have tl := tollsLen h
  have t1 : dNe (.int ((tolls Rs x).length : Nat)) (.int (Rs.length : Nat)) = some false := by rw [dNe_int, tl]; simp
  have t2 := kn_any hk (i := 27) (by decide) encQ (tolls Rs x) (fi := fIt (fVar 8)) (fe := fOfB (gCmp dLt (fOp ixD (fVar 27) (fC (.int 0))) (fC (.int 0)))) (fIt_ok' (hk.get (i := 8) (d := encQs (tolls Rs x)) rfl) rfl) (by have := h.l5; omega) fun q hq ρ1 k1 => (fCmp_ok' (fIx_ok' (k1.get rfl) rfl ix0) rfl dLt0).trans (by
    have := tolls_nn h q hq
    rw [decide_eq_false (by grind)])
  have hb := paid_bits h
  have hpr : m_are_roads [encRs (paidR Rs x)] = .ok (.bool (areRoads (paidR Rs x))) := roads_ok (by have := paidLen h; have := h.l5; omega) (by decide) hb
  obtain ⟨n, hu⟩ := used_list h hk (j := 10) (by decide) rfl rfl rfl
  have t3 : gAnd (gTru dTru (fCall m_are_roads (fCons (fVar 9) fNil))) (gCmp dNe (fCall m_level (fCons (fVar 9) (fCons (fVar 16) fNil))) (fCall m__law_greatest (fCons (fLc (.nm 24) [24] (fRg (fCons (fVar 17) fNil)) (gCmp dGt (fOp ixD (fOp ixD (fVar 21) (fVar 24)) (fC (.int 0))) (fC (.int 0))) (fOp ixD (fVar 10) (fVar 24))) fNil))) ρ = .ok false := by
    have a := gTru_ok' (fCall1 (m := m_are_roads) (f := fVar 9) (ρ := ρ) (hk.get rfl) hpr)
    cases hc : areRoads (paidR Rs x) with
    | false => rw [hc] at a; rw [gAnd_ok, a]; rfl
    | true =>
      rw [hc] at a
      have el := level_ok hc h.am hb h.qx (by decide)
      rw [paid_level h.ok h.pos (areRoads_ok hc).1] at el
      exact gAnd_ok' a (gCmp_ok' (fCall2 (hk.get rfl) (hk.get rfl) el) (fCall1 hu (greatest_ok h.toldd (by decide) n)) dNe_same)
  refine go_if (gOr_no (gCmp_ok' (fN1 (hk.get (i := 8) (d := encQs (tolls Rs x)) rfl) (show dLen [encQs (tolls Rs x)] = some (.int ((tolls Rs x).length : Nat)) by simp [encQs, dLen])) (hk.get rfl) t1) (gOr_no (gTru_n t2) t3)) ?_
  refine go (step_set (d := encRs [moreR]) hk (by decide) ((tup1 (fTup2 (fTup2 rfl rfl) (fTup2 rfl rfl))).trans (by rw [more_enc]; rfl))) fun ρ hk => ?_
  have c1 : dAdd (encRs Rs) (encRs [moreR]) = some (encRs (Rs ++ [moreR])) := by
    have := tcat (xs := Rs.map encR) (ys := [moreR].map encR) flatRs flatRs (by have := h.l5; simp; omega)
    unfold encRs
    rw [this]; simp
  have hm := level_ok (areMore h) h.am (brMore h) h.qx (by decide)
  have hmq := (told_ok (X := encRs (Rs ++ [moreR])) rfl (areRoads_ok (areMore h)).1 (brMore h) h.qx (areRoads_ok (areMore h)).2 (by decide)).2
  have l1 := isless_ok h.told hmq (by decide)
  have n1 : decide (told Rs x < told (Rs ++ [moreR]) x) = false := by
    have := more_le h.ok (areRoads_ok (areMore h)).1 h.pos
    exact decide_eq_false (by grind)
  rw [n1] at l1
  obtain ⟨a1, a2⟩ := add_ok h.qx third_bits (by decide)
  have a1' : m__law_add [encQ x, encQ (mkRat 1 3)] = .ok (encQ (x + mkRat 1 3)) := ladd_ok h.qx third_bits (by decide)
  have am := (good_X h.hx).2.2.2.2
  have ht := level_ok h.areRoads am h.br a2 (by decide)
  have htq := (told_ok (X := encRs Rs) rfl h.ok h.br a2 (by have := h.l5; omega) (by decide)).2
  have l2 := isless_ok htq h.told (by decide)
  have n2 : decide (told Rs (x + mkRat 1 3) < told Rs x) = false := by
    have h3 : (0 : Rat) ≤ mkRat 1 3 := by decide +kernel
    have := amount_le h.ok h.pos (y := x + mkRat 1 3) (by grind)
    exact decide_eq_false (by grind)
  rw [n2] at l2
  refine go_if (gOr_no (gTru_n (fCall2 (hk.get rfl) (fCall2 (fOp_ok' (hk.get rfl) (hk.get rfl) c1) (hk.get rfl) hm) l1)) (gTru_n (fCall2 (fCall2 (hk.get rfl) (fCall2 (hk.get rfl) ((fTup2 rfl rfl).trans (by rw [third_enc])) a1') ht) (hk.get rfl) l2))) ?_
  exact hg ρ ((((hk.unset rfl).unset rfl).unset rfl).unset rfl)
end
end PV
end

set_option Elab.async false
set_option linter.all false
set_option maxRecDepth 100000
set_option maxHeartbeats 4000000
set_option autoImplicit false
/-! k52: the law, the known case; what is wrong. -/
noncomputable section
namespace PV
open PySem PySem.Spec PyProof.Rows L2 S52 HT
def oneD : PyData := .tuple [.int 1, .int 1]
def zerD : PyData := .tuple [.int 0, .int 1]
def knownD : PyData := .tuple [.tuple [oneD, zerD], .tuple [zerD, oneD]]
def halD : PyData := .tuple [.int 1, .int 2]
theorem kn1 : m_level [knownD, oneD] = .ok oneD := by kernel_rfl
theorem kn2 : m_least_stream_sum [knownD, oneD] = .ok (.tuple [.int 3, .int 4]) := by kernel_rfl
theorem kn3 : m_best_parting [knownD, oneD] = .ok (.tuple [halD, halD]) := by kernel_rfl
theorem kn4 : m_parting_sum [knownD, .tuple [zerD, oneD]] = .ok oneD := by kernel_rfl
theorem kn5 : dNe (.list [oneD, .tuple [.int 3, .int 4], .tuple [halD, halD], oneD]) (.list [oneD, .tuple [.int 3, .int 4], .tuple [halD, halD], oneD]) = some false := by kernel_rfl
theorem fLst4 {f1 f2 f3 f4 : Env → R PyData} {ρ : Env} {a1 a2 a3 a4 : PyData} (h1 : f1 ρ = .ok a1) (h2 : f2 ρ = .ok a2) (h3 : f3 ρ = .ok a3) (h4 : f4 ρ = .ok a4) :
    fLst (fCons f1 (fCons f2 (fCons f3 (fCons f4 fNil)))) ρ = .ok (.list [a1, a2, a3, a4]) := by
  rw [fLst_ok]
  simp only [fCons_ok, h1, h2, h3, h4, fNil_ok, ok_bind]
  rw [lst_le (by simp)]
theorem fLst6 {f1 f2 f3 f4 f5 f6 : Env → R PyData} {ρ : Env} {a1 a2 a3 a4 a5 a6 : PyData} (h1 : f1 ρ = .ok a1) (h2 : f2 ρ = .ok a2) (h3 : f3 ρ = .ok a3) (h4 : f4 ρ = .ok a4) (h5 : f5 ρ = .ok a5) (h6 : f6 ρ = .ok a6) :
    fLst (fCons f1 (fCons f2 (fCons f3 (fCons f4 (fCons f5 (fCons f6 fNil)))))) ρ = .ok (.list [a1, a2, a3, a4, a5, a6]) := by
  rw [fLst_ok]
  simp only [fCons_ok, h1, h2, h3, h4, h5, h6, fNil_ok, ok_bind]
  rw [lst_le (by simp)]
theorem rep_map {α : Type} {v : PyData} {f : α → PyData} : ∀ {xs : List α}, (∀ x ∈ xs, f x = v) → xs.map f = List.replicate xs.length v
  | [], _ => rfl
  | x :: xs, h => by rw [List.map_cons, h x (List.mem_cons_self ..), rep_map fun y hy => h y (List.mem_cons_of_mem _ hy)]; rfl
def rowN : PyData := .list (List.replicate 4 (.str "!number"))
theorem flat24 : m__law_flat [.list (List.replicate 6 rowN)] = .ok (.list (List.replicate 24 (.str "!number"))) := by kernel_rfl
theorem cat28 : dAdd (.list (List.replicate 24 (.str "!number"))) (.list (List.replicate 4 (.str "!number"))) = some (.list (List.replicate 28 (.str "!number"))) := by
  exact lcat (by rfl) (by rfl) (by simp)
theorem mul7 : dMul (.list [.str "!table"]) (.int 7) = some (.list (List.replicate 7 (.str "!table"))) := by kernel_rfl
theorem mul28 : dMul (.list [.str "!number"]) (.int 28) = some (.list (List.replicate 28 (.str "!number"))) := by kernel_rfl
theorem eq7 : dEq (.list (List.replicate 7 (.str "!table"))) (.list (List.replicate 7 (.str "!table"))) = some true := by kernel_rfl
theorem eq28 : dEq (.list (List.replicate 28 (.str "!number"))) (.list (List.replicate 28 (.str "!number"))) = some true := by kernel_rfl
theorem isFF : dIs false (.bool false) (.bool false) = some true := by kernel_rfl
theorem exT : ("NotTable" : Str) ∈ exNames := by decide +kernel
theorem exN : ("BadNumber" : Str) ∈ exNames := by decide +kernel
section
variable {Rs : List Road} {x : Rat} {K : PySem.W.Frag} {ρ : Env} {ds ds0 : List PyData} {Ps : List (List Rat)}
theorem wrong_asked (nd : Nd K) {X Y Z : PyData} (hX : X ∈ wrongL) {way : Nat} (hw : way < 7) : m__law_asked K [.int (way : Nat), X, Y, Z] = .ok (.str "!table") := by
  have hr := wrong_no hX
  refine asked_ex nd hw ?_ exT kind_table
  by_cases h5 : way = 5
  · subst h5; exact psum_table hr
  · refine due_check ?_ (by omega)
    rw [check_core (b := false) (c := false) hr (fun h => nomatch h)]; rfl
theorem roads_yes (h : Dn Rs x) : m_are_roads [encRs Rs] = .ok (.bool true) := by
  have := roads_ok (by have := h.l5; omega) (by decide) h.br
  rw [h.areRoads] at this
  exact this
theorem far_asked (h : Dn Rs x) (nd : Nd K) {Y Z : PyData} (hY : Y ∈ farL) {way : Nat} (hw : way < 7) (h5 : way ≠ 5) : m__law_asked K [.int (way : Nat), encRs Rs, Y, Z] = .ok (.str "!number") := by
  refine asked_ex nd hw (due_check ?_ (by omega)) exN kind_number
  rw [check_core (b := true) (c := false) (roads_yes h) (fun _ => far_no hY)]; rfl
theorem bad_asked (h : Dn Rs x) (nd : Nd K) {Y Z : PyData} (hY : m_is_parting [.int (Rs.length : Nat), Y] = .ok (.bool false)) : m__law_asked K [.int ((5 : Nat) : Int), encRs Rs, Y, Z] = .ok (.str "!number") :=
  asked_ex nd (way := 5) (by decide) (psum_number h.areRoads h.br (by decide) hY) exN kind_number
theorem pick_wrong (hd : Dr 3860 ds) : ∃ d ds', d ∈ wrongL ∧ m__law_pick (.list ds) [.list wrongL] = .ok (d, .list ds') := by
  obtain ⟨d, ds', h1, h2, _⟩ := pick_ok (xs := wrongL) hd (by unfold wrongL; exact List.cons_ne_nil _ _) (by kernel_rfl)
  exact ⟨d, ds', h1, h2⟩
theorem fIf_b {t : Env → R Bool} {f g : Env → R PyData} {ρ : Env} {b : Bool} {c d : PyData} (ht : t ρ = .ok b) (hf : f ρ = .ok c) (hg : g ρ = .ok d) : ∃ e, fIf t f g ρ = .ok e := by
  cases b
  · exact ⟨d, (fIf_no ht).trans hg⟩
  · exact ⟨c, (fIf_yes ht).trans hf⟩
theorem fTup0 {ρ : Env} : fTup fNil ρ = .ok (.tuple []) := by
  rw [fTup_ok, fNil_ok]
  simp only [ok_bind]
  rw [lst_le (by simp)]
theorem neg1 {ρ : Env} : fUn dNeg (fC (.int 1)) ρ = .ok (.int (-1)) := rfl
theorem two0 {ρ : Env} : fTup (fCons (fTup fNil) (fCons (fTup fNil) fNil)) ρ = .ok (.tuple [.tuple [], .tuple []]) := fTup2 fTup0 fTup0
theorem far_items {ρ : Env} : fIt (fLst (fCons (fTup (fCons (fC (.int 0)) (fCons (fC (.int 1)) fNil))) (fCons (fTup (fCons (fUn dNeg (fC (.int 1))) (fCons (fC (.int 1)) fNil))) (fCons (fTup (fCons (fC (.int 2)) (fCons (fC (.int 4)) fNil))) (fCons (fTup (fCons (fC (.int 1001)) (fCons (fC (.int 1)) fNil))) fNil))))) ρ = .ok farL :=
  fIt_ok' (fLst4 (fTup2 rfl rfl) (fTup2 neg1 rfl) (fTup2 rfl rfl) (fTup2 rfl rfl)) rfl
def badPs (Rs : List Road) (x : Rat) : List PyData := [encQs ((parting Rs x).drop 1), encQs (parting Rs x ++ [0]), wTup Rs.length vm11, wTup Rs.length v24]
theorem badPs_no (h : Dn Rs x) : ∀ Y ∈ badPs Rs x, m_is_parting [.int (Rs.length : Nat), Y] = .ok (.bool false) := by
  have l1 := h.l1
  have l5 := h.l5
  have pl := h.pg.len
  intro Y hY
  simp only [badPs, List.mem_cons, List.not_mem_nil, or_false] at hY
  rcases hY with rfl | rfl | rfl | rfl
  · rw [isp_ok (e := 115) (fun q hq => h.pg.bits q (List.mem_of_mem_drop hq)) (by decide) (by simp; omega)]
    have : ¬ ((parting Rs x).drop 1).length = Rs.length := by simp; omega
    rw [decide_eq_false this]; rfl
  · rw [isp_ok (e := 115) (fun q hq => by
      rcases List.mem_append.mp hq with hq | hq
      · exact h.pg.bits q hq
      · rw [List.mem_singleton.mp hq]; exact QB0.mono (by decide)) (by decide) (by simp; omega)]
    have : ¬ (parting Rs x ++ [0]).length = Rs.length := by simp; omega
    rw [decide_eq_false this]; rfl
  · exact isp_W badm11 l1 (by omega)
  · exact isp_W bad24 l1 (by omega)
theorem vm11_ok {ρ : Env} : fTup (fCons (fUn dNeg (fC (.int 1))) (fCons (fC (.int 1)) fNil)) ρ = .ok vm11 := fTup2 neg1 rfl
theorem part5 (h : Dn Rs x) (nd : Nd K) (hd : Dr 3860 ds) (hk : Kn 32 ρ (mD Rs x ds0 ds Ps)) :
    Fin ((sSeq (sUnp [23, 6] (eL (fTup (fCons (fTup (fCons (fTup (fCons (fTup (fCons (fC (.int 1)) (fCons (fC (.int 1)) fNil))) (fCons (fTup (fCons (fC (.int 0)) (fCons (fC (.int 1)) fNil))) fNil))) (fCons (fTup (fCons (fTup (fCons (fC (.int 0)) (fCons (fC (.int 1)) fNil))) (fCons (fTup (fCons (fC (.int 1)) (fCons (fC (.int 1)) fNil))) fNil))) fNil))) (fCons (fTup (fCons (fC (.int 1)) (fCons (fC (.int 1)) fNil))) fNil)))))
  (sSeq (sIf (eLT (gCmp dNe (fLst (fCons (fCall m_level (fCons (fVar 23) (fCons (fVar 6) fNil))) (fCons (fCall m_least_stream_sum (fCons (fVar 23) (fCons (fVar 6) fNil))) (fCons (fCall m_best_parting (fCons (fVar 23) (fCons (fVar 6) fNil))) (fCons (fCall m_parting_sum (fCons (fVar 23) (fCons (fTup (fCons (fTup (fCons (fC (.int 0)) (fCons (fC (.int 1)) fNil))) (fCons (fVar 6) fNil))) fNil))) fNil))))) (fLst (fCons (fVar 6) (fCons (fTup (fCons (fC (.int 3)) (fCons (fC (.int 4)) fNil))) (fCons (fTup (fCons (fTup (fCons (fC (.int 1)) (fCons (fC (.int 2)) fNil))) (fCons (fTup (fCons (fC (.int 1)) (fCons (fC (.int 2)) fNil))) fNil))) (fCons (fVar 6) fNil))))))) (sRet (eL (fC (.bool false))))
  sNil)
  (sSeq (sSet 12 (eCallM 1 m__law_pick (eLA (fCons (fCall m__law_wrong_roads fNil) fNil))))
  (sSeq (sSet 13 (eLc (.nm 26) [26] (eRg (eLA (fCons (fC (.int 7)) fNil))) egYes (eL (fCall (m__law_asked K) (fCons (fVar 26) (fCons (fVar 12) (fCons (fIf (gCmp dEq (fVar 26) (fC (.int 5))) (fTup fNil) (fTup (fCons (fC (.int 0)) (fCons (fC (.int 1)) fNil)))) (fCons (fTup (fCons (fTup fNil) (fCons (fTup fNil) fNil))) fNil))))))))
  (sSeq (sSet 14 (eL (fCall m__law_flat (fCons (fLc (.nm 26) [26] (fIt (fLst (fCons (fC (.int 0)) (fCons (fC (.int 1)) (fCons (fC (.int 2)) (fCons (fC (.int 3)) (fCons (fC (.int 4)) (fCons (fC (.int 6)) fNil)))))))) gYes (fLc (.nm 31) [31] (fIt (fLst (fCons (fTup (fCons (fC (.int 0)) (fCons (fC (.int 1)) fNil))) (fCons (fTup (fCons (fUn dNeg (fC (.int 1))) (fCons (fC (.int 1)) fNil))) (fCons (fTup (fCons (fC (.int 2)) (fCons (fC (.int 4)) fNil))) (fCons (fTup (fCons (fC (.int 1001)) (fCons (fC (.int 1)) fNil))) fNil)))))) gYes (fCall (m__law_asked K) (fCons (fVar 26) (fCons (fVar 15) (fCons (fVar 31) (fCons (fTup (fCons (fTup fNil) (fCons (fTup fNil) fNil))) fNil))))))) fNil))))
  (sSeq (sSet 14 (eL (fOp dAdd (fVar 14) (fLc (.nm 28) [28] (fIt (fLst (fCons (fSl (fVar 19) (fPart (fC (.int 1))) fNoPart) (fCons (fOp dAdd (fVar 19) (fTup (fCons (fTup (fCons (fC (.int 0)) (fCons (fC (.int 1)) fNil))) fNil))) (fCons (fOp dMulT (fTup (fCons (fTup (fCons (fUn dNeg (fC (.int 1))) (fCons (fC (.int 1)) fNil))) fNil)) (fVar 17)) (fCons (fOp dMulT (fTup (fCons (fTup (fCons (fC (.int 2)) (fCons (fC (.int 4)) fNil))) fNil)) (fVar 17)) fNil)))))) gYes (fCall (m__law_asked K) (fCons (fC (.int 5)) (fCons (fVar 15) (fCons (fVar 28) (fCons (fC .none) fNil)))))))))
  (sRet (eL (fAnd (fOfB (gCmp (dIs false) (fCall m_are_roads (fCons (fVar 12) fNil)) (fC (.bool false)))) (fAnd (fOfB (gCmp dEq (fVar 13) (fOp dMul (fLst (fCons (fC (.str "!table")) fNil)) (fC (.int 7))))) (fOfB (gCmp dEq (fVar 14) (fOp dMul (fLst (fCons (fC (.str "!number")) fNil)) (fC (.int 28))))))))))))))) ρ) := by
  refine go (step_unp (a := knownD) (b := oneD) hk (by decide) (by decide) (fTup2 (fTup2 (fTup2 (fTup2 rfl rfl) (fTup2 rfl rfl)) (fTup2 (fTup2 rfl rfl) (fTup2 rfl rfl))) (fTup2 rfl rfl))) fun ρ hk => ?_
  refine go_if (gCmp_ok' (fLst4 (fCall2 (hk.get rfl) (hk.get rfl) kn1) (fCall2 (hk.get rfl) (hk.get rfl) kn2) (fCall2 (hk.get rfl) (hk.get rfl) kn3) (fCall2 (hk.get rfl) (fTup2 (fTup2 rfl rfl) (hk.get rfl)) kn4)) (fLst4 (hk.get rfl) (fTup2 rfl rfl) (fTup2 (fTup2 rfl rfl) (fTup2 rfl rfl)) (hk.get rfl)) kn5) ?_
  obtain ⟨X, ds', hX, hp⟩ := pick_wrong hd
  have e12 := eCallM_gen (i := 1) (m := m__law_pick) (f := eLA (fCons (fCall m__law_wrong_roads fNil) fNil)) (hk.slot (i := 1) (d := .list ds) rfl) (eLA1 ((fCall_ok ..).trans wrong_ok)) (hk.slot (i := 1) (d := .list ds) rfl) hp
  refine go (step_e e12 (hk.set (i := 1) (by decide) (.list ds')) (by decide)) fun ρ hk => ?_
  have e13 := kn_elcm hk (i := 26) (by decide) (fun i : Nat => .int (i : Nat)) (fun _ => .str "!table") (List.range 7) (fi := eRg (eLA (fCons (fC (.int 7)) fNil))) (fe := fCall (m__law_asked K) (fCons (fVar 26) (fCons (fVar 12) (fCons (fIf (gCmp dEq (fVar 26) (fC (.int 5))) (fTup fNil) (fTup (fCons (fC (.int 0)) (fCons (fC (.int 1)) fNil)))) (fCons (fTup (fCons (fTup fNil) (fCons (fTup fNil) fNil))) fNil))))) (eRg_ok' rfl (by decide)) (by simp) fun i hi ρ1 k1 => by
    obtain ⟨Y, hY⟩ := fIf_b (t := gCmp dEq (fVar 26) (fC (.int 5))) (f := fTup fNil) (g := fTup (fCons (fC (.int 0)) (fCons (fC (.int 1)) fNil))) (ρ := ρ1) (gCmp_ok' (k1.get rfl) rfl dEq_int) fTup0 (fTup2 rfl rfl)
    exact fCall4 (k1.get rfl) (k1.get rfl) hY two0 (wrong_asked nd hX (List.mem_range.mp hi))
  rw [rep_map (fun _ _ => rfl), List.length_range] at e13
  refine go (step_e e13 (hk.wipe1 26) (by decide)) fun ρ hk => ?_
  have e14 := kn_lc hk (i := 26) (by decide) (fun i : Nat => .int (i : Nat)) (fun _ => rowN) [0, 1, 2, 3, 4, 6] (fi := fIt (fLst (fCons (fC (.int 0)) (fCons (fC (.int 1)) (fCons (fC (.int 2)) (fCons (fC (.int 3)) (fCons (fC (.int 4)) (fCons (fC (.int 6)) fNil)))))))) (fe := fLc (.nm 31) [31] (fIt (fLst (fCons (fTup (fCons (fC (.int 0)) (fCons (fC (.int 1)) fNil))) (fCons (fTup (fCons (fUn dNeg (fC (.int 1))) (fCons (fC (.int 1)) fNil))) (fCons (fTup (fCons (fC (.int 2)) (fCons (fC (.int 4)) fNil))) (fCons (fTup (fCons (fC (.int 1001)) (fCons (fC (.int 1)) fNil))) fNil)))))) gYes (fCall (m__law_asked K) (fCons (fVar 26) (fCons (fVar 15) (fCons (fVar 31) (fCons (fTup (fCons (fTup fNil) (fCons (fTup fNil) fNil))) fNil)))))) (fIt_ok' (fLst6 rfl rfl rfl rfl rfl rfl) rfl) (by simp) fun i hi ρ1 k1 => by
    have hi' : i < 7 ∧ i ≠ 5 := by
      simp only [List.mem_cons, List.not_mem_nil, or_false] at hi
      omega
    have e := kn_lc k1 (i := 31) (by decide) (fun d : PyData => d) (fun _ => .str "!number") farL (fi := fIt (fLst (fCons (fTup (fCons (fC (.int 0)) (fCons (fC (.int 1)) fNil))) (fCons (fTup (fCons (fUn dNeg (fC (.int 1))) (fCons (fC (.int 1)) fNil))) (fCons (fTup (fCons (fC (.int 2)) (fCons (fC (.int 4)) fNil))) (fCons (fTup (fCons (fC (.int 1001)) (fCons (fC (.int 1)) fNil))) fNil)))))) (fe := fCall (m__law_asked K) (fCons (fVar 26) (fCons (fVar 15) (fCons (fVar 31) (fCons (fTup (fCons (fTup fNil) (fCons (fTup fNil) fNil))) fNil))))) (far_items.trans (by rw [List.map_id'])) (by simp [farL]) fun d hd ρ2 k2 => fCall4 (k2.get rfl) (k2.get rfl) (k2.get rfl) two0 (far_asked h nd hd hi'.1 hi'.2)
    rw [rep_map (fun _ _ => rfl)] at e
    exact e
  rw [rep_map (fun _ _ => rfl)] at e14
  refine go (step_set hk (by decide) (fCall1 e14 flat24)) fun ρ hk => ?_
  have hP0 : P0 Rs x = .tuple ((parting Rs x).map encQ) := rfl
  have s1 : slD (P0 Rs x) (some 1) none = some (encQs ((parting Rs x).drop 1)) := by
    show some (PyData.tuple (cut ((parting Rs x).map encQ) (some 1) none)) = _
    rw [cut1, ← List.map_drop]; rfl
  have s2 : dAdd (P0 Rs x) (.tuple [encQ 0]) = some (encQs (parting Rs x ++ [0])) := by
    have := tcat (xs := (parting Rs x).map encQ) (ys := [encQ 0]) flatQs (by rfl) (by have := h.pg.len; have := h.l5; simp; omega)
    rw [hP0, this]; simp [encQs]
  have hb : fIt (fLst (fCons (fSl (fVar 19) (fPart (fC (.int 1))) fNoPart) (fCons (fOp dAdd (fVar 19) (fTup (fCons (fTup (fCons (fC (.int 0)) (fCons (fC (.int 1)) fNil))) fNil))) (fCons (fOp dMulT (fTup (fCons (fTup (fCons (fUn dNeg (fC (.int 1))) (fCons (fC (.int 1)) fNil))) fNil)) (fVar 17)) (fCons (fOp dMulT (fTup (fCons (fTup (fCons (fC (.int 2)) (fCons (fC (.int 4)) fNil))) fNil)) (fVar 17)) fNil))))) ρ = .ok (badPs Rs x) :=
    fIt_ok' (fLst4 (fSl_ok' (hk.get rfl) (fPart_ok' rfl) rfl s1) (fOp_ok' (hk.get rfl) (tup1 zero_ok) s2) (fOp_ok' (tup1 vm11_ok) (hk.get rfl) (dMulT_ok (by rfl) h.l1 (by have := h.l5; omega))) (fOp_ok' (tup1 v24_ok) (hk.get rfl) (dMulT_ok (by rfl) h.l1 (by have := h.l5; omega)))) rfl
  have e15 := kn_lc hk (i := 28) (by decide) (fun d : PyData => d) (fun _ => .str "!number") (badPs Rs x) (fe := fCall (m__law_asked K) (fCons (fC (.int 5)) (fCons (fVar 15) (fCons (fVar 28) (fCons (fC .none) fNil))))) (hb.trans (by rw [List.map_id'])) (by simp [badPs]) fun d hd ρ2 k2 => fCall4 rfl (k2.get rfl) (k2.get rfl) rfl (bad_asked h nd (badPs_no h d hd))
  rw [rep_map (fun _ _ => rfl)] at e15
  refine go (step_set hk (by decide) (fOp_ok' (hk.get rfl) e15 cat28)) fun ρ hk => ?_
  exact ⟨ρ, ret_ok' (fAnd_ok' (b := true) (c := true && true) (fCmp_ok' (fCall1 (hk.get rfl) (wrong_no hX)) rfl isFF) (fAnd_ok' (fCmp_ok' (hk.get rfl) (fOp_ok' (fLst1 rfl) rfl mul7) eq7) (fCmp_ok' (hk.get rfl) (fOp_ok' (fLst1 rfl) rfl mul28) eq28)))⟩
theorem law_true (K : PySem.W.Frag) (nd : Nd K) (ns : List Int) (hn : ns.length ≤ 63) : m_law K [frzD (ns.map .int)] = .ok (.bool true) := by
  have key : Fin (sem_law K (rho0 32 [frzD (ns.map .int)])) := by
    unfold sem_law
    exact start_ok ns hn fun Rs x ds ρ h hd hk => part1 h nd hk fun ρ hk => part2 h nd hk fun ρ hk => part3 h nd hd hk fun ρ ds0 ds Ps hd hk => part4 h nd hk fun ρ hk => part5 h nd hd hk
  obtain ⟨ρ', e⟩ := key
  unfold m_law runF
  rw [e]; rfl
end
end PV
end

set_option Elab.async false
set_option linter.all false
set_option maxRecDepth 100000
set_option maxHeartbeats 0
set_option autoImplicit false
/-! the head of stakestold_k52_streams_side_by_side, printed by gen.py -/
namespace PV
open PySem PySem.Spec PyProof.Rows L2

abbrev TheRow : PySem.W.OpenRow := PySem.W.OpenLaw.row PySem.Challenge.rw_stakestold_k52_streams_side_by_side
def dd__law_number : He.DefD := ⟨("_law_number", none), "_law_number", "_law_number", defArgs st__law_number, defBody st__law_number, defScope st__law_number, [], []⟩
def dd__law_draws : He.DefD := ⟨("_law_draws", none), "_law_draws", "_law_draws", defArgs st__law_draws, defBody st__law_draws, defScope st__law_draws, [], []⟩
def dd__law_next : He.DefD := ⟨("_law_next", none), "_law_next", "_law_next", defArgs st__law_next, defBody st__law_next, defScope st__law_next, [], []⟩
def dd__law_more : He.DefD := ⟨("_law_more", none), "_law_more", "_law_more", defArgs st__law_more, defBody st__law_more, defScope st__law_more, [], []⟩
def dd__law_common : He.DefD := ⟨("_law_common", none), "_law_common", "_law_common", defArgs st__law_common, defBody st__law_common, defScope st__law_common, [], []⟩
def dd__law_least : He.DefD := ⟨("_law_least", none), "_law_least", "_law_least", defArgs st__law_least, defBody st__law_least, defScope st__law_least, [], []⟩
def dd__law_add : He.DefD := ⟨("_law_add", none), "_law_add", "_law_add", defArgs st__law_add, defBody st__law_add, defScope st__law_add, [], []⟩
def dd__law_times : He.DefD := ⟨("_law_times", none), "_law_times", "_law_times", defArgs st__law_times, defBody st__law_times, defScope st__law_times, [], []⟩
def dd__law_costs : He.DefD := ⟨("_law_costs", none), "_law_costs", "_law_costs", defArgs st__law_costs, defBody st__law_costs, defScope st__law_costs, [], []⟩
def dd_common : He.DefD := ⟨("common", none), "common", "common", defArgs st_common, defBody st_common, defScope st_common, [], []⟩
def dd_least_terms : He.DefD := ⟨("least_terms", none), "least_terms", "least_terms", defArgs st_least_terms, defBody st_least_terms, defScope st_least_terms, [], []⟩
def dd_add : He.DefD := ⟨("add", none), "add", "add", defArgs st_add, defBody st_add, defScope st_add, [], []⟩
def dd_total : He.DefD := ⟨("total", none), "total", "total", defArgs st_total, defBody st_total, defScope st_total, [], []⟩
def dd_times : He.DefD := ⟨("times", none), "times", "times", defArgs st_times, defBody st_times, defScope st_times, [], []⟩
def dd_sum_by : He.DefD := ⟨("sum_by", none), "sum_by", "sum_by", defArgs st_sum_by, defBody st_sum_by, defScope st_sum_by, [], []⟩
def dd_is_fraction : He.DefD := ⟨("is_fraction", none), "is_fraction", "is_fraction", defArgs st_is_fraction, defBody st_is_fraction, defScope st_is_fraction, [], []⟩
def dd_is_cost : He.DefD := ⟨("is_cost", none), "is_cost", "is_cost", defArgs st_is_cost, defBody st_is_cost, defScope st_is_cost, [], []⟩
def dd_are_roads : He.DefD := ⟨("are_roads", none), "are_roads", "are_roads", defArgs st_are_roads, defBody st_are_roads, defScope st_are_roads, [], []⟩
def dd_is_parting : He.DefD := ⟨("is_parting", none), "is_parting", "is_parting", defArgs st_is_parting, defBody st_is_parting, defScope st_is_parting, [], []⟩
def dd_parting_sum : He.DefD := ⟨("parting_sum", none), "parting_sum", "parting_sum", defArgs st_parting_sum, defBody st_parting_sum, defScope st_parting_sum, [], []⟩
def dd_is_amount : He.DefD := ⟨("is_amount", none), "is_amount", "is_amount", defArgs st_is_amount, defBody st_is_amount, defScope st_is_amount, [], []⟩
def dd_check_amount : He.DefD := ⟨("check_amount", none), "check_amount", "check_amount", defArgs st_check_amount, defBody st_check_amount, defScope st_check_amount, [], []⟩
def dd_less : He.DefD := ⟨("less", none), "less", "less", defArgs st_less, defBody st_less, defScope st_less, [], []⟩
def dd_is_even : He.DefD := ⟨("is_even", none), "is_even", "is_even", defArgs st_is_even, defBody st_is_even, defScope st_is_even, [], []⟩
def dd_is_level_paper : He.DefD := ⟨("is_level_paper", none), "is_level_paper", "is_level_paper", defArgs st_is_level_paper, defBody st_is_level_paper, defScope st_is_level_paper, [], []⟩
def dd__law_kind : He.DefD := ⟨("_law_kind", none), "_law_kind", "_law_kind", defArgs st__law_kind, defBody st__law_kind, defScope st__law_kind, [], []⟩
def dd_least_of : He.DefD := ⟨("least_of", none), "least_of", "least_of", defArgs st_least_of, defBody st_least_of, defScope st_least_of, [], []⟩
def dd_by : He.DefD := ⟨("by", none), "by", "by", defArgs st_by, defBody st_by, defScope st_by, [], []⟩
def dd_told_level : He.DefD := ⟨("told_level", none), "told_level", "told_level", defArgs st_told_level, defBody st_told_level, defScope st_told_level, [], []⟩
def dd_level : He.DefD := ⟨("level", none), "level", "level", defArgs st_level, defBody st_level, defScope st_level, [], []⟩
def dd_parting_of : He.DefD := ⟨("parting_of", none), "parting_of", "parting_of", defArgs st_parting_of, defBody st_parting_of, defScope st_parting_of, [], []⟩
def dd_level_paper : He.DefD := ⟨("level_paper", none), "level_paper", "level_paper", defArgs st_level_paper, defBody st_level_paper, defScope st_level_paper, [], []⟩
def dd_doubled : He.DefD := ⟨("doubled", none), "doubled", "doubled", defArgs st_doubled, defBody st_doubled, defScope st_doubled, [], []⟩
def dd_best_parting : He.DefD := ⟨("best_parting", none), "best_parting", "best_parting", defArgs st_best_parting, defBody st_best_parting, defScope st_best_parting, [], []⟩
def dd_least_stream_sum : He.DefD := ⟨("least_stream_sum", none), "least_stream_sum", "least_stream_sum", defArgs st_least_stream_sum, defBody st_least_stream_sum, defScope st_least_stream_sum, [], []⟩
def dd_tolls : He.DefD := ⟨("tolls", none), "tolls", "tolls", defArgs st_tolls, defBody st_tolls, defScope st_tolls, [], []⟩
def dd__law_asked : He.DefD := ⟨("_law_asked", none), "_law_asked", "_law_asked", defArgs st__law_asked, defBody st__law_asked, defScope st__law_asked, [], []⟩
def dd__law_pick : He.DefD := ⟨("_law_pick", none), "_law_pick", "_law_pick", defArgs st__law_pick, defBody st__law_pick, defScope st__law_pick, [], []⟩
def dd__law_flat : He.DefD := ⟨("_law_flat", none), "_law_flat", "_law_flat", defArgs st__law_flat, defBody st__law_flat, defScope st__law_flat, [], []⟩
def dd__law_part_of : He.DefD := ⟨("_law_part_of", none), "_law_part_of", "_law_part_of", defArgs st__law_part_of, defBody st__law_part_of, defScope st__law_part_of, [], []⟩
def dd__law_roads : He.DefD := ⟨("_law_roads", none), "_law_roads", "_law_roads", defArgs st__law_roads, defBody st__law_roads, defScope st__law_roads, [], []⟩
def dd__law_is_less : He.DefD := ⟨("_law_is_less", none), "_law_is_less", "_law_is_less", defArgs st__law_is_less, defBody st__law_is_less, defScope st__law_is_less, [], []⟩
def dd__law_drawn : He.DefD := ⟨("_law_drawn", none), "_law_drawn", "_law_drawn", defArgs st__law_drawn, defBody st__law_drawn, defScope st__law_drawn, [], []⟩
def dd__law_wrong_roads : He.DefD := ⟨("_law_wrong_roads", none), "_law_wrong_roads", "_law_wrong_roads", defArgs st__law_wrong_roads, defBody st__law_wrong_roads, defScope st__law_wrong_roads, [], []⟩
def dd__law_total : He.DefD := ⟨("_law_total", none), "_law_total", "_law_total", defArgs st__law_total, defBody st__law_total, defScope st__law_total, [], []⟩
def dd__law_is_fraction : He.DefD := ⟨("_law_is_fraction", none), "_law_is_fraction", "_law_is_fraction", defArgs st__law_is_fraction, defBody st__law_is_fraction, defScope st__law_is_fraction, [], []⟩
def dd__law_is_parting : He.DefD := ⟨("_law_is_parting", none), "_law_is_parting", "_law_is_parting", defArgs st__law_is_parting, defBody st__law_is_parting, defScope st__law_is_parting, [], []⟩
def dd__law_even : He.DefD := ⟨("_law_even", none), "_law_even", "_law_even", defArgs st__law_even, defBody st__law_even, defScope st__law_even, [], []⟩
def dd__law_is_right : He.DefD := ⟨("_law_is_right", none), "_law_is_right", "_law_is_right", defArgs st__law_is_right, defBody st__law_is_right, defScope st__law_is_right, [], []⟩
def dd__law_sum : He.DefD := ⟨("_law_sum", none), "_law_sum", "_law_sum", defArgs st__law_sum, defBody st__law_sum, defScope st__law_sum, [], []⟩
def dd__law_greatest : He.DefD := ⟨("_law_greatest", none), "_law_greatest", "_law_greatest", defArgs st__law_greatest, defBody st__law_greatest, defScope st__law_greatest, [], []⟩
def dd_law : He.DefD := ⟨("law", none), "law", "law", defArgs st_law, defBody st_law, defScope st_law, [], []⟩
def fn : List He.DefD := [dd__law_number, dd__law_draws, dd__law_next, dd__law_more, dd__law_common, dd__law_least, dd__law_add, dd__law_times, dd__law_costs, dd_common, dd_least_terms, dd_add, dd_total, dd_times, dd_sum_by, dd_is_fraction, dd_is_cost, dd_are_roads, dd_is_parting, dd_parting_sum, dd_is_amount, dd_check_amount, dd_less, dd_is_even, dd_is_level_paper, dd__law_kind, dd_least_of, dd_by, dd_told_level, dd_level, dd_parting_of, dd_level_paper, dd_doubled, dd_best_parting, dd_least_stream_sum, dd_tolls, dd__law_asked, dd__law_pick, dd__law_flat, dd__law_part_of, dd__law_roads, dd__law_is_less, dd__law_drawn, dd__law_wrong_roads, dd__law_total, dd__law_is_fraction, dd__law_is_parting, dd__law_even, dd__law_is_right, dd__law_sum, dd__law_greatest, dd_law]
def fa : List He.Fa := [.free "abs", .free "all", .free "any", .free "enumerate", .free "int", .free "isinstance", .free "len", .free "list", .free "range", .free "repr", .free "sum", .free "tuple", .free "zip", .glo "BadNumber", .glo "NoAnswer", .glo "NotMix", .glo "NotPaper", .glo "NotStakes", .glo "NotTable", .glo "StakeError", .glo "TooLarge", .glo "_law_add", .glo "_law_asked", .glo "_law_common", .glo "_law_costs", .glo "_law_drawn", .glo "_law_draws", .glo "_law_even", .glo "_law_flat", .glo "_law_greatest", .glo "_law_is_fraction", .glo "_law_is_less", .glo "_law_is_parting", .glo "_law_is_right", .glo "_law_kind", .glo "_law_least", .glo "_law_more", .glo "_law_next", .glo "_law_number", .glo "_law_part_of", .glo "_law_pick", .glo "_law_roads", .glo "_law_sum", .glo "_law_times", .glo "_law_total", .glo "_law_wrong_roads", .glo "add", .glo "are_roads", .glo "best_parting", .glo "by", .glo "check_amount", .glo "common", .glo "doubled", .glo "is_amount", .glo "is_cost", .glo "is_even", .glo "is_fraction", .glo "is_level_paper", .glo "is_parting", .glo "law", .glo "least_of", .glo "least_stream_sum", .glo "least_terms", .glo "less", .glo "level", .glo "level_paper", .glo "parting_of", .glo "parting_sum", .glo "sum_by", .glo "times", .glo "told_level", .glo "tolls", .glo "total", .int "MOST_COST" 1000, .int "MOST_ROADS" 8, .exc "BadNumber", .exc "NotTable"]
def ts : List He.Tab := []
def exB (K : PySem.W.Frag) : Bool := true && ((exNames.all fun z => decide (PySem.W.exmOne K (.ref (He.ga K z)) (.ref (He.ga K "StakeError")) = some true)) && ((exNames.all fun z => exNames.all fun y => decide (PySem.W.kitOne K (.ref (He.ga K z)) (.ref (He.ga K y)) = some (isC z y))) && ((exNames.all fun z => excB K (He.ga K z)) && (decide (([He.ga K "level", He.ga K "level_paper", He.ga K "best_parting", He.ga K "least_stream_sum", He.ga K "tolls"] : List Addr).Nodup)))))
theorem ctx_of {w : World} {K : PySem.W.Frag} {mg : Str → Option Value} {h : Heap} (KX : K.In h) (G : h.Ns mainGlobals mg) (t : He.SaysT fa fn ts w K) (hm : exB K = true) : Ctx w K mg := by
  unfold exB at hm
  obtain ⟨h0, hm⟩ := He.ba hm
  obtain ⟨h1, hm⟩ := He.ba hm
  obtain ⟨h2, hm⟩ := He.ba hm
  obtain ⟨h3, hm⟩ := He.ba hm
  have h4 := hm
  exact {
    f_abs := He.free_ok KX G (t.d.fact 0 (f := .free "abs") rfl)
    f_all := He.free_ok KX G (t.d.fact 1 (f := .free "all") rfl)
    f_any := He.free_ok KX G (t.d.fact 2 (f := .free "any") rfl)
    f_enumerate := He.free_ok KX G (t.d.fact 3 (f := .free "enumerate") rfl)
    f_int := He.free_ok KX G (t.d.fact 4 (f := .free "int") rfl)
    f_isinstance := He.free_ok KX G (t.d.fact 5 (f := .free "isinstance") rfl)
    f_len := He.free_ok KX G (t.d.fact 6 (f := .free "len") rfl)
    f_list := He.free_ok KX G (t.d.fact 7 (f := .free "list") rfl)
    f_range := He.free_ok KX G (t.d.fact 8 (f := .free "range") rfl)
    f_repr := He.free_ok KX G (t.d.fact 9 (f := .free "repr") rfl)
    f_sum := He.free_ok KX G (t.d.fact 10 (f := .free "sum") rfl)
    f_tuple := He.free_ok KX G (t.d.fact 11 (f := .free "tuple") rfl)
    f_zip := He.free_ok KX G (t.d.fact 12 (f := .free "zip") rfl)
    g_BadNumber := He.glo_ok KX G (t.d.fact 13 (f := .glo "BadNumber") rfl)
    g_NoAnswer := He.glo_ok KX G (t.d.fact 14 (f := .glo "NoAnswer") rfl)
    g_NotMix := He.glo_ok KX G (t.d.fact 15 (f := .glo "NotMix") rfl)
    g_NotPaper := He.glo_ok KX G (t.d.fact 16 (f := .glo "NotPaper") rfl)
    g_NotStakes := He.glo_ok KX G (t.d.fact 17 (f := .glo "NotStakes") rfl)
    g_NotTable := He.glo_ok KX G (t.d.fact 18 (f := .glo "NotTable") rfl)
    g_StakeError := He.glo_ok KX G (t.d.fact 19 (f := .glo "StakeError") rfl)
    g_TooLarge := He.glo_ok KX G (t.d.fact 20 (f := .glo "TooLarge") rfl)
    g__law_add := He.glo_ok KX G (t.d.fact 21 (f := .glo "_law_add") rfl)
    g__law_asked := He.glo_ok KX G (t.d.fact 22 (f := .glo "_law_asked") rfl)
    g__law_common := He.glo_ok KX G (t.d.fact 23 (f := .glo "_law_common") rfl)
    g__law_costs := He.glo_ok KX G (t.d.fact 24 (f := .glo "_law_costs") rfl)
    g__law_drawn := He.glo_ok KX G (t.d.fact 25 (f := .glo "_law_drawn") rfl)
    g__law_draws := He.glo_ok KX G (t.d.fact 26 (f := .glo "_law_draws") rfl)
    g__law_even := He.glo_ok KX G (t.d.fact 27 (f := .glo "_law_even") rfl)
    g__law_flat := He.glo_ok KX G (t.d.fact 28 (f := .glo "_law_flat") rfl)
    g__law_greatest := He.glo_ok KX G (t.d.fact 29 (f := .glo "_law_greatest") rfl)
    g__law_is_fraction := He.glo_ok KX G (t.d.fact 30 (f := .glo "_law_is_fraction") rfl)
    g__law_is_less := He.glo_ok KX G (t.d.fact 31 (f := .glo "_law_is_less") rfl)
    g__law_is_parting := He.glo_ok KX G (t.d.fact 32 (f := .glo "_law_is_parting") rfl)
    g__law_is_right := He.glo_ok KX G (t.d.fact 33 (f := .glo "_law_is_right") rfl)
    g__law_kind := He.glo_ok KX G (t.d.fact 34 (f := .glo "_law_kind") rfl)
    g__law_least := He.glo_ok KX G (t.d.fact 35 (f := .glo "_law_least") rfl)
    g__law_more := He.glo_ok KX G (t.d.fact 36 (f := .glo "_law_more") rfl)
    g__law_next := He.glo_ok KX G (t.d.fact 37 (f := .glo "_law_next") rfl)
    g__law_number := He.glo_ok KX G (t.d.fact 38 (f := .glo "_law_number") rfl)
    g__law_part_of := He.glo_ok KX G (t.d.fact 39 (f := .glo "_law_part_of") rfl)
    g__law_pick := He.glo_ok KX G (t.d.fact 40 (f := .glo "_law_pick") rfl)
    g__law_roads := He.glo_ok KX G (t.d.fact 41 (f := .glo "_law_roads") rfl)
    g__law_sum := He.glo_ok KX G (t.d.fact 42 (f := .glo "_law_sum") rfl)
    g__law_times := He.glo_ok KX G (t.d.fact 43 (f := .glo "_law_times") rfl)
    g__law_total := He.glo_ok KX G (t.d.fact 44 (f := .glo "_law_total") rfl)
    g__law_wrong_roads := He.glo_ok KX G (t.d.fact 45 (f := .glo "_law_wrong_roads") rfl)
    g_add := He.glo_ok KX G (t.d.fact 46 (f := .glo "add") rfl)
    g_are_roads := He.glo_ok KX G (t.d.fact 47 (f := .glo "are_roads") rfl)
    g_best_parting := He.glo_ok KX G (t.d.fact 48 (f := .glo "best_parting") rfl)
    g_by := He.glo_ok KX G (t.d.fact 49 (f := .glo "by") rfl)
    g_check_amount := He.glo_ok KX G (t.d.fact 50 (f := .glo "check_amount") rfl)
    g_common := He.glo_ok KX G (t.d.fact 51 (f := .glo "common") rfl)
    g_doubled := He.glo_ok KX G (t.d.fact 52 (f := .glo "doubled") rfl)
    g_is_amount := He.glo_ok KX G (t.d.fact 53 (f := .glo "is_amount") rfl)
    g_is_cost := He.glo_ok KX G (t.d.fact 54 (f := .glo "is_cost") rfl)
    g_is_even := He.glo_ok KX G (t.d.fact 55 (f := .glo "is_even") rfl)
    g_is_fraction := He.glo_ok KX G (t.d.fact 56 (f := .glo "is_fraction") rfl)
    g_is_level_paper := He.glo_ok KX G (t.d.fact 57 (f := .glo "is_level_paper") rfl)
    g_is_parting := He.glo_ok KX G (t.d.fact 58 (f := .glo "is_parting") rfl)
    g_law := He.glo_ok KX G (t.d.fact 59 (f := .glo "law") rfl)
    g_least_of := He.glo_ok KX G (t.d.fact 60 (f := .glo "least_of") rfl)
    g_least_stream_sum := He.glo_ok KX G (t.d.fact 61 (f := .glo "least_stream_sum") rfl)
    g_least_terms := He.glo_ok KX G (t.d.fact 62 (f := .glo "least_terms") rfl)
    g_less := He.glo_ok KX G (t.d.fact 63 (f := .glo "less") rfl)
    g_level := He.glo_ok KX G (t.d.fact 64 (f := .glo "level") rfl)
    g_level_paper := He.glo_ok KX G (t.d.fact 65 (f := .glo "level_paper") rfl)
    g_parting_of := He.glo_ok KX G (t.d.fact 66 (f := .glo "parting_of") rfl)
    g_parting_sum := He.glo_ok KX G (t.d.fact 67 (f := .glo "parting_sum") rfl)
    g_sum_by := He.glo_ok KX G (t.d.fact 68 (f := .glo "sum_by") rfl)
    g_times := He.glo_ok KX G (t.d.fact 69 (f := .glo "times") rfl)
    g_told_level := He.glo_ok KX G (t.d.fact 70 (f := .glo "told_level") rfl)
    g_tolls := He.glo_ok KX G (t.d.fact 71 (f := .glo "tolls") rfl)
    g_total := He.glo_ok KX G (t.d.fact 72 (f := .glo "total") rfl)
    i_MOST_COST := He.int_ok KX G (t.d.fact 73 (f := .int "MOST_COST" 1000) rfl)
    i_MOST_ROADS := He.int_ok KX G (t.d.fact 74 (f := .int "MOST_ROADS" 8) rfl)
    e_BadNumber := (let q := He.exc_ok (t.d.fact 75 (f := .exc "BadNumber") rfl); ⟨q.1, He.glo_ok KX G (t.d.fact 13 (f := .glo "BadNumber") rfl), q.2.1, q.2.2.1, q.2.2.2⟩)
    e_NotTable := (let q := He.exc_ok (t.d.fact 76 (f := .exc "NotTable") rfl); ⟨q.1, He.glo_ok KX G (t.d.fact 18 (f := .glo "NotTable") rfl), q.2.1, q.2.2.1, q.2.2.2⟩)
    tr_StakeError := fun z hz => of_decide_eq_true (List.all_eq_true.mp h1 z hz)
    hI := fun z hz y hy => of_decide_eq_true (List.all_eq_true.mp (List.all_eq_true.mp h2 z hz) y hy)
    hC := fun z hz => excB_ok (List.all_eq_true.mp h3 z hz)
    nd__law_asked := of_decide_eq_true h4
    d__law_number := t.d.def_ 0 (d := dd__law_number) rfl
    d__law_draws := t.d.def_ 1 (d := dd__law_draws) rfl
    d__law_next := t.d.def_ 2 (d := dd__law_next) rfl
    d__law_more := t.d.def_ 3 (d := dd__law_more) rfl
    d__law_common := t.d.def_ 4 (d := dd__law_common) rfl
    d__law_least := t.d.def_ 5 (d := dd__law_least) rfl
    d__law_add := t.d.def_ 6 (d := dd__law_add) rfl
    d__law_times := t.d.def_ 7 (d := dd__law_times) rfl
    d__law_costs := t.d.def_ 8 (d := dd__law_costs) rfl
    d_common := t.d.def_ 9 (d := dd_common) rfl
    d_least_terms := t.d.def_ 10 (d := dd_least_terms) rfl
    d_add := t.d.def_ 11 (d := dd_add) rfl
    d_total := t.d.def_ 12 (d := dd_total) rfl
    d_times := t.d.def_ 13 (d := dd_times) rfl
    d_sum_by := t.d.def_ 14 (d := dd_sum_by) rfl
    d_is_fraction := t.d.def_ 15 (d := dd_is_fraction) rfl
    d_is_cost := t.d.def_ 16 (d := dd_is_cost) rfl
    d_are_roads := t.d.def_ 17 (d := dd_are_roads) rfl
    d_is_parting := t.d.def_ 18 (d := dd_is_parting) rfl
    d_parting_sum := t.d.def_ 19 (d := dd_parting_sum) rfl
    d_is_amount := t.d.def_ 20 (d := dd_is_amount) rfl
    d_check_amount := t.d.def_ 21 (d := dd_check_amount) rfl
    d_less := t.d.def_ 22 (d := dd_less) rfl
    d_is_even := t.d.def_ 23 (d := dd_is_even) rfl
    d_is_level_paper := t.d.def_ 24 (d := dd_is_level_paper) rfl
    d__law_kind := t.d.def_ 25 (d := dd__law_kind) rfl
    d_least_of := t.d.def_ 26 (d := dd_least_of) rfl
    d_by := t.d.def_ 27 (d := dd_by) rfl
    d_told_level := t.d.def_ 28 (d := dd_told_level) rfl
    d_level := t.d.def_ 29 (d := dd_level) rfl
    d_parting_of := t.d.def_ 30 (d := dd_parting_of) rfl
    d_level_paper := t.d.def_ 31 (d := dd_level_paper) rfl
    d_doubled := t.d.def_ 32 (d := dd_doubled) rfl
    d_best_parting := t.d.def_ 33 (d := dd_best_parting) rfl
    d_least_stream_sum := t.d.def_ 34 (d := dd_least_stream_sum) rfl
    d_tolls := t.d.def_ 35 (d := dd_tolls) rfl
    d__law_asked := t.d.def_ 36 (d := dd__law_asked) rfl
    d__law_pick := t.d.def_ 37 (d := dd__law_pick) rfl
    d__law_flat := t.d.def_ 38 (d := dd__law_flat) rfl
    d__law_part_of := t.d.def_ 39 (d := dd__law_part_of) rfl
    d__law_roads := t.d.def_ 40 (d := dd__law_roads) rfl
    d__law_is_less := t.d.def_ 41 (d := dd__law_is_less) rfl
    d__law_drawn := t.d.def_ 42 (d := dd__law_drawn) rfl
    d__law_wrong_roads := t.d.def_ 43 (d := dd__law_wrong_roads) rfl
    d__law_total := t.d.def_ 44 (d := dd__law_total) rfl
    d__law_is_fraction := t.d.def_ 45 (d := dd__law_is_fraction) rfl
    d__law_is_parting := t.d.def_ 46 (d := dd__law_is_parting) rfl
    d__law_even := t.d.def_ 47 (d := dd__law_even) rfl
    d__law_is_right := t.d.def_ 48 (d := dd__law_is_right) rfl
    d__law_sum := t.d.def_ 49 (d := dd__law_sum) rfl
    d__law_greatest := t.d.def_ 50 (d := dd__law_greatest) rfl
    d_law := t.d.def_ 51 (d := dd_law) rfl }
theorem end_of {w : World} {K : PySem.W.Frag} {mg : Str → Option Value} {h : Heap} {f : Addr} (KX : K.In h) (G : h.Ns mainGlobals mg) (hmg : mg "law" = some (.ref f)) (t : He.obsT fa fn ts K = He.valT fn ts w) (hm : exB K = true) :
    ∃ (K : PySem.W.Frag) (fd : FuncData) (m : List PyData → R PyData), K.In h ∧ Binds K fd ["script"] [] ∧ (∀ ns : List Int, ns.length ≤ 63 → m [frzD (ns.map .int)] = .ok (.bool true)) ∧
        ∀ base : Heap, K.In base → base.Ns mainGlobals mg → FnG (PySem.Challenge.rw_stakestold_k52_streams_side_by_side).prog w K mg base (L2.CX (PySem.Challenge.rw_stakestold_k52_streams_side_by_side).prog w) 10 f fd ["script"] (spP K 1 .F m) := by
  have cx := ctx_of KX G t hm
  have e := hmg.symm.trans cx.g_law
  cases e
  obtain ⟨fd, F⟩ := cx.d_law
  have b : L2.Binds K fd ["script"] [] := F.bindsN (fun _ _ _ _ _ _ us hl => match us, hl with | [_], _ => rfl)
  exact ⟨K, fd, m_law K, KX, b, law_true K cx.nd__law_asked, fun base _ _ => fg_all (base := base) cx F⟩
end PV
open PySem PySem.W PySem.Calls PyProof.Rows
theorem PySem.Challenge.cw_stakestold_k52_streams_side_by_side_holds : PySem.Challenge.rw_stakestold_k52_streams_side_by_side.Holds := by
  w_on; o_law; k_head; (case hw => w_witness2)
  k_fill
  refine PV.walkG (l := PySem.Challenge.rw_stakestold_k52_streams_side_by_side) (n := 63) (k := 10) (x := "script") rfl (by decide) rfl ⟨rfl, by decide, by decide⟩ ?F
  intro w mg fa h Y G hmg
  exact PV.end_of (PySem.W.kIn_of Y) G hmg (by kernel_rfl) (by kernel_rfl)
