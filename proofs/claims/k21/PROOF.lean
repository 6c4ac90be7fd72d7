import PyProof.Rows.All
import Wide.All
import OpenK.AllK
import Wide.FinOn
import HandS.ForMost
import HandS.ForExc
import HandS.Wide
import HandS.Deep
import HandS.IsInst
import HandS.TupAny
import HandS.Defaults
import HandS.HeadHook4
import HandS.HeadWalk
import HandS.HotCalls
import HandS.ExcIs
import HandS.Zip
import HandS.Rev
import HandS.SortInts
import HandS.Strs
import HandS.TupMul
import HandS.TupLe
import HandS.Steps
import HandS.RaiseMore
import HandS.SetFor
import HandS.Style
import HandS.HeadEnd
import PyProof.ReprLen
import PyProof.StrLawsRepr
import PyProof.Rows.ReprOcc
import PySem.Challenge.RW_stakestold_k21_lines_and_forms
set_option Elab.async false
set_option linter.all false
set_option maxRecDepth 100000
set_option maxHeartbeats 1000000
set_option autoImplicit false
/-! PV: values as data, over the hand layer. Part a: results, data, what stands for what. -/
namespace PV
open PySem PySem.Spec PyProof.Rows L2
abbrev St := L2.St

/-- an exception: its class's name, its one field -/
structure Ex where
  cls : Str
  fld : Option (Str × PyData) := none

inductive R (α : Type) where
  | ok (a : α)
  | ex (c : Ex)
  | no

def R.bind {α β : Type} : R α → (α → R β) → R β
  | .ok a, f => f a
  | .ex c, _ => .ex c
  | .no, _ => .no
instance : Monad R where
  pure := .ok
  bind := R.bind
@[simp] theorem ok_bind {α β : Type} (a : α) (f : α → R β) : (R.ok a >>= f) = f a := rfl
@[simp] theorem ex_bind {α β : Type} (c : Ex) (f : α → R β) : ((R.ex c : R α) >>= f) = .ex c := rfl
@[simp] theorem no_bind {α β : Type} (f : α → R β) : ((R.no : R α) >>= f) = .no := rfl
@[simp] theorem pure_ok {α : Type} (a : α) : (pure a : R α) = .ok a := rfl
theorem bind_ok_iff {α β : Type} {x : R α} {f : α → R β} {b : β} : (x >>= f) = .ok b ↔ ∃ a, x = .ok a ∧ f a = .ok b := by
  cases x with
  | ok a => simp
  | ex c => simp
  | no => simp
theorem bind_ex_iff {α β : Type} {x : R α} {f : α → R β} {c : Ex} : (x >>= f) = .ex c ↔ x = .ex c ∨ ∃ a, x = .ok a ∧ f a = .ex c := by
  cases x with
  | ok a => simp
  | ex c => simp
  | no => simp

/-- what holds of a result: P of an ok one, W of an exception -/
def Holds {α : Type} (r : R α) (P : α → Prop) (W : Ex → Prop) : Prop := match r with
  | .ok a => P a
  | .ex c => W c
  | .no => False
theorem Holds.bind {α β : Type} {x : R α} {f : α → R β} {P : β → Prop} {W : Ex → Prop} (h : Holds (x >>= f) P W) : Holds x (fun a => Holds (f a) P W) W := by
  cases x <;> exact h
theorem Holds.mono {α : Type} {x : R α} {P P' : α → Prop} {W W' : Ex → Prop} (h : Holds x P W) (hp : ∀ a, P a → P' a) (hw : ∀ c, W c → W' c) : Holds x P' W' := by
  cases x with
  | ok a => exact hp a h
  | ex c => exact hw c h
  | no => exact h

abbrev Env := List (Option PyData)

def MutO : HO → Prop
  | .lst _ => True
  | .dK _ => True
  | .dT _ => True
  | _ => False
def keyD : Key → PyData
  | .inl i => .int i
  | .inr x => .str x

/-- a list that nobody changes: locked, or of the written part -/
def SqF (K : PySem.W.Frag) (H : Hp) (a : Addr) (xs : List V) : Prop :=
  (∃ o, H a = some (.frz o (.lst xs))) ∨
    ∃ (o : Obj) (its : Array Value) (n : Nat), K.lookup a = some o ∧ o.cls = .type "list" ∧ o.dict = none ∧ o.data = .seq its n ∧ its.size ≤ sizeLine ∧ Vals xs its.toList
theorem SqF.l {K : PySem.W.Frag} {H : Hp} {a : Addr} {xs : List V} (h : SqF K H a xs) : SqL K H a xs := by
  rcases h with ⟨o, h⟩ | h
  · exact .inl (.inr ⟨o, h⟩)
  · exact .inr h

/-- a list that nobody changes, as data -/
def frzD (ds : List PyData) : PyData := .dict [(.dict [], .tuple ds)]
/-- an object of which only its place is known, as data -/
def adrD (a : Addr) : PyData := .dict [(.dict [], .int a)]
mutual
/-- v stands for d; m: the addresses of the lists and dicts met that may be changed -/
inductive Ab (K : PySem.W.Frag) (H : Hp) (o : Bool) : V → PyData → List Addr → Prop
  | non : Ab K H o .non .none []
  | bl (b : Bool) : Ab K H o (.bl b) (.bool b) []
  | int (i : Int) : Ab K H o (.int i) (.int i) []
  | str (x : Str) : Ab K H o (.str x) (.str x) []
  | tup {a : Addr} {xs : List V} {ds : List PyData} {m : List Addr} : SqT K H a xs → AbL K H o xs ds m → Ab K H o (.ref a) (.tuple ds) m
  | lst {a : Addr} {xs : List V} {ds : List PyData} {m : List Addr} : H a = some (.lst xs) → AbL K H o xs ds m → Ab K H o (.ref a) (.list ds) (a :: m)
  | dk {a : Addr} {kvs : List (Key × V)} {ps : List (PyData × PyData)} {m : List Addr} : H a = some (.dK kvs) → ps.map (·.1) = kvs.map (fun q => keyD q.1) → AbL K H o (kvs.map (·.2)) (ps.map (·.2)) m → Ab K H o (.ref a) (.dict ps) (a :: m)
  | dt {a : Addr} {kvs : List (List Key × V)} {ps : List (PyData × PyData)} {m : List Addr} : H a = some (.dT kvs) → ps.map (·.1) = kvs.map (fun q => .tuple (q.1.map keyD)) → AbL K H o (kvs.map (·.2)) (ps.map (·.2)) m → Ab K H o (.ref a) (.dict ps) (a :: m)
  | frz {a : Addr} {xs : List V} {ds : List PyData} : SqF K H a xs → AbL K H o xs ds [] → Ab K H o (.ref a) (frzD ds) []
  | adr (a : Addr) : Ab K H o (.ref a) (adrD a) []
inductive AbL (K : PySem.W.Frag) (H : Hp) (o : Bool) : List V → List PyData → List Addr → Prop
  | nil : AbL K H o [] [] []
  | cons {v : V} {vs : List V} {d : PyData} {ds : List PyData} {m n : List Addr} : Ab K H o v d m → AbL K H o vs ds n → AbL K H o (v :: vs) (d :: ds) (m ++ n)
end

/-- all but what may be changed at O is kept -/
def Fr (O : Addr → Prop) (H H' : Hp) : Prop := (∀ a o, H a = some o → (O a → ¬ MutO o) → H' a = some o) ∧ ∀ a, H a ≠ none → H' a ≠ none
theorem Same.fr {H H' : Hp} (h : Same H H') (O : Addr → Prop) : Fr O H H' := ⟨fun a o e _ => h a o e, fun a n e => by
  cases q : H a with
  | none => exact n q
  | some o => rw [h a o q] at e; cases e⟩
theorem Fr.refl (O : Addr → Prop) (H : Hp) : Fr O H H := ⟨fun _ _ e _ => e, fun _ n => n⟩

variable {K : PySem.W.Frag} {H H' H'' : Hp} {o : Bool}
theorem frSqT {O : Addr → Prop} (f : Fr O H H') {a : Addr} {xs : List V} (h : SqT K H a xs) : SqT K H' a xs := by
  rcases h with (h | ⟨o, h⟩) | h
  · exact .inl (.inl (f.1 _ _ h fun _ => fun z => z))
  · exact .inl (.inr ⟨o, f.1 _ _ h fun _ => fun z => z⟩)
  · exact .inr h
theorem frSqF {O : Addr → Prop} (f : Fr O H H') {a : Addr} {xs : List V} (h : SqF K H a xs) : SqF K H' a xs := by
  rcases h with ⟨o, h⟩ | h
  · exact .inl ⟨o, f.1 _ _ h fun _ => fun z => z⟩
  · exact .inr h
theorem ab_ind {P : V → PyData → List Addr → Prop} {Q : List V → List PyData → List Addr → Prop} (h1 : P .non .none []) (h2 : ∀ b, P (.bl b) (.bool b) []) (h3 : ∀ i, P (.int i) (.int i) []) (h4 : ∀ x, P (.str x) (.str x) [])
    (h5 : ∀ a xs ds m, SqT K H a xs → AbL K H o xs ds m → Q xs ds m → P (.ref a) (.tuple ds) m) (h6 : ∀ a xs ds m, H a = some (.lst xs) → AbL K H o xs ds m → Q xs ds m → P (.ref a) (.list ds) (a :: m))
    (h8 : ∀ a (kvs : List (Key × V)) (ps : List (PyData × PyData)) m, H a = some (.dK kvs) → ps.map (·.1) = kvs.map (fun q => keyD q.1) → AbL K H o (kvs.map (·.2)) (ps.map (·.2)) m → Q (kvs.map (·.2)) (ps.map (·.2)) m → P (.ref a) (.dict ps) (a :: m))
    (h9 : ∀ a (kvs : List (List Key × V)) (ps : List (PyData × PyData)) m, H a = some (.dT kvs) → ps.map (·.1) = kvs.map (fun q => .tuple (q.1.map keyD)) → AbL K H o (kvs.map (·.2)) (ps.map (·.2)) m → Q (kvs.map (·.2)) (ps.map (·.2)) m → P (.ref a) (.dict ps) (a :: m))
    (h12 : ∀ a xs ds, SqF K H a xs → AbL K H o xs ds [] → Q xs ds [] → P (.ref a) (frzD ds) []) (h13 : ∀ a, P (.ref a) (adrD a) [])
    (h10 : Q [] [] []) (h11 : ∀ v vs d ds m n, Ab K H o v d m → AbL K H o vs ds n → P v d m → Q vs ds n → Q (v :: vs) (d :: ds) (m ++ n)) :
    (∀ v d m, Ab K H o v d m → P v d m) ∧ ∀ vs ds m, AbL K H o vs ds m → Q vs ds m :=
  ⟨fun v d m h => Ab.rec (motive_1 := fun v d m _ => P v d m) (motive_2 := fun vs ds m _ => Q vs ds m) h1 h2 h3 h4 (fun s a q => h5 _ _ _ _ s a q) (fun s a q => h6 _ _ _ _ s a q) (fun s k a q => h8 _ _ _ _ s k a q) (fun s k a q => h9 _ _ _ _ s k a q) (fun s a q => h12 _ _ _ s a q) h13 h10 (fun a b q r => h11 _ _ _ _ _ _ a b q r) h,
   fun v d m h => AbL.rec (motive_1 := fun v d m _ => P v d m) (motive_2 := fun vs ds m _ => Q vs ds m) h1 h2 h3 h4 (fun s a q => h5 _ _ _ _ s a q) (fun s a q => h6 _ _ _ _ s a q) (fun s k a q => h8 _ _ _ _ s k a q) (fun s k a q => h9 _ _ _ _ s k a q) (fun s a q => h12 _ _ _ s a q) h13 h10 (fun a b q r => h11 _ _ _ _ _ _ a b q r) h⟩
theorem ab_fr {O : Addr → Prop} (f : Fr O H H') : (∀ v d m, Ab K H o v d m → (∀ a ∈ m, ¬ O a) → Ab K H' o v d m) ∧ ∀ vs ds m, AbL K H o vs ds m → (∀ a ∈ m, ¬ O a) → AbL K H' o vs ds m := by
  refine ab_ind (fun _ => .non) (fun b _ => .bl b) (fun i _ => .int i) (fun x _ => .str x) ?_ ?_ ?_ ?_ (fun a xs ds hs _ q hm => .frz (frSqF f hs) (q hm)) (fun a _ => .adr a) (fun _ => .nil) ?_
  · exact fun a xs ds m hs _ q hm => .tup (frSqT f hs) (q hm)
  · exact fun a xs ds m hs _ q hm => .lst (f.1 _ _ hs fun z => (hm _ (List.mem_cons_self ..) z).elim) (q fun a z => hm a (List.mem_cons_of_mem _ z))
  · exact fun a kvs ps m hs hk _ q hm => .dk (f.1 _ _ hs fun z => (hm _ (List.mem_cons_self ..) z).elim) hk (q fun a z => hm a (List.mem_cons_of_mem _ z))
  · exact fun a kvs ps m hs hk _ q hm => .dt (f.1 _ _ hs fun z => (hm _ (List.mem_cons_self ..) z).elim) hk (q fun a z => hm a (List.mem_cons_of_mem _ z))
  · exact fun v vs d ds m n _ _ p q hm => .cons (p fun a z => hm a (List.mem_append_left _ z)) (q fun a z => hm a (List.mem_append_right _ z))
theorem Ab.fr {O : Addr → Prop} (f : Fr O H H') {v : V} {d : PyData} {m : List Addr} (h : Ab K H o v d m) (hm : ∀ a ∈ m, ¬ O a) : Ab K H' o v d m := (ab_fr f).1 _ _ _ h hm
theorem AbL.fr {O : Addr → Prop} (f : Fr O H H') {vs : List V} {ds : List PyData} {m : List Addr} (h : AbL K H o vs ds m) (hm : ∀ a ∈ m, ¬ O a) : AbL K H' o vs ds m := (ab_fr f).2 _ _ _ h hm
theorem Ab.same {v : V} {d : PyData} {m : List Addr} (h : Ab K H o v d m) (s : Same H H') : Ab K H' o v d m := h.fr (Same.fr s fun _ => False) fun _ _ z => z
theorem AbL.same {vs : List V} {ds : List PyData} {m : List Addr} (h : AbL K H o vs ds m) (s : Same H H') : AbL K H' o vs ds m := h.fr (Same.fr s fun _ => False) fun _ _ z => z

theorem ab_trk : (∀ v d m, Ab K H o v d m → ∀ a ∈ m, ∃ o, H a = some o ∧ MutO o) ∧ ∀ vs ds m, AbL K H o vs ds m → ∀ a ∈ m, ∃ o, H a = some o ∧ MutO o := by
  refine ab_ind (fun _ q => nomatch q) (fun _ _ q => nomatch q) (fun _ _ q => nomatch q) (fun _ _ q => nomatch q) (fun _ _ _ _ _ _ q => q) ?_ ?_ ?_ (fun _ _ _ _ _ q => q) (fun _ _ q => nomatch q) (fun _ q => nomatch q) (fun _ _ _ _ _ _ _ _ p q a z => (List.mem_append.mp z).elim (p a) (q a))
  · intro a xs ds m hs _ q b z
    rcases List.mem_cons.mp z with e | z
    · rw [e]; exact ⟨_, hs, trivial⟩
    · exact q b z
  · intro a xs ds m hs _ _ q b z
    rcases List.mem_cons.mp z with e | z
    · rw [e]; exact ⟨_, hs, trivial⟩
    · exact q b z
  · intro a xs ds m hs _ _ q b z
    rcases List.mem_cons.mp z with e | z
    · rw [e]; exact ⟨_, hs, trivial⟩
    · exact q b z
theorem Ab.trk {v : V} {d : PyData} {m : List Addr} (h : Ab K H o v d m) : ∀ a ∈ m, ∃ o, H a = some o ∧ MutO o := ab_trk.1 _ _ _ h
theorem AbL.trk {vs : List V} {ds : List PyData} {m : List Addr} (h : AbL K H o vs ds m) : ∀ a ∈ m, ∃ o, H a = some o ∧ MutO o := ab_trk.2 _ _ _ h
theorem Ab.tr {v : V} {d : PyData} {m : List Addr} (h : Ab K H o v d m) {a : Addr} (q : a ∈ m) : H a ≠ none := by
  obtain ⟨o, e, _⟩ := h.trk a q
  rw [e]; exact fun z => nomatch z
theorem AbL.tr {v : List V} {d : List PyData} {m : List Addr} (h : AbL K H o v d m) {a : Addr} (q : a ∈ m) : H a ≠ none := by
  obtain ⟨o, e, _⟩ := h.trk a q
  rw [e]; exact fun z => nomatch z

/-! ### data without lists and dicts -/
mutual
def flat : PyData → Bool
  | .none => true
  | .bool _ => true
  | .int _ => true
  | .str _ => true
  | .tuple ds => flatL ds
  | .list _ => false
  | .dict [(.dict [], .int _)] => true
  | .dict _ => false
def flatL : List PyData → Bool
  | [] => true
  | d :: ds => flat d && flatL ds
end
theorem flat_dict : ∀ {ps : List (PyData × PyData)}, flat (.dict ps) = true → ∃ i, ps = [(.dict [], .int i)]
  | [], h => by cases h
  | [(a, b)], h => by
    cases a <;> try (cases h; done)
    rename_i qs
    cases qs with
    | cons q qs => cases h
    | nil => cases b <;> first | (cases h; done) | exact ⟨_, rfl⟩
  | (a, b) :: q :: r, h => by
    cases a <;> try (cases h; done)
    rename_i qs
    cases qs <;> cases b <;> cases h
theorem no_dk {kvs : List (Key × V)} {ps : List (PyData × PyData)} (hk : ps.map (·.1) = kvs.map (fun q => keyD q.1)) {x : PyData} : ps ≠ [(.dict [], x)] := fun e => by
  subst e
  cases kvs with
  | nil => simp at hk
  | cons q r => obtain ⟨k, x⟩ := q; simp at hk; cases k <;> simp [keyD] at hk
theorem no_dt {kvs : List (List Key × V)} {ps : List (PyData × PyData)} (hk : ps.map (·.1) = kvs.map (fun q => PyData.tuple (q.1.map keyD))) {x : PyData} : ps ≠ [(.dict [], x)] := fun e => by
  subst e
  cases kvs with
  | nil => simp at hk
  | cons q r => simp at hk
theorem flatL_iff : ∀ {ds : List PyData}, flatL ds = true ↔ ∀ d ∈ ds, flat d = true
  | [] => by simp [flatL]
  | d :: ds => by simp [flatL, flatL_iff (ds := ds)]
theorem ab_flat : (∀ v d m, Ab K H o v d m → flat d = true → m = []) ∧ ∀ vs ds m, AbL K H o vs ds m → flatL ds = true → m = [] := by
  refine ab_ind (fun _ => rfl) (fun _ _ => rfl) (fun _ _ => rfl) (fun _ _ => rfl) (fun a xs ds m _ _ q f => q (by simpa [PV.flat] using f)) ?_ ?_ ?_ (fun _ _ _ _ _ _ _ => rfl) (fun _ _ => rfl) (fun _ => rfl) ?_
  · intro a xs ds m _ _ _ f; simp [PV.flat] at f
  · intro a kvs ps m _ hk _ _ f; obtain ⟨i, e⟩ := flat_dict f; exact (no_dk hk e).elim
  · intro a kvs ps m _ hk _ _ f; obtain ⟨i, e⟩ := flat_dict f; exact (no_dt hk e).elim
  · intro v vs d ds m n _ _ p q f
    simp only [flatL, Bool.and_eq_true] at f
    rw [p f.1, q f.2]; rfl
theorem Ab.flat {v : V} {d : PyData} {m : List Addr} (h : Ab K H o v d m) (f : flat d = true) : m = [] := ab_flat.1 _ _ _ h f
theorem AbL.flat {vs : List V} {ds : List PyData} {m : List Addr} (h : AbL K H o vs ds m) (f : flatL ds = true) : m = [] := ab_flat.2 _ _ _ h f
theorem AbL.len {vs : List V} {ds : List PyData} {m : List Addr} (h : AbL K H o vs ds m) : vs.length = ds.length := by
  induction vs generalizing ds m with
  | nil => cases h; rfl
  | cons v vs ih => cases h with | cons h1 h2 => simp [ih h2]
theorem AbL.get {vs : List V} {ds : List PyData} {m : List Addr} (h : AbL K H o vs ds m) {i : Nat} {d : PyData} (e : ds[i]? = some d) : ∃ v n, vs[i]? = some v ∧ Ab K H o v d n ∧ n.Sublist m := by
  induction vs generalizing ds m i with
  | nil => cases h; simp at e
  | cons v vs ih =>
    cases h with
    | cons h1 h2 =>
      cases i with
      | zero =>
        simp at e; subst e
        exact ⟨_, _, rfl, h1, List.sublist_append_left _ _⟩
      | succ i =>
        obtain ⟨v', n, e1, a1, s1⟩ := ih h2 (by simpa using e)
        exact ⟨v', n, by simpa using e1, a1, s1.trans (List.sublist_append_right _ _)⟩
theorem AbL.getV {vs : List V} {ds : List PyData} {m : List Addr} (h : AbL K H o vs ds m) {i : Nat} {v : V} (e : vs[i]? = some v) : ∃ d n, ds[i]? = some d ∧ Ab K H o v d n ∧ n.Sublist m := by
  have hl := h.len
  obtain ⟨hi, _⟩ := List.getElem?_eq_some_iff.mp e
  obtain ⟨v', n, e1, a1, s1⟩ := h.get (i := i) (d := ds[i]'(by omega)) (List.getElem?_eq_getElem (by omega))
  rw [e] at e1; cases e1
  exact ⟨_, n, List.getElem?_eq_getElem (by omega), a1, s1⟩
theorem AbL.append {vs ws : List V} {ds es : List PyData} {m n : List Addr} (h : AbL K H o vs ds m) (g : AbL K H o ws es n) : AbL K H o (vs ++ ws) (ds ++ es) (m ++ n) := by
  induction vs generalizing ds m with
  | nil => cases h; exact g
  | cons v vs ih => cases h with | cons h1 h2 => rw [List.append_assoc]; exact .cons h1 (ih h2)
/-- the data of a list's items, without their places: enough where they are flat -/
theorem AbL.of_all {vs : List V} {ds : List PyData} (hl : vs.length = ds.length) (h : ∀ (i : Nat) (v : V) (d : PyData), vs[i]? = some v → ds[i]? = some d → Ab K H o v d []) : AbL K H o vs ds [] := by
  induction vs generalizing ds with
  | nil => cases ds with | nil => exact .nil | cons => simp at hl
  | cons v vs ih =>
    cases ds with
    | nil => simp at hl
    | cons d ds => exact .cons (h 0 v d rfl rfl) (ih (by simpa using hl) fun i v d e1 e2 => h (i + 1) v d (by simpa using e1) (by simpa using e2))
/-- a sequence's value: a list or a tuple -/
theorem Ab.list {v : V} {ds : List PyData} {m : List Addr} (h : Ab K H o v (.list ds) m) : ∃ a xs n, v = .ref a ∧ SqL K H a xs ∧ AbL K H o xs ds n ∧ n.Sublist m := by
  cases h with
  | lst hs ha => exact ⟨_, _, _, rfl, .inl (.inl hs), ha, List.sublist_cons_self _ _⟩
theorem Ab.tuple {v : V} {ds : List PyData} {m : List Addr} (h : Ab K H o v (.tuple ds) m) : ∃ a xs, v = .ref a ∧ SqT K H a xs ∧ AbL K H o xs ds m := by
  cases h with
  | tup hs ha => exact ⟨_, _, rfl, hs, ha⟩
theorem Ab.eq_int {v : V} {i : Int} {m : List Addr} (h : Ab K H o v (.int i) m) : v = .int i ∧ m = [] := by cases h; exact ⟨rfl, rfl⟩
theorem Ab.eq_str {v : V} {x : Str} {m : List Addr} (h : Ab K H o v (.str x) m) : v = .str x ∧ m = [] := by cases h; exact ⟨rfl, rfl⟩
theorem Ab.eq_bl {v : V} {b : Bool} {m : List Addr} (h : Ab K H o v (.bool b) m) : v = .bl b ∧ m = [] := by cases h; exact ⟨rfl, rfl⟩
theorem Ab.eq_non {v : V} {m : List Addr} (h : Ab K H o v .none m) : v = .non ∧ m = [] := by cases h; exact ⟨rfl, rfl⟩
/-- as the library's data -/
theorem ab_dp : (∀ v d m, Ab K H o v d m → d.canLay0 = true → Dp K H v d) ∧ ∀ vs ds m, AbL K H o vs ds m → PyData.canLayAll0 ds = true → DpAll K H vs ds := by
  refine ab_ind (fun _ => .non) (fun b _ => .bl b) (fun i _ => .int i) (fun x _ => .str x) ?_ ?_ ?_ ?_ (fun a xs ds _ _ _ f => by simp [PyData.canLay0, frzD] at f) (fun a f => by simp [PyData.canLay0, adrD] at f) (fun _ => .nil) ?_
  · exact fun a xs ds m hs _ q f => .tup hs (q (by simpa only [PyData.canLay0] using f))
  · exact fun a xs ds m hs _ q f => .lst (.inl (.inl hs)) (q (by simpa only [PyData.canLay0] using f))
  · intro a xs ds m _ _ _ _ f; simp [PyData.canLay0] at f
  · intro a xs ds m _ _ _ _ f; simp [PyData.canLay0] at f
  · intro v vs d ds m n _ _ p q f
    simp only [PyData.canLayAll0, Bool.and_eq_true] at f
    exact .cons (p f.1) (q f.2)
theorem Ab.dp {v : V} {d : PyData} {m : List Addr} (h : Ab K H o v d m) (f : SeqAt.shaped d = true) : Dp K H v d := ab_dp.1 _ _ _ h (SeqAt.canLay_of_shaped f)

theorem ab_any (o' : Bool) : (∀ v d m, Ab K H o v d m → Ab K H o' v d m) ∧ ∀ vs ds m, AbL K H o vs ds m → AbL K H o' vs ds m := by
  refine ab_ind .non .bl .int .str (fun a xs ds m hs _ q => .tup hs q) (fun a xs ds m hs _ q => .lst hs q) (fun a kvs ps m hs hk _ q => .dk hs hk q) (fun a kvs ps m hs hk _ q => .dt hs hk q) (fun a xs ds hs _ q => .frz hs q) .adr .nil (fun v vs d ds m n _ _ p q => .cons p q)
theorem Ab.any {v : V} {d : PyData} {m : List Addr} (h : Ab K H o v d m) (o' : Bool) : Ab K H o' v d m := (ab_any o').1 _ _ _ h
theorem AbL.any {v : List V} {d : List PyData} {m : List Addr} (h : AbL K H o v d m) (o' : Bool) : AbL K H o' v d m := (ab_any o').2 _ _ _ h
theorem Ab.up {v : V} {d : PyData} {m : List Addr} (h : Ab K H o v d m) (f : PV.flat d = true) (o' : Bool) : Ab K H o' v d m := h.any o'
theorem AbL.up {v : List V} {d : List PyData} {m : List Addr} (h : AbL K H o v d m) (f : flatL d = true) (o' : Bool) : AbL K H o' v d m := h.any o'
theorem Ab.down {v : V} {d : PyData} {m : List Addr} (h : Ab K H o v d m) : Ab K H false v d m := h.any _
theorem AbL.down {v : List V} {d : List PyData} {m : List Addr} (h : AbL K H o v d m) : AbL K H false v d m := h.any _
/-! ### slots -/
def own (ks : List Bool) (i : Nat) : Prop := ks[i]? = some true
/-- the slots hold the data; what an owning slot reaches, it reaches alone -/
structure EOk (K : PySem.W.Frag) (H : Hp) (ks : List Bool) (σ : St) (ρ : Env) (fp : Nat → List Addr) : Prop where
  len : ρ.length = σ.length
  ab : ∀ i d, ρ[i]? = some (some d) → ∃ v, σ[i]? = some (some v) ∧ Ab K H (ks[i]? == some true) v d (fp i)
  nd : ∀ i d, own ks i → ρ[i]? = some (some d) → (fp i).Nodup
  dj : ∀ i j d e, own ks i → i ≠ j → ρ[i]? = some (some d) → ρ[j]? = some (some e) → ∀ a ∈ fp i, a ∉ fp j
def Ow (ks : List Bool) (ρ : Env) (fp : Nat → List Addr) (a : Addr) : Prop := ∃ i d, own ks i ∧ ρ[i]? = some (some d) ∧ a ∈ fp i
def Al (ρ : Env) (fp : Nat → List Addr) (a : Addr) : Prop := ∃ i d, ρ[i]? = some (some d) ∧ a ∈ fp i
theorem Ow.al {ks : List Bool} {ρ : Env} {fp : Nat → List Addr} {a : Addr} (h : Ow ks ρ fp a) : Al ρ fp a := let ⟨i, d, _, e, q⟩ := h; ⟨i, d, e, q⟩
section
variable {ks : List Bool} {σ σ' : St} {ρ ρ' ρ'' : Env} {fp fp' fp'' : Nat → List Addr} {m n : List Addr}
theorem EOk.tr (h : EOk K H ks σ ρ fp) {a : Addr} (q : Al ρ fp a) : H a ≠ none := by
  obtain ⟨i, d, e, q⟩ := q
  obtain ⟨v, _, ab⟩ := h.ab i d e
  exact ab.tr q
theorem EOk.same (h : EOk K H ks σ ρ fp) (s : Same H H') : EOk K H' ks σ ρ fp :=
  ⟨h.len, fun i d e => let ⟨v, e1, a⟩ := h.ab i d e; ⟨v, e1, a.same s⟩, h.nd, h.dj⟩
theorem EOk.notAl (h : EOk K H ks σ ρ fp) {a : Addr} (q : H a = none) : ¬ Al ρ fp a := fun z => h.tr z q
structure Step (K : PySem.W.Frag) (H H' : Hp) (ks : List Bool) (σ' : St) (ρ ρ' : Env) (fp fp' : Nat → List Addr) : Prop where
  env : EOk K H' ks σ' ρ' fp'
  fr : Fr (Ow ks ρ fp) H H'
  sub : ∀ a, Al ρ' fp' a → Al ρ fp a ∨ H a = none
  subo : ∀ a, Ow ks ρ' fp' a → Ow ks ρ fp a ∨ H a = none
theorem Step.same (h : EOk K H ks σ ρ fp) (s : Same H H') : Step K H H' ks σ ρ ρ fp fp := ⟨h.same s, Same.fr s _, fun _ q => .inl q, fun _ q => .inl q⟩
theorem Fr.back {O : Addr → Prop} (f : Fr O H H') {a : Addr} (h : H' a = none) : H a = none := by
  cases q : H a with
  | none => rfl
  | some o => exact absurd h (f.2 a (by rw [q]; exact fun z => nomatch z))
theorem Step.trans {σ1 σ2 : St} (a : Step K H H' ks σ1 ρ ρ' fp fp') (b : Step K H' H'' ks σ2 ρ' ρ'' fp' fp'') : Step K H H'' ks σ2 ρ ρ'' fp fp'' := by
  refine ⟨b.env, ⟨fun x o e n => ?_, fun x n => b.fr.2 x (a.fr.2 x n)⟩, fun x q => ?_, fun x q => ?_⟩
  · refine b.fr.1 x o (a.fr.1 x o e n) fun z => ?_
    rcases a.subo x z with y | y
    · exact n y
    · rw [e] at y; cases y
  · rcases b.sub x q with y | y
    · exact a.sub x y
    · exact .inr (a.fr.back y)
  · rcases b.subo x q with y | y
    · exact a.subo x y
    · exact .inr (a.fr.back y)

/-! ### how a result stands to the slots: B: as it is; V: it will not be changed; F: nobody else has it -/
inductive Kd where
  | B | V | F
  deriving DecidableEq
def Kd.ow : Kd → Bool
  | .F => true
  | _ => false
def RCp (κ : Kd) (H : Hp) (ks : List Bool) (ρ : Env) (fp : Nat → List Addr) (m : List Addr) : Prop := match κ with
  | .B => True
  | .V => ∀ a ∈ m, ¬ Ow ks ρ fp a ∧ (Al ρ fp a ∨ H a = none)
  | .F => m.Nodup ∧ ∀ a ∈ m, H a = none
def RCe (κ : Kd) (H : Hp) (ks : List Bool) (ρ : Env) (fp : Nat → List Addr) (ρ' : Env) (fp' : Nat → List Addr) (m : List Addr) : Prop := match κ with
  | .B => True
  | .V => ∀ a ∈ m, ¬ Ow ks ρ' fp' a ∧ (Al ρ fp a ∨ H a = none)
  | .F => m.Nodup ∧ ∀ a ∈ m, ¬ Al ρ' fp' a ∧ (Ow ks ρ fp a ∨ H a = none)
theorem RCp.nil (κ : Kd) : RCp κ H ks ρ fp [] := by
  cases κ with
  | B => trivial
  | V => exact fun _ q => nomatch q
  | F => exact ⟨.nil, fun _ q => nomatch q⟩
theorem RCe.nil (κ : Kd) : RCe κ H ks ρ fp ρ' fp' [] := by
  cases κ with
  | B => trivial
  | V => exact fun _ q => nomatch q
  | F => exact ⟨.nil, fun _ q => nomatch q⟩
theorem RCp.toV (h : EOk K H ks σ ρ fp) (r : RCp .F H ks ρ fp m) : RCp .V H ks ρ fp m := fun a q => ⟨fun z => h.notAl (r.2 a q) z.al, .inr (r.2 a q)⟩
theorem RCp.e {κ : Kd} (h : EOk K H ks σ ρ fp) (r : RCp κ H ks ρ fp m) : RCe κ H ks ρ fp ρ fp m := by
  cases κ with
  | B => trivial
  | V => exact r
  | F => exact ⟨r.1, fun a q => ⟨h.notAl (r.2 a q), .inr (r.2 a q)⟩⟩
theorem RCe.toV (r : RCe .F H ks ρ fp ρ' fp' m) : RCe .V H ks ρ fp ρ' fp' m := fun a q => ⟨fun z => (r.2 a q).1 z.al, (r.2 a q).2.elim (fun z => .inl z.al) .inr⟩
/-- a result behind one more step -/
theorem RCe.step {κ : Kd} {o : Bool} {d : V} {e : PyData} (hk : κ ≠ .B) {σ2 : St} (ab : Ab K H' o d e m) (r : RCe κ H ks ρ fp ρ' fp' m) (s : Step K H' H'' ks σ2 ρ' ρ'' fp' fp'') : RCe κ H ks ρ fp ρ'' fp'' m := by
  cases κ with
  | B => exact absurd rfl hk
  | V => exact fun a q => ⟨fun z => (s.subo a z).elim (r a q).1 (fun y => ab.tr q y), (r a q).2⟩
  | F => exact ⟨r.1, fun a q => ⟨fun z => (s.sub a z).elim (r.2 a q).1 (fun y => ab.tr q y), (r.2 a q).2⟩⟩
theorem RCe.notO {κ : Kd} (hk : κ ≠ .B) (r : RCe κ H ks ρ fp ρ' fp' m) : ∀ a ∈ m, ¬ Ow ks ρ' fp' a := by
  cases κ with
  | B => exact absurd rfl hk
  | V => exact fun a q => (r a q).1
  | F => exact fun a q z => (r.2 a q).1 z.al
/-- .. behind a step before it -/
theorem RCe.pre {κ : Kd} {σ1 : St} (s : Step K H H' ks σ1 ρ ρ' fp fp') (r : RCe κ H' ks ρ' fp' ρ'' fp'' m) : RCe κ H ks ρ fp ρ'' fp'' m := by
  cases κ with
  | B => trivial
  | V => exact fun a q => ⟨(r a q).1, (r a q).2.elim (fun z => s.sub a z) fun z => .inr (s.fr.back z)⟩
  | F => exact ⟨r.1, fun a q => ⟨(r.2 a q).1, (r.2 a q).2.elim (fun z => s.subo a z) fun z => .inr (s.fr.back z)⟩⟩
end

/-! ### readings -/
/-- what is wanted of exceptions, by the exception as data -/
def WEx (K : PySem.W.Frag) (W : WX) (c : Ex) (σ : St) (H : Hp) : Prop := match c.fld with
  | none => W (.ref (He.ga K c.cls)) none σ H
  | some (f, x) => ∀ d v, H d = some (.xd [(f, v)]) → Ab K H false v x [] → W (.ref (He.ga K c.cls)) (some d) σ H
section
variable (K : PySem.W.Frag) (W : WX) (ks : List Bool)
/-- pure: the slots and all that is tracked stay -/
def tP (κ : Kd) (f : Env → R PyData) : TE := fun σ H Q => ∃ ρ fp, EOk K H ks σ ρ fp ∧ Holds (f ρ) (fun d => ∀ v H' m, Same H H' → Ab K H' κ.ow v d m → RCp κ H ks ρ fp m → Q v H') fun c => ∀ H', Same H H' → WEx K W c σ H'
def tPA (κ : Kd) (f : Env → R (List PyData)) : TA := fun σ H Q => ∃ ρ fp, EOk K H ks σ ρ fp ∧ Holds (f ρ) (fun d => ∀ v H' m, Same H H' → AbL K H' κ.ow v d m → RCp κ H ks ρ fp m → Q v H') fun c => ∀ H', Same H H' → WEx K W c σ H'
def tPT (f : Env → R Bool) : TT := fun σ H Q => ∃ ρ fp, EOk K H ks σ ρ fp ∧ Holds (f ρ) (fun b => ∀ H', Same H H' → Q b H') fun c => ∀ H', Same H H' → WEx K W c σ H'
/-- owning slots may be changed -/
def tE (κ : Kd) (f : Env → R (PyData × Env)) : TE := fun σ H Q => ∃ ρ fp, EOk K H ks σ ρ fp ∧ Holds (f ρ) (fun r => ∀ v H' fp' m, Step K H H' ks σ ρ r.2 fp fp' → Ab K H' κ.ow v r.1 m → RCe κ H ks ρ fp r.2 fp' m → Q v H') fun c => ∀ H', Fr (Ow ks ρ fp) H H' → WEx K W c σ H'
def tEA (κ : Kd) (f : Env → R (List PyData × Env)) : TA := fun σ H Q => ∃ ρ fp, EOk K H ks σ ρ fp ∧ Holds (f ρ) (fun r => ∀ v H' fp' m, Step K H H' ks σ ρ r.2 fp fp' → AbL K H' κ.ow v r.1 m → RCe κ H ks ρ fp r.2 fp' m → Q v H') fun c => ∀ H', Fr (Ow ks ρ fp) H H' → WEx K W c σ H'
def tET (f : Env → R (Bool × Env)) : TT := fun σ H Q => ∃ ρ fp, EOk K H ks σ ρ fp ∧ Holds (f ρ) (fun r => ∀ H' fp', Step K H H' ks σ ρ r.2 fp fp' → Q r.1 H') fun c => ∀ H', Fr (Ow ks ρ fp) H H' → WEx K W c σ H'
end

/-! ### defs, called where no repr is under way -/
structure RoomG (k : Nat) (A : Around) : Prop where
  rm : Room k A
  gd : A.guards = some []
theorem RoomG.mono {j k : Nat} {A : Around} (r : RoomG k A) (h : j ≤ k) : RoomG j A := ⟨r.rm.mono h, r.gd⟩
theorem RoomG.deeper {k : Nat} {A : Around} (r : RoomG (k + 1) A) (env : PySem.Env) : RoomG k (A.deeper env) := ⟨r.rm.deeper env, r.gd⟩
theorem RoomG.u {k : Nat} {A : Around} (r : RoomG k A) : A.units + 66 < cLine := by have := r.rm.un; omega
theorem RoomG.u64 {k : Nat} {A : Around} (r : RoomG k A) : A.units + 64 < cLine := by have := r.rm.un; omega
theorem RoomG.u65 {k : Nat} {A : Around} (r : RoomG k A) : A.units + 65 < cLine := by have := r.rm.un; omega
structure FnG (P : Program) (w : World) (K : PySem.W.Frag) (mg : Str → Option Value) (base : Heap) (CX : CXT) (k : Nat) (f : Addr) (fd : FuncData) (ps : List Str) (sp : Sp) : Prop where
  len : ∀ vs H Q E, sp vs H Q E → vs.length = ps.length
  run : ∀ (A : Around) (outer : List PySem.Env) (s : Shared) (H : Hp) (args : Args) (us : List Value) (vs : List V) (Q : VK) (E : XK), RoomG k A → Env0 P w K mg base A outer s H → BindsTo s fd args (ps.zip us) → Vals vs us → sp vs H Q E →
    codeAny (model P w) A (.call (.ref f) args) (CR CX outer P w H s Q E) s
theorem FnG.mono {P : Program} {w : World} {K : PySem.W.Frag} {mg : Str → Option Value} {base : Heap} {CX : CXT} {j k : Nat} {f : Addr} {fd : FuncData} {ps : List Str} {sp : Sp} (F : FnG P w K mg base CX j f fd ps sp) (h : j ≤ k) :
    FnG P w K mg base CX k f fd ps sp := ⟨F.len, fun A outer s H args us vs Q E hr => F.run A outer s H args us vs Q E (hr.mono h)⟩
theorem FnG.imp {P : Program} {w : World} {K : PySem.W.Frag} {mg : Str → Option Value} {base : Heap} {CX : CXT} {k : Nat} {f : Addr} {fd : FuncData} {ps : List Str} {sp sp' : Sp} (F : FnG P w K mg base CX k f fd ps sp)
    (h : ∀ vs H Q E, sp' vs H Q E → sp vs H Q E) : FnG P w K mg base CX k f fd ps sp' :=
  ⟨fun vs H Q E q => F.len vs H Q E (h _ _ _ _ q), fun A outer s H args us vs Q E hr he hb hv hs => F.run A outer s H args us vs Q E hr he hb hv (h _ _ _ _ hs)⟩
section
variable {P : Program} {w : World} {K : PySem.W.Frag} {mg : Str → Option Value} {base : Heap} {x qual : Str} {params : Arguments} {body : List Stmt} {scope : Scope} {f : Addr} {fd : FuncData} {N ps : List Str} {k : Nat}
theorem fnG_ok {CX : CXT} {sp : Sp} (F : FunD K x qual params body scope [] [] f fd) (S : FnScope N ps scope) (len : ∀ vs H Q E, sp vs H Q E → vs.length = ps.length)
    (hbody : ∀ (cdv : Value) (A : Around) (outer : List PySem.Env) (s : Shared) (H : Hp) (vs : List V) (Q : VK) (E : XK), RoomG k (A.deeper (envOfC qual scope s.heap.objs.size f cdv)) → sp vs H Q E →
      ∃ t, PSs (cxOf CX P w K mg base N qual scope f cdv A outer s H E) body t ∧ t { nx := fun _ H' => Q .non H', rt := Q } (L2.start N vs) H) :
    FnG P w K mg base CX (k + 1) f fd ps sp := by
  obtain ⟨oc, od, dV, kV, doc, pm, an, cdv, ct, osl, rfl, lk, hcd, _, _⟩ := F.ex
  refine ⟨len, fun A outer s H args us vs Q E hr e0 hb r hsp => ?_⟩
  have hl := len _ _ _ _ hsp
  have KX : K.In s.heap := e0.mod.kin.keeps fun b o e => (e0.bs b o e).1
  have lim : s.heap.NoLimit := e0.mod.nolimit.keeps fun b o e => (e0.bs b o e).1
  have hkind : ∀ y ∈ ps.zip us, scope.names.lookup y.1 = some .local ∨ (scope.names.lookup y.1 = some .cell ∧ ((cellsFrom (s.heap.objs.size + 1) scope.names []).lookup y.1).isSome = true) := fun ⟨n, v⟩ hy => by
    rcases S.par n (List.of_mem_zip hy).1 with q | q
    · exact .inl q
    · exact .inr ⟨q, PySem.W.cellsFrom_some _ _ _ (.inl q)⟩
  refine codeAny_call_function hr.rm.depth (KX _ _ lk) rfl S.co S.gen rfl (PySem.W.codeRec_of KX hcd) (hb _ _ _ _ ?_)
  refine wpAny_newFunctionEnv_cells S.kind hkind fun env he s1 x => ?_
  subst he
  refine ⟨lim.keeps x.toInCall.keep, codeAny_func ?_⟩
  obtain ⟨t, ht, hq⟩ := hbody cdv A outer s H vs Q E (hr.deeper _) hsp
  have I : Inv (cxOf CX P w K mg base N qual scope f cdv A outer s H E) [] (L2.start N vs) H s1 := inv_start S hr.rm.hd e0 hl r x
  refine wpAny_mono (ht.run [] s1 (L2.start N vs) H _ I hq) (fun fl s' hs => ?_) fun e s' hs => hs
  have fin : ∀ {σ' : L2.St} {H' : Hp} {v : V} {u : Value}, Inv (cxOf CX P w K mg base N qual scope f cdv A outer s H E) [] σ' H' s' → RelV v u → Q v H' → CE outer P w H s Q u s' :=
    fun {σ' H' v u} J rv q => ⟨v, H', J.os, J.bare, J.base, J.hok, rv, q⟩
  cases fl with
  | ret u =>
    obtain ⟨v, σ', H', J, rv, q⟩ := hs
    exact fin J rv q
  | next =>
    obtain ⟨σ', H', J, q⟩ := hs
    exact fin (v := V.non) (u := Value.none) J rfl q
  | brk =>
    obtain ⟨_, _, _, q⟩ := hs
    exact False.elim q
  | cont =>
    obtain ⟨_, _, _, q⟩ := hs
    exact False.elim q
end
section
variable {X : Cx} {CX : CXT} {k : Nat} {f C : Addr} {fd : FuncData} {ps : List Str} {sp : Sp} {E : L2.St → XK} {x m : Str} {p pos apos : Pos} {e o : Expr} {es : List Expr} {ta : TE} {t : TA}
theorem run_fnG {pins : List (Addr × Obj)} {σ : L2.St} {H : Hp} {s : Shared} {Q : VK} {us : List Value} {vs : List V} (F : FnG X.prog X.w X.K X.mg X.base CX k f fd ps sp) (hr : RoomG k X.A) (hb : Binds X.K fd ps []) (hx : PassesAt CX X σ (E σ))
    (I : Inv X pins σ H s) (r : Vals vs us) (h : sp vs H Q (E σ)) : wpAny (model X.prog X.w) X.A (call (.ref f) us) (EP X pins σ Q) X.xe s := by
  have hl : us.length = ps.length := by rw [← r.length]; exact F.len _ _ _ _ h
  have b := hb s us I.kIn (by rw [List.append_nil]; exact hl)
  rw [List.append_nil] at b
  refine wpAny_call (codeAny_mono (F.run X.A X.stack s H ⟨us, []⟩ us vs Q (E σ) hr I.env0 b r h) fun r s' hq => ?_)
  cases r with
  | error e => exact hx pins H s e s' I hq
  | ok fl =>
    cases fl with
    | ret u => exact I.after hq
    | next => exact False.elim hq
    | brk => exact False.elim hq
    | cont => exact False.elim hq
theorem pe_callG' (F : FnG X.prog X.w X.K X.mg X.base CX k f fd ps sp) (hr : RoomG k X.A) (hg : Gl X x) (hm : X.mg x = some (.ref f)) (hk : PySem.W.keepIn X.K (.ref f) = true) (hb : Binds X.K fd ps []) (hx : ∀ σ, PassesAt CX X σ (E σ))
    (ha : PA X (e :: es) t) (hdb : (x == ("__debug__" : Str)) = false := by decide) (he : starEach (e :: es) X.env = (false, eval e X.env) :: starEach es X.env := by rfl) (hpl : (backTo pos (starEach es X.env)).any (·.1) = false := by rfl) :
    PE X (.Call (.Name x p) (e :: es) [] pos) (tCallS sp E t) := by
  refine ⟨fun pins s σ H Q I h => ?_⟩
  refine wpAny_Call_Name_kw (ld_glob I hg hm ?_ hdb)
  refine PySem.W.callWith_K (h₀ := X.base) I.ok.mod.kin hk (thn (ha.run pos pins s σ H _ I h) fun us s1 ⟨vs, H1, I1, r, q⟩ => ⟨I1.kIn, ?_⟩) he hpl
  exact run_fnG F hr hb (hx σ) I1 r q
end
end PV

set_option Elab.async false
set_option linter.all false
set_option maxRecDepth 100000
set_option maxHeartbeats 1000000
set_option autoImplicit false
/-! PV, part b: expressions. -/
namespace PV
open PySem PySem.Spec PyProof.Rows L2

theorem PE.imp {X : Cx} {e : Expr} {t t' : TE} (h : PE X e t) (w : ∀ σ H Q, t' σ H Q → t σ H Q) : PE X e t' := ⟨fun pins s σ H Q I q => h.run pins s σ H Q I (w σ H Q q)⟩
theorem PT.imp {X : Cx} {e : Expr} {t t' : TT} (h : PT X e t) (w : ∀ σ H Q, t' σ H Q → t σ H Q) : PT X e t' := ⟨fun pins s σ H Q I q => h.run pins s σ H Q I (w σ H Q q)⟩
theorem PW.imp {X : Cx} {e : Expr} {t t' : TT} (h : PW X e t) (w : ∀ σ H Q, t' σ H Q → t σ H Q) : PW X e t' := ⟨fun wh pins s σ H Q I q => h.run wh pins s σ H Q I (w σ H Q q)⟩
theorem PA.imp {X : Cx} {e : List Expr} {t t' : TA} (h : PA X e t) (w : ∀ σ H Q, t' σ H Q → t σ H Q) : PA X e t' := ⟨fun pos pins s σ H Q I q => h.run pos pins s σ H Q I (w σ H Q q)⟩
theorem OpR.or {X : Cx} {f : Value → Value → Sem Value} {r r' : R2} (h : OpR X f r) (h' : OpR X f r') : OpR X f (fun x y H Q => r x y H Q ∨ r' x y H Q) := by
  intro pins s σ H x y v u Q I rx ry q
  rcases q with q | q
  · exact h pins s σ H x y v u Q I rx ry q
  · exact h' pins s σ H x y v u Q I rx ry q

def ofO {α : Type} : Option α → R α
  | some a => .ok a
  | none => .no
@[simp] theorem ofO_some {α : Type} (a : α) : ofO (some a) = .ok a := rfl
@[simp] theorem ofO_none {α : Type} : ofO (none : Option α) = .no := rfl
theorem Holds.ofO {α : Type} {o : Option α} {P : α → Prop} {W : Ex → Prop} (h : Holds (PV.ofO o) P W) : ∃ a, o = some a ∧ P a := by
  cases o with
  | none => exact h.elim
  | some a => exact ⟨a, rfl, h⟩
theorem same_new {H : Hp} {p : Addr} {o : HO} (h : H p = none) : Same H (upd H p o) := fun b u e => by rw [upd_ne (ne_of_none e h)]; exact e
theorem Same.back {H H' : Hp} (s : Same H H') {a : Addr} (h : H' a = none) : H a = none := L2.Same.free s h

/-! ### what is wanted of a value: data in, fresh data out -/
/-- a new value's places -/
def New (H : Hp) (m : List Addr) : Prop := m.Nodup ∧ ∀ a ∈ m, H a = none
theorem New.nil {H : Hp} : New H [] := ⟨.nil, fun _ q => nomatch q⟩
/-- the end wanted of an operation at H that gives d anew -/
def Ends1 (K : PySem.W.Frag) (H : Hp) (d : PyData) (Q : VK) : Prop := ∀ v H' m, Same H H' → Ab K H' true v d m → New H m → Q v H'
theorem Ends1.now {K : PySem.W.Frag} {H : Hp} {d : PyData} {Q : VK} {v : V} (h : Ends1 K H d Q) (a : Ab K H true v d []) : Q v H := h v H [] (Same.refl H) a New.nil
theorem Ends1.lst {K : PySem.W.Frag} {H : Hp} {ds : List PyData} {Q : VK} {vs : List V} (h : Ends1 K H (.list ds) Q) (a : AbL K H true vs ds []) : ∀ p, H p = none → Q (.ref p) (upd H p (.lst vs)) := fun p hp =>
  h _ _ [p] (same_new hp) (.lst upd_same (a.same (same_new hp))) ⟨by simp, fun b q => by rw [List.mem_singleton.mp q]; exact hp⟩
theorem Ends1.tup {K : PySem.W.Frag} {H : Hp} {ds : List PyData} {Q : VK} {vs : List V} (h : Ends1 K H (.tuple ds) Q) (a : AbL K H true vs ds []) : ∀ p, H p = none → Q (.ref p) (upd H p (.tup vs)) := fun p hp =>
  h _ _ [] (same_new hp) (.tup (.inl (.inl upd_same)) (a.same (same_new hp))) New.nil
structure Op2 (K : PySem.W.Frag) (r : R2) (f : PyData → PyData → Option PyData) : Prop where
  run : ∀ (H : Hp) (x y : V) (a b : PyData) (m n : List Addr) (d : PyData) (Q : VK), Ab K H false x a m → Ab K H false y b n → f a b = some d → Ends1 K H d Q → r x y H Q
structure Op1 (K : PySem.W.Frag) (r : V → Hp → VK → Prop) (f : PyData → Option PyData) : Prop where
  run : ∀ (H : Hp) (x : V) (a : PyData) (m : List Addr) (d : PyData) (Q : VK), Ab K H false x a m → f a = some d → Ends1 K H d Q → r x H Q
structure OpN (K : PySem.W.Frag) (r : List V → Hp → VK → Prop) (f : List PyData → Option PyData) : Prop where
  run : ∀ (H : Hp) (x : List V) (a : List PyData) (m : List Addr) (d : PyData) (Q : VK), AbL K H false x a m → f a = some d → Ends1 K H d Q → r x H Q
/-- a comparison -/
structure OpB (K : PySem.W.Frag) (r : R2) (f : PyData → PyData → Option Bool) : Prop where
  run : ∀ (H : Hp) (x y : V) (a b : PyData) (m n : List Addr) (d : Bool) (Q : VK), Ab K H false x a m → Ab K H false y b n → f a b = some d → Q (.bl d) H → r x y H Q
theorem OpB.val {K : PySem.W.Frag} {r : R2} {f : PyData → PyData → Option Bool} (h : OpB K r f) : Op2 K r (fun a b => (f a b).map .bool) := ⟨fun H x y a b m n d Q h1 h2 e q => by
  obtain ⟨c, e1, rfl⟩ := Option.map_eq_some_iff.mp e
  exact h.run H x y a b m n c Q h1 h2 e1 (q.now (.bl c))⟩

section
variable {X : Cx} {W : WX} {ks : List Bool} {a b c e : Expr} {pos : Pos} {κ : Kd}
abbrev DP (X : Cx) (W : WX) (ks : List Bool) (κ : Kd) (e : Expr) (f : Env → R PyData) : Prop := PE X e (tP X.K W ks κ f)
abbrev DPA (X : Cx) (W : WX) (ks : List Bool) (κ : Kd) (e : List Expr) (f : Env → R (List PyData)) : Prop := PA X e (tPA X.K W ks κ f)
abbrev DPT (X : Cx) (W : WX) (ks : List Bool) (e : Expr) (f : Env → R Bool) : Prop := PT X e (tPT X.K W ks f)
abbrev DE (X : Cx) (W : WX) (ks : List Bool) (κ : Kd) (e : Expr) (f : Env → R (PyData × Env)) : Prop := PE X e (tE X.K W ks κ f)
abbrev DEA (X : Cx) (W : WX) (ks : List Bool) (κ : Kd) (e : List Expr) (f : Env → R (List PyData × Env)) : Prop := PA X e (tEA X.K W ks κ f)
abbrev DET (X : Cx) (W : WX) (ks : List Bool) (e : Expr) (f : Env → R (Bool × Env)) : Prop := PT X e (tET X.K W ks f)

/-! ### the combinators of pure expressions -/
def fVar (i : Nat) : Env → R PyData := fun ρ => match ρ[i]? with
  | some (some d) => .ok d
  | _ => .no
def fC (d : PyData) : Env → R PyData := fun _ => .ok d
def fFlat (f : Env → R PyData) : Env → R PyData := fun ρ => f ρ >>= fun d => if flat d then .ok d else .no
def fOp (o : PyData → PyData → Option PyData) (f g : Env → R PyData) : Env → R PyData := fun ρ => f ρ >>= fun x => g ρ >>= fun y => ofO (o x y)
def fUn (o : PyData → Option PyData) (f : Env → R PyData) : Env → R PyData := fun ρ => f ρ >>= fun x => ofO (o x)
def fIf (t : Env → R Bool) (f g : Env → R PyData) : Env → R PyData := fun ρ => t ρ >>= fun c => if c then f ρ else g ρ
def fNil : Env → R (List PyData) := fun _ => .ok []
def fCons (f : Env → R PyData) (g : Env → R (List PyData)) : Env → R (List PyData) := fun ρ => f ρ >>= fun x => g ρ >>= fun xs => .ok (x :: xs)
def fTup (f : Env → R (List PyData)) : Env → R PyData := fun ρ => f ρ >>= fun xs => if xs.length ≤ sizeLine then .ok (.tuple xs) else .no
def fLst (f : Env → R (List PyData)) : Env → R PyData := fun ρ => f ρ >>= fun xs => if xs.length ≤ sizeLine then .ok (.list xs) else .no
def fN (o : List PyData → Option PyData) (f : Env → R (List PyData)) : Env → R PyData := fun ρ => f ρ >>= fun xs => ofO (o xs)
def asB : PyData → R Bool
  | .bool b => .ok b
  | _ => .no
def fAnd (f g : Env → R PyData) : Env → R PyData := fun ρ => f ρ >>= asB >>= fun c => if c then g ρ else .ok (.bool false)
def fOr (f g : Env → R PyData) : Env → R PyData := fun ρ => f ρ >>= asB >>= fun c => if c then .ok (.bool true) else g ρ
def fNot (f : Env → R PyData) : Env → R PyData := fun ρ => f ρ >>= asB >>= fun c => .ok (.bool (!c))
def gAnd (f g : Env → R Bool) : Env → R Bool := fun ρ => f ρ >>= fun c => if c then g ρ else .ok false
def gOr (f g : Env → R Bool) : Env → R Bool := fun ρ => f ρ >>= fun c => if c then .ok true else g ρ
def gNot (f : Env → R Bool) : Env → R Bool := fun ρ => f ρ >>= fun c => .ok (!c)
def gCmp (o : PyData → PyData → Option Bool) (f g : Env → R PyData) : Env → R Bool := fun ρ => f ρ >>= fun x => g ρ >>= fun y => ofO (o x y)
def gChain (o p : PyData → PyData → Option Bool) (f g h : Env → R PyData) : Env → R Bool := fun ρ => f ρ >>= fun x => g ρ >>= fun y => ofO (o x y) >>= fun c => if c then h ρ >>= fun z => ofO (p y z) else .ok false
def fOfB (f : Env → R Bool) : Env → R PyData := fun ρ => f ρ >>= fun c => .ok (.bool c)
def gTru (t : PyData → Option Bool) (f : Env → R PyData) : Env → R Bool := fun ρ => f ρ >>= fun x => ofO (t x)

theorem RCp.pre {H H1 : Hp} {ρ : Env} {fp : Nat → List Addr} {m : List Addr} {σ : L2.St} (eo : EOk X.K H ks σ ρ fp) (s : Same H H1) (r : RCp κ H1 ks ρ fp m) : RCp κ H ks ρ fp m := by
  cases κ with
  | B => trivial
  | V => exact fun a q => ⟨(r a q).1, (r a q).2.elim .inl fun z => .inr (Same.back s z)⟩
  | F => exact ⟨r.1, fun a q => Same.back s (r.2 a q)⟩
/-! ### names, constants -/
theorem p_varB {i : Nat} {x : Str} (hN : X.N[i]? = some x := by rfl) (hv : Vis X.env.scope x := by first | exact Or.inl rfl | exact Or.inr (Or.inl rfl) | exact Or.inr (Or.inr rfl)) (hd : (x == ("__debug__" : Str)) = false := by decide)
    (hcd : (x == ("__classdict__" : Str)) = false := by decide) : DP X W ks .B (.Name x pos) (fVar i) := PE.imp (pe_var hN hv hd hcd) fun σ H Q ⟨ρ, fp, eo, h⟩ => by
  unfold fVar at h
  split at h
  · rename_i d e
    obtain ⟨v, e1, ab⟩ := eo.ab i d e
    exact ⟨v, e1, h v H _ (Same.refl H) ab.down trivial⟩
  · exact h.elim
theorem p_varV {i : Nat} {x : Str} (hk : ks[i]? = some false := by rfl) (hN : X.N[i]? = some x := by rfl) (hv : Vis X.env.scope x := by first | exact Or.inl rfl | exact Or.inr (Or.inl rfl) | exact Or.inr (Or.inr rfl)) (hd : (x == ("__debug__" : Str)) = false := by decide)
    (hcd : (x == ("__classdict__" : Str)) = false := by decide) : DP X W ks .V (.Name x pos) (fVar i) := PE.imp (pe_var hN hv hd hcd) fun σ H Q ⟨ρ, fp, eo, h⟩ => by
  unfold fVar at h
  split at h
  · rename_i d e
    obtain ⟨v, e1, ab⟩ := eo.ab i d e
    refine ⟨v, e1, h v H _ (Same.refl H) ab.down fun a q => ⟨fun ⟨j, e2, o, e3, q2⟩ => ?_, .inl ⟨i, d, e, q⟩⟩⟩
    have hji : j ≠ i := fun z => by rw [z] at o; unfold own at o; rw [hk] at o; cases o
    exact eo.dj j i e2 d o hji e3 e a q2 q
  · exact h.elim
theorem p_flat {f : Env → R PyData} (h : DP X W ks .B e f) : DP X W ks κ e (fFlat f) := PE.imp h fun σ H Q ⟨ρ, fp, eo, h⟩ =>
  ⟨ρ, fp, eo, (Holds.bind h).mono (fun d hd v H' m s ab _ => by
    by_cases hf : flat d = true
    · rw [if_pos hf] at hd
      have em := ab.flat hf
      subst em
      exact hd v H' [] s (ab.up hf _) (RCp.nil _)
    · rw [if_neg hf] at hd
      exact hd.elim) fun c hc => hc⟩
theorem p_toV {f : Env → R PyData} (h : DP X W ks .F e f) : DP X W ks .V e f := PE.imp h fun σ H Q ⟨ρ, fp, eo, h⟩ =>
  ⟨ρ, fp, eo, h.mono (fun d hd v H' m s ab r => hd v H' m s ab.down (r.toV eo)) fun c hc => hc⟩
theorem p_toB {f : Env → R PyData} (h : DP X W ks κ e f) : DP X W ks .B e f := PE.imp h fun σ H Q ⟨ρ, fp, eo, h⟩ =>
  ⟨ρ, fp, eo, h.mono (fun d hd v H' m s ab r => hd v H' m s ab.down trivial) fun c hc => hc⟩
theorem p_C {v : V} {d : PyData} (h : PE X e (tC v)) (ab : ∀ H o, Ab X.K H o v d []) : DP X W ks κ e (fC d) := PE.imp h fun σ H Q ⟨ρ, fp, eo, h⟩ => h v H [] (Same.refl H) (ab H _) (RCp.nil _)
theorem p_int {i j} : DP X W ks κ (.Constant (.int i) j pos) (fC (.int i)) := p_C pe_int fun _ _ => .int i
theorem p_str {i j} : DP X W ks κ (.Constant (.str i) j pos) (fC (.str i)) := p_C pe_str fun _ _ => .str i
theorem p_bl {i j} : DP X W ks κ (.Constant (.bool i) j pos) (fC (.bool i)) := p_C pe_bl fun _ _ => .bl i
theorem p_non {j} : DP X W ks κ (.Constant .none j pos) (fC .none) := p_C pe_non fun _ _ => .non
/-- a constant of the module -/
theorem p_glob {x : Str} {u : Value} {v : V} {d : PyData} (hm : X.mg x = some u) (r : RelV v u) (ab : ∀ H o, Ab X.K H o v d []) (hg : Gl X x := by rfl) (hd : (x == ("__debug__" : Str)) = false := by decide) : DP X W ks κ (.Name x pos) (fC d) := p_C (pe_glob hg hm r hd) ab

/-! ### operators -/
theorem p_op {op : Operator} {r : R2} {o : PyData → PyData → Option PyData} {f g : Env → R PyData} (ho : OpR X (binaryOp op) r) (hd : Op2 X.K r o) (ha : DP X W ks .B a f) (hb : DP X W ks .B b g) : DP X W ks .F (.BinOp a op b pos) (fOp o f g) :=
  PE.imp (pe_op ho ha hb) fun σ H Q ⟨ρ, fp, eo, h⟩ => ⟨ρ, fp, eo, (Holds.bind h).mono (fun x hx v H1 m s1 a1 _ => ⟨ρ, fp, eo.same s1, (Holds.bind hx).mono (fun y hy u H2 n s2 a2 _ => by
    obtain ⟨d, e, hy⟩ := Holds.ofO hy
    exact hd.run H2 v u x y m n d Q (a1.same s2) a2 e fun w H3 m' s3 a3 nw => hy w H3 m' (s1.trans (s2.trans s3)) a3 ⟨nw.1, fun z q => Same.back (s1.trans s2) (nw.2 z q)⟩) fun c hc H' s' => hc H' (s1.trans s')⟩) fun c hc => hc⟩
theorem p_un {op : UnaryOp} {r : V → Hp → VK → Prop} {o : PyData → Option PyData} {f : Env → R PyData} (ho : UnR X (unaryOp op) r) (hd : Op1 X.K r o) (ha : DP X W ks .B a f) : DP X W ks .F (.UnaryOp op a pos) (fUn o f) :=
  PE.imp (pe_un ho ha) fun σ H Q ⟨ρ, fp, eo, h⟩ => ⟨ρ, fp, eo, (Holds.bind h).mono (fun x hx v H1 m s1 a1 _ => by
    obtain ⟨d, e, hy⟩ := Holds.ofO hx
    exact hd.run H1 v x m d Q a1 e fun w H3 m' s3 a3 nw => hy w H3 m' (s1.trans s3) a3 ⟨nw.1, fun z q => Same.back s1 (nw.2 z q)⟩) fun c hc => hc⟩
/-- a comparison as a value -/
theorem p_cmp {op : CmpOp} {r : R2} {o : PyData → PyData → Option Bool} {f g : Env → R PyData} (ho : OpR X (compareOp op) r) (hd : OpB X.K r o) (ha : DP X W ks .B a f) (hb : DP X W ks .B b g) (hm : behindInMarks op b = false) : DP X W ks .F (.Compare a [op] [b] pos) (fOfB (gCmp o f g)) :=
  PE.imp (pe_cmpR ho ha hb hm) fun σ H Q ⟨ρ, fp, eo, h⟩ => ⟨ρ, fp, eo, (Holds.bind (Holds.bind h)).mono (fun x hx v H1 m s1 a1 _ => ⟨ρ, fp, eo.same s1, (Holds.bind hx).mono (fun y hy u H2 n s2 a2 _ => by
    obtain ⟨d, e, hy⟩ := Holds.ofO hy
    exact hd.run H2 v u x y m n d Q (a1.same s2) a2 e (hy _ H2 [] (s1.trans s2) (.bl d) (RCp.nil _))) fun c hc H' s' => hc H' (s1.trans s')⟩) fun c hc => hc⟩
/-- .. as a test -/
theorem t_cmp {op : CmpOp} {r : R2} {o : PyData → PyData → Option Bool} {f g : Env → R PyData} (ho : OpR X (compareOp op) r) (hd : OpB X.K r o) (ha : DP X W ks .B a f) (hb : DP X W ks .B b g) (hm : behindInMarks op b = false) : DPT X W ks (.Compare a [op] [b] pos) (gCmp o f g) :=
  PT.imp (pt_cmpR ho ha hb hm) fun σ H Q ⟨ρ, fp, eo, h⟩ => ⟨ρ, fp, eo, (Holds.bind h).mono (fun x hx v H1 m s1 a1 _ => ⟨ρ, fp, eo.same s1, (Holds.bind hx).mono (fun y hy u H2 n s2 a2 _ => by
    obtain ⟨d, e, hy⟩ := Holds.ofO hy
    exact hd.run H2 v u x y m n d _ (a1.same s2) a2 e ⟨d, rfl, hy H2 (s1.trans s2)⟩) fun c hc H' s' => hc H' (s1.trans s')⟩) fun c hc => hc⟩
theorem chain_core {r r' : R2} {o o' : PyData → PyData → Option Bool} {f g k : Env → R PyData} (hd : OpB X.K r o) (hd' : OpB X.K r' o') {σ : L2.St} {H : Hp} {Q : VK} (h : tPT X.K W ks (gChain o o' f g k) σ H fun b H' => Q (.bl b) H') :
    tChain r r' (tP X.K W ks .B f) (tP X.K W ks .B g) (tP X.K W ks .B k) σ H Q := by
  obtain ⟨ρ, fp, eo, h⟩ := h
  refine ⟨ρ, fp, eo, (Holds.bind h).mono (fun x hx v H1 m s1 a1 _ => ⟨ρ, fp, eo.same s1, (Holds.bind hx).mono (fun y hy u H2 n s2 a2 _ => ?_) fun c hc H' s' => hc H' (s1.trans s')⟩) fun c hc => hc⟩
  obtain ⟨d, e, hy⟩ := Holds.ofO (Holds.bind hy)
  refine hd.run H2 v u x y m n d _ (a1.same s2) a2 e ⟨d, rfl, ?_⟩
  cases d with
  | false => exact hy H2 (s1.trans s2)
  | true =>
    refine ⟨ρ, fp, eo.same (s1.trans s2), (Holds.bind hy).mono (fun z hz w' H3 l s3 a3 _ => ?_) fun c hc H' s' => hc H' ((s1.trans s2).trans s')⟩
    obtain ⟨d', e', hz⟩ := Holds.ofO hz
    exact hd'.run H3 u w' y z n l d' _ (a2.same s3) a3 e' (hz H3 ((s1.trans s2).trans s3))
theorem tPT.wide {f : Env → R Bool} {σ : L2.St} {H : Hp} {Q Q' : Bool → Hp → Prop} (h : tPT X.K W ks f σ H Q) (w : ∀ b H', Q b H' → Q' b H') : tPT X.K W ks f σ H Q' := by
  obtain ⟨ρ, fp, eo, h⟩ := h
  exact ⟨ρ, fp, eo, h.mono (fun b hb H' s => w b H' (hb H' s)) fun c hc => hc⟩
theorem t_chain {op op' : CmpOp} {r r' : R2} {o o' : PyData → PyData → Option Bool} {f g k : Env → R PyData} (ho : OpR X (compareOp op) r) (hd : OpB X.K r o) (ho' : OpR X (compareOp op') r') (hd' : OpB X.K r' o') (ha : DP X W ks .B a f) (hb : DP X W ks .B b g) (hc : DP X W ks .B c k)
    (hm : lastMarks [op, op'] [b, c] = false := by with_unfolding_all rfl) : DPT X W ks (.Compare a [op, op'] [b, c] pos) (gChain o o' f g k) :=
  PT.imp (pt_chain ho ho' ha hb hc hm) fun σ H Q h => chain_core hd hd' (h.wide fun b H' q => ⟨b, rfl, q⟩)
theorem fOfB_in {f : Env → R Bool} {σ : L2.St} {H : Hp} {Q : VK} (h : tP X.K W ks .F (fOfB f) σ H Q) : tPT X.K W ks f σ H fun b H' => Q (.bl b) H' := by
  obtain ⟨ρ, fp, eo, h⟩ := h
  exact ⟨ρ, fp, eo, (Holds.bind h).mono (fun d hd H' s => hd _ H' [] s (.bl d) (RCp.nil _)) fun c hc => hc⟩
theorem p_chain {op op' : CmpOp} {r r' : R2} {o o' : PyData → PyData → Option Bool} {f g k : Env → R PyData} (ho : OpR X (compareOp op) r) (hd : OpB X.K r o) (ho' : OpR X (compareOp op') r') (hd' : OpB X.K r' o') (ha : DP X W ks .B a f) (hb : DP X W ks .B b g) (hc : DP X W ks .B c k)
    (hm : lastMarks [op, op'] [b, c] = false := by with_unfolding_all rfl) : DP X W ks .F (.Compare a [op, op'] [b, c] pos) (fOfB (gChain o o' f g k)) :=
  PE.imp (pe_chain ho ho' ha hb hc hm) fun σ H Q h => chain_core hd hd' (fOfB_in h)

/-! ### truth, and, or, not -/
structure OpT (K : PySem.W.Frag) (t : PyData → Option Bool) : Prop where
  run : ∀ (H : Hp) (x : V) (a : PyData) (m : List Addr) (d : Bool), Ab K H false x a m → t a = some d → TruV K x H d
theorem t_truth {t : PyData → Option Bool} {f : Env → R PyData} (ht : OpT X.K t) (ha : DP X W ks .B a f) (he : ∀ whole, isTrue a X.env whole = (do let v ← whole; standAt a.pos; holding [v] (truthy v)) := by intro _; rfl) : DPT X W ks a (gTru t f) :=
  PT.imp (pt_truth ha he) fun σ H Q ⟨ρ, fp, eo, h⟩ => ⟨ρ, fp, eo, (Holds.bind h).mono (fun x hx v H1 m s1 a1 _ => by
    obtain ⟨d, e, hy⟩ := Holds.ofO hx
    exact ⟨d, ht.run H1 v x m d a1 e, hy H1 s1⟩) fun c hc => hc⟩
abbrev DPW (X : Cx) (W : WX) (ks : List Bool) (e : Expr) (f : Env → R Bool) : Prop := PW X e (tPT X.K W ks f)
variable {rest : List Expr}
theorem w_and {f g : Env → R Bool} (ha : DPT X W ks a f) (hb : DPW X W ks (.BoolOp .And (b :: rest) pos) g) : DPW X W ks (.BoolOp .And (a :: b :: rest) pos) (gAnd f g) :=
  PW.imp (pw_and ha hb) fun σ H Q ⟨ρ, fp, eo, h⟩ => ⟨ρ, fp, eo, (Holds.bind h).mono (fun x hx H1 s1 => by
    cases x with
    | false => exact hx H1 s1
    | true => exact ⟨ρ, fp, eo.same s1, Holds.mono hx (fun y hy H2 s2 => hy H2 (s1.trans s2)) fun c hc H' s' => hc H' (s1.trans s')⟩) fun c hc => hc⟩
theorem w_or {f g : Env → R Bool} (ha : DPT X W ks a f) (hb : DPW X W ks (.BoolOp .Or (b :: rest) pos) g) : DPW X W ks (.BoolOp .Or (a :: b :: rest) pos) (gOr f g) :=
  PW.imp (pw_or ha hb) fun σ H Q ⟨ρ, fp, eo, h⟩ => ⟨ρ, fp, eo, (Holds.bind h).mono (fun x hx H1 s1 => by
    cases x with
    | true => exact hx H1 s1
    | false => exact ⟨ρ, fp, eo.same s1, Holds.mono hx (fun y hy H2 s2 => hy H2 (s1.trans s2)) fun c hc H' s' => hc H' (s1.trans s')⟩) fun c hc => hc⟩
theorem w_and1 {f : Env → R Bool} (ha : DPT X W ks a f) : DPW X W ks (.BoolOp .And [a] pos) f := pw_and1 ha
theorem w_or1 {f : Env → R Bool} (ha : DPT X W ks a f) : DPW X W ks (.BoolOp .Or [a] pos) f := pw_or1 ha
theorem t_w {f : Env → R Bool} (h : DPW X W ks a f) : DPT X W ks a f := PW.pt h
theorem t_not {f : Env → R Bool} (ha : DPT X W ks a f) : DPT X W ks (.UnaryOp .Not a pos) (gNot f) :=
  PT.imp (pt_not ha) fun σ H Q ⟨ρ, fp, eo, h⟩ => ⟨ρ, fp, eo, (Holds.bind h).mono (fun x hx H1 s1 => hx H1 s1) fun c hc => hc⟩
theorem asB_bind {d : PyData} {β : Type} {g : Bool → R β} {P : β → Prop} {U : Ex → Prop} (h : Holds (asB d >>= g) P U) : ∃ c, d = .bool c ∧ Holds (g c) P U := by
  cases d <;> first | exact ⟨_, rfl, h⟩ | exact h.elim
/-- .. as values, of bools -/
theorem p_one {op} {f : Env → R PyData} (h : DP X W ks κ a f) : DP X W ks κ (.BoolOp op [a] pos) f := pe_one h
theorem bind_assoc' {α β γ : Type} (x : R α) (f : α → R β) (g : β → R γ) : (x >>= f >>= g) = (x >>= fun a => f a >>= g) := by cases x <;> rfl
theorem p_and {f g : Env → R PyData} (ha : DP X W ks .B a f) (hb : DP X W ks κ (.BoolOp .And (b :: rest) pos) g) : DP X W ks κ (.BoolOp .And (a :: b :: rest) pos) (fAnd f g) :=
  PE.imp (pe_and ha hb) fun σ H Q ⟨ρ, fp, eo, h⟩ => by
    unfold fAnd at h
    rw [bind_assoc'] at h
    refine ⟨ρ, fp, eo, (Holds.bind h).mono (fun x hx v H1 m s1 a1 _ => ?_) fun c hc => hc⟩
    obtain ⟨c, rfl, hx⟩ := asB_bind hx
    obtain ⟨rfl, rfl⟩ := a1.eq_bl
    refine ⟨c, rfl, ?_⟩
    cases c with
    | false => exact hx _ H1 [] s1 (.bl false) (RCp.nil _)
    | true =>
      refine ⟨ρ, fp, eo.same s1, Holds.mono hx (fun y hy u H2 n s2 a2 r => hy u H2 n (s1.trans s2) a2 (RCp.pre eo s1 r)) fun c hc H' s' => hc H' (s1.trans s')⟩
theorem p_or {f g : Env → R PyData} (ha : DP X W ks .B a f) (hb : DP X W ks κ (.BoolOp .Or (b :: rest) pos) g) : DP X W ks κ (.BoolOp .Or (a :: b :: rest) pos) (fOr f g) :=
  PE.imp (pe_or ha hb) fun σ H Q ⟨ρ, fp, eo, h⟩ => by
    unfold fOr at h
    rw [bind_assoc'] at h
    refine ⟨ρ, fp, eo, (Holds.bind h).mono (fun x hx v H1 m s1 a1 _ => ?_) fun c hc => hc⟩
    obtain ⟨c, rfl, hx⟩ := asB_bind hx
    obtain ⟨rfl, rfl⟩ := a1.eq_bl
    refine ⟨c, rfl, ?_⟩
    cases c with
    | true => exact hx _ H1 [] s1 (.bl true) (RCp.nil _)
    | false =>
      refine ⟨ρ, fp, eo.same s1, Holds.mono hx (fun y hy u H2 n s2 a2 r => hy u H2 n (s1.trans s2) a2 (RCp.pre eo s1 r)) fun c hc H' s' => hc H' (s1.trans s')⟩
theorem p_not {f : Env → R PyData} (ha : DP X W ks .B a f) : DP X W ks .F (.UnaryOp .Not a pos) (fNot f) :=
  PE.imp (pe_not ha) fun σ H Q ⟨ρ, fp, eo, h⟩ => by
    unfold fNot at h
    rw [bind_assoc'] at h
    refine ⟨ρ, fp, eo, (Holds.bind h).mono (fun x hx v H1 m s1 a1 _ => ?_) fun c hc => hc⟩
    obtain ⟨c, rfl, hx⟩ := asB_bind hx
    obtain ⟨rfl, rfl⟩ := a1.eq_bl
    exact ⟨c, rfl, hx _ H1 [] s1 (.bl _) (RCp.nil _)⟩
theorem p_if {t : Env → R Bool} {f g : Env → R PyData} (hc : DPT X W ks c t) (ha : DP X W ks κ a f) (hb : DP X W ks κ b g) : DP X W ks κ (.IfExp c a b pos) (fIf t f g) :=
  PE.imp (pe_ifExp hc ha hb) fun σ H Q ⟨ρ, fp, eo, h⟩ => ⟨ρ, fp, eo, (Holds.bind h).mono (fun x hx H1 s1 => by
    cases x with
    | true => exact ⟨ρ, fp, eo.same s1, Holds.mono hx (fun y hy u H2 n s2 a2 r => hy u H2 n (s1.trans s2) a2 (RCp.pre eo s1 r)) fun c hc H' s' => hc H' (s1.trans s')⟩
    | false => exact ⟨ρ, fp, eo.same s1, Holds.mono hx (fun y hy u H2 n s2 a2 r => hy u H2 n (s1.trans s2) a2 (RCp.pre eo s1 r)) fun c hc H' s' => hc H' (s1.trans s')⟩) fun c hc => hc⟩

/-! ### argument lists, displays -/
theorem a_nil : DPA X W ks κ [] fNil := PA.imp pa_nil fun σ H Q ⟨ρ, fp, eo, h⟩ => h [] H [] (Same.refl H) .nil (RCp.nil _)
theorem RCp.app {H H1 : Hp} {ρ : Env} {fp : Nat → List Addr} {m n : List Addr} {v : V} {d : PyData} {σ : L2.St} (eo : EOk X.K H ks σ ρ fp) (s : Same H H1) {o : Bool} (a : Ab X.K H1 o v d m) (r : RCp κ H ks ρ fp m) (q : RCp κ H1 ks ρ fp n) : RCp κ H ks ρ fp (m ++ n) := by
  cases κ with
  | B => trivial
  | V => exact fun x z => (List.mem_append.mp z).elim (r x) fun z => ⟨(q x z).1, (q x z).2.elim .inl fun y => .inr (Same.back s y)⟩
  | F =>
    refine ⟨List.nodup_append.mpr ⟨r.1, q.1, fun x hx y hy e => ?_⟩, fun x z => (List.mem_append.mp z).elim (r.2 x) fun z => Same.back s (q.2 x z)⟩
    rw [e] at hx
    exact a.tr hx (q.2 y hy)
theorem a_cons {es : List Expr} {f : Env → R PyData} {g : Env → R (List PyData)} (ha : DP X W ks κ e f) (hr : DPA X W ks κ es g) (hs : starEach (e :: es) X.env = (false, eval e X.env) :: starEach es X.env := by rfl) : DPA X W ks κ (e :: es) (fCons f g) :=
  PA.imp (pa_cons ha hr hs) fun σ H Q ⟨ρ, fp, eo, h⟩ => ⟨ρ, fp, eo, (Holds.bind h).mono (fun x hx v H1 m s1 a1 r1 => ⟨ρ, fp, eo.same s1, (Holds.bind hx).mono (fun y hy u H2 n s2 a2 r2 =>
    hy (v :: u) H2 (m ++ n) (s1.trans s2) (.cons (a1.same s2) a2) (RCp.app eo s1 a1 r1 r2)) fun c hc H' s' => hc H' (s1.trans s')⟩) fun c hc => hc⟩
theorem p_tup {es : List Expr} {x1} {f : Env → R (List PyData)} (h : DPA X W ks κ es f) : DP X W ks κ (.Tuple es x1 pos) (fTup f) :=
  PE.imp (pe_tup h) fun σ H Q ⟨ρ, fp, eo, h⟩ => ⟨ρ, fp, eo, (Holds.bind h).mono (fun x hx v H1 m s1 a1 r1 => by
    by_cases hz : x.length ≤ sizeLine
    · rw [if_pos hz] at hx
      refine ⟨by rw [a1.len]; exact hz, fun p hp => hx (.ref p) _ m (s1.trans (same_new hp)) (.tup (.inl (.inl upd_same)) (a1.same (same_new hp))) r1⟩
    · rw [if_neg hz] at hx
      exact hx.elim) fun c hc => hc⟩
theorem RCp.new {H H1 : Hp} {ρ : Env} {fp : Nat → List Addr} {m : List Addr} {p : Addr} {vs : List V} {ds : List PyData} {σ : L2.St} (eo : EOk X.K H ks σ ρ fp) (s : Same H H1) {o : Bool} (a : AbL X.K H1 o vs ds m) (hp : H1 p = none) (r : RCp κ H ks ρ fp m) : RCp κ H ks ρ fp (p :: m) := by
  have hp0 := Same.back s hp
  cases κ with
  | B => trivial
  | V =>
    intro x z
    rcases List.mem_cons.mp z with e | z
    · rw [e]; exact ⟨fun y => eo.notAl hp0 y.al, .inr hp0⟩
    · exact r x z
  | F =>
    refine ⟨List.nodup_cons.mpr ⟨fun z => a.tr z hp, r.1⟩, fun x z => ?_⟩
    rcases List.mem_cons.mp z with e | z
    · rw [e]; exact hp0
    · exact r.2 x z
theorem p_lst {es : List Expr} {f : Env → R (List PyData)} (h : DPA X W ks κ es f) : DP X W ks κ (.List es pos) (fLst f) :=
  PE.imp (pe_lst h) fun σ H Q ⟨ρ, fp, eo, h⟩ => ⟨ρ, fp, eo, (Holds.bind h).mono (fun x hx v H1 m s1 a1 r1 => by
    by_cases hz : x.length ≤ sizeLine
    · rw [if_pos hz] at hx
      refine ⟨by rw [a1.len]; exact hz, fun p hp => hx (.ref p) _ (p :: m) (s1.trans (same_new hp)) (.lst upd_same (a1.same (same_new hp))) (RCp.new eo s1 a1 hp r1)⟩
    · rw [if_neg hz] at hx
      exact hx.elim) fun c hc => hc⟩
end
end PV

set_option Elab.async false
set_option linter.all false
set_option maxRecDepth 100000
set_option maxHeartbeats 1000000
set_option autoImplicit false
/-! PV, part c: subscripts, slices, calls. -/
namespace PV
open PySem PySem.Spec PyProof.Rows L2
theorem RCp.sub {K : PySem.W.Frag} {κ : Kd} {H : Hp} {ks : List Bool} {ρ : Env} {fp : Nat → List Addr} {m n : List Addr} (r : RCp κ H ks ρ fp m) (s : n.Sublist m) : RCp κ H ks ρ fp n := by
  cases κ with
  | B => trivial
  | V => exact fun a q => r a (s.subset q)
  | F => exact ⟨r.1.sublist s, fun a q => r.2 a (s.subset q)⟩
/-! ### subscripts -/
def ixD : PyData → PyData → Option PyData
  | .list ds, .int i => atI ds i
  | .tuple ds, .int i => atI ds i
  | .str x, .int i => if x.length ≤ sizeLine then (atI x.cps.toList i).map fun c => .str ⟨#[c]⟩ else none
  | _, _ => none
theorem ixN_lt {n : Nat} {i : Int} {j : Nat} (h : ixN n i = some j) : j < n := (ixN_seq h).2.1
theorem AbL.atI {K : PySem.W.Frag} {H : Hp} {o : Bool} {vs : List V} {ds : List PyData} {m : List Addr} (h : AbL K H o vs ds m) {i : Int} {d : PyData} (e : L2.atI ds i = some d) : ∃ v n, L2.atI vs i = some v ∧ Ab K H o v d n ∧ n.Sublist m := by
  unfold L2.atI at e
  cases q : ixN ds.length i with
  | none => rw [q] at e; cases e
  | some j =>
    rw [q] at e
    obtain ⟨v, n, e1, a1, s1⟩ := h.get (i := j) e
    exact ⟨v, n, by unfold L2.atI; rw [h.len, q]; exact e1, a1, s1⟩
section
variable {X : Cx} {W : WX} {ks : List Bool} {a b c e : Expr} {pos : Pos} {κ : Kd}
theorem ixD_run {K : PySem.W.Frag} {H : Hp} {o o2 : Bool} {x y : V} {p q : PyData} {m n : List Addr} {d : PyData} {Q : VK} (ax : Ab K H o x p m) (ay : Ab K H o2 y q n) (e : ixD p q = some d) (h : ∀ v l, Ab K H o v d l → l.Sublist m → Q v H) : rIx K x y H Q := by
  cases p <;> cases q <;> simp only [ixD, reduceCtorEq] at e
  · obtain ⟨rfl, rfl⟩ := ay.eq_int
    obtain ⟨rfl, rfl⟩ := ax.eq_str
    split at e
    · rename_i hz
      obtain ⟨c, e1, rfl⟩ := Option.map_eq_some_iff.mp e
      exact .inr (.inr ⟨_, _, c, rfl, rfl, hz, e1, h _ [] (.str _) (List.Sublist.refl _)⟩)
    · cases e
  · obtain ⟨rfl, rfl⟩ := ay.eq_int
    obtain ⟨a, xs, n', rfl, hl, al, hs⟩ := ax.list
    obtain ⟨v, l, e1, a1, s1⟩ := al.atI e
    exact .inl ⟨a, xs, _, v, rfl, rfl, hl, e1, h v l a1 (s1.trans hs)⟩
  · obtain ⟨rfl, rfl⟩ := ay.eq_int
    obtain ⟨a, xs, rfl, hl, al⟩ := ax.tuple
    obtain ⟨v, l, e1, a1, s1⟩ := al.atI e
    exact .inr (.inl ⟨a, xs, _, v, rfl, rfl, hl, e1, h v l a1 s1⟩)
theorem p_ix {f g : Env → R PyData} (ha : DP X W ks κ a f) (hb : DP X W ks .B b g) (hs : PlainIx b := by exact fun _ _ => rfl) : DP X W ks κ (.Subscript a b pos) (fOp ixD f g) :=
  PE.imp (pe_ix ix_seq ha hb hs) fun σ H Q ⟨ρ, fp, eo, h⟩ => ⟨ρ, fp, eo, (Holds.bind h).mono (fun x hx v H1 m s1 a1 r1 => ⟨ρ, fp, eo.same s1, (Holds.bind hx).mono (fun y hy u H2 n s2 a2 _ => by
    obtain ⟨d, e, hy⟩ := Holds.ofO hy
    exact ixD_run (a1.same s2) a2 e fun w l al sl => hy w H2 l (s1.trans s2) al (RCp.sub (K := X.K) r1 sl)) fun c hc H' s' => hc H' (s1.trans s')⟩) fun c hc => hc⟩

/-! ### slices -/
def cut {α : Type} (xs : List α) (lo hi : Option Int) : List α := (xs.drop (HT.sIx xs.length 0 lo)).take (HT.sIx xs.length xs.length hi - HT.sIx xs.length 0 lo)
theorem cut_v (xs : List V) (lo hi : Option Int) : cut xs lo hi = cutV xs lo hi := rfl
def slD : PyData → Option Int → Option Int → Option PyData
  | .list ds, lo, hi => some (.list (cut ds lo hi))
  | .tuple ds, lo, hi => some (.tuple (cut ds lo hi))
  | .str x, lo, hi => if x.length ≤ sizeLine then some (.str ⟨(cut x.cps.toList lo hi).toArray⟩) else none
  | _, _, _ => none
theorem AbL.drop {K : PySem.W.Frag} {H : Hp} {o : Bool} : ∀ {vs : List V} {ds : List PyData} {m : List Addr} (k : Nat), AbL K H o vs ds m → ∃ n, AbL K H o (vs.drop k) (ds.drop k) n ∧ n.Sublist m
  | _, _, m, 0, h => ⟨m, h, List.Sublist.refl _⟩
  | _, _, _, k + 1, h => by
    cases h with
    | nil => exact ⟨[], .nil, List.Sublist.refl _⟩
    | cons h1 h2 =>
      obtain ⟨n, a, s⟩ := AbL.drop k h2
      exact ⟨n, a, s.trans (List.sublist_append_right _ _)⟩
theorem AbL.take {K : PySem.W.Frag} {H : Hp} {o : Bool} : ∀ {vs : List V} {ds : List PyData} {m : List Addr} (k : Nat), AbL K H o vs ds m → ∃ n, AbL K H o (vs.take k) (ds.take k) n ∧ n.Sublist m
  | _, _, _, 0, _ => ⟨[], .nil, List.nil_sublist _⟩
  | _, _, _, k + 1, h => by
    cases h with
    | nil => exact ⟨[], .nil, List.Sublist.refl _⟩
    | cons h1 h2 =>
      obtain ⟨n, a, s⟩ := AbL.take k h2
      exact ⟨_, .cons h1 a, s.append_left _⟩
theorem AbL.cut {K : PySem.W.Frag} {H : Hp} {o : Bool} {vs : List V} {ds : List PyData} {m : List Addr} (h : AbL K H o vs ds m) (lo hi : Option Int) : ∃ n, AbL K H o (cutV vs lo hi) (PV.cut ds lo hi) n ∧ n.Sublist m := by
  unfold cutV PV.cut
  rw [h.len]
  obtain ⟨n, a, s⟩ := h.drop (HT.sIx ds.length 0 lo)
  obtain ⟨n', a', s'⟩ := a.take (HT.sIx ds.length ds.length hi - HT.sIx ds.length 0 lo)
  exact ⟨n', a', s'.trans s⟩
def tPO (K : PySem.W.Frag) (W : WX) (ks : List Bool) (f : Env → R (Option Int)) : TO := fun σ H Q => ∃ ρ fp, EOk K H ks σ ρ fp ∧ Holds (f ρ) (fun o => ∀ H', Same H H' → Q o H') fun c => ∀ H', Same H H' → WEx K W c σ H'
abbrev DPO (X : Cx) (W : WX) (ks : List Bool) (e : Option Expr) (f : Env → R (Option Int)) : Prop := PO X e (tPO X.K W ks f)
theorem PO.imp {e : Option Expr} {t t' : TO} (h : PO X e t) (w : ∀ σ H Q, t' σ H Q → t σ H Q) : PO X e t' := ⟨fun pins s σ H Q I q => h.run pins s σ H Q I (w σ H Q q)⟩
def asI : PyData → R Int
  | .int i => .ok i
  | _ => .no
def fNoPart : Env → R (Option Int) := fun _ => .ok none
def fPart (f : Env → R PyData) : Env → R (Option Int) := fun ρ => f ρ >>= asI >>= fun i => .ok (some i)
theorem asI_bind {d : PyData} {β : Type} {g : Int → R β} {P : β → Prop} {U : Ex → Prop} (h : Holds (asI d >>= g) P U) : ∃ c, d = .int c ∧ Holds (g c) P U := by
  cases d <;> first | exact ⟨_, rfl, h⟩ | exact h.elim
theorem o_none : DPO X W ks none fNoPart := PO.imp po_none fun σ H Q ⟨ρ, fp, eo, h⟩ => h H (Same.refl H)
theorem o_some {f : Env → R PyData} (ha : DP X W ks .B e f) : DPO X W ks (some e) (fPart f) := PO.imp (po_some ha) fun σ H Q ⟨ρ, fp, eo, h⟩ => by
  unfold fPart at h
  rw [bind_assoc'] at h
  refine ⟨ρ, fp, eo, (Holds.bind h).mono (fun x hx v H1 m s1 a1 _ => ?_) fun c hc => hc⟩
  obtain ⟨i, rfl, hx⟩ := asI_bind hx
  obtain ⟨rfl, rfl⟩ := a1.eq_int
  exact ⟨i, rfl, hx H1 s1⟩
def fSl (f : Env → R PyData) (g h : Env → R (Option Int)) : Env → R PyData := fun ρ => f ρ >>= fun x => g ρ >>= fun lo => h ρ >>= fun hi => ofO (slD x lo hi)
def rSl3 (K : PySem.W.Frag) : V → Option Int → Option Int → Hp → VK → Prop := fun x lo hi H Q => rSlL K x lo hi H Q ∨ rSlA K x lo hi H Q ∨ (∃ z, x = .str z ∧ z.length ≤ sizeLine ∧ Q (.str (cutS z lo hi)) H)
theorem sl_3 : SlR X (rSl3 X.K) := sl_list.or (sl_tupA.or sl_str)
theorem slD_run {K : PySem.W.Frag} {H : Hp} {o : Bool} {x : V} {p : PyData} {m : List Addr} {d : PyData} {lo hi : Option Int} {Q : VK} (ax : Ab K H o x p m) (e : slD p lo hi = some d)
    (h : ∀ v H' l, Same H H' → Ab K H' o v d l → (∃ n, n.Sublist m ∧ (l = n ∨ ∃ q, H q = none ∧ l = q :: n ∧ ∀ a ∈ n, H a ≠ none)) → Q v H') : rSl3 K x lo hi H Q := by
  cases p <;> simp only [slD, reduceCtorEq] at e
  · obtain ⟨rfl, rfl⟩ := ax.eq_str
    split at e
    · rename_i hz
      cases e
      exact .inr (.inr ⟨_, rfl, hz, h _ H [] (Same.refl H) (.str _) ⟨[], List.Sublist.refl _, .inl rfl⟩⟩)
    · cases e
  · cases e
    obtain ⟨a, xs, n', rfl, hl, al, hs⟩ := ax.list
    obtain ⟨n, a1, s1⟩ := al.cut lo hi
    exact .inl ⟨a, xs, rfl, hl, fun q hq => h _ _ (q :: n) (same_new hq) (.lst upd_same (a1.same (same_new hq))) ⟨n, s1.trans hs, .inr ⟨q, hq, rfl, fun b z => a1.tr z⟩⟩⟩
  · cases e
    obtain ⟨a, xs, rfl, hl, al⟩ := ax.tuple
    obtain ⟨n, a1, s1⟩ := al.cut lo hi
    refine .inr (.inl ⟨a, xs, rfl, hl, fun hw => ?_, fun _ q hq => h _ _ n (same_new hq) (.tup (.inl (.inl upd_same)) (a1.same (same_new hq))) ⟨n, s1, .inl rfl⟩⟩)
    have e1 : cutV xs lo hi = xs := by
      unfold cutV
      rw [hw.1, hw.2]
      simp
    rw [e1] at a1
    exact h _ H n (Same.refl H) (.tup hl a1) ⟨n, s1, .inl rfl⟩
theorem p_sl {f : Env → R PyData} {g k : Env → R (Option Int)} {lo hi : Option Expr} {p2 : Pos} (ha : DP X W ks κ a f) (hl : DPO X W ks lo g) (hh : DPO X W ks hi k) : DP X W ks κ (.Subscript a (.Slice lo hi none p2) pos) (fSl f g k) :=
  PE.imp (pe_slice sl_3 ha hl hh) fun σ H Q ⟨ρ, fp, eo, h⟩ => ⟨ρ, fp, eo, (Holds.bind h).mono (fun x hx v H1 m s1 a1 r1 => ⟨ρ, fp, eo.same s1, (Holds.bind hx).mono (fun y hy H2 s2 => ⟨ρ, fp, eo.same (s1.trans s2), (Holds.bind hy).mono (fun z hz H3 s3 => by
    obtain ⟨d, e, hz⟩ := Holds.ofO hz
    refine slD_run (a1.same (s2.trans s3)) e fun w H4 l s4 al ⟨n, sn, q⟩ => hz w H4 l (s1.trans (s2.trans (s3.trans s4))) al ?_
    have rn := RCp.sub (K := X.K) r1 sn
    rcases q with rfl | ⟨q, hq, rfl, tr⟩
    · exact rn
    · have hq0 : H q = none := Same.back (s1.trans (s2.trans s3)) hq
      cases κ with
      | B => trivial
      | V =>
        intro x z
        rcases List.mem_cons.mp z with e | z
        · rw [e]; exact ⟨fun y => eo.notAl hq0 y.al, .inr hq0⟩
        · exact rn x z
      | F =>
        refine ⟨List.nodup_cons.mpr ⟨fun z => tr q z hq, rn.1⟩, fun x z => ?_⟩
        rcases List.mem_cons.mp z with e | z
        · rw [e]; exact hq0
        · exact rn.2 x z) fun c hc H' s' => hc H' ((s1.trans s2).trans s')⟩) fun c hc H' s' => hc H' (s1.trans s')⟩) fun c hc => hc⟩
/-- a slice whose items are without lists: a new list -/
def fSlF (f : Env → R PyData) (g h : Env → R (Option Int)) : Env → R PyData := fun ρ => fSl f g h ρ >>= fun d => match d with
  | .list ds => if flatL ds then .ok (.list ds) else .no
  | _ => .no
theorem p_slF {f : Env → R PyData} {g k : Env → R (Option Int)} {lo hi : Option Expr} {p2 : Pos} (ha : DP X W ks .B a f) (hl : DPO X W ks lo g) (hh : DPO X W ks hi k) : DP X W ks .F (.Subscript a (.Slice lo hi none p2) pos) (fSlF f g k) :=
  PE.imp (pe_slice sl_3 ha hl hh) fun σ H Q ⟨ρ, fp, eo, h⟩ => by
    unfold fSlF fSl at h
    simp only [bind_assoc'] at h
    refine ⟨ρ, fp, eo, (Holds.bind h).mono (fun x hx v H1 m s1 a1 r1 => ⟨ρ, fp, eo.same s1, (Holds.bind hx).mono (fun y hy H2 s2 => ⟨ρ, fp, eo.same (s1.trans s2), (Holds.bind hy).mono (fun z hz H3 s3 => ?_) fun c hc H' s' => hc H' ((s1.trans s2).trans s')⟩) fun c hc H' s' => hc H' (s1.trans s')⟩) fun c hc => hc⟩
    obtain ⟨d, e, hz2⟩ := Holds.ofO (Holds.bind hz)
    clear hz hx hy h
    cases d with
    | list ds =>
      have a3 := a1.same (s2.trans s3)
      by_cases hf : flatL ds = true
      · cases x with
        | list es =>
          have hz' : Holds (if flatL ds = true then R.ok (PyData.list ds) else R.no) _ _ := hz2
          rw [if_pos hf] at hz'
          simp only [slD, Option.some.injEq, PyData.list.injEq] at e
          subst e
          obtain ⟨b, xs, n', rfl, hl, al, hs⟩ := a3.list
          obtain ⟨n, b1, s1'⟩ := al.cut y z
          have en := b1.flat hf
          subst en
          exact .inl ⟨b, xs, rfl, hl, fun q hq => hz' _ _ [q] (s1.trans (s2.trans (s3.trans (same_new hq)))) (.lst upd_same ((b1.up hf true).same (same_new hq))) ⟨by simp, fun w q2 => by rw [List.mem_singleton.mp q2]; exact Same.back (s1.trans (s2.trans s3)) hq⟩⟩
        | _ => simp [slD] at e
      · have hz' : Holds (if flatL ds = true then R.ok (PyData.list ds) else R.no) _ _ := hz2
        rw [if_neg hf] at hz'
        exact hz'.elim
    | _ => exact hz2.elim

/-! ### built-in functions, types, methods -/
theorem p_bi {x : Str} {p : Pos} {es : List Expr} {id : String} {r : List V → Hp → VK → Prop} {o : List PyData → Option PyData} {f : Env → R (List PyData)} (hc : CallR X (.builtin id) r) (ho : OpN X.K r o) (hm : X.mg x = none) (hv : bootBuiltins x = some (.builtin id)) (ha : DPA X W ks .B (e :: es) f) (hg : Gl X x := by rfl)
    (hn : x ≠ "__name__" := by decide) (hdb : (x == ("__debug__" : Str)) = false := by decide) (he : starEach (e :: es) X.env = (false, eval e X.env) :: starEach es X.env := by rfl) (hpl : (backTo pos (starEach es X.env)).any (·.1) = false := by rfl) : DP X W ks .F (.Call (.Name x p) (e :: es) [] pos) (fN o f) :=
  PE.imp (pe_callB hc hg hm hv ha hn hdb he hpl) fun σ H Q ⟨ρ, fp, eo, h⟩ => ⟨ρ, fp, eo, (Holds.bind h).mono (fun x hx v H1 m s1 a1 _ => by
    obtain ⟨d, e, hx⟩ := Holds.ofO hx
    exact ho.run H1 v x m d Q a1 e fun w H3 m' s3 a3 nw => hx w H3 m' (s1.trans s3) a3 ⟨nw.1, fun z q => Same.back s1 (nw.2 z q)⟩) fun c hc => hc⟩
theorem p_ty {x : Str} {p : Pos} {es : List Expr} {id : String} {r : List V → Hp → VK → Prop} {o : List PyData → Option PyData} {f : Env → R (List PyData)} (hc : CallR X (.type id) r) (ho : OpN X.K r o) (hm : X.mg x = none) (hv : bootBuiltins x = some (.type id)) (ha : DPA X W ks .B (e :: es) f) (hg : Gl X x := by rfl)
    (hn : x ≠ "__name__" := by decide) (hdb : (x == ("__debug__" : Str)) = false := by decide) (he : starEach (e :: es) X.env = (false, eval e X.env) :: starEach es X.env := by rfl) (hpl : (backTo pos (starEach es X.env)).any (·.1) = false := by rfl) : DP X W ks .F (.Call (.Name x p) (e :: es) [] pos) (fN o f) :=
  PE.imp (pe_callTy hc hg hm hv ha hn hdb he hpl) fun σ H Q ⟨ρ, fp, eo, h⟩ => ⟨ρ, fp, eo, (Holds.bind h).mono (fun x hx v H1 m s1 a1 _ => by
    obtain ⟨d, e, hx⟩ := Holds.ofO hx
    exact ho.run H1 v x m d Q a1 e fun w H3 m' s3 a3 nw => hx w H3 m' (s1.trans s3) a3 ⟨nw.1, fun z q => Same.back s1 (nw.2 z q)⟩) fun c hc => hc⟩
structure OpM (K : PySem.W.Frag) (T : String) (r : V → List V → Hp → VK → Prop) (isT : PyData → Bool) (o : PyData → List PyData → Option PyData) : Prop where
  ty : ∀ (H : Hp) (x : V) (a : PyData) (m : List Addr), Ab K H false x a m → isT a = true → tyV K T x H
  run : ∀ (H : Hp) (x : V) (xs : List V) (a : PyData) (as : List PyData) (m n : List Addr) (d : PyData) (Q : VK), Ab K H false x a m → AbL K H false xs as n → isT a = true → o a as = some d → Ends1 K H d Q → r x xs H Q
def fMe (isT : PyData → Bool) (o : PyData → List PyData → Option PyData) (f : Env → R PyData) (g : Env → R (List PyData)) : Env → R PyData := fun ρ => f ρ >>= fun x => if isT x then g ρ >>= fun xs => ofO (o x xs) else .no
theorem p_me {ob : Expr} {es : List Expr} {name : Str} {apos cpos : Pos} {T id : String} {r : V → List V → Hp → VK → Prop} {isT : PyData → Bool} {o : PyData → List PyData → Option PyData} {f : Env → R PyData} {g : Env → R (List PyData)}
    (pa : PlainAttrs T) (slot : Slot T name id) (hty : typeOf (.builtin id) = pure (.type "method_descriptor")) (hm : MtR X id r) (hd : OpM X.K T r isT o) (ho : DP X W ks .B ob f) (ha : DPA X W ks .B (e :: es) g)
    (hbase : attributeBase ob name X.env (eval ob X.env) = eval ob X.env := by rfl)
    (hfew : ((backTo cpos (starEach (e :: es) X.env)).all (fun x => !x.1) && (backToKw cpos (keywordEach [] X.env)).all (fun x => x.1.isSome)
      && decide ((e :: es).length + ([] : List Keyword).length + (if ([] : List Keyword).isEmpty then 0 else 1) < 30)) = true := by rfl)
    (hline : (apos.endLine == cpos.line) = true := by rfl) (hs : starEach (e :: es) X.env = (false, eval e X.env) :: starEach es X.env := by rfl) (hplain : (backTo cpos (starEach es X.env)).any (·.1) = false := by rfl) :
    DP X W ks .F (.Call (.Attribute ob name apos) (e :: es) [] cpos) (fMe isT o f g) :=
  PE.imp (pe_bm pa slot hty hm ho ha hbase hfew hline hs hplain) fun σ H Q ⟨ρ, fp, eo, h⟩ => ⟨ρ, fp, eo, (Holds.bind h).mono (fun x hx v H1 m s1 a1 _ => by
    by_cases ht : isT x = true
    · rw [if_pos ht] at hx
      refine ⟨hd.ty H1 v x m a1 ht, ρ, fp, eo.same s1, (Holds.bind hx).mono (fun y hy u H2 n s2 a2 _ => ?_) fun c hc H' s' => hc H' (s1.trans s')⟩
      obtain ⟨d, e, hy⟩ := Holds.ofO hy
      exact hd.run H2 v u x y m n d Q (a1.same s2) a2 ht e fun w H3 m' s3 a3 nw => hy w H3 m' (s1.trans (s2.trans s3)) a3 ⟨nw.1, fun z q => Same.back (s1.trans s2) (nw.2 z q)⟩
    · rw [if_neg ht] at hx
      exact hx.elim) fun c hc => hc⟩

/-! ### calls of defs that change nothing -/
def RF (κ : Kd) (H : Hp) (n m : List Addr) : Prop := match κ with
  | .B => False
  | .V => ∀ a ∈ m, a ∈ n ∨ H a = none
  | .F => New H m
def EEx (K : PySem.W.Frag) (E : XK) (c : Ex) (H : Hp) : Prop := match c.fld with
  | none => E (.ref (He.ga K c.cls)) none H
  | some (f, x) => ∀ d v, H d = some (.xd [(f, v)]) → Ab K H false v x [] → E (.ref (He.ga K c.cls)) (some d) H
theorem EEx.w {K : PySem.W.Frag} {W : WX} {c : Ex} {σ : L2.St} {H : Hp} (h : WEx K W c σ H) : EEx K (WE W σ) c H := h
/-- the promise of a def that works on data: np parameters, what its result is like, what it gives -/
def spP (K : PySem.W.Frag) (np : Nat) (κ : Kd) (m : List PyData → R PyData) : Sp := fun vs H Q E => vs.length = np ∧ ∃ ds n, AbL K H false vs ds n ∧ Holds (m ds) (fun d => ∀ v H' l, Same H H' → Ab K H' κ.ow v d l → RF κ H n l → Q v H') fun c => ∀ H', Same H H' → EEx K E c H'
/-- a def as the walk needs it -/
structure FnPP (P : Program) (w : World) (K : PySem.W.Frag) (mg : Str → Option Value) (base : Heap) (k : Nat) (x : Str) (ps : List Str) (κ : Kd) (m : List PyData → R PyData) : Prop where
  ex : ∃ f fd, FnG P w K mg base (L2.CX P w) k f fd ps (spP K ps.length κ m) ∧ mg x = some (.ref f) ∧ PySem.W.keepIn K (.ref f) = true ∧ Binds K fd ps []
abbrev FnP (X : Cx) (k : Nat) (x : Str) (ps : List Str) (κ : Kd) (m : List PyData → R PyData) : Prop := FnPP X.prog X.w X.K X.mg X.base k x ps κ m
/-- so many arguments -/
def HL (n : Nat) (f : Env → R (List PyData)) : Prop := ∀ ρ ds, f ρ = .ok ds → ds.length = n
theorem HL.nil : HL 0 fNil := fun ρ ds e => by cases e; rfl
theorem HL.cons {n : Nat} {f : Env → R PyData} {g : Env → R (List PyData)} (h : HL n g) : HL (n + 1) (fCons f g) := fun ρ ds e => by
  obtain ⟨x, _, e⟩ := bind_ok_iff.mp e
  obtain ⟨xs, e1, e⟩ := bind_ok_iff.mp e
  cases e
  rw [List.length_cons, h ρ xs e1]
def fCall (m : List PyData → R PyData) (f : Env → R (List PyData)) : Env → R PyData := fun ρ => f ρ >>= m
theorem call_core {K : PySem.W.Frag} {ks : List Bool} {W : WX} {np : Nat} {κf : Kd} {m : List PyData → R PyData} {f : Env → R (List PyData)} {σ : L2.St} {H : Hp} {Q : VK} {ρ : Env} {fp : Nat → List Addr} (hlen : HL np f) {κa κr : Kd}
    (hab : ∀ {H : Hp} {v : V} {d : PyData} {l : List Addr}, Ab K H κf.ow v d l → Ab K H κr.ow v d l) (hκ : ∀ {H1 : Hp} {n l : List Addr}, Same H H1 → RCp κa H ks ρ fp n → RF κf H1 n l → RCp κr H ks ρ fp l) (eo : EOk K H ks σ ρ fp)
    (h : Holds (fCall m f ρ) (fun d => ∀ v H' m, Same H H' → Ab K H' κr.ow v d m → RCp κr H ks ρ fp m → Q v H') fun c => ∀ H', Same H H' → WEx K W c σ H') :
    Holds (f ρ) (fun d => ∀ v H' m', Same H H' → AbL K H' κa.ow v d m' → RCp κa H ks ρ fp m' → spP K np κf m v H' Q (WE W σ)) fun c => ∀ H', Same H H' → WEx K W c σ H' := by
  have h1 := Holds.bind h
  cases e : f ρ with
  | ok ds =>
    rw [e] at h1
    intro v H1 n s1 a1 r1
    exact ⟨by rw [a1.len, hlen ρ ds e], ds, n, a1.down, Holds.mono h1 (fun d hd w H2 l s2 a2 r2 => hd w H2 l (s1.trans s2) (hab a2) (hκ s1 r1 r2)) fun c hc H' s' => hc H' (s1.trans s')⟩
  | ex c => rw [e] at h1; exact h1
  | no => rw [e] at h1; exact h1
theorem hκF {K : PySem.W.Frag} {ks : List Bool} {κa : Kd} {σ : L2.St} {ρ : Env} {fp : Nat → List Addr} {H H1 : Hp} {n l : List Addr} (s : Same H H1) (r : RF .F H1 n l) : RCp .F H ks ρ fp l := ⟨r.1, fun a q => Same.back s (r.2 a q)⟩
theorem hκV {K : PySem.W.Frag} {ks : List Bool} {σ : L2.St} {ρ : Env} {fp : Nat → List Addr} {H H1 : Hp} {n l : List Addr} (eo : EOk K H ks σ ρ fp) (s : Same H H1) (q : RCp .V H ks ρ fp n) (r : RF .V H1 n l) : RCp .V H ks ρ fp l := fun a z => (r a z).elim (q a) fun y => ⟨fun o => eo.notAl (Same.back s y) o.al, .inr (Same.back s y)⟩
variable {x : Str} {p : Pos} {es : List Expr} {k : Nat} {ps : List Str} {m : List PyData → R PyData} {f : Env → R (List PyData)}
/-- a result that nobody else has -/
theorem p_callF (F : FnP X k x ps .F m) (tk : Takes X W) (hr : RoomG k X.A) (ha : DPA X W ks .B (e :: es) f) (hlen : HL ps.length f := by repeat (first | exact HL.nil | refine HL.cons ?_)) (hg : Gl X x := by rfl) (hdb : (x == ("__debug__" : Str)) = false := by decide)
    (he : starEach (e :: es) X.env = (false, eval e X.env) :: starEach es X.env := by rfl) (hpl : (backTo pos (starEach es X.env)).any (·.1) = false := by rfl) : DP X W ks .F (.Call (.Name x p) (e :: es) [] pos) (fCall m f) := by
  obtain ⟨fa, fd, G, hm, hk, hb⟩ := F.ex
  exact PE.imp (pe_callG' G hr hg hm hk hb (passAt tk) ha hdb he hpl) fun σ H Q ⟨ρ, fp, eo, h⟩ => ⟨ρ, fp, eo, call_core hlen (fun a => a) (fun s _ r => hκF (K := X.K) (κa := .B) (σ := σ) s r) eo h⟩
/-- a result that may share with the arguments -/
theorem p_callV (F : FnP X k x ps .V m) (tk : Takes X W) (hr : RoomG k X.A) (ha : DPA X W ks .V (e :: es) f) (hlen : HL ps.length f := by repeat (first | exact HL.nil | refine HL.cons ?_)) (hg : Gl X x := by rfl) (hdb : (x == ("__debug__" : Str)) = false := by decide)
    (he : starEach (e :: es) X.env = (false, eval e X.env) :: starEach es X.env := by rfl) (hpl : (backTo pos (starEach es X.env)).any (·.1) = false := by rfl) : DP X W ks .V (.Call (.Name x p) (e :: es) [] pos) (fCall m f) := by
  obtain ⟨fa, fd, G, hm, hk, hb⟩ := F.ex
  exact PE.imp (pe_callG' G hr hg hm hk hb (passAt tk) ha hdb he hpl) fun σ H Q ⟨ρ, fp, eo, h⟩ => ⟨ρ, fp, eo, call_core hlen (fun a => a) (fun s q r => hκV eo s q r) eo h⟩
/-- .. used where it may share with anything -/
theorem p_callB (F : FnP X k x ps .V m) (tk : Takes X W) (hr : RoomG k X.A) (ha : DPA X W ks .B (e :: es) f) (hlen : HL ps.length f := by repeat (first | exact HL.nil | refine HL.cons ?_)) (hg : Gl X x := by rfl) (hdb : (x == ("__debug__" : Str)) = false := by decide)
    (he : starEach (e :: es) X.env = (false, eval e X.env) :: starEach es X.env := by rfl) (hpl : (backTo pos (starEach es X.env)).any (·.1) = false := by rfl) : DP X W ks .B (.Call (.Name x p) (e :: es) [] pos) (fCall m f) := by
  obtain ⟨fa, fd, G, hm, hk, hb⟩ := F.ex
  exact PE.imp (pe_callG' G hr hg hm hk hb (passAt tk) ha hdb he hpl) fun σ H Q ⟨ρ, fp, eo, h⟩ => ⟨ρ, fp, eo, call_core hlen (κr := .B) (fun a => a) (fun s q r => trivial) eo h⟩
end
end PV

set_option Elab.async false
set_option linter.all false
set_option maxRecDepth 100000
set_option maxHeartbeats 1000000
set_option autoImplicit false
/-! PV, part d: expressions that change owning slots. -/
namespace PV
open PySem PySem.Spec PyProof.Rows L2
section
variable {K : PySem.W.Frag} {H H' H'' : Hp} {ks : List Bool} {σ σ' : L2.St} {ρ ρ' ρ'' : Env} {fp fp' fp'' : Nat → List Addr} {m n : List Addr} {κ : Kd}
def setF (fp : Nat → List Addr) (i : Nat) (m : List Addr) : Nat → List Addr := fun j => if j = i then m else fp j
theorem setF_same {i : Nat} : setF fp i m i = m := if_pos rfl
theorem setF_ne {i j : Nat} (h : j ≠ i) : setF fp i m j = fp j := if_neg h
theorem get_set {α : Type} {l : List α} {i j : Nat} {x y : α} (h : (l.set i x)[j]? = some y) : (j = i ∧ i < l.length ∧ y = x) ∨ (j ≠ i ∧ l[j]? = some y) := by
  by_cases e : j = i
  · subst e
    by_cases hl : j < l.length
    · rw [List.getElem?_set_self hl] at h; cases h; exact .inl ⟨rfl, hl, rfl⟩
    · rw [List.getElem?_eq_none (by simp; omega)] at h; cases h
  · rw [List.getElem?_set_ne (fun z => e z.symm)] at h
    exact .inr ⟨e, h⟩
/-- what a slot asks of what it takes -/
def kdOf (b : Bool) : Kd := if b then .F else .V
theorem Step.set {i : Nat} {b : Bool} {v : V} {d : PyData} (hk : ks[i]? = some b) (s : Step K H H' ks σ' ρ ρ' fp fp') (a : Ab K H' b v d m) (r : RCe (kdOf b) H ks ρ fp ρ' fp' m) :
    Step K H H' ks (σ'.set i (some v)) ρ (ρ'.set i (some d)) fp (setF fp' i m) := by
  have rNo : ∀ x ∈ m, ¬ Ow ks ρ' fp' x := r.notO (by cases b <;> simp [kdOf])
  have rAl : ∀ x ∈ m, Al ρ fp x ∨ H x = none := fun x q => by
    cases b with
    | false => exact (r x q).2
    | true => exact (r.2 x q).2.elim (fun z => .inl z.al) .inr
  refine ⟨⟨?_, fun j e h => ?_, fun j e ho h => ?_, fun j l e g ho hne h1 h2 x hx => ?_⟩, s.fr, fun x ⟨j, e, h, hx⟩ => ?_, fun x ⟨j, e, ho, h, hx⟩ => ?_⟩
  · rw [List.length_set, List.length_set]; exact s.env.len
  · rcases get_set h with ⟨rfl, hl, e1⟩ | ⟨hne, h⟩
    · cases e1
      refine ⟨v, ?_, ?_⟩
      · rw [List.getElem?_set_self (by rw [← s.env.len]; exact hl)]
      · rw [setF_same, hk]; cases b <;> exact a
    · obtain ⟨u, e1, a1⟩ := s.env.ab j e h
      refine ⟨u, ?_, ?_⟩
      · rw [List.getElem?_set_ne (fun z => hne z.symm)]; exact e1
      · rw [setF_ne hne]; exact a1
  · rcases get_set h with ⟨rfl, hl, e1⟩ | ⟨hne, h⟩
    · unfold own at ho
      rw [hk] at ho; cases ho
      rw [setF_same]; exact r.1
    · rw [setF_ne hne]; exact s.env.nd j e ho h
  · rcases get_set h1 with ⟨rfl, hl, e1⟩ | ⟨hn1, h1'⟩
    · rw [setF_same] at hx
      rcases get_set h2 with ⟨e2, _⟩ | ⟨hn2, h2'⟩
      · exact absurd e2.symm hne
      · rw [setF_ne hn2]
        unfold own at ho
        rw [hk] at ho; cases ho
        exact fun z => (r.2 x hx).1 ⟨l, g, h2', z⟩
    · rw [setF_ne hn1] at hx
      rcases get_set h2 with ⟨e2, _, _⟩ | ⟨hn2, h2'⟩
      · rw [e2, setF_same]
        exact fun z => rNo x z ⟨j, e, ho, h1', hx⟩
      · rw [setF_ne hn2]
        exact s.env.dj j l e g ho hne h1' h2' x hx
  · rcases get_set h with ⟨rfl, _, _⟩ | ⟨hne, h⟩
    · rw [setF_same] at hx; exact rAl x hx
    · rw [setF_ne hne] at hx; exact s.sub x ⟨j, e, h, hx⟩
  · rcases get_set h with ⟨rfl, _, _⟩ | ⟨hne, h⟩
    · rw [setF_same] at hx
      unfold own at ho
      rw [hk] at ho; cases ho
      exact (r.2 x hx).2
    · rw [setF_ne hne] at hx; exact s.subo x ⟨j, e, ho, h, hx⟩
/-- an owning slot's value -/
theorem EOk.own {i : Nat} {d : PyData} (eo : EOk K H ks σ ρ fp) (hk : ks[i]? = some true) (h : ρ[i]? = some (some d)) : ∃ v, σ[i]? = some (some v) ∧ Ab K H true v d (fp i) ∧ (fp i).Nodup := by
  obtain ⟨v, e, a⟩ := eo.ab i d h
  rw [hk] at a
  exact ⟨v, e, a, eo.nd i d hk h⟩
theorem Ab.ownL {o : Bool} {v : V} {ds : List PyData} (a : Ab K H o v (.list ds) m) : ∃ p vs n, v = .ref p ∧ H p = some (.lst vs) ∧ AbL K H o vs ds n ∧ m = p :: n := by
  cases a with
  | lst hs ha => exact ⟨_, _, _, rfl, hs, ha, rfl⟩
/-- the list of an owning slot is changed: its new items -/
theorem EOk.mut {i : Nat} {ds ds' : List PyData} {p : Addr} {vs vs' : List V} {n n' : List Addr} (eo : EOk K H ks σ ρ fp) (hk : ks[i]? = some true) (h : ρ[i]? = some (some (.list ds))) (hv : σ[i]? = some (some (.ref p))) (hp : H p = some (.lst vs)) (hf : fp i = p :: n)
    (a : AbL K H true vs' ds' n') (nd : n'.Nodup) (hn : ∀ x ∈ n', x ≠ p ∧ (x ∈ n ∨ ¬ Al ρ fp x)) (hx : ∀ x ∈ n', x ∈ n ∨ Ow ks ρ fp x ∨ H x = none := by exact fun x q => .inl q) :
    Step K H (upd H p (.lst vs')) ks σ ρ (ρ.set i (some (.list ds'))) fp (setF fp i (p :: n')) := by
  have hl : i < ρ.length := (List.getElem?_eq_some_iff.mp h).1
  have own_p : Ow ks ρ fp p := ⟨i, _, hk, h, by rw [hf]; exact List.mem_cons_self ..⟩
  have fr : Fr (fun x => x = p) H (upd H p (.lst vs')) := ⟨fun x o e q => by
    by_cases z : x = p
    · subst z; rw [hp] at e; cases e; exact absurd trivial (q rfl)
    · rw [upd_ne z]; exact e, fun x q => by
    by_cases z : x = p
    · subst z; rw [upd_same]; exact fun z => nomatch z
    · rw [upd_ne z]; exact q⟩
  have frO : Fr (Ow ks ρ fp) H (upd H p (.lst vs')) := ⟨fun x o e q => fr.1 x o e fun z => q (by rw [z]; exact own_p), fr.2⟩
  refine ⟨⟨by rw [List.length_set]; exact eo.len, fun j e hj => ?_, fun j e ho hj => ?_, fun j l e g ho hne h1 h2 x hx' => ?_⟩, frO, fun x ⟨j, e, hj, hx'⟩ => ?_, fun x ⟨j, e, ho, hj, hx'⟩ => ?_⟩
  · rcases get_set hj with ⟨rfl, _, e1⟩ | ⟨hne, hj⟩
    · cases e1
      refine ⟨_, hv, ?_⟩
      rw [setF_same, hk]
      exact .lst upd_same (a.fr fr fun x q => (hn x q).1)
    · obtain ⟨u, e1, a1⟩ := eo.ab j e hj
      refine ⟨u, e1, ?_⟩
      rw [setF_ne hne]
      refine a1.fr fr fun x q z => ?_
      subst z
      exact eo.dj i j _ _ hk (fun z => hne z.symm) h hj x (by rw [hf]; exact List.mem_cons_self ..) q
  · rcases get_set hj with ⟨rfl, _, _⟩ | ⟨hne, hj⟩
    · rw [setF_same]; exact List.nodup_cons.mpr ⟨fun z => (hn p z).1 rfl, nd⟩
    · rw [setF_ne hne]; exact eo.nd j e ho hj
  · have key : ∀ (l : Nat) (g : PyData), l ≠ i → ρ[l]? = some (some g) → ∀ x ∈ p :: n', x ∉ fp l := fun l g hli hg x q z => by
      rcases List.mem_cons.mp q with e1 | q
      · rw [e1] at z
        exact eo.dj i l _ _ hk (fun z => hli z.symm) h hg p (by rw [hf]; exact List.mem_cons_self ..) z
      · rcases (hn x q).2 with y | y
        · exact eo.dj i l _ _ hk (fun z => hli z.symm) h hg x (by rw [hf]; exact List.mem_cons_of_mem _ y) z
        · exact y ⟨l, g, hg, z⟩
    rcases get_set h1 with ⟨e1, _, _⟩ | ⟨hn1, h1'⟩
    · rcases get_set h2 with ⟨e2, _⟩ | ⟨hn2, h2'⟩
      · exact absurd (e1.trans e2.symm) hne
      · rw [e1, setF_same] at hx'
        rw [setF_ne hn2]
        exact key l g hn2 h2' x hx'
    · rw [setF_ne hn1] at hx'
      rcases get_set h2 with ⟨e2, _, _⟩ | ⟨hn2, h2'⟩
      · rw [e2, setF_same]
        exact fun z => key j e hn1 h1' x z hx'
      · rw [setF_ne hn2]
        exact eo.dj j l e g ho hne h1' h2' x hx'
  · rcases get_set hj with ⟨rfl, _, _⟩ | ⟨hne, hj⟩
    · rw [setF_same] at hx'
      rcases List.mem_cons.mp hx' with e1 | q
      · rw [e1]; exact .inl own_p.al
      · rcases hx x q with y | y | y
        · exact .inl ⟨j, _, h, by rw [hf]; exact List.mem_cons_of_mem _ y⟩
        · exact .inl y.al
        · exact .inr y
    · rw [setF_ne hne] at hx'
      exact .inl ⟨j, e, hj, hx'⟩
  · rcases get_set hj with ⟨rfl, _, _⟩ | ⟨hne, hj⟩
    · rw [setF_same] at hx'
      rcases List.mem_cons.mp hx' with e1 | q
      · rw [e1]; exact .inl own_p
      · rcases hx x q with y | y | y
        · exact .inl ⟨j, _, hk, h, by rw [hf]; exact List.mem_cons_of_mem _ y⟩
        · exact .inl y
        · exact .inr y
    · rw [setF_ne hne] at hx'
      exact .inl ⟨j, e, ho, hj, hx'⟩
theorem RCe.sub (r : RCe κ H ks ρ fp ρ' fp' m) (s : n.Sublist m) : RCe κ H ks ρ fp ρ' fp' n := by
  cases κ with
  | B => trivial
  | V => exact fun a q => r a (s.subset q)
  | F => exact ⟨r.1.sublist s, fun a q => r.2 a (s.subset q)⟩
/-- a new value behind a step -/
theorem RCe.new {σ1 : L2.St} (s : Step K H H' ks σ1 ρ ρ' fp fp') (r : New H' m) : RCe .F H ks ρ fp ρ' fp' m := ⟨r.1, fun a q => ⟨s.env.notAl (r.2 a q), .inr (s.fr.back (r.2 a q))⟩⟩
end

section
variable {X : Cx} {W : WX} {ks : List Bool} {a b c e : Expr} {pos : Pos} {κ : Kd}
/-! ### combinators -/
abbrev FE := Env → R (PyData × Env)
def eL (f : Env → R PyData) : FE := fun ρ => f ρ >>= fun d => .ok (d, ρ)
def eLA (f : Env → R (List PyData)) : Env → R (List PyData × Env) := fun ρ => f ρ >>= fun d => .ok (d, ρ)
def eLT (f : Env → R Bool) : Env → R (Bool × Env) := fun ρ => f ρ >>= fun d => .ok (d, ρ)
def eFlat (f : FE) : FE := fun ρ => f ρ >>= fun r => if flat r.1 then .ok r else .no
def eOp (o : PyData → PyData → Option PyData) (f g : FE) : FE := fun ρ => f ρ >>= fun r => g r.2 >>= fun q => ofO (o r.1 q.1) >>= fun z => .ok (z, q.2)
def eUn (o : PyData → Option PyData) (f : FE) : FE := fun ρ => f ρ >>= fun r => ofO (o r.1) >>= fun z => .ok (z, r.2)
def eIf (t : Env → R (Bool × Env)) (f g : FE) : FE := fun ρ => t ρ >>= fun r => if r.1 then f r.2 else g r.2
def eNil : Env → R (List PyData × Env) := fun ρ => .ok ([], ρ)
def eCons (f : FE) (g : Env → R (List PyData × Env)) : Env → R (List PyData × Env) := fun ρ => f ρ >>= fun r => g r.2 >>= fun q => .ok (r.1 :: q.1, q.2)
def eTup (f : Env → R (List PyData × Env)) : FE := fun ρ => f ρ >>= fun r => if r.1.length ≤ sizeLine then .ok (.tuple r.1, r.2) else .no
def eLst (f : Env → R (List PyData × Env)) : FE := fun ρ => f ρ >>= fun r => if r.1.length ≤ sizeLine then .ok (.list r.1, r.2) else .no
def eN (o : List PyData → Option PyData) (f : Env → R (List PyData × Env)) : FE := fun ρ => f ρ >>= fun r => ofO (o r.1) >>= fun z => .ok (z, r.2)
def eAndT (f g : Env → R (Bool × Env)) : Env → R (Bool × Env) := fun ρ => f ρ >>= fun r => if r.1 then g r.2 else .ok (false, r.2)
def eOrT (f g : Env → R (Bool × Env)) : Env → R (Bool × Env) := fun ρ => f ρ >>= fun r => if r.1 then .ok (true, r.2) else g r.2
def eNotT (f : Env → R (Bool × Env)) : Env → R (Bool × Env) := fun ρ => f ρ >>= fun r => .ok (!r.1, r.2)
def eCmp (o : PyData → PyData → Option Bool) (f g : FE) : Env → R (Bool × Env) := fun ρ => f ρ >>= fun r => g r.2 >>= fun q => ofO (o r.1 q.1) >>= fun z => .ok (z, q.2)
def eTru (t : PyData → Option Bool) (f : FE) : Env → R (Bool × Env) := fun ρ => f ρ >>= fun r => ofO (t r.1) >>= fun z => .ok (z, r.2)

/-! ### rules -/
theorem e_lift {f : Env → R PyData} (h : DP X W ks κ e f) : DE X W ks κ e (eL f) := PE.imp h fun σ H Q ⟨ρ, fp, eo, h⟩ =>
  ⟨ρ, fp, eo, (Holds.bind h).mono (fun d hd v H' m s ab r => hd v H' fp m (Step.same eo s) ab (r.e eo)) fun c hc H' s => hc H' (Same.fr s _)⟩
theorem ea_lift {es : List Expr} {f : Env → R (List PyData)} (h : DPA X W ks κ es f) : DEA X W ks κ es (eLA f) := PA.imp h fun σ H Q ⟨ρ, fp, eo, h⟩ =>
  ⟨ρ, fp, eo, (Holds.bind h).mono (fun d hd v H' m s ab r => hd v H' fp m (Step.same eo s) ab (r.e eo)) fun c hc H' s => hc H' (Same.fr s _)⟩
theorem et_lift {f : Env → R Bool} (h : DPT X W ks e f) : DET X W ks e (eLT f) := PT.imp h fun σ H Q ⟨ρ, fp, eo, h⟩ =>
  ⟨ρ, fp, eo, (Holds.bind h).mono (fun d hd H' s => hd H' fp (Step.same eo s)) fun c hc H' s => hc H' (Same.fr s _)⟩
theorem e_flat {f : FE} (h : DE X W ks .B e f) : DE X W ks κ e (eFlat f) := PE.imp h fun σ H Q ⟨ρ, fp, eo, h⟩ =>
  ⟨ρ, fp, eo, (Holds.bind h).mono (fun d hd v H' fp' m s ab _ => by
    by_cases hf : flat d.1 = true
    · rw [if_pos hf] at hd
      have em := ab.flat hf
      subst em
      exact hd v H' fp' [] s (ab.up hf _) (RCe.nil _)
    · rw [if_neg hf] at hd
      exact hd.elim) fun c hc => hc⟩
theorem e_toV {f : FE} (h : DE X W ks .F e f) : DE X W ks .V e f := PE.imp h fun σ H Q ⟨ρ, fp, eo, h⟩ =>
  ⟨ρ, fp, eo, h.mono (fun d hd v H' fp' m s ab r => hd v H' fp' m s ab.down r.toV) fun c hc => hc⟩
theorem e_toB {f : FE} (h : DE X W ks κ e f) : DE X W ks .B e f := PE.imp h fun σ H Q ⟨ρ, fp, eo, h⟩ =>
  ⟨ρ, fp, eo, h.mono (fun d hd v H' fp' m s ab r => hd v H' fp' m s ab.down trivial) fun c hc => hc⟩
theorem Fr.comp {K : PySem.W.Frag} {H H1 H2 : Hp} {ρ ρ1 : Env} {fp fp1 : Nat → List Addr} {σ : L2.St} (s : Step K H H1 ks σ ρ ρ1 fp fp1) (f : Fr (Ow ks ρ1 fp1) H1 H2) : Fr (Ow ks ρ fp) H H2 :=
  ⟨fun x o e n => f.1 x o (s.fr.1 x o e n) fun z => (s.subo x z).elim n fun y => (by rw [e] at y; cases y), fun x n => f.2 x (s.fr.2 x n)⟩
/-- the first operand is kept while the second one is found: it is no B -/
theorem e_op {op : Operator} {r : R2} {o : PyData → PyData → Option PyData} {f g : FE} (ho : OpR X (binaryOp op) r) (hd : Op2 X.K r o) (ha : DE X W ks .V a f) (hb : DE X W ks .B b g) : DE X W ks .F (.BinOp a op b pos) (eOp o f g) :=
  PE.imp (pe_op ho ha hb) fun σ H Q ⟨ρ, fp, eo, h⟩ => ⟨ρ, fp, eo, (Holds.bind h).mono (fun x hx v H1 fp1 m s1 a1 r1 => ⟨x.2, fp1, s1.env, (Holds.bind hx).mono (fun y hy u H2 fp2 n s2 a2 _ => by
    obtain ⟨d, e, hy⟩ := Holds.ofO (Holds.bind hy)
    exact hd.run H2 v u x.1 y.1 m n d Q (a1.fr s2.fr (r1.notO (by decide))) a2 e fun w H3 m' s3 a3 nw => hy w H3 fp2 m' ((s1.trans s2).trans (Step.same s2.env s3)) a3 (by
      have := RCe.pre (κ := .F) (s1.trans s2) (RCp.e s2.env (m := m') (κ := .F) ⟨nw.1, nw.2⟩)
      exact this)) fun c hc H' s' => hc H' (Fr.comp s1 s')⟩) fun c hc => hc⟩
end
end PV

set_option Elab.async false
set_option linter.all false
set_option maxRecDepth 100000
set_option maxHeartbeats 1000000
set_option autoImplicit false
/-! PV, part e: more expressions that change owning slots. -/
namespace PV
open PySem PySem.Spec PyProof.Rows L2
section
variable {X : Cx} {W : WX} {ks : List Bool} {a b c e : Expr} {pos : Pos} {κ : Kd}
theorem RCe.both {K : PySem.W.Frag} {o : Bool} {H H1 H2 : Hp} {σ σ2 : L2.St} {ρ ρ1 ρ2 : Env} {fp fp1 fp2 : Nat → List Addr} {m n : List Addr} {v : V} {d : PyData} (hk : κ ≠ .B) (s1 : Step K H H1 ks σ ρ ρ1 fp fp1) (a : Ab K H1 o v d m) (r : RCe κ H ks ρ fp ρ1 fp1 m)
    (s2 : Step K H1 H2 ks σ2 ρ1 ρ2 fp1 fp2) (q : RCe κ H1 ks ρ1 fp1 ρ2 fp2 n) : RCe κ H ks ρ fp ρ2 fp2 (m ++ n) := by
  have r' := RCe.step hk a r s2
  have q' := RCe.pre s1 q
  cases κ with
  | B => exact absurd rfl hk
  | V => exact fun x z => (List.mem_append.mp z).elim (r' x) (q' x)
  | F =>
    refine ⟨List.nodup_append.mpr ⟨r'.1, q'.1, fun x hx y hy e => ?_⟩, fun x z => (List.mem_append.mp z).elim (r'.2 x) (q'.2 x)⟩
    rw [e] at hx
    rcases (q.2 y hy).2 with z | z
    · exact (r.2 y hx).1 z.al
    · exact a.tr hx z
theorem ea_nil : DEA X W ks κ [] eNil := PA.imp pa_nil fun σ H Q ⟨ρ, fp, eo, h⟩ => h [] H fp [] (Step.same eo (Same.refl H)) .nil (RCe.nil _)
theorem ea_cons {es : List Expr} {f : FE} {g : Env → R (List PyData × Env)} (ha : DE X W ks κ e f) (hr : DEA X W ks κ es g) (hk : κ ≠ .B := by decide) (hs : starEach (e :: es) X.env = (false, eval e X.env) :: starEach es X.env := by rfl) : DEA X W ks κ (e :: es) (eCons f g) :=
  PA.imp (pa_cons ha hr hs) fun σ H Q ⟨ρ, fp, eo, h⟩ => ⟨ρ, fp, eo, (Holds.bind h).mono (fun x hx v H1 fp1 m s1 a1 r1 => ⟨x.2, fp1, s1.env, (Holds.bind hx).mono (fun y hy u H2 fp2 n s2 a2 r2 =>
    hy (v :: u) H2 fp2 (m ++ n) (s1.trans s2) (.cons (a1.fr s2.fr (r1.notO hk)) a2) (RCe.both hk s1 a1 r1 s2 r2)) fun c hc H' s' => hc H' (Fr.comp (K := X.K) s1 s')⟩) fun c hc => hc⟩
theorem e_tup {es : List Expr} {x1} {f : Env → R (List PyData × Env)} (h : DEA X W ks κ es f) : DE X W ks κ (.Tuple es x1 pos) (eTup f) :=
  PE.imp (pe_tup h) fun σ H Q ⟨ρ, fp, eo, h⟩ => ⟨ρ, fp, eo, (Holds.bind h).mono (fun x hx v H1 fp1 m s1 a1 r1 => by
    by_cases hz : x.1.length ≤ sizeLine
    · rw [if_pos hz] at hx
      refine ⟨by rw [a1.len]; exact hz, fun p hp => hx (.ref p) _ fp1 m (s1.trans (Step.same s1.env (same_new hp))) (.tup (.inl (.inl upd_same)) (a1.same (same_new hp))) ?_⟩
      have := r1
      cases κ with
      | B => trivial
      | V => exact r1
      | F => exact r1
    · rw [if_neg hz] at hx
      exact hx.elim) fun c hc => hc⟩
theorem RCe.push {K : PySem.W.Frag} {o : Bool} {H H1 : Hp} {σ : L2.St} {ρ ρ1 : Env} {fp fp1 : Nat → List Addr} {m : List Addr} {vs : List V} {ds : List PyData} {p : Addr} (s : Step K H H1 ks σ ρ ρ1 fp fp1) (a : AbL K H1 o vs ds m) (hp : H1 p = none) (r : RCe κ H ks ρ fp ρ1 fp1 m) : RCe κ H ks ρ fp ρ1 fp1 (p :: m) := by
  have hp0 := s.fr.back hp
  cases κ with
  | B => trivial
  | V =>
    intro x z
    rcases List.mem_cons.mp z with e | z
    · rw [e]; exact ⟨fun y => s.env.notAl hp y.al, .inr hp0⟩
    · exact r x z
  | F =>
    refine ⟨List.nodup_cons.mpr ⟨fun z => a.tr z hp, r.1⟩, fun x z => ?_⟩
    rcases List.mem_cons.mp z with e | z
    · rw [e]; exact ⟨s.env.notAl hp, .inr hp0⟩
    · exact r.2 x z
theorem e_lst {es : List Expr} {f : Env → R (List PyData × Env)} (h : DEA X W ks κ es f) : DE X W ks κ (.List es pos) (eLst f) :=
  PE.imp (pe_lst h) fun σ H Q ⟨ρ, fp, eo, h⟩ => ⟨ρ, fp, eo, (Holds.bind h).mono (fun x hx v H1 fp1 m s1 a1 r1 => by
    by_cases hz : x.1.length ≤ sizeLine
    · rw [if_pos hz] at hx
      exact ⟨by rw [a1.len]; exact hz, fun p hp => hx (.ref p) _ fp1 (p :: m) (s1.trans (Step.same s1.env (same_new hp))) (.lst upd_same (a1.same (same_new hp))) (RCe.push s1 a1 hp r1)⟩
    · rw [if_neg hz] at hx
      exact hx.elim) fun c hc => hc⟩
theorem e_un {op : UnaryOp} {r : V → Hp → VK → Prop} {o : PyData → Option PyData} {f : FE} (ho : UnR X (unaryOp op) r) (hd : Op1 X.K r o) (ha : DE X W ks .B a f) : DE X W ks .F (.UnaryOp op a pos) (eUn o f) :=
  PE.imp (pe_un ho ha) fun σ H Q ⟨ρ, fp, eo, h⟩ => ⟨ρ, fp, eo, (Holds.bind h).mono (fun x hx v H1 fp1 m s1 a1 _ => by
    obtain ⟨d, e, hy⟩ := Holds.ofO (Holds.bind hx)
    exact hd.run H1 v x.1 m d Q a1.down e fun w H3 m' s3 a3 nw => hy w H3 fp1 m' (s1.trans (Step.same s1.env s3)) a3 (RCe.new s1 nw)) fun c hc => hc⟩
theorem e_ix {f g : FE} (ha : DE X W ks κ a f) (hb : DE X W ks .B b g) (hk : κ ≠ .B := by decide) (hs : PlainIx b := by exact fun _ _ => rfl) : DE X W ks κ (.Subscript a b pos) (eOp ixD f g) :=
  PE.imp (pe_ix ix_seq ha hb hs) fun σ H Q ⟨ρ, fp, eo, h⟩ => ⟨ρ, fp, eo, (Holds.bind h).mono (fun x hx v H1 fp1 m s1 a1 r1 => ⟨x.2, fp1, s1.env, (Holds.bind hx).mono (fun y hy u H2 fp2 n s2 a2 _ => by
    obtain ⟨d, e, hy⟩ := Holds.ofO (Holds.bind hy)
    exact ixD_run (a1.fr s2.fr (r1.notO hk)) a2 e fun w l al sl => hy w H2 fp2 l (s1.trans s2) al (RCe.sub (RCe.step hk a1 r1 s2) sl)) fun c hc H' s' => hc H' (Fr.comp (K := X.K) s1 s')⟩) fun c hc => hc⟩
theorem e_cmp {op : CmpOp} {r : R2} {o : PyData → PyData → Option Bool} {f g : FE} (ho : OpR X (compareOp op) r) (hd : OpB X.K r o) (ha : DE X W ks .V a f) (hb : DE X W ks .B b g) (hm : behindInMarks op b = false) : DET X W ks (.Compare a [op] [b] pos) (eCmp o f g) :=
  PT.imp (pt_cmpR ho ha hb hm) fun σ H Q ⟨ρ, fp, eo, h⟩ => ⟨ρ, fp, eo, (Holds.bind h).mono (fun x hx v H1 fp1 m s1 a1 r1 => ⟨x.2, fp1, s1.env, (Holds.bind hx).mono (fun y hy u H2 fp2 n s2 a2 _ => by
    obtain ⟨d, e, hy⟩ := Holds.ofO (Holds.bind hy)
    exact hd.run H2 v u x.1 y.1 m n d _ (a1.fr s2.fr (r1.notO (by decide))) a2 e ⟨d, rfl, hy H2 fp2 (s1.trans s2)⟩) fun c hc H' s' => hc H' (Fr.comp (K := X.K) s1 s')⟩) fun c hc => hc⟩
def eOfB (f : Env → R (Bool × Env)) : FE := fun ρ => f ρ >>= fun r => .ok (.bool r.1, r.2)
theorem e_cmpV {op : CmpOp} {r : R2} {o : PyData → PyData → Option Bool} {f g : FE} (ho : OpR X (compareOp op) r) (hd : OpB X.K r o) (ha : DE X W ks .V a f) (hb : DE X W ks .B b g) (hm : behindInMarks op b = false) : DE X W ks .F (.Compare a [op] [b] pos) (eOfB (eCmp o f g)) :=
  PE.imp (pe_cmpR ho ha hb hm) fun σ H Q ⟨ρ, fp, eo, h⟩ => ⟨ρ, fp, eo, (Holds.bind (Holds.bind h)).mono (fun x hx v H1 fp1 m s1 a1 r1 => ⟨x.2, fp1, s1.env, (Holds.bind hx).mono (fun y hy u H2 fp2 n s2 a2 _ => by
    obtain ⟨d, e, hy⟩ := Holds.ofO (Holds.bind hy)
    exact hd.run H2 v u x.1 y.1 m n d _ (a1.fr s2.fr (r1.notO (by decide))) a2 e (hy _ H2 fp2 [] (s1.trans s2) (.bl d) (RCe.nil _))) fun c hc H' s' => hc H' (Fr.comp (K := X.K) s1 s')⟩) fun c hc => hc⟩
theorem et_truth {t : PyData → Option Bool} {f : FE} (ht : OpT X.K t) (ha : DE X W ks .B a f) (he : ∀ whole, isTrue a X.env whole = (do let v ← whole; standAt a.pos; holding [v] (truthy v)) := by intro _; rfl) : DET X W ks a (eTru t f) :=
  PT.imp (pt_truth ha he) fun σ H Q ⟨ρ, fp, eo, h⟩ => ⟨ρ, fp, eo, (Holds.bind h).mono (fun x hx v H1 fp1 m s1 a1 _ => by
    obtain ⟨d, e, hy⟩ := Holds.ofO (Holds.bind hx)
    exact ⟨d, ht.run H1 v x.1 m d a1.down e, hy H1 fp1 s1⟩) fun c hc => hc⟩
abbrev DEW (X : Cx) (W : WX) (ks : List Bool) (e : Expr) (f : Env → R (Bool × Env)) : Prop := PW X e (tET X.K W ks f)
variable {rest : List Expr}
theorem tET.more {K : PySem.W.Frag} {f : Env → R (Bool × Env)} {H H1 : Hp} {σ : L2.St} {ρ ρ1 : Env} {fp fp1 : Nat → List Addr} {Q : Bool → Hp → Prop} (s1 : Step K H H1 ks σ ρ ρ1 fp fp1) (h : Holds (f ρ1) (fun r => ∀ H' fp', Step K H H' ks σ ρ r.2 fp fp' → Q r.1 H') fun c => ∀ H', Fr (Ow ks ρ fp) H H' → WEx K W c σ H') : tET K W ks f σ H1 Q :=
  ⟨ρ1, fp1, s1.env, h.mono (fun y hy H2 fp2 s2 => hy H2 fp2 (s1.trans s2)) fun c hc H' s' => hc H' (Fr.comp (K := K) s1 s')⟩
theorem ew_and {f g : Env → R (Bool × Env)} (ha : DET X W ks a f) (hb : DEW X W ks (.BoolOp .And (b :: rest) pos) g) : DEW X W ks (.BoolOp .And (a :: b :: rest) pos) (eAndT f g) :=
  PW.imp (pw_and ha hb) fun σ H Q ⟨ρ, fp, eo, h⟩ => ⟨ρ, fp, eo, (Holds.bind h).mono (fun x hx H1 fp1 s1 => by
    obtain ⟨x, ρ1⟩ := x
    cases x with
    | false => exact hx H1 fp1 s1
    | true => exact tET.more s1 hx) fun c hc => hc⟩
theorem ew_or {f g : Env → R (Bool × Env)} (ha : DET X W ks a f) (hb : DEW X W ks (.BoolOp .Or (b :: rest) pos) g) : DEW X W ks (.BoolOp .Or (a :: b :: rest) pos) (eOrT f g) :=
  PW.imp (pw_or ha hb) fun σ H Q ⟨ρ, fp, eo, h⟩ => ⟨ρ, fp, eo, (Holds.bind h).mono (fun x hx H1 fp1 s1 => by
    obtain ⟨x, ρ1⟩ := x
    cases x with
    | true => exact hx H1 fp1 s1
    | false => exact tET.more s1 hx) fun c hc => hc⟩
theorem ew_and1 {f : Env → R (Bool × Env)} (ha : DET X W ks a f) : DEW X W ks (.BoolOp .And [a] pos) f := pw_and1 ha
theorem ew_or1 {f : Env → R (Bool × Env)} (ha : DET X W ks a f) : DEW X W ks (.BoolOp .Or [a] pos) f := pw_or1 ha
theorem et_w {f : Env → R (Bool × Env)} (h : DEW X W ks a f) : DET X W ks a f := PW.pt h
theorem et_not {f : Env → R (Bool × Env)} (ha : DET X W ks a f) : DET X W ks (.UnaryOp .Not a pos) (eNotT f) :=
  PT.imp (pt_not ha) fun σ H Q ⟨ρ, fp, eo, h⟩ => ⟨ρ, fp, eo, (Holds.bind h).mono (fun x hx H1 fp1 s1 => hx H1 fp1 s1) fun c hc => hc⟩
theorem tE.more {K : PySem.W.Frag} {f : FE} {H H1 : Hp} {σ : L2.St} {ρ ρ1 : Env} {fp fp1 : Nat → List Addr} {Q : VK} (s1 : Step K H H1 ks σ ρ ρ1 fp fp1) (h : Holds (f ρ1) (fun r => ∀ v H' fp' m, Step K H H' ks σ ρ r.2 fp fp' → Ab K H' κ.ow v r.1 m → RCe κ H ks ρ fp r.2 fp' m → Q v H') fun c => ∀ H', Fr (Ow ks ρ fp) H H' → WEx K W c σ H') : tE K W ks κ f σ H1 Q :=
  ⟨ρ1, fp1, s1.env, h.mono (fun y hy v H2 fp2 m s2 a2 r2 => hy v H2 fp2 m (s1.trans s2) a2 (RCe.pre s1 r2)) fun c hc H' s' => hc H' (Fr.comp (K := K) s1 s')⟩
theorem e_if {t : Env → R (Bool × Env)} {f g : FE} (hc : DET X W ks c t) (ha : DE X W ks κ a f) (hb : DE X W ks κ b g) : DE X W ks κ (.IfExp c a b pos) (eIf t f g) :=
  PE.imp (pe_ifExp hc ha hb) fun σ H Q ⟨ρ, fp, eo, h⟩ => ⟨ρ, fp, eo, (Holds.bind h).mono (fun x hx H1 fp1 s1 => by
    obtain ⟨x, ρ1⟩ := x
    cases x with
    | true => exact tE.more s1 hx
    | false => exact tE.more s1 hx) fun c hc => hc⟩

/-! ### built-ins, calls -/
theorem e_bi {x : Str} {p : Pos} {es : List Expr} {id : String} {r : List V → Hp → VK → Prop} {o : List PyData → Option PyData} {f : Env → R (List PyData × Env)} (hc : CallR X (.builtin id) r) (ho : OpN X.K r o) (hm : X.mg x = none) (hv : bootBuiltins x = some (.builtin id)) (ha : DEA X W ks κ (e :: es) f) (hg : Gl X x := by rfl)
    (hn : x ≠ "__name__" := by decide) (hdb : (x == ("__debug__" : Str)) = false := by decide) (he : starEach (e :: es) X.env = (false, eval e X.env) :: starEach es X.env := by rfl) (hpl : (backTo pos (starEach es X.env)).any (·.1) = false := by rfl) : DE X W ks .F (.Call (.Name x p) (e :: es) [] pos) (eN o f) :=
  PE.imp (pe_callB hc hg hm hv ha hn hdb he hpl) fun σ H Q ⟨ρ, fp, eo, h⟩ => ⟨ρ, fp, eo, (Holds.bind h).mono (fun x hx v H1 fp1 m s1 a1 _ => by
    obtain ⟨d, e, hx⟩ := Holds.ofO (Holds.bind hx)
    exact ho.run H1 v x.1 m d Q a1.down e fun w H3 m' s3 a3 nw => hx w H3 fp1 m' (s1.trans (Step.same s1.env s3)) a3 (RCe.new s1 nw)) fun c hc => hc⟩
theorem e_ty {x : Str} {p : Pos} {es : List Expr} {id : String} {r : List V → Hp → VK → Prop} {o : List PyData → Option PyData} {f : Env → R (List PyData × Env)} (hc : CallR X (.type id) r) (ho : OpN X.K r o) (hm : X.mg x = none) (hv : bootBuiltins x = some (.type id)) (ha : DEA X W ks κ (e :: es) f) (hg : Gl X x := by rfl)
    (hn : x ≠ "__name__" := by decide) (hdb : (x == ("__debug__" : Str)) = false := by decide) (he : starEach (e :: es) X.env = (false, eval e X.env) :: starEach es X.env := by rfl) (hpl : (backTo pos (starEach es X.env)).any (·.1) = false := by rfl) : DE X W ks .F (.Call (.Name x p) (e :: es) [] pos) (eN o f) :=
  PE.imp (pe_callTy hc hg hm hv ha hn hdb he hpl) fun σ H Q ⟨ρ, fp, eo, h⟩ => ⟨ρ, fp, eo, (Holds.bind h).mono (fun x hx v H1 fp1 m s1 a1 _ => by
    obtain ⟨d, e, hx⟩ := Holds.ofO (Holds.bind hx)
    exact ho.run H1 v x.1 m d Q a1.down e fun w H3 m' s3 a3 nw => hx w H3 fp1 m' (s1.trans (Step.same s1.env s3)) a3 (RCe.new s1 nw)) fun c hc => hc⟩
def eMe (isT : PyData → Bool) (o : PyData → List PyData → Option PyData) (f : FE) (g : Env → R (List PyData × Env)) : FE := fun ρ => f ρ >>= fun r => if isT r.1 then g r.2 >>= fun q => ofO (o r.1 q.1) >>= fun z => .ok (z, q.2) else .no
theorem e_me {ob : Expr} {es : List Expr} {name : Str} {apos cpos : Pos} {T id : String} {r : V → List V → Hp → VK → Prop} {isT : PyData → Bool} {o : PyData → List PyData → Option PyData} {f : FE} {g : Env → R (List PyData × Env)}
    (pa : PlainAttrs T) (slot : Slot T name id) (hty : typeOf (.builtin id) = pure (.type "method_descriptor")) (hm : MtR X id r) (hd : OpM X.K T r isT o) (ho : DE X W ks .V ob f) (ha : DEA X W ks κ (e :: es) g)
    (hbase : attributeBase ob name X.env (eval ob X.env) = eval ob X.env := by rfl)
    (hfew : ((backTo cpos (starEach (e :: es) X.env)).all (fun x => !x.1) && (backToKw cpos (keywordEach [] X.env)).all (fun x => x.1.isSome)
      && decide ((e :: es).length + ([] : List Keyword).length + (if ([] : List Keyword).isEmpty then 0 else 1) < 30)) = true := by rfl)
    (hline : (apos.endLine == cpos.line) = true := by rfl) (hs : starEach (e :: es) X.env = (false, eval e X.env) :: starEach es X.env := by rfl) (hplain : (backTo cpos (starEach es X.env)).any (·.1) = false := by rfl) :
    DE X W ks .F (.Call (.Attribute ob name apos) (e :: es) [] cpos) (eMe isT o f g) :=
  PE.imp (pe_bm pa slot hty hm ho ha hbase hfew hline hs hplain) fun σ H Q ⟨ρ, fp, eo, h⟩ => ⟨ρ, fp, eo, (Holds.bind h).mono (fun x hx v H1 fp1 m s1 a1 r1 => by
    by_cases ht : isT x.1 = true
    · rw [if_pos ht] at hx
      refine ⟨hd.ty H1 v x.1 m a1 ht, x.2, fp1, s1.env, (Holds.bind hx).mono (fun y hy u H2 fp2 n s2 a2 _ => ?_) fun c hc H' s' => hc H' (Fr.comp (K := X.K) s1 s')⟩
      obtain ⟨d, e, hy⟩ := Holds.ofO (Holds.bind hy)
      exact hd.run H2 v u x.1 y.1 m n d Q (a1.fr s2.fr (r1.notO (by decide))) a2.down ht e fun w H3 m' s3 a3 nw => hy w H3 fp2 m' ((s1.trans s2).trans (Step.same s2.env s3)) a3 (RCe.new (s1.trans s2) nw)
    · rw [if_neg ht] at hx
      exact hx.elim) fun c hc => hc⟩

variable {x : Str} {p : Pos} {es : List Expr} {k : Nat} {ps : List Str}
def HLe (n : Nat) (f : Env → R (List PyData × Env)) : Prop := ∀ ρ ds, f ρ = .ok ds → ds.1.length = n
theorem HLe.nil : HLe 0 eNil := fun ρ ds e => by cases e; rfl
theorem HLe.cons {n : Nat} {f : FE} {g : Env → R (List PyData × Env)} (h : HLe n g) : HLe (n + 1) (eCons f g) := fun ρ ds e => by
  obtain ⟨x, _, e⟩ := bind_ok_iff.mp e
  obtain ⟨xs, e1, e⟩ := bind_ok_iff.mp e
  cases e
  rw [List.length_cons, h _ xs e1]
theorem HLe.lift {n : Nat} {f : Env → R (List PyData)} (h : HL n f) : HLe n (eLA f) := fun ρ ds e => by
  obtain ⟨x, e1, e⟩ := bind_ok_iff.mp e
  cases e
  exact h ρ x e1
/-- a def that changes nothing, called with arguments that may change slots -/
def eCall (m : List PyData → R PyData) (f : Env → R (List PyData × Env)) : FE := fun ρ => f ρ >>= fun r => m r.1 >>= fun d => .ok (d, r.2)
theorem ecall_core {K : PySem.W.Frag} {W : WX} {np : Nat} {κf κa : Kd} {m : List PyData → R PyData} {f : Env → R (List PyData × Env)} {σ : L2.St} {H : Hp} {Q : VK} {ρ : Env} {fp : Nat → List Addr} (hlen : HLe np f)
    (hκ : ∀ {H1 : Hp} {ρ1 : Env} {fp1 : Nat → List Addr} {n l : List Addr}, Step K H H1 ks σ ρ ρ1 fp fp1 → RCe κa H ks ρ fp ρ1 fp1 n → RF κf H1 n l → RCe κf H ks ρ fp ρ1 fp1 l)
    (h : Holds (eCall m f ρ) (fun r => ∀ v H' fp' m, Step K H H' ks σ ρ r.2 fp fp' → Ab K H' κf.ow v r.1 m → RCe κf H ks ρ fp r.2 fp' m → Q v H') fun c => ∀ H', Fr (Ow ks ρ fp) H H' → WEx K W c σ H') :
    Holds (f ρ) (fun r => ∀ v H' fp' m', Step K H H' ks σ ρ r.2 fp fp' → AbL K H' κa.ow v r.1 m' → RCe κa H ks ρ fp r.2 fp' m' → spP K np κf m v H' Q (WE W σ)) fun c => ∀ H', Fr (Ow ks ρ fp) H H' → WEx K W c σ H' := by
  have h1 := Holds.bind h
  cases e : f ρ with
  | ok r =>
    rw [e] at h1
    intro v H1 fp1 n s1 a1 r1
    exact ⟨by rw [a1.len, hlen ρ r e], r.1, n, a1.down, Holds.mono (Holds.bind h1) (fun d hd w H2 l s2 a2 r2 => hd w H2 fp1 l (s1.trans (Step.same s1.env s2)) a2 (hκ s1 r1 r2)) fun c hc H' s' => hc H' (Fr.comp (K := K) s1 (Same.fr s' _))⟩
  | ex c => rw [e] at h1; exact h1
  | no => rw [e] at h1; exact h1
theorem e_callF {m : List PyData → R PyData} {f : Env → R (List PyData × Env)} (F : FnP X k x ps .F m) (tk : Takes X W) (hr : RoomG k X.A) (ha : DEA X W ks κ (e :: es) f) (hlen : HLe ps.length f := by repeat (first | exact HLe.nil | refine HLe.cons ?_)) (hg : Gl X x := by rfl) (hdb : (x == ("__debug__" : Str)) = false := by decide)
    (he : starEach (e :: es) X.env = (false, eval e X.env) :: starEach es X.env := by rfl) (hpl : (backTo pos (starEach es X.env)).any (·.1) = false := by rfl) : DE X W ks .F (.Call (.Name x p) (e :: es) [] pos) (eCall m f) := by
  obtain ⟨fa, fd, G, hm, hk, hb⟩ := F.ex
  exact PE.imp (pe_callG' G hr hg hm hk hb (passAt tk) ha hdb he hpl) fun σ H Q ⟨ρ, fp, eo, h⟩ => ⟨ρ, fp, eo, ecall_core hlen (fun s _ r => RCe.new s r) h⟩
theorem e_callV {m : List PyData → R PyData} {f : Env → R (List PyData × Env)} (F : FnP X k x ps .V m) (tk : Takes X W) (hr : RoomG k X.A) (ha : DEA X W ks .V (e :: es) f) (hlen : HLe ps.length f := by repeat (first | exact HLe.nil | refine HLe.cons ?_)) (hg : Gl X x := by rfl) (hdb : (x == ("__debug__" : Str)) = false := by decide)
    (he : starEach (e :: es) X.env = (false, eval e X.env) :: starEach es X.env := by rfl) (hpl : (backTo pos (starEach es X.env)).any (·.1) = false := by rfl) : DE X W ks .V (.Call (.Name x p) (e :: es) [] pos) (eCall m f) := by
  obtain ⟨fa, fd, G, hm, hk, hb⟩ := F.ex
  refine PE.imp (pe_callG' G hr hg hm hk hb (passAt tk) ha hdb he hpl) fun σ H Q ⟨ρ, fp, eo, h⟩ => ⟨ρ, fp, eo, ecall_core hlen (fun s q r => ?_) h⟩
  exact fun z hz => (r z hz).elim (q z) fun y => ⟨fun o => s.env.notAl y o.al, .inr (s.fr.back y)⟩

/-! ### a def whose first parameter is a list that it changes -/
def MC (κ : Kd) (H : Hp) (n m0 m0' l : List Addr) : Prop := match κ with
  | .B => False
  | .V => ∀ a ∈ l, a ∉ m0' ∧ (a ∈ n ∨ a ∈ m0 ∨ H a = none)
  | .F => l.Nodup ∧ ∀ a ∈ l, a ∉ m0' ∧ (a ∈ m0 ∨ H a = none)
def spM (K : PySem.W.Frag) (np : Nat) (κ : Kd) (m : PyData → List PyData → R (PyData × PyData)) : Sp := fun vs H Q E => vs.length = np ∧ ∃ v0 vr d0 ds m0 n, vs = v0 :: vr ∧ Ab K H true v0 d0 m0 ∧ m0.Nodup ∧ AbL K H false vr ds n ∧ (∀ a ∈ n, a ∉ m0) ∧
  Holds (m d0 ds) (fun r => ∀ v H' m0' l, Fr (fun a => a ∈ m0) H H' → Ab K H' true v0 r.2 m0' → m0'.Nodup → (∀ a ∈ m0', a ∈ m0 ∨ H a = none) → Ab K H' κ.ow v r.1 l →
    MC κ H n m0 m0' l → Q v H') fun c => ∀ H', Fr (fun a => a ∈ m0) H H' → EEx K E c H'
structure FnMM (P : Program) (w : World) (K : PySem.W.Frag) (mg : Str → Option Value) (base : Heap) (k : Nat) (x : Str) (ps : List Str) (κ : Kd) (m : PyData → List PyData → R (PyData × PyData)) : Prop where
  ex : ∃ f fd, FnG P w K mg base (L2.CX P w) k f fd ps (spM K ps.length κ m) ∧ mg x = some (.ref f) ∧ PySem.W.keepIn K (.ref f) = true ∧ Binds K fd ps []
abbrev FnM (X : Cx) (k : Nat) (x : Str) (ps : List Str) (κ : Kd) (m : PyData → List PyData → R (PyData × PyData)) : Prop := FnMM X.prog X.w X.K X.mg X.base k x ps κ m
def slot (i : Nat) (ρ : Env) : R PyData := match ρ[i]? with
  | some (some d) => .ok d
  | _ => .no
theorem slot_ok {i : Nat} {ρ : Env} {β : Type} {g : PyData → R β} {P : β → Prop} {U : Ex → Prop} (h : Holds (slot i ρ >>= g) P U) : ∃ d, ρ[i]? = some (some d) ∧ Holds (g d) P U := by
  unfold slot at h
  split at h
  · exact ⟨_, by assumption, h⟩
  · exact h.elim
def eCallM (i : Nat) (m : PyData → List PyData → R (PyData × PyData)) (f : Env → R (List PyData × Env)) : FE := fun ρ => slot i ρ >>= fun _ => f ρ >>= fun r => slot i r.2 >>= fun d0 => m d0 r.1 >>= fun q => .ok (q.1, r.2.set i (some q.2))
/-- an owning slot's object has been changed by a callee -/
theorem Step.put {K : PySem.W.Frag} {H H1 H2 : Hp} {σ : L2.St} {ρ ρ1 : Env} {fp fp1 : Nat → List Addr} {i : Nat} {d0 d1 : PyData} {v0 : V} {m0' : List Addr} (hk : ks[i]? = some true) (s : Step K H H1 ks σ ρ ρ1 fp fp1) (h : ρ1[i]? = some (some d0)) (hv : σ[i]? = some (some v0))
    (fr : Fr (fun a => a ∈ fp1 i) H1 H2) (a : Ab K H2 true v0 d1 m0') (nd : m0'.Nodup) (sub : ∀ x ∈ m0', x ∈ fp1 i ∨ H1 x = none) : Step K H H2 ks σ ρ (ρ1.set i (some d1)) fp (setF fp1 i m0') := by
  have hl : i < ρ1.length := (List.getElem?_eq_some_iff.mp h).1
  have frO : Fr (Ow ks ρ1 fp1) H1 H2 := ⟨fun x o e q => fr.1 x o e fun z => q ⟨i, _, hk, h, z⟩, fr.2⟩
  have key : ∀ (l : Nat) (g : PyData), l ≠ i → ρ1[l]? = some (some g) → ∀ x ∈ m0', x ∉ fp1 l := fun l g hli hg x q z => by
    rcases sub x q with y | y
    · exact s.env.dj i l _ _ hk (fun z => hli z.symm) h hg x y z
    · exact s.env.tr ⟨l, g, hg, z⟩ y
  refine s.trans ⟨⟨by rw [List.length_set]; exact s.env.len, fun j e hj => ?_, fun j e ho hj => ?_, fun j l e g ho hne h1 h2 x hx' => ?_⟩, frO, fun x ⟨j, e, hj, hx'⟩ => ?_, fun x ⟨j, e, ho, hj, hx'⟩ => ?_⟩
  · rcases get_set hj with ⟨e0, _, e1⟩ | ⟨hne, hj⟩
    · cases e1
      refine ⟨v0, by rw [e0]; exact hv, ?_⟩
      rw [e0, setF_same, hk]
      exact a
    · obtain ⟨u, e1, a1⟩ := s.env.ab j e hj
      refine ⟨u, e1, ?_⟩
      rw [setF_ne hne]
      exact a1.fr fr fun x q z => s.env.dj i j _ _ hk (fun z => hne z.symm) h hj x z q
  · rcases get_set hj with ⟨e0, _, _⟩ | ⟨hne, hj⟩
    · rw [e0, setF_same]; exact nd
    · rw [setF_ne hne]; exact s.env.nd j e ho hj
  · rcases get_set h1 with ⟨e1, _, _⟩ | ⟨hn1, h1'⟩
    · rcases get_set h2 with ⟨e2, _⟩ | ⟨hn2, h2'⟩
      · exact absurd (e1.trans e2.symm) hne
      · rw [e1, setF_same] at hx'
        rw [setF_ne hn2]
        exact key l g hn2 h2' x hx'
    · rw [setF_ne hn1] at hx'
      rcases get_set h2 with ⟨e2, _, _⟩ | ⟨hn2, h2'⟩
      · rw [e2, setF_same]
        exact fun z => key j e hn1 h1' x z hx'
      · rw [setF_ne hn2]
        exact s.env.dj j l e g ho hne h1' h2' x hx'
  · rcases get_set hj with ⟨e0, _, _⟩ | ⟨hne, hj⟩
    · rw [e0, setF_same] at hx'
      exact (sub x hx').elim (fun y => .inl ⟨i, _, h, y⟩) .inr
    · rw [setF_ne hne] at hx'
      exact .inl ⟨j, e, hj, hx'⟩
  · rcases get_set hj with ⟨e0, _, _⟩ | ⟨hne, hj⟩
    · rw [e0, setF_same] at hx'
      exact (sub x hx').elim (fun y => .inl ⟨i, _, hk, h, y⟩) .inr
    · rw [setF_ne hne] at hx'
      exact .inl ⟨j, e, ho, hj, hx'⟩
theorem callM_core {K : PySem.W.Frag} {W : WX} {np : Nat} {κ : Kd} {i : Nat} {m : PyData → List PyData → R (PyData × PyData)} {g : Env → R (List PyData × Env)} {σ : L2.St} {H : Hp} {Q : VK} (hk : ks[i]? = some true) (hlen : HLe np g)
    (h : tE K W ks κ (eCallM i m g) σ H Q) : tCallS (spM K (np + 1) κ m) (WE W) (tCons (tVar i) (tEA K W ks .V g)) σ H Q := by
  obtain ⟨ρ, fp, eo, h⟩ := h
  obtain ⟨d00, e00, h⟩ := slot_ok h
  obtain ⟨v0, ev, _, _⟩ := eo.own hk e00
  refine ⟨v0, ev, ρ, fp, eo, ?_⟩
  have h1 := Holds.bind h
  cases eg : g ρ with
  | ex c => rw [eg] at h1; exact h1
  | no => rw [eg] at h1; exact h1
  | ok r =>
    rw [eg] at h1
    intro vr H1 fp1 n s1 a1 r1
    obtain ⟨d0, e0, h2⟩ := slot_ok h1
    obtain ⟨v0', ev', a0, nd0⟩ := s1.env.own hk e0
    rw [ev] at ev'; cases ev'
    refine ⟨by rw [List.length_cons, a1.len, hlen ρ r eg], v0, vr, d0, r.1, fp1 i, n, rfl, a0, nd0, a1.down, fun a q z => (r1 a q).1 ⟨i, d0, hk, e0, z⟩, Holds.mono (Holds.bind h2) (fun q hq v H2 m0' l fr a2 nd2 sub a3 c => ?_) fun c hc H' s' => hc H' (Fr.comp (K := K) s1 ⟨fun x o e q => s'.1 x o e fun z => q ⟨i, d0, hk, e0, z⟩, s'.2⟩)⟩
    have st := Step.put hk s1 e0 ev fr a2 nd2 sub
    refine hq v H2 (setF fp1 i m0') l st a3 ?_
    have offI : ∀ a, a ∉ m0' → (a ∉ fp1 i → ¬ Al r.2 fp1 a) → ∀ j e, (r.2.set i (some q.2))[j]? = some (some e) → a ∈ setF fp1 i m0' j → a ∈ fp1 i := fun a n0 nA j e hj z => by
      rcases get_set hj with ⟨e1, _, _⟩ | ⟨hne, hj⟩
      · rw [e1, setF_same] at z; exact absurd z n0
      · rw [setF_ne hne] at z
        by_cases y : a ∈ fp1 i
        · exact y
        · exact absurd ⟨j, e, hj, z⟩ (nA y)
    cases κ with
    | B => exact c.elim
    | V =>
      intro a qa
      obtain ⟨n0, src⟩ := c a qa
      refine ⟨fun ⟨j, e, ho, hj, z⟩ => ?_, ?_⟩
      · rcases get_set hj with ⟨e1, _, _⟩ | ⟨hne, hj⟩
        · rw [e1, setF_same] at z; exact n0 z
        · rw [setF_ne hne] at z
          rcases src with y | y | y
          · exact (r1 a y).1 ⟨j, e, ho, hj, z⟩
          · exact s1.env.dj i j _ _ hk (fun w => hne w.symm) e0 hj a y z
          · exact s1.env.tr ⟨j, e, hj, z⟩ y
      · rcases src with y | y | y
        · exact (r1 a y).2
        · exact s1.sub a ⟨i, d0, e0, y⟩
        · exact .inr (s1.fr.back y)
    | F =>
      refine ⟨c.1, fun a qa => ?_⟩
      obtain ⟨n0, src⟩ := c.2 a qa
      refine ⟨fun ⟨j, e, hj, z⟩ => ?_, ?_⟩
      · rcases get_set hj with ⟨e1, _, _⟩ | ⟨hne, hj⟩
        · rw [e1, setF_same] at z; exact n0 z
        · rw [setF_ne hne] at z
          rcases src with y | y
          · exact s1.env.dj i j _ _ hk (fun w => hne w.symm) e0 hj a y z
          · exact s1.env.tr ⟨j, e, hj, z⟩ y
      · rcases src with y | y
        · exact s1.subo a ⟨i, d0, hk, e0, y⟩
        · exact .inr (s1.fr.back y)
theorem e_callM {m : PyData → List PyData → R (PyData × PyData)} {g : Env → R (List PyData × Env)} {i : Nat} {y : Str} {py : Pos} {ps' : List Str} {q0 : Str} (F : FnM X k x (q0 :: ps') κ m) (tk : Takes X W) (hr : RoomG k X.A) (hki : ks[i]? = some true) (ha : DEA X W ks .V es g) (hlen : HLe ps'.length g := by repeat (first | exact HLe.nil | refine HLe.cons ?_))
    (hN : X.N[i]? = some y := by rfl) (hvv : Vis X.env.scope y := by first | exact Or.inl rfl | exact Or.inr (Or.inl rfl) | exact Or.inr (Or.inr rfl)) (hyd : (y == ("__debug__" : Str)) = false := by decide) (hycd : (y == ("__classdict__" : Str)) = false := by decide)
    (hg : Gl X x := by rfl) (hdb : (x == ("__debug__" : Str)) = false := by decide)
    (he : starEach (.Name y py :: es) X.env = (false, eval (.Name y py) X.env) :: starEach es X.env := by rfl) (hpl : (backTo pos (starEach es X.env)).any (·.1) = false := by rfl) : DE X W ks κ (.Call (.Name x p) (.Name y py :: es) [] pos) (eCallM i m g) := by
  obtain ⟨fa, fd, G, hm, hk, hb⟩ := F.ex
  exact PE.imp (pe_callG' G hr hg hm hk hb (passAt tk) (pa_cons (pe_var hN hvv hyd hycd) ha he) hdb he hpl) fun σ H Q h => callM_core hki hlen h
end
end PV

set_option Elab.async false
set_option linter.all false
set_option maxRecDepth 100000
set_option maxHeartbeats 1000000
set_option autoImplicit false
/-! PV, part f: statements. -/
namespace PV
open PySem PySem.Spec PyProof.Rows L2
inductive Fl where
  | nx | bk | ct
  | rt (d : PyData)
abbrev FS := Env → R (Fl × Env)
def Keep (P : List Nat) (σ σ' : L2.St) : Prop := σ'.length = σ.length ∧ ∀ i ∈ P, σ'[i]? = σ[i]?
theorem Keep.refl (P : List Nat) (σ : L2.St) : Keep P σ σ := ⟨rfl, fun _ _ => rfl⟩
theorem Keep.trans {P : List Nat} {σ σ1 σ2 : L2.St} (a : Keep P σ σ1) (b : Keep P σ1 σ2) : Keep P σ σ2 := ⟨b.1.trans a.1, fun i h => (b.2 i h).trans (a.2 i h)⟩
theorem Keep.set {P : List Nat} {σ : L2.St} {i : Nat} {v : Option V} (h : i ∉ P) : Keep P σ (σ.set i v) := ⟨List.length_set, fun j hj => List.getElem?_set_ne (fun e => h (by rw [e]; exact hj))⟩
theorem Keep.mono {P P0 : List Nat} {σ σ1 : L2.St} (a : Keep P σ σ1) (h : ∀ i ∈ P0, i ∈ P) : Keep P0 σ σ1 := ⟨a.1, fun i q => a.2 i (h i q)⟩
section
variable (K : PySem.W.Frag) (W : WX) (ks : List Bool) (P : List Nat) (κ : Kd)
def SE (D : Ends) (σ : L2.St) (H : Hp) (ρ : Env) (fp : Nat → List Addr) (r : Fl × Env) : Prop := match r.1 with
  | .nx => ∀ σ' H' fp', Step K H H' ks σ' ρ r.2 fp fp' → Keep P σ σ' → D.nx σ' H'
  | .bk => ∀ σ' H' fp', Step K H H' ks σ' ρ r.2 fp fp' → Keep P σ σ' → D.bk σ' H'
  | .ct => ∀ σ' H' fp', Step K H H' ks σ' ρ r.2 fp fp' → Keep P σ σ' → D.ct σ' H'
  | .rt d => ∀ σ' v H' fp' m, Step K H H' ks σ' ρ r.2 fp fp' → Keep P σ σ' → Ab K H' κ.ow v d m → RCe κ H ks ρ fp r.2 fp' m → D.rt v H'
def SX (σ : L2.St) (H : Hp) (ρ : Env) (fp : Nat → List Addr) (c : Ex) : Prop := ∀ σ' H', Keep P σ σ' → Fr (Ow ks ρ fp) H H' → WEx K W c σ' H'
def tS (f : FS) : TS := fun D σ H => ∃ ρ fp, EOk K H ks σ ρ fp ∧ Holds (f ρ) (SE K ks P κ D σ H ρ fp) (SX K W ks P σ H ρ fp)
end
section
variable {K : PySem.W.Frag} {W : WX} {ks : List Bool} {P : List Nat} {κ : Kd} {D : Ends} {σ σ1 : L2.St} {H H1 : Hp} {ρ ρ1 : Env} {fp fp1 : Nat → List Addr}
theorem SE.pre {r : Fl × Env} (s : Step K H H1 ks σ1 ρ ρ1 fp fp1) (k : Keep P σ σ1) (h : SE K ks P κ D σ H ρ fp r) : SE K ks P κ D σ1 H1 ρ1 fp1 r := by
  obtain ⟨f, ρ2⟩ := r
  cases f with
  | nx => exact fun σ' H' fp' s' k' => h σ' H' fp' (s.trans s') (k.trans k')
  | bk => exact fun σ' H' fp' s' k' => h σ' H' fp' (s.trans s') (k.trans k')
  | ct => exact fun σ' H' fp' s' k' => h σ' H' fp' (s.trans s') (k.trans k')
  | rt d => exact fun σ' v H' fp' m s' k' a r => h σ' v H' fp' m (s.trans s') (k.trans k') a (RCe.pre s r)
theorem SX.pre {c : Ex} (s : Step K H H1 ks σ1 ρ ρ1 fp fp1) (k : Keep P σ σ1) (h : SX K W ks P σ H ρ fp c) : SX K W ks P σ1 H1 ρ1 fp1 c := fun σ' H' k' f => h σ' H' (k.trans k') (Fr.comp (K := K) s f)
theorem tS.more {f : FS} (s : Step K H H1 ks σ1 ρ ρ1 fp fp1) (k : Keep P σ σ1) (h : Holds (f ρ1) (SE K ks P κ D σ H ρ fp) (SX K W ks P σ H ρ fp)) : tS K W ks P κ f D σ1 H1 :=
  ⟨ρ1, fp1, s.env, h.mono (fun r hr => hr.pre s k) fun c hc => hc.pre s k⟩
theorem SX.now {c : Ex} (h : SX K W ks P σ H ρ fp c) : ∀ H', Fr (Ow ks ρ fp) H H' → WEx K W c σ H' := fun H' f => h σ H' (Keep.refl _ _) f
end
theorem PS.imp {X : Cx} {st : Stmt} {t t' : TS} (h : PS X st t) (w : ∀ D σ H, t' D σ H → t D σ H) : PS X st t' := ⟨fun pins s σ H D I q => h.run pins s σ H D I (w D σ H q)⟩
theorem PSs.imp {X : Cx} {st : List Stmt} {t t' : TS} (h : PSs X st t) (w : ∀ D σ H, t' D σ H → t D σ H) : PSs X st t' := ⟨fun pins s σ H D I q => h.run pins s σ H D I (w D σ H q)⟩
section
variable {X : Cx} {W : WX} {ks : List Bool} {P : List Nat} {κ : Kd} {a b c e : Expr} {pos : Pos} {st : Stmt} {rest : List Stmt}
abbrev DS (X : Cx) (W : WX) (ks : List Bool) (P : List Nat) (κ : Kd) (st : Stmt) (f : FS) : Prop := PS X st (tS X.K W ks P κ f)
abbrev DSs (X : Cx) (W : WX) (ks : List Bool) (P : List Nat) (κ : Kd) (st : List Stmt) (f : FS) : Prop := PSs X st (tS X.K W ks P κ f)
def sNil : FS := fun ρ => .ok (.nx, ρ)
def sSeq (f g : FS) : FS := fun ρ => f ρ >>= fun r => match r.1 with
  | .nx => g r.2
  | .bk => .ok (.bk, r.2)
  | .ct => .ok (.ct, r.2)
  | .rt d => .ok (.rt d, r.2)
def sDrop (f : FE) : FS := fun ρ => f ρ >>= fun r => .ok (.nx, r.2)
def sRet (f : FE) : FS := fun ρ => f ρ >>= fun r => .ok (.rt r.1, r.2)
def sSet (i : Nat) (f : FE) : FS := fun ρ => f ρ >>= fun r => .ok (.nx, r.2.set i (some r.1))
def sIf (t : Env → R (Bool × Env)) (f g : FS) : FS := fun ρ => t ρ >>= fun r => if r.1 then f r.2 else g r.2
theorem ss_nil : DSs X W ks P κ [] sNil := PSs.imp pss_nil fun D σ H ⟨ρ, fp, eo, h⟩ => h σ H fp (Step.same eo (Same.refl H)) (Keep.refl _ _)
theorem ss_cons {f g : FS} (h1 : DS X W ks P κ st f) (h2 : DSs X W ks P κ rest g) : DSs X W ks P κ (st :: rest) (sSeq f g) := PSs.imp (pss_cons h1 h2) fun D σ H ⟨ρ, fp, eo, h⟩ =>
  ⟨ρ, fp, eo, (Holds.bind h).mono (fun r hr => by
    obtain ⟨fl, ρ1⟩ := r
    cases fl with
    | nx => exact fun σ' H' fp' s k => tS.more s k hr
    | bk => exact hr
    | ct => exact hr
    | rt d => exact hr) fun c hc => hc⟩
theorem ss_one {f : FS} (h1 : DS X W ks P κ st f) : DSs X W ks P κ [st] f := pss_one h1
theorem s_pass : DS X W ks P κ (.Pass pos) sNil := PS.imp ps_pass fun D σ H ⟨ρ, fp, eo, h⟩ => h σ H fp (Step.same eo (Same.refl H)) (Keep.refl _ _)
theorem s_brk : DS X W ks P κ (.Break pos) (fun ρ => .ok (.bk, ρ)) := PS.imp ps_break fun D σ H ⟨ρ, fp, eo, h⟩ => h σ H fp (Step.same eo (Same.refl H)) (Keep.refl _ _)
theorem s_cont : DS X W ks P κ (.Continue pos) (fun ρ => .ok (.ct, ρ)) := PS.imp ps_continue fun D σ H ⟨ρ, fp, eo, h⟩ => h σ H fp (Step.same eo (Same.refl H)) (Keep.refl _ _)
theorem s_expr {f : FE} {κ' : Kd} (he : DE X W ks κ' e f) (hs : swapsWith e none pos.line X.env = pure false := by rfl) : DS X W ks P κ (.Expr e pos) (sDrop f) := PS.imp (ps_expr he hs) fun D σ H ⟨ρ, fp, eo, h⟩ =>
  ⟨ρ, fp, eo, (Holds.bind h).mono (fun r hr v H' fp' m s _ _ => hr σ H' fp' s (Keep.refl _ _)) fun c hc => SX.now hc⟩
theorem s_ret {f : FE} (he : DE X W ks κ e f) : DS X W ks P κ (.Return (some e) pos) (sRet f) := PS.imp (ps_ret he) fun D σ H ⟨ρ, fp, eo, h⟩ =>
  ⟨ρ, fp, eo, (Holds.bind h).mono (fun r hr v H' fp' m s ab rc => hr σ v H' fp' m s (Keep.refl _ _) ab rc) fun c hc => SX.now hc⟩
theorem s_retN : DS X W ks P κ (.Return none pos) (fun ρ => .ok (.rt .none, ρ)) := PS.imp ps_retN fun D σ H ⟨ρ, fp, eo, h⟩ => h σ _ H fp [] (Step.same eo (Same.refl H)) (Keep.refl _ _) .non (RCe.nil _)
theorem s_if {t : Env → R (Bool × Env)} {f g : FS} {xs ys : List Stmt} (hc : DET X W ks c t) (ha : DSs X W ks P κ xs f) (hb : DSs X W ks P κ ys g) : DS X W ks P κ (.If c xs ys pos) (sIf t f g) := PS.imp (ps_if hc ha hb) fun D σ H ⟨ρ, fp, eo, h⟩ =>
  ⟨ρ, fp, eo, (Holds.bind h).mono (fun r hr H' fp' s => by
    obtain ⟨b, ρ1⟩ := r
    cases b with
    | true => exact tS.more s (Keep.refl _ _) hr
    | false => exact tS.more s (Keep.refl _ _) hr) fun c hc => SX.now hc⟩
theorem s_set {i : Nat} {x : Str} {f : FE} {bk : Bool} {pos' : Pos} (he : DE X W ks (kdOf bk) e f) (hk : ks[i]? = some bk := by rfl) (hP : i ∉ P := by decide) (hN : X.N.Nodup) (hi : X.N[i]? = some x := by rfl) (hx : Loc X.env.scope x := by first | exact Or.inl rfl | exact Or.inr rfl) (hs : swapsWith e (some (.Name x pos')) pos.line X.env = pure false := by rfl) (hf : X.fn x = true ∨ X.env.scope.names.lookup x = some .local := by first | exact .inl rfl | exact .inr rfl | assumption) :
    DS X W ks P κ (.Assign [.Name x pos'] e pos) (sSet i f) := PS.imp (ps_set hN hi hx he hs hf) fun D σ H ⟨ρ, fp, eo, h⟩ =>
  ⟨ρ, fp, eo, (Holds.bind h).mono (fun r hr v H' fp' m s ab rc => hr _ H' _ (Step.set hk s (ab.any _) rc) (Keep.set hP)) fun c hc => SX.now hc⟩

/-! ### several targets -/
def sets : List Nat → List PyData → Env → Env
  | i :: is, d :: ds, ρ => sets is ds (ρ.set i (some d))
  | _, _, ρ => ρ
def sUnp (is : List Nat) (f : FE) : FS := fun ρ => f ρ >>= fun r => match r.1 with
  | .tuple ds => if ds.length = is.length then .ok (.nx, sets is ds r.2) else .no
  | _ => .no
/-- targets that are names which do not own -/
def tgN : List Nat → TGs
  | [] => gNil
  | i :: is => gCons (gName i) (tgN is)
theorem tgN_run {K : PySem.W.Frag} {H H1 : Hp} {ρ : Env} {fp : Nat → List Addr} {Q : L2.St → Hp → Prop} : ∀ {is : List Nat} {vs : List V} {ds : List PyData} {fp1 : Nat → List Addr} {σ1 : L2.St} {ρ1 : Env} {m : List Addr} {o : Bool}, (∀ i ∈ is, ks[i]? = some false ∧ i ∉ P) → is.length = ds.length →
    Step K H H1 ks σ1 ρ ρ1 fp fp1 → AbL K H1 o vs ds m → RCe .V H ks ρ fp ρ1 fp1 m → (∀ σ' fp', Step K H H1 ks σ' ρ (sets is ds ρ1) fp fp' → Keep P σ1 σ' → Q σ' H1) → tgN is vs σ1 H1 Q
  | [], vs, ds, fp1, σ1, ρ1, m, o, hk, hl, s, a, r, h => by
    cases ds with
    | cons => cases hl
    | nil =>
      cases a
      exact ⟨rfl, h σ1 fp1 s (Keep.refl _ _)⟩
  | i :: is, vs, ds, fp1, σ1, ρ1, m, o, hk, hl, s, a, r, h => by
    cases ds with
    | nil => cases hl
    | cons d ds =>
      cases a with
      | @cons v vs _ _ m1 n1 a1 a2 =>
        obtain ⟨hki, hPi⟩ := hk i (List.mem_cons_self ..)
        have r1 : RCe .V H ks ρ fp ρ1 fp1 m1 := fun x q => r x (List.mem_append_left _ q)
        have r2 : RCe .V H ks ρ fp ρ1 fp1 n1 := fun x q => r x (List.mem_append_right _ q)
        have st := Step.set (i := i) (b := false) hki s (a1.any false) r1
        have r2' : RCe .V H ks ρ fp (ρ1.set i (some d)) (setF fp1 i m1) n1 := fun x q => ⟨fun ⟨j, e, ho, hj, hx⟩ => by
          rcases get_set hj with ⟨e0, _, _⟩ | ⟨hne, hj⟩
          · rw [e0] at ho; unfold own at ho; rw [hki] at ho; cases ho
          · rw [setF_ne hne] at hx
            exact (r2 x q).1 ⟨j, e, ho, hj, hx⟩, (r2 x q).2⟩
        exact ⟨v, vs, rfl, tgN_run (fun j hj => hk j (List.mem_cons_of_mem _ hj)) (by simpa using hl) st a2 r2' fun σ' fp' s' k' => h σ' fp' s' ((Keep.set hPi).trans k')⟩
theorem s_unp {is : List Nat} {es : List Expr} {k : Nat} {f : FE} {tpos : Pos} {n : Nat} (hc : X.calm = true) (he : DE X W ks .V e f) (hg : PGs X es (tgN is)) (hk : ∀ i ∈ is, ks[i]? = some false ∧ i ∉ P := by decide)
    (hn : (assignEach es X.env).length = n := by rfl) (hn2 : n = is.length := by rfl) (hst : (assignEach es X.env).findIdx? (·.1) = none := by rfl)
    (hs : swapsWithSole [.Tuple es k tpos] e pos.line X.env = pure false := by rfl) (hw : swappedStores [.Tuple es k tpos] e X.env = pure none := by rfl) (h1 : (assignEach [.Tuple es k tpos] X.env).map (·.2) = [assign (.Tuple es k tpos) X.env] := by rfl) :
    DS X W ks P κ (.Assign [.Tuple es k tpos] e pos) (sUnp is f) := PS.imp (ps_asg he (pg_tup hc hg hn hst) hs hw h1) fun D σ H ⟨ρ, fp, eo, h⟩ =>
  ⟨ρ, fp, eo, (Holds.bind h).mono (fun r hr v H' fp' m s ab rc => by
    obtain ⟨d, ρ1⟩ := r
    cases d with
    | tuple ds =>
      by_cases hl : ds.length = is.length
      · have hr' : Holds (if ds.length = is.length then R.ok (Fl.nx, sets is ds ρ1) else R.no) _ _ := hr
        rw [if_pos hl] at hr'
        obtain ⟨a, xs, rfl, hq, al⟩ := ab.tuple
        exact ⟨a, xs, rfl, hq, by rw [al.len, hl, hn2], tgN_run hk hl.symm s al rc fun σ' fp2 s' k' => hr' σ' H' fp2 s' k'⟩
      · have hr' : Holds (if ds.length = is.length then R.ok (Fl.nx, sets is ds ρ1) else R.no) _ _ := hr
        rw [if_neg hl] at hr'
        exact hr'.elim
    | _ => exact hr.elim) fun c hc => SX.now hc⟩
/-- a, b = x, y -/
def sPar (i j : Nat) (f : Env → R (List PyData × Env)) : FS := fun ρ => f ρ >>= fun r => match r.1 with
  | [x, y] => .ok (.nx, (r.2.set i (some x)).set j (some y))
  | _ => .no
theorem s_par {i j : Nat} {x y : Str} {f : Env → R (List PyData × Env)} {px py pt : Pos} {kt k2 pt2} (hc : X.calm = true) (ha : DEA X W ks .V [a, b] f) (hN : X.N.Nodup) (hij : i ≠ j := by decide) (hki : ks[i]? = some false := by rfl) (hkj : ks[j]? = some false := by rfl) (hPi : i ∉ P := by decide) (hPj : j ∉ P := by decide)
    (hi : X.N[i]? = some x := by rfl) (hj : X.N[j]? = some y := by rfl) (hx : X.env.scope.names.lookup x = some .local := by rfl) (hy : X.env.scope.names.lookup y = some .local := by rfl)
    (hw : swappedStores [.Tuple [.Name x px, .Name y py] kt pt] (.Tuple [a, b] k2 pt2) X.env = pure (some [x, y]) := by rfl)
    (hs : swapsWithSole [.Tuple [.Name x px, .Name y py] kt pt] (.Tuple [a, b] k2 pt2) pos.line X.env = pure false := by rfl) :
    DS X W ks P κ (.Assign [.Tuple [.Name x px, .Name y py] kt pt] (.Tuple [a, b] k2 pt2) pos) (sPar i j f) := PS.imp (ps_par hc hN hi hj hij hx hy ha hw hs) fun D σ H ⟨ρ, fp, eo, h⟩ =>
  ⟨ρ, fp, eo, (Holds.bind h).mono (fun r hr v H' fp' m s ab rc => by
    obtain ⟨ds, ρ1⟩ := r
    match ds, ab, hr with
    | [], _, hr => exact hr.elim
    | [_], _, hr => exact hr.elim
    | _ :: _ :: _ :: _, _, hr => exact hr.elim
    | [d1, d2], ab, hr =>
      cases ab with
      | @cons v1 vs1 _ _ m1 n1 a1 a2 =>
        cases a2 with
        | @cons v2 vs2 _ _ m2 n2 a2 a3 =>
          cases a3
          refine ⟨v1, v2, rfl, ?_⟩
          have r1 : RCe .V H ks ρ fp ρ1 fp' m1 := fun x q => rc x (List.mem_append_left _ q)
          have r2 : RCe .V H ks ρ fp ρ1 fp' m2 := fun x q => rc x (List.mem_append_right _ (List.mem_append_left _ q))
          have st := Step.set (i := i) (b := false) hki s (a1.any false) r1
          have r2' : RCe .V H ks ρ fp (ρ1.set i (some d1)) (setF fp' i m1) m2 := fun x q => ⟨fun ⟨j, e, ho, hj, hx⟩ => by
            rcases get_set hj with ⟨e0, _, _⟩ | ⟨hne, hj⟩
            · rw [e0] at ho; unfold own at ho; rw [hki] at ho; cases ho
            · rw [setF_ne hne] at hx
              exact (r2 x q).1 ⟨j, e, ho, hj, hx⟩, (r2 x q).2⟩
          have st2 := Step.set (i := j) (b := false) hkj st (a2.any false) r2'
          exact hr _ H' _ st2 ((Keep.set hPi).trans (Keep.set hPj))) fun c hc => SX.now hc⟩

/-! ### x op= e -/
def sAug (i : Nat) (o : PyData → PyData → Option PyData) (f : FE) : FS := fun ρ => slot i ρ >>= fun x => if flat x then f ρ >>= fun r => ofO (o x r.1) >>= fun z => if flat z then .ok (.nx, r.2.set i (some z)) else .no else .no
theorem s_aug {i : Nat} {x : Str} {op : Operator} {r : R2} {o : PyData → PyData → Option PyData} {f : FE} {bk : Bool} {pos' : Pos} (ho : OpR X (inplaceOp op) r) (hd : Op2 X.K r o) (he : DE X W ks .B e f) (hN : X.N.Nodup) (hk : ks[i]? = some bk := by rfl) (hP : i ∉ P := by decide) (hi : X.N[i]? = some x := by rfl) (hx : Loc X.env.scope x := by first | exact Or.inl rfl | exact Or.inr rfl)
    (hf : X.fn x = true ∨ X.env.scope.names.lookup x = some .local := by first | exact .inl rfl | exact .inr rfl | assumption) : DS X W ks P κ (.AugAssign (.Name x pos') op e pos) (sAug i o f) := PS.imp (ps_aug (ti := r) hN hi hx he ho hf) fun D σ H ⟨ρ, fp, eo, h⟩ => by
  obtain ⟨d, e0, h⟩ := slot_ok h
  obtain ⟨v, e1, ab⟩ := eo.ab i d e0
  refine ⟨v, e1, ρ, fp, eo, ?_⟩
  by_cases hfl : flat d = true
  · rw [if_pos hfl] at h
    have em := ab.flat hfl
    refine (Holds.bind h).mono (fun q hq u H' fp' m s a1 _ => ?_) fun c hc => SX.now hc
    obtain ⟨z, ez, hq⟩ := Holds.ofO (Holds.bind hq)
    by_cases hfz : flat z = true
    · rw [if_pos hfz] at hq
      rw [em] at ab
      refine hd.run H' v u d q.1 [] m z _ ((ab.fr s.fr fun _ z => nomatch z).any _) a1.down ez fun w H3 m' s3 a3 _ => ?_
      have em' := a3.flat hfz
      subst em'
      have st := Step.set (i := i) hk (s.trans (Step.same s.env s3)) (a3.any bk) (RCe.nil _)
      exact hq _ H3 _ st (Keep.set hP)
    · rw [if_neg hfz] at hq
      exact hq.elim
  · rw [if_neg hfl] at h
    exact h.elim

/-! ### raise -/
/-- an exception class of the program without an own __init__, over ValueError -/
structure ExcF (X : Cx) (x : Str) : Prop where
  q : PySem.W.excIn X.K (He.ga X.K x) He.veBase "ValueError.__new__" = true
  g : X.mg x = some (.ref (He.ga X.K x))
  k : PySem.W.keepIn X.K (.ref (He.ga X.K x)) = true
  r : Raises X (.ref (He.ga X.K x))
theorem s_raise {x : Str} {cpos : Pos} {p : Pos} {z : Str} {j : Nat} {p2 : Pos} (hc : X.calm = true) (tk : Takes X W) (F : ExcF X x) (hg : Gl X x := by rfl) (hdb : (x == ("__debug__" : Str)) = false := by decide) :
    DS X W ks P κ (.Raise (some (.Call (.Name x p) [.Constant (.str z) j p2] [] cpos)) none pos) (fun _ => .ex ⟨x, none⟩) :=
  PS.imp (ps_raise hc tk (pmk_own PySem.F.excBase_ValueError F.q F.g F.k F.r hg hdb)) fun D σ H ⟨ρ, fp, eo, h⟩ => h σ H (Keep.refl _ _) (Fr.refl _ _)

/-! ### while -/
/-- at most so many turns -/
def turns : Nat := 4611686018427387904
def sWhileN (t : Env → R (Bool × Env)) (f : FS) : Nat → FS
  | 0 => fun _ => .no
  | n + 1 => fun ρ => t ρ >>= fun r => if r.1 then f r.2 >>= fun q => match q.1 with
    | .nx => sWhileN t f n q.2
    | .ct => sWhileN t f n q.2
    | .bk => .ok (.nx, q.2)
    | .rt d => .ok (.rt d, q.2) else .ok (.nx, r.2)
def sWhile (t : Env → R (Bool × Env)) (f : FS) : FS := sWhileN t f turns
theorem s_while {t : Env → R (Bool × Env)} {f : FS} {xs : List Stmt} (hp : PassesOwn (model X.prog X.w) X.A X.env X.xe) (hc : DET X W ks c t) (hb : DSs X W ks P κ xs f) : DS X W ks P κ (.While c xs [] pos) (sWhile t f) :=
  PS.imp (ps_while hp hc hb) fun D σ H ⟨ρ, fp, eo, h⟩ => by
    refine ⟨fun n σ1 H1 => ∃ ρ1 fp1, Step X.K H H1 ks σ1 ρ ρ1 fp fp1 ∧ Keep P σ σ1 ∧ Holds (sWhileN t f n ρ1) (SE X.K ks P κ D σ H ρ fp) (SX X.K W ks P σ H ρ fp), ⟨turns, ρ, fp, Step.same eo (Same.refl H), Keep.refl _ _, h⟩, ?_⟩
    rintro n σ1 H1 ⟨ρ1, fp1, s1, k1, h1⟩
    cases n with
    | zero => exact h1.elim
    | succ n =>
      refine ⟨ρ1, fp1, s1.env, (Holds.bind h1).mono (fun r hr H2 fp2 s2 => ?_) fun c hc H' s' => SX.now (hc.pre s1 k1) H' s'⟩
      obtain ⟨b, ρ2⟩ := r
      cases b with
      | false =>
        rw [if_neg Bool.false_ne_true]
        exact hr σ1 H2 fp2 (s1.trans s2) k1
      | true =>
        rw [if_pos rfl]
        refine ⟨fun σ3 H3 => ∃ ρ3 fp3, Step X.K H H3 ks σ3 ρ ρ3 fp fp3 ∧ Keep P σ σ3 ∧ Holds (sWhileN t f n ρ3) (SE X.K ks P κ D σ H ρ fp) (SX X.K W ks P σ H ρ fp), fun σ' H' q => ⟨n, Nat.lt_succ_self n, q⟩, ?_⟩
        have s12 := s1.trans s2
        have hr' : Holds (f ρ2 >>= fun q => match q.1 with
          | .nx => sWhileN t f n q.2
          | .ct => sWhileN t f n q.2
          | .bk => .ok (.nx, q.2)
          | .rt d => .ok (.rt d, q.2)) (SE X.K ks P κ D σ H ρ fp) (SX X.K W ks P σ H ρ fp) := hr
        refine ⟨ρ2, fp2, s12.env, (Holds.bind hr').mono (fun q hq => ?_) fun c hc => hc.pre s12 k1⟩
        obtain ⟨fl, ρ3⟩ := q
        cases fl with
        | nx => exact fun σ' H' fp' s' k' => ⟨ρ3, fp', s12.trans s', k1.trans k', hq⟩
        | ct => exact fun σ' H' fp' s' k' => ⟨ρ3, fp', s12.trans s', k1.trans k', hq⟩
        | bk => exact fun σ' H' fp' s' k' => hq σ' H' fp' (s12.trans s') (k1.trans k')
        | rt d =>
          have hq' : SE X.K ks P κ D σ H ρ fp (.rt d, ρ3) := hq
          exact hq'.pre s12 k1
end
end PV

set_option Elab.async false
set_option linter.all false
set_option maxRecDepth 100000
set_option maxHeartbeats 1000000
set_option autoImplicit false
/-! PV, part g: targets, what is walked, for, comprehensions. -/
namespace PV
open PySem PySem.Spec PyProof.Rows L2
/-! ### targets -/
inductive Tg where
  | nm (i : Nat)
  | tp (ts : List Tg)
mutual
def gT (K : PySem.W.Frag) : Tg → TG
  | .nm i => gName i
  | .tp ts => gTup K ts.length (gTs K ts)
def gTs (K : PySem.W.Frag) : List Tg → TGs
  | [] => gNil
  | t :: ts => gCons (gT K t) (gTs K ts)
end
mutual
def put : Tg → PyData → Env → R Env
  | .nm i, d, ρ => .ok (ρ.set i (some d))
  | .tp ts, d, ρ => match d with
    | .tuple ds => puts ts ds ρ
    | _ => .no
def puts : List Tg → List PyData → Env → R Env
  | [], [], ρ => .ok ρ
  | t :: ts, d :: ds, ρ => put t d ρ >>= puts ts ds
  | _, _, _ => .no
end
mutual
def tgS : Tg → List Nat
  | .nm i => [i]
  | .tp ts => tgSs ts
def tgSs : List Tg → List Nat
  | [] => []
  | t :: ts => tgS t ++ tgSs ts
end
mutual
theorem put_ex : ∀ (t : Tg) (d : PyData) (ρ1 : Env) (c : Ex), put t d ρ1 ≠ .ex c
  | .nm i, d, ρ1, c, h => by simp [put] at h
  | .tp ts, d, ρ1, c, h => by
    cases d <;> simp only [put, reduceCtorEq] at h
    exact puts_ex ts _ _ _ h
theorem puts_ex : ∀ (ts : List Tg) (ds : List PyData) (ρ1 : Env) (c : Ex), puts ts ds ρ1 ≠ .ex c
  | [], [], _, _, h => by simp [puts] at h
  | [], _ :: _, _, _, h => by simp [puts] at h
  | _ :: _, [], _, _, h => by simp [puts] at h
  | t :: ts, d :: ds, ρ1, c, h => by
    simp only [puts] at h
    rcases bind_ex_iff.mp h with h | ⟨ρ2, _, h⟩
    · exact put_ex t d ρ1 c h
    · exact puts_ex ts ds ρ2 c h
end
theorem puts_len : ∀ {ts : List Tg} {ds : List PyData} {ρ1 : Env} {P : Env → Prop} {U : Ex → Prop}, Holds (puts ts ds ρ1) P U → ds.length = ts.length
  | [], [], _, _, _, _ => rfl
  | [], _ :: _, _, _, _, h => by simp [puts, Holds] at h
  | _ :: _, [], _, _, _, h => by simp [puts, Holds] at h
  | t :: ts, d :: ds, ρ1, P, U, h => by
    have h' : Holds (put t d ρ1 >>= puts ts ds) P U := by simpa only [puts] using h
    cases e : put t d ρ1 with
    | ok ρ2 => rw [e] at h'; simp [puts_len (ts := ts) h']
    | ex c => exact absurd e (put_ex t d ρ1 c)
    | no => rw [e] at h'; exact h'.elim
structure Off (is : List Nat) (m : List Addr) (σ1 σ2 : L2.St) (ρ1 ρ2 : Env) (fp1 fp2 : Nat → List Addr) : Prop where
  len : σ2.length = σ1.length
  st : ∀ j, j ∉ is → σ2[j]? = σ1[j]?
  en : ∀ j, j ∉ is → ρ2[j]? = ρ1[j]?
  fp : ∀ j, j ∉ is → fp2 j = fp1 j
  al : ∀ a, Al ρ2 fp2 a → Al ρ1 fp1 a ∨ a ∈ m
section
variable {K : PySem.W.Frag} {ks : List Bool} {is js : List Nat} {σ σ1 σ2 σ3 : L2.St} {ρ ρ1 ρ2 ρ3 : Env} {fp fp1 fp2 fp3 : Nat → List Addr} {H H1 : Hp}
theorem Off.refl {m : List Addr} : Off is m σ1 σ1 ρ1 ρ1 fp1 fp1 := ⟨rfl, fun _ _ => rfl, fun _ _ => rfl, fun _ _ => rfl, fun _ h => .inl h⟩
theorem Off.trans {m : List Addr} (a : Off is m σ1 σ2 ρ1 ρ2 fp1 fp2) (b : Off is m σ2 σ3 ρ2 ρ3 fp2 fp3) : Off is m σ1 σ3 ρ1 ρ3 fp1 fp3 :=
  ⟨b.len.trans a.len, fun j h => (b.st j h).trans (a.st j h), fun j h => (b.en j h).trans (a.en j h), fun j h => (b.fp j h).trans (a.fp j h), fun x h => (b.al x h).elim (a.al x) .inr⟩
theorem Off.mono {m n : List Addr} (a : Off is m σ1 σ2 ρ1 ρ2 fp1 fp2) (h : ∀ i ∈ is, i ∈ js) (g : ∀ x ∈ m, x ∈ n) : Off js n σ1 σ2 ρ1 ρ2 fp1 fp2 := ⟨a.len, fun j n => a.st j fun z => n (h j z), fun j n => a.en j fun z => n (h j z), fun j n => a.fp j fun z => n (h j z), fun x q => (a.al x q).imp id (g x)⟩
theorem Off.keep {P : List Nat} {m : List Addr} (a : Off is m σ1 σ2 ρ1 ρ2 fp1 fp2) (h : ∀ i ∈ is, i ∉ P) : Keep P σ1 σ2 := ⟨a.len, fun j hj => a.st j fun z => h j z hj⟩
theorem Off.ow {m : List Addr} (a : Off is m σ1 σ2 ρ1 ρ2 fp1 fp2) (hk : ∀ i ∈ is, ks[i]? = some false) {x : Addr} (h : Ow ks ρ2 fp2 x) : Ow ks ρ1 fp1 x := by
  obtain ⟨j, d, ho, e, q⟩ := h
  have n : j ∉ is := fun z => by unfold own at ho; rw [hk j z] at ho; cases ho
  exact ⟨j, d, ho, by rw [← a.en j n]; exact e, by rw [← a.fp j n]; exact q⟩
theorem Off.ow' {m : List Addr} (a : Off is m σ1 σ2 ρ1 ρ2 fp1 fp2) (hk : ∀ i ∈ is, ks[i]? = some false) {x : Addr} (h : Ow ks ρ1 fp1 x) : Ow ks ρ2 fp2 x := by
  obtain ⟨j, d, ho, e, q⟩ := h
  have n : j ∉ is := fun z => by unfold own at ho; rw [hk j z] at ho; cases ho
  exact ⟨j, d, ho, by rw [a.en j n]; exact e, by rw [a.fp j n]; exact q⟩
mutual
theorem T_run : ∀ (t : Tg) {x : V} {d : PyData} {m : List Addr} {o : Bool} {σ1 : L2.St} {ρ1 : Env} {fp1 : Nat → List Addr} {Q : L2.St → Hp → Prop}, (∀ i ∈ tgS t, ks[i]? = some false) → Step K H H1 ks σ1 ρ ρ1 fp fp1 → Ab K H1 o x d m → RCe .V H ks ρ fp ρ1 fp1 m →
    Holds (put t d ρ1) (fun ρ2 => ∀ σ' fp', Step K H H1 ks σ' ρ ρ2 fp fp' → Off (tgS t) m σ1 σ' ρ1 ρ2 fp1 fp' → Q σ' H1) (fun _ => False) → gT K t x σ1 H1 Q
  | .nm i, x, d, m, o, σ1, ρ1, fp1, Q, hk, s, a, r, h => by
    have hki : ks[i]? = some false := hk i (by simp [tgS])
    have h' : ∀ σ' fp', Step K H H1 ks σ' ρ (ρ1.set i (some d)) fp fp' → Off (tgS (.nm i)) m σ1 σ' ρ1 (ρ1.set i (some d)) fp1 fp' → Q σ' H1 := by
      simpa only [put, Holds] using h
    refine h' _ _ (Step.set (b := false) hki s (a.any _) r) ⟨by simp, fun j n => ?_, fun j n => ?_, fun j n => ?_, fun x ⟨j, e, hj, hx⟩ => ?_⟩
    · exact List.getElem?_set_ne fun e => n (by simp [tgS, e])
    · exact List.getElem?_set_ne fun e => n (by simp [tgS, e])
    · exact setF_ne fun e => n (by simp [tgS, e])
    · rcases get_set hj with ⟨e0, _, _⟩ | ⟨hne, hj⟩
      · rw [e0, setF_same] at hx; exact .inr hx
      · rw [setF_ne hne] at hx; exact .inl ⟨j, e, hj, hx⟩
  | .tp ts, x, d, m, o, σ1, ρ1, fp1, Q, hk, s, a, r, h => by
    cases d with
    | tuple ds =>
      obtain ⟨p, xs, rfl, hq, al⟩ := a.tuple
      have h' : Holds (puts ts ds ρ1) (fun ρ2 => ∀ σ' fp', Step K H H1 ks σ' ρ ρ2 fp fp' → Off (tgSs ts) m σ1 σ' ρ1 ρ2 fp1 fp' → Q σ' H1) (fun _ => False) := by
        simpa only [put, tgS] using h
      have hl : ds.length = ts.length := puts_len h'
      exact ⟨p, xs, rfl, hq, by rw [al.len, hl], Ts_run ts (by simpa only [tgS] using hk) s al r h'⟩
    | _ => simp [put, Holds] at h
theorem Ts_run : ∀ (ts : List Tg) {xs : List V} {ds : List PyData} {m : List Addr} {o : Bool} {σ1 : L2.St} {ρ1 : Env} {fp1 : Nat → List Addr} {Q : L2.St → Hp → Prop}, (∀ i ∈ tgSs ts, ks[i]? = some false) → Step K H H1 ks σ1 ρ ρ1 fp fp1 → AbL K H1 o xs ds m → RCe .V H ks ρ fp ρ1 fp1 m →
    Holds (puts ts ds ρ1) (fun ρ2 => ∀ σ' fp', Step K H H1 ks σ' ρ ρ2 fp fp' → Off (tgSs ts) m σ1 σ' ρ1 ρ2 fp1 fp' → Q σ' H1) (fun _ => False) → gTs K ts xs σ1 H1 Q
  | [], xs, ds, m, o, σ1, ρ1, fp1, Q, hk, s, a, r, h => by
    cases ds with
    | nil =>
      cases a
      have h' : ∀ σ' fp', Step K H H1 ks σ' ρ ρ1 fp fp' → Off (tgSs []) [] σ1 σ' ρ1 ρ1 fp1 fp' → Q σ' H1 := by simpa only [puts, Holds] using h
      exact ⟨rfl, h' σ1 fp1 s Off.refl⟩
    | cons d ds => simp [puts, Holds] at h
  | t :: ts, xs, ds, m, o, σ1, ρ1, fp1, Q, hk, s, a, r, h => by
    cases ds with
    | nil => simp [puts, Holds] at h
    | cons d ds =>
      cases a with
      | @cons v vs _ _ m1 n1 a1 a2 =>
        have h' : Holds (put t d ρ1 >>= puts ts ds) (fun ρ2 => ∀ σ' fp', Step K H H1 ks σ' ρ ρ2 fp fp' → Off (tgSs (t :: ts)) (m1 ++ n1) σ1 σ' ρ1 ρ2 fp1 fp' → Q σ' H1) (fun _ => False) := by simpa only [puts] using h
        have hk1 : ∀ i ∈ tgS t, ks[i]? = some false := fun i q => hk i (by simp [tgSs, q])
        have hk2 : ∀ i ∈ tgSs ts, ks[i]? = some false := fun i q => hk i (by simp [tgSs, q])
        refine ⟨v, vs, rfl, T_run t hk1 s a1 (fun x q => r x (List.mem_append_left _ q)) ((Holds.bind h').mono (fun ρ2 h2 σ2 fp2 s2 off => ?_) fun c hc => hc)⟩
        refine Ts_run ts hk2 s2 a2 (fun x q => ⟨fun z => (r x (List.mem_append_right _ q)).1 (off.ow hk1 z), (r x (List.mem_append_right _ q)).2⟩) (h2.mono (fun ρ3 h3 σ3 fp3 s3 off3 => h3 σ3 fp3 s3 ?_) fun c hc => hc)
        exact (off.mono (fun i q => by simp [tgSs, q]) fun x q => List.mem_append_left _ q).trans (off3.mono (fun i q => by simp [tgSs, q]) fun x q => List.mem_append_right _ q)
end
end
end PV

set_option Elab.async false
set_option linter.all false
set_option maxRecDepth 100000
set_option maxHeartbeats 1000000
set_option autoImplicit false
/-! PV, part h: what is walked; for. -/
namespace PV
open PySem PySem.Spec PyProof.Rows L2
/-- what m names and what cannot change is kept -/
def Pr (m : List Addr) (H0 H1 : Hp) : Prop := ∀ a o, H0 a = some o → (a ∈ m ∨ ¬ MutO o) → H1 a = some o
structure Walks (K : PySem.W.Frag) (J : It) (xs : List PyData) (m : List Addr) (G : Hp → Prop) : Prop where
  go : ∀ i H, G H → i < xs.length → J.go i H
  stop : ∀ i H, G H → xs.length ≤ i → J.stop i H
  yld : ∀ i H x H', G H → i < xs.length → J.yld i H x H' → Same H H' ∧ ∃ d n, xs[i]? = some d ∧ Ab K H' false x d n ∧ ∀ a ∈ n, a ∈ m
theorem Walks.weak {K : PySem.W.Frag} {J : It} {xs : List PyData} {m : List Addr} {G G' : Hp → Prop} (w : Walks K J xs m G) (h : ∀ H, G' H → G H) : Walks K J xs m G' := ⟨fun i H g => w.go i H (h H g), fun i H g => w.stop i H (h H g), fun i H x H' g => w.yld i H x H' (h H g)⟩
def tI (K : PySem.W.Frag) (W : WX) (ks : List Bool) (f : Env → R (List PyData × Env)) : TI := fun σ H R => ∃ ρ fp, EOk K H ks σ ρ fp ∧ Holds (f ρ) (fun r => ∀ J H' fp' m, Step K H H' ks σ ρ r.2 fp fp' → RCe .V H ks ρ fp r.2 fp' m → (∀ a ∈ m, H' a ≠ none) → Walks K J r.1 m (Pr m H') → R J H') fun c => ∀ H', Fr (Ow ks ρ fp) H H' → WEx K W c σ H'
/-- pure -/
def tIp (K : PySem.W.Frag) (W : WX) (ks : List Bool) (f : Env → R (List PyData)) : TI := fun σ H R => ∃ ρ fp, EOk K H ks σ ρ fp ∧ Holds (f ρ) (fun r => ∀ J H' m, Same H H' → RCp .V H ks ρ fp m → (∀ a ∈ m, H' a ≠ none) → Walks K J r m (Same H') → R J H') fun c => ∀ H', Same H H' → WEx K W c σ H'
theorem PI.imp {X : Cx} {tg e : Expr} {t t' : TI} (h : PI X tg e t) (w : ∀ σ H Q, t' σ H Q → t σ H Q) : PI X tg e t' := ⟨fun pins s σ H Q I q => h.run pins s σ H Q I (w σ H Q q)⟩
section
variable {K : PySem.W.Frag} {H H1 : Hp}
theorem Pr.sqT {m : List Addr} (p : Pr m H H1) {a : Addr} {xs : List V} (h : SqT K H a xs) : SqT K H1 a xs := by
  rcases h with (h | ⟨o, h⟩) | h
  · exact .inl (.inl (p _ _ h (.inr fun z => z)))
  · exact .inl (.inr ⟨o, p _ _ h (.inr fun z => z)⟩)
  · exact .inr h
theorem Pr.sqL {m : List Addr} (p : Pr m H H1) {a : Addr} {xs : List V} (hm : a ∈ m) (h : SqL K H a xs) : SqL K H1 a xs := by
  rcases h with (h | ⟨o, h⟩) | h
  · exact .inl (.inl (p _ _ h (.inl hm)))
  · exact .inl (.inr ⟨o, p _ _ h (.inl hm)⟩)
  · exact .inr h
theorem Pr.sqF {m : List Addr} (p : Pr m H H1) {a : Addr} {xs : List V} (h : SqF K H a xs) : SqF K H1 a xs := by
  rcases h with ⟨o, h⟩ | h
  · exact .inl ⟨o, p _ _ h (.inr fun z => z)⟩
  · exact .inr h
theorem Pr.of (s : Same H H1) (m : List Addr) : Pr m H H1 := fun a o e _ => s a o e
theorem ab_pr {m : List Addr} (p : Pr m H H1) {o : Bool} : (∀ v d n, Ab K H o v d n → (∀ a ∈ n, a ∈ m) → Ab K H1 o v d n) ∧ ∀ vs ds n, AbL K H o vs ds n → (∀ a ∈ n, a ∈ m) → AbL K H1 o vs ds n := by
  refine ab_ind (fun _ => .non) (fun b _ => .bl b) (fun i _ => .int i) (fun x _ => .str x) ?_ ?_ ?_ ?_ (fun a xs ds hs _ q hm => .frz (p.sqF hs) (q hm)) (fun a _ => .adr a) (fun _ => .nil) ?_
  · exact fun a xs ds m hs _ q hm => .tup (p.sqT hs) (q hm)
  · exact fun a xs ds m hs _ q hm => .lst (p _ _ hs (.inl (hm _ (List.mem_cons_self ..)))) (q fun a z => hm a (List.mem_cons_of_mem _ z))
  · exact fun a kvs ps m hs hk _ q hm => .dk (p _ _ hs (.inl (hm _ (List.mem_cons_self ..)))) hk (q fun a z => hm a (List.mem_cons_of_mem _ z))
  · exact fun a kvs ps m hs hk _ q hm => .dt (p _ _ hs (.inl (hm _ (List.mem_cons_self ..)))) hk (q fun a z => hm a (List.mem_cons_of_mem _ z))
  · exact fun v vs d ds m n _ _ q1 q2 hm => .cons (q1 fun a z => hm a (List.mem_append_left _ z)) (q2 fun a z => hm a (List.mem_append_right _ z))
theorem AbL.pr {m n : List Addr} {o : Bool} {vs : List V} {ds : List PyData} (h : AbL K H o vs ds n) (p : Pr m H H1) (hm : ∀ a ∈ n, a ∈ m) : AbL K H1 o vs ds n := (ab_pr p).2 _ _ _ h hm
/-- what is not owned is kept by what is done to the slots -/
theorem Step.pr {ks : List Bool} {σ : L2.St} {ρ ρ' : Env} {fp fp' : Nat → List Addr} {m : List Addr} (s : Step K H H1 ks σ ρ ρ' fp fp') (hm : ∀ a ∈ m, ¬ Ow ks ρ fp a) : Pr m H H1 := fun a o e h => s.fr.1 a o e fun z => h.elim (fun q => absurd z (hm a q)) fun q => q
/-! ### what walks data -/
theorem walks_list {a : Addr} {xs : List V} {ds : List PyData} {n m : List Addr} {o : Bool} (hq : SqL K H a xs) (al : AbL K H o xs ds n) (hn : ∀ x ∈ n, x ∈ m) {G : Hp → Prop} (hG : ∀ H1, G H1 → SqL K H1 a xs ∧ AbL K H1 o xs ds n) : Walks K (Itl K a) ds m G where
  go := fun i H1 p hi => by
    obtain ⟨hq1, _⟩ := hG H1 p
    exact ⟨xs, xs[i]'(by rw [al.len]; exact hi), hq1, List.getElem?_eq_getElem _⟩
  stop := fun i H1 p hi => ⟨xs, (hG H1 p).1, by rw [al.len]; exact hi⟩
  yld := fun i H1 x H' p hi y => by
    obtain ⟨rfl, y⟩ := y
    obtain ⟨hq1, a1⟩ := hG _ p
    obtain ⟨d, n', e, ab, s⟩ := a1.getV (y xs hq1)
    exact ⟨Same.refl _, d, n', e, ab.any _, fun b q => hn b (s.subset q)⟩
theorem walks_tup {a : Addr} {xs : List V} {ds : List PyData} {n m : List Addr} {o : Bool} (hq : SqT K H a xs) (al : AbL K H o xs ds n) (hn : ∀ x ∈ n, x ∈ m) {G : Hp → Prop} (hG : ∀ H1, G H1 → SqT K H1 a xs ∧ AbL K H1 o xs ds n) : Walks K (Itt K a) ds m G where
  go := fun i H1 p hi => by
    obtain ⟨hq1, _⟩ := hG H1 p
    exact ⟨xs, xs[i]'(by rw [al.len]; exact hi), hq1, List.getElem?_eq_getElem _⟩
  stop := fun i H1 p hi => ⟨xs, (hG H1 p).1, by rw [al.len]; exact hi⟩
  yld := fun i H1 x H' p hi y => by
    obtain ⟨rfl, y⟩ := y
    obtain ⟨hq1, a1⟩ := hG _ p
    obtain ⟨d, n', e, ab, s⟩ := a1.getV (y xs hq1)
    exact ⟨Same.refl _, d, n', e, ab.any _, fun b q => hn b (s.subset q)⟩
def chars (x : Str) : List PyData := x.cps.toList.map fun c => .str ⟨#[c]⟩
theorem walks_str {x : Str} {m : List Addr} {G : Hp → Prop} : Walks K (Its x) (chars x) m G where
  go := fun i H1 p hi => show i < x.cps.size by simpa [chars] using hi
  stop := fun i H1 p hi => show x.cps.size ≤ i by simpa [chars] using hi
  yld := fun i H1 v H' p hi y => by
    obtain ⟨rfl, c, e, rfl⟩ := y
    refine ⟨Same.refl _, .str ⟨#[c]⟩, [], ?_, .str _, fun _ q => nomatch q⟩
    unfold chars
    rw [List.getElem?_map, Array.getElem?_toList, e]
    rfl
def rangeL (i j : Int) : List PyData := (List.range (j - i).toNat).map fun (k : Nat) => .int (i + (k : Int))
theorem walks_range {i : Int} {n : Nat} {m : List Addr} {G : Hp → Prop} : Walks K (Itr i n) ((List.range n).map fun (k : Nat) => .int (i + (k : Int))) m G where
  go := fun k H1 p hi => show k < n by simpa using hi
  stop := fun k H1 p hi => show n ≤ k by simpa using hi
  yld := fun k H1 v H' p hi y => by
    obtain ⟨rfl, rfl⟩ := y
    refine ⟨Same.refl _, .int (i + k), [], ?_, .int _, fun _ q => nomatch q⟩
    rw [List.getElem?_map, List.getElem?_range (by simpa using hi)]
    rfl
end
section
variable {X : Cx} {W : WX} {ks : List Bool} {P : List Nat} {κ : Kd} {a b c e tg : Expr} {pos : Pos} {st : Stmt} {rest : List Stmt}
/-- list, tuple or text -/
def iAny (K : PySem.W.Frag) (te : TE) : TI := fun σ H R => te σ H fun x H1 => (∃ a xs, x = .ref a ∧ SqL K H1 a xs ∧ R (Itl K a) H1) ∨ (∃ a xs, x = .ref a ∧ SqT K H1 a xs ∧ R (Itt K a) H1) ∨ ∃ y, x = .str y ∧ R (Its y) H1
theorem pi_any {te : TE} (hl : PE X e te) : PI X tg e (iAny X.K te) := by
  refine ⟨fun pins s σ H R I h => ?_⟩
  refine thn (hl.run pins s σ H _ I h) fun v s1 ⟨x, H1, I1, r1, q1⟩ => ?_
  have fr : ∀ b ∈ [s1.heap.objs.size], FpOk X pins H1 b := fun b hb => by
    have e : b = s1.heap.objs.size := by simpa using hb
    subst e
    exact I1.fpOk (Nat.le_refl _) (I1.hok.fresh (Nat.le_refl _))
  rcases q1 with ⟨a, xs, ex, hq, q⟩ | ⟨a, xs, ex, hq, q⟩ | ⟨y, ex, q⟩
  · subst ex
    cases r1
    obtain ⟨its, rv, p, hz⟩ := I1.list hq
    refine wpAny_pyIter_list p.isList ?_
    exact ⟨s1.heap.objs.size, [s1.heap.objs.size], _, _, H1, rfl, I1.kept (t' := s1.toks) fun b o e => Heap.get?_push_of_some _ e, turn_list a _, ⟨_, Heap.get?_push_size _ rfl, rfl, rfl⟩, fr, q⟩
  · subst ex
    cases r1
    obtain ⟨its, rv, p, hz⟩ := I1.tuple hq
    refine wpAny_pyIter_tuple (show s1.heap.IsTuple a its.toArray from p) ?_
    exact ⟨s1.heap.objs.size, [s1.heap.objs.size], _, _, H1, rfl, I1.kept (t' := s1.toks) fun b o e => Heap.get?_push_of_some _ e, turn_tuple a _, ⟨_, Heap.get?_push_size _ rfl, rfl, rfl⟩, fr, q⟩
  · subst ex
    obtain ⟨t, rfl⟩ := r1
    cases ha : y.cps.all (· < 128)
    · exact wpAny_pyIter_wide ha (pi_one (tk := s1.toks) I1 _ (turn_str _ y t "str_iterator" (.inr rfl)) ⟨_, Heap.get?_push_size _ rfl, rfl, rfl⟩ q)
    · exact wpAny_pyIter_ascii ha (pi_one (tk := s1.toks) I1 _ (turn_str _ y t "str_ascii_iterator" (.inl rfl)) ⟨_, Heap.get?_push_size _ rfl, rfl, rfl⟩ q)
def itemsD : PyData → Option (List PyData)
  | .list ds => some ds
  | .tuple ds => some ds
  | .str x => some (chars x)
  | .dict [(.dict [], .tuple ds)] => some ds
  | _ => none
theorem itemsD_dict {ps : List (PyData × PyData)} {ds : List PyData} (h : itemsD (.dict ps) = some ds) : ps = [(.dict [], .tuple ds)] := by
  match ps, h with
  | [], h => cases h
  | [(a, b)], h =>
    cases a <;> try (cases h; done)
    rename_i qs
    cases qs with
    | cons q qs => cases h
    | nil => cases b <;> first | (cases h; done) | (cases h; rfl)
  | p :: q :: r, h =>
    obtain ⟨a, b⟩ := p
    cases a <;> try (cases h; done)
    rename_i qs
    cases qs <;> cases b <;> cases h
theorem Ab.frzL {K : PySem.W.Frag} {H : Hp} {o : Bool} {v : V} {ds : List PyData} {m : List Addr} (a : Ab K H o v (.dict [(.dict [], .tuple ds)]) m) : ∃ p xs, v = .ref p ∧ SqF K H p xs ∧ AbL K H o xs ds [] ∧ m = [] := by
  generalize hd : (PyData.dict [(.dict [], .tuple ds)]) = d at a
  cases a with
  | dk hs hk al =>
    cases hd
    rename_i kvs _
    cases kvs with
    | nil => simp at hk
    | cons q r => obtain ⟨k, x⟩ := q; simp at hk; cases k <;> simp [keyD] at hk
  | dt hs hk al =>
    cases hd
    rename_i kvs _
    cases kvs with
    | nil => simp at hk
    | cons q r => simp at hk
  | @frz p xs es hs al =>
    have e : es = ds := by unfold frzD at hd; injection hd with h1; simpa using h1.symm
    subst e
    exact ⟨p, xs, rfl, hs, al, rfl⟩
  | _ => cases hd
def eIt (f : FE) : Env → R (List PyData × Env) := fun ρ => f ρ >>= fun r => ofO (itemsD r.1) >>= fun ds => .ok (ds, r.2)
def fIt (f : Env → R PyData) : Env → R (List PyData) := fun ρ => f ρ >>= fun r => ofO (itemsD r)
def fItF (f : Env → R PyData) : Env → R (List PyData) := fun ρ => f ρ >>= fun r => ofO (itemsD r) >>= fun ds => if flatL ds then .ok ds else .no
theorem any_core {K : PySem.W.Frag} {H : Hp} {v : V} {d : PyData} {m : List Addr} {o : Bool} {ds : List PyData} (a : Ab K H o v d m) (e : itemsD d = some ds) {R : It → Hp → Prop} (h : ∀ J, Walks K J ds m (Pr m H) → R J H) :
    (∃ a xs, v = .ref a ∧ SqL K H a xs ∧ R (Itl K a) H) ∨ (∃ a xs, v = .ref a ∧ SqT K H a xs ∧ R (Itt K a) H) ∨ ∃ y, v = .str y ∧ R (Its y) H := by
  cases d <;> simp only [itemsD, reduceCtorEq, Option.some.injEq] at e
  · obtain ⟨rfl, rfl⟩ := a.eq_str
    subst e
    exact .inr (.inr ⟨_, rfl, h _ walks_str⟩)
  · subst e
    obtain ⟨p, vs, n, rfl, hp, al, rfl⟩ := a.ownL
    refine .inl ⟨p, vs, rfl, .inl (.inl hp), h _ (walks_list (.inl (.inl hp)) al (fun x q => List.mem_cons_of_mem _ q) fun H1 g => ⟨g.sqL (List.mem_cons_self ..) (.inl (.inl hp)), al.pr g fun x q => List.mem_cons_of_mem _ q⟩)⟩
  · subst e
    obtain ⟨p, vs, rfl, hp, al⟩ := a.tuple
    exact .inr (.inl ⟨p, vs, rfl, hp, h _ (walks_tup hp al (fun x q => q) fun H1 g => ⟨g.sqT hp, al.pr g fun x q => q⟩)⟩)
  · have := itemsD_dict e
    subst this
    obtain ⟨p, xs, rfl, hp, al, rfl⟩ := a.frzL
    exact .inl ⟨p, xs, rfl, hp.l, h _ (walks_list hp.l al (fun x q => q) fun H1 g => ⟨(g.sqF hp).l, al.pr g fun x q => q⟩)⟩
theorem i_seq {f : FE} (he : DE X W ks .V e f) : PI X tg e (tI X.K W ks (eIt f)) := PI.imp (pi_any he) fun σ H R ⟨ρ, fp, eo, h⟩ =>
  ⟨ρ, fp, eo, (Holds.bind h).mono (fun r hr v H' fp' m s ab rc => by
    obtain ⟨ds, e, hr⟩ := Holds.ofO (Holds.bind hr)
    exact any_core ab e fun J w => hr J H' fp' m s rc (fun a q => ab.tr q) w) fun c hc => hc⟩
theorem i_seqP {f : Env → R PyData} (he : DP X W ks .V e f) : PI X tg e (tIp X.K W ks (fIt f)) := PI.imp (pi_any he) fun σ H R ⟨ρ, fp, eo, h⟩ =>
  ⟨ρ, fp, eo, (Holds.bind h).mono (fun r hr v H' m s ab rc => by
    obtain ⟨ds, e, hr⟩ := Holds.ofO hr
    exact any_core ab e fun J w => hr J H' m s rc (fun a q => ab.tr q) (w.weak fun H2 s2 => Pr.of s2 m)) fun c hc => hc⟩
/-- .. whose items are flat -/
theorem any_coreF {K : PySem.W.Frag} {H : Hp} {v : V} {d : PyData} {m : List Addr} {o : Bool} {ds : List PyData} (a : Ab K H o v d m) (e : itemsD d = some ds) (hf : flatL ds = true) {R : It → Hp → Prop} (h : ∀ J, Walks K J ds [] (Same H) → R J H) :
    (∃ a xs, v = .ref a ∧ SqL K H a xs ∧ R (Itl K a) H) ∨ (∃ a xs, v = .ref a ∧ SqT K H a xs ∧ R (Itt K a) H) ∨ ∃ y, v = .str y ∧ R (Its y) H := by
  cases d <;> simp only [itemsD, reduceCtorEq, Option.some.injEq] at e
  · obtain ⟨rfl, rfl⟩ := a.eq_str
    subst e
    exact .inr (.inr ⟨_, rfl, h _ walks_str⟩)
  · subst e
    obtain ⟨p, vs, n, rfl, hp, al, rfl⟩ := a.ownL
    have en := al.flat hf
    subst en
    exact .inl ⟨p, vs, rfl, .inl (.inl hp), h _ (walks_list (.inl (.inl hp)) al (fun x q => q) fun H1 g => ⟨.inl (.inl (g _ _ hp)), al.same g⟩)⟩
  · subst e
    obtain ⟨p, vs, rfl, hp, al⟩ := a.tuple
    have en := al.flat hf
    subst en
    exact .inr (.inl ⟨p, vs, rfl, hp, h _ (walks_tup hp al (fun x q => q) fun H1 g => ⟨(Pr.of g []).sqT hp, al.same g⟩)⟩)
  · have := itemsD_dict e
    subst this
    obtain ⟨p, xs, rfl, hp, al, rfl⟩ := a.frzL
    exact .inl ⟨p, xs, rfl, hp.l, h _ (walks_list hp.l al (fun x q => q) fun H1 g => ⟨((Pr.of g []).sqF hp).l, al.same g⟩)⟩
theorem i_seqF {f : Env → R PyData} (he : DP X W ks .B e f) : PI X tg e (tIp X.K W ks (fItF f)) := PI.imp (pi_any he) fun σ H R ⟨ρ, fp, eo, h⟩ =>
  ⟨ρ, fp, eo, (Holds.bind h).mono (fun r hr v H' m s ab rc => by
    obtain ⟨ds, e, hr⟩ := Holds.ofO (Holds.bind hr)
    by_cases hf : flatL ds = true
    · rw [if_pos hf] at hr
      exact any_coreF ab e hf fun J w => hr J H' [] s (RCp.nil _) (fun a q => nomatch q) w
    · rw [if_neg hf] at hr
      exact hr.elim) fun c hc => hc⟩
/-! ### range -/
def smallI (i : Int) : Bool := decide (-(2 ^ 62) ≤ i) && decide (i < 2 ^ 62)
theorem smallI_iff {i : Int} : smallI i = true ↔ -(2 ^ 62) ≤ i ∧ i < 2 ^ 62 := by simp [smallI]
def rangeD : List PyData → Option (List PyData)
  | [.int j] => if smallI j then some (rangeL 0 j) else none
  | [.int i, .int j] => if smallI i && smallI j then some (rangeL i j) else none
  | _ => none
def eRg (f : Env → R (List PyData × Env)) : Env → R (List PyData × Env) := fun ρ => f ρ >>= fun r => ofO (rangeD r.1) >>= fun ds => .ok (ds, r.2)
def fRg (f : Env → R (List PyData)) : Env → R (List PyData) := fun ρ => f ρ >>= fun r => ofO (rangeD r)
theorem AbL.one {K : PySem.W.Frag} {H : Hp} {o : Bool} {vs : List V} {d : PyData} {m : List Addr} (h : AbL K H o vs [d] m) : ∃ v, vs = [v] ∧ Ab K H o v d m := by
  cases h with
  | @cons v vs _ _ m1 n1 a1 a2 => cases a2; exact ⟨v, rfl, by rw [List.append_nil]; exact a1⟩
theorem AbL.two {K : PySem.W.Frag} {H : Hp} {o : Bool} {vs : List V} {d e : PyData} {m : List Addr} (h : AbL K H o vs [d, e] m) : ∃ v w m1 m2, vs = [v, w] ∧ Ab K H o v d m1 ∧ Ab K H o w e m2 ∧ m = m1 ++ m2 := by
  cases h with
  | @cons v vs _ _ m1 n1 a1 a2 =>
    obtain ⟨w, rfl, a3⟩ := a2.one
    exact ⟨v, w, m1, n1, rfl, a1, a3, rfl⟩
theorem rangeD1 {K : PySem.W.Frag} {H : Hp} {o : Bool} {vs : List V} {d ds : List PyData} {m : List Addr} (hl : d.length = 1) (al : AbL K H o vs d m) (e : rangeD d = some ds) : ∃ j : Int, vs = [.int j] ∧ -(2 ^ 62) ≤ j ∧ j < 2 ^ 62 ∧ ds = rangeL 0 j := by
  match d, hl with
  | [x], _ =>
    obtain ⟨v, rfl, a⟩ := al.one
    cases x <;> simp only [rangeD, reduceCtorEq] at e
    split at e
    · rename_i j hj
      cases e
      obtain ⟨rfl, _⟩ := a.eq_int
      exact ⟨_, rfl, (smallI_iff.mp hj).1, (smallI_iff.mp hj).2, rfl⟩
    · cases e
theorem rangeD2 {K : PySem.W.Frag} {H : Hp} {o : Bool} {vs : List V} {d ds : List PyData} {m : List Addr} (hl : d.length = 2) (al : AbL K H o vs d m) (e : rangeD d = some ds) : ∃ i j : Int, vs = [.int i, .int j] ∧ (-(2 ^ 62) ≤ i ∧ i < 2 ^ 62 ∧ -(2 ^ 62) ≤ j ∧ j < 2 ^ 62) ∧ ds = rangeL i j := by
  match d, hl with
  | [x, y], _ =>
    obtain ⟨v, w, _, _, rfl, a, b, _⟩ := al.two
    cases x <;> try simp only [rangeD, reduceCtorEq] at e
    cases y <;> try simp only [rangeD, reduceCtorEq] at e
    split at e
    · rename_i hj
      cases e
      obtain ⟨rfl, _⟩ := a.eq_int
      obtain ⟨rfl, _⟩ := b.eq_int
      rw [Bool.and_eq_true] at hj
      exact ⟨_, _, rfl, ⟨(smallI_iff.mp hj.1).1, (smallI_iff.mp hj.1).2, (smallI_iff.mp hj.2).1, (smallI_iff.mp hj.2).2⟩, rfl⟩
    · cases e
theorem walks_rangeL {K : PySem.W.Frag} {i j : Int} {m : List Addr} {G : Hp → Prop} : Walks K (Itr i (j - i).toNat) (rangeL i j) m G := walks_range
theorem i_range1 {f : Env → R (List PyData × Env)} {p : Pos} (hm : X.mg "range" = none) (ha : DEA X W ks κ [a] f) (hl : HLe 1 f := by repeat (first | exact HLe.nil | exact HLe.lift (by repeat (first | exact HL.nil | refine HL.cons ?_)) | refine HLe.cons ?_)) (hg : Gl X "range" := by rfl) (hs : starEach [a] X.env = [(false, eval a X.env)] := by rfl) : PI X tg (.Call (.Name "range" p) [a] [] pos) (tI X.K W ks (eRg f)) :=
  PI.imp (pi_range1 hg hm ha hs) fun σ H R ⟨ρ, fp, eo, h⟩ => by
    refine ⟨ρ, fp, eo, ?_⟩
    have h1 := Holds.bind h
    cases ef : f ρ with
    | ex c => rw [ef] at h1; exact h1
    | no => rw [ef] at h1; exact h1
    | ok r =>
      rw [ef] at h1
      intro v H' fp' m s al rc
      obtain ⟨ds, e, hr⟩ := Holds.ofO (Holds.bind h1)
      obtain ⟨j, rfl, j1, j2, rfl⟩ := rangeD1 (hl ρ r ef) al e
      refine ⟨j, rfl, j1, j2, ?_⟩
      have := hr (Itr 0 (j - 0).toNat) H' fp' [] s (RCe.nil _) (fun a q => nomatch q) walks_rangeL
      rw [Int.sub_zero] at this
      exact this
theorem i_range2 {f : Env → R (List PyData × Env)} {p : Pos} (hm : X.mg "range" = none) (ha : DEA X W ks κ [a, b] f) (hl : HLe 2 f := by repeat (first | exact HLe.nil | exact HLe.lift (by repeat (first | exact HL.nil | refine HL.cons ?_)) | refine HLe.cons ?_)) (hg : Gl X "range" := by rfl) (hs : starEach [a, b] X.env = [(false, eval a X.env), (false, eval b X.env)] := by rfl) (hs2 : starEach [b] X.env = [(false, eval b X.env)] := by rfl) : PI X tg (.Call (.Name "range" p) [a, b] [] pos) (tI X.K W ks (eRg f)) :=
  PI.imp (pi_range2 hg hm ha hs hs2) fun σ H R ⟨ρ, fp, eo, h⟩ => by
    refine ⟨ρ, fp, eo, ?_⟩
    have h1 := Holds.bind h
    cases ef : f ρ with
    | ex c => rw [ef] at h1; exact h1
    | no => rw [ef] at h1; exact h1
    | ok r =>
      rw [ef] at h1
      intro v H' fp' m s al rc
      obtain ⟨ds, e, hr⟩ := Holds.ofO (Holds.bind h1)
      obtain ⟨i, j, rfl, hj, rfl⟩ := rangeD2 (hl ρ r ef) al e
      exact ⟨i, j, rfl, hj, hr _ H' fp' [] s (RCe.nil _) (fun a q => nomatch q) walks_rangeL⟩
theorem i_range1P {f : Env → R (List PyData)} {p : Pos} (hm : X.mg "range" = none) (ha : DPA X W ks κ [a] f) (hl : HL 1 f := by repeat (first | exact HL.nil | refine HL.cons ?_)) (hg : Gl X "range" := by rfl) (hs : starEach [a] X.env = [(false, eval a X.env)] := by rfl) : PI X tg (.Call (.Name "range" p) [a] [] pos) (tIp X.K W ks (fRg f)) :=
  PI.imp (pi_range1 hg hm ha hs) fun σ H R ⟨ρ, fp, eo, h⟩ => by
    refine ⟨ρ, fp, eo, ?_⟩
    have h1 := Holds.bind h
    cases ef : f ρ with
    | ex c => rw [ef] at h1; exact h1
    | no => rw [ef] at h1; exact h1
    | ok r =>
      rw [ef] at h1
      intro v H' m s al rc
      obtain ⟨ds, e, hr⟩ := Holds.ofO h1
      obtain ⟨j, rfl, j1, j2, rfl⟩ := rangeD1 (hl ρ r ef) al e
      refine ⟨j, rfl, j1, j2, ?_⟩
      have := hr (Itr 0 (j - 0).toNat) H' [] s (RCp.nil _) (fun a q => nomatch q) walks_rangeL
      rw [Int.sub_zero] at this
      exact this
theorem i_range2P {f : Env → R (List PyData)} {p : Pos} (hm : X.mg "range" = none) (ha : DPA X W ks κ [a, b] f) (hl : HL 2 f := by repeat (first | exact HL.nil | refine HL.cons ?_)) (hg : Gl X "range" := by rfl) (hs : starEach [a, b] X.env = [(false, eval a X.env), (false, eval b X.env)] := by rfl) (hs2 : starEach [b] X.env = [(false, eval b X.env)] := by rfl) : PI X tg (.Call (.Name "range" p) [a, b] [] pos) (tIp X.K W ks (fRg f)) :=
  PI.imp (pi_range2 hg hm ha hs hs2) fun σ H R ⟨ρ, fp, eo, h⟩ => by
    refine ⟨ρ, fp, eo, ?_⟩
    have h1 := Holds.bind h
    cases ef : f ρ with
    | ex c => rw [ef] at h1; exact h1
    | no => rw [ef] at h1; exact h1
    | ok r =>
      rw [ef] at h1
      intro v H' m s al rc
      obtain ⟨ds, e, hr⟩ := Holds.ofO h1
      obtain ⟨i, j, rfl, hj, rfl⟩ := rangeD2 (hl ρ r ef) al e
      exact ⟨i, j, rfl, hj, hr _ H' [] s (RCp.nil _) (fun a q => nomatch q) walks_rangeL⟩

/-! ### for -/
def sForL (t : Tg) (f : FS) : List PyData → FS
  | [] => fun ρ => .ok (.nx, ρ)
  | d :: ds => fun ρ => put t d ρ >>= fun ρ1 => f ρ1 >>= fun q => match q.1 with
    | .nx => sForL t f ds q.2
    | .ct => sForL t f ds q.2
    | .bk => .ok (.nx, q.2)
    | .rt d => .ok (.rt d, q.2)
def sFor (t : Tg) (fi : Env → R (List PyData × Env)) (f : FS) : FS := fun ρ => fi ρ >>= fun r => sForL t f r.1 r.2
theorem Holds.put {t : Tg} {d : PyData} {ρ : Env} {β : Type} {g : Env → R β} {Pv : β → Prop} {U U' : Ex → Prop} (h : Holds (put t d ρ >>= g) Pv U) : Holds (put t d ρ) (fun ρ1 => Holds (g ρ1) Pv U) U' := by
  have h1 := Holds.bind h
  cases e : PV.put t d ρ with
  | ok ρ1 => rw [e] at h1; exact h1
  | ex c => exact absurd e (put_ex t d ρ c)
  | no => rw [e] at h1; exact h1.elim
theorem forL_core {K : PySem.W.Frag} {t : Tg} {f : FS} {D : Ends} {σ : L2.St} {H H1 : Hp} {ρ ρ1 : Env} {fp fp1 : Nat → List Addr} {m : List Addr} {J : It} {xs : List PyData} (hk : ∀ i ∈ tgS t, ks[i]? = some false ∧ i ∉ P) (eo : EOk K H ks σ ρ fp)
    (s1 : Step K H H1 ks σ ρ ρ1 fp fp1) (rc : RCe .V H ks ρ fp ρ1 fp1 m) (tr : ∀ a ∈ m, H1 a ≠ none) (wk : Walks K J xs m (Pr m H1)) (h : Holds (sForL t f xs ρ1) (SE K ks P κ D σ H ρ fp) (SX K W ks P σ H ρ fp)) :
    ∃ W0 : Nat → Nat → L2.St → Hp → Prop, (∃ k, W0 0 k σ H1) ∧ ∀ i k σ2 H2, W0 i k σ2 H2 →
      (J.stop i H2 ∧ D.nx σ2 H2) ∨ (J.go i H2 ∧ ∃ N : L2.St → Hp → Prop, (∀ σ' H', N σ' H' → ∃ k', k' < k ∧ W0 (i + 1) k' σ' H') ∧ ∀ x H', J.yld i H2 x H' → gT K t x σ2 H' fun σ3 H3 => tS K W ks P κ f { D with nx := N, ct := N, bk := D.nx } σ3 H3) := by
  refine ⟨fun i k σ2 H2 => k = xs.length - i ∧ i ≤ xs.length ∧ ∃ ρ2 fp2, Step K H H2 ks σ2 ρ ρ2 fp fp2 ∧ Pr m H1 H2 ∧ (∀ a ∈ m, ¬ Ow ks ρ2 fp2 a) ∧ (∀ a ∈ m, H2 a ≠ none) ∧ Keep P σ σ2 ∧ Holds (sForL t f (xs.drop i) ρ2) (SE K ks P κ D σ H ρ fp) (SX K W ks P σ H ρ fp),
    ⟨_, rfl, Nat.zero_le _, ρ1, fp1, s1, fun a o e _ => e, fun a q => (rc a q).1, tr, Keep.refl _ _, h⟩, ?_⟩
  rintro i k σ2 H2 ⟨rfl, hi, ρ2, fp2, s2, pr, nO, tr2, kp, h2⟩
  by_cases hlt : i < xs.length
  · rw [List.drop_eq_getElem_cons hlt] at h2
    refine .inr ⟨wk.go i H2 pr hlt, fun σ' H' => i + 1 ≤ xs.length ∧ ∃ ρ2 fp2, Step K H H' ks σ' ρ ρ2 fp fp2 ∧ Pr m H1 H' ∧ (∀ a ∈ m, ¬ Ow ks ρ2 fp2 a) ∧ (∀ a ∈ m, H' a ≠ none) ∧ Keep P σ σ' ∧ Holds (sForL t f (xs.drop (i + 1)) ρ2) (SE K ks P κ D σ H ρ fp) (SX K W ks P σ H ρ fp),
      fun σ' H' q => ⟨xs.length - (i + 1), by omega, rfl, q⟩, fun x H' y => ?_⟩
    obtain ⟨sm, d, n, ed, ab, hn⟩ := wk.yld i H2 x H' pr hlt y
    have ed' : xs[i] = d := by
      rw [List.getElem?_eq_getElem hlt] at ed
      exact Option.some.inj ed
    rw [ed'] at h2
    have s2' := s2.trans (Step.same s2.env sm)
    refine T_run t (fun j hj => (hk j hj).1) s2' ab (fun a q => ⟨nO a (hn a q), (rc a (hn a q)).2⟩) ((Holds.put (U' := fun _ => False) h2).mono (fun ρ3 h3 σ3 fp3 s3 off => ?_) fun c hc => hc)
    have kp3 : Keep P σ σ3 := kp.trans (off.keep fun j hj => (hk j hj).2)
    have nO3 : ∀ a ∈ m, ¬ Ow ks ρ3 fp3 a := fun a q z => nO a q (off.ow (fun j hj => (hk j hj).1) z)
    have tr3 : ∀ a ∈ m, H' a ≠ none := fun a q z => tr2 a q (Same.back sm z)
    have pr3 : Pr m H1 H' := fun a o e q => sm a o (pr a o e q)
    have nxt : ∀ {ρ4 : Env}, Holds (sForL t f (xs.drop (i + 1)) ρ4) (SE K ks P κ D σ H ρ fp) (SX K W ks P σ H ρ fp) → ∀ σ' H'' fp', Step K H' H'' ks σ' ρ3 ρ4 fp3 fp' → Keep P σ3 σ' →
        i + 1 ≤ xs.length ∧ ∃ ρ2 fp2, Step K H H'' ks σ' ρ ρ2 fp fp2 ∧ Pr m H1 H'' ∧ (∀ a ∈ m, ¬ Ow ks ρ2 fp2 a) ∧ (∀ a ∈ m, H'' a ≠ none) ∧ Keep P σ σ' ∧ Holds (sForL t f (xs.drop (i + 1)) ρ2) (SE K ks P κ D σ H ρ fp) (SX K W ks P σ H ρ fp) :=
      fun {ρ4} hq σ' H'' fp' s4 k4 => ⟨hlt, ρ4, fp', s3.trans s4, fun a o e q => s4.pr nO3 a o (pr3 a o e q) q, fun a q z => (s4.subo a z).elim (nO3 a q) (tr3 a q), fun a q => s4.fr.2 a (tr3 a q), kp3.trans k4, hq⟩
    refine ⟨ρ3, fp3, s3.env, (Holds.bind h3).mono (fun q hq => ?_) fun c hc => hc.pre s3 kp3⟩
    obtain ⟨fl, ρ4⟩ := q
    cases fl with
    | nx => exact fun σ' H'' fp' s4 k4 => nxt hq σ' H'' fp' s4 k4
    | ct => exact fun σ' H'' fp' s4 k4 => nxt hq σ' H'' fp' s4 k4
    | bk => exact fun σ' H'' fp' s4 k4 => hq σ' H'' fp' (s3.trans s4) (kp3.trans k4)
    | rt d =>
      have hq' : SE K ks P κ D σ H ρ fp (.rt d, ρ4) := hq
      exact hq'.pre s3 kp3
  · have e : i = xs.length := by omega
    subst e
    rw [List.drop_length] at h2
    exact .inl ⟨wk.stop _ H2 pr (Nat.le_refl _), h2 σ2 H2 fp2 s2 kp⟩
theorem s_for {t : Tg} {fi : Env → R (List PyData × Env)} {f : FS} {body : List Stmt} (hp : PassesOwn (model X.prog X.w) X.A X.env X.xe) (hc : X.calm = true) (hi : PI X tg e (tI X.K W ks fi)) (hg : PG X tg (gT X.K t)) (hb : DSs X W ks P κ body f) (hk : ∀ i ∈ tgS t, ks[i]? = some false ∧ i ∉ P := by decide)
    (hs : ∀ x, foldedSetIterable e X.env x = pure x := by intro _; rfl) : DS X W ks P κ (.For tg e body [] pos) (sFor t fi f) := PS.imp (ps_for hp hc hi hg hb hs) fun D σ H ⟨ρ, fp, eo, h⟩ =>
  ⟨ρ, fp, eo, (Holds.bind h).mono (fun r hr J H' fp' m s rc tr wk => forL_core hk eo s rc tr wk hr) fun c hc => SX.now hc⟩
end
end PV

set_option Elab.async false
set_option linter.all false
set_option maxRecDepth 100000
set_option maxHeartbeats 1000000
set_option autoImplicit false
/-! PV, part i: comprehensions. -/
namespace PV
open PySem PySem.Spec PyProof.Rows L2
def wipeE (ρ : Env) : List Nat → Env
  | [] => ρ
  | v :: vs => (wipeE ρ vs).set v none
theorem wipeE_len (ρ : Env) : ∀ vs : List Nat, (wipeE ρ vs).length = ρ.length
  | [] => rfl
  | v :: vs => by unfold wipeE; rw [List.length_set, wipeE_len ρ vs]
theorem wipeE_some {ρ : Env} {i : Nat} {x : PyData} : ∀ {vs : List Nat}, (wipeE ρ vs)[i]? = some (some x) → ρ[i]? = some (some x) ∧ i ∉ vs
  | [], h => ⟨h, fun z => nomatch z⟩
  | v :: vs, h => by
    unfold wipeE at h
    by_cases e : i = v
    · subst e
      by_cases hl : i < (wipeE ρ vs).length
      · rw [List.getElem?_set_self hl] at h; cases h
      · rw [List.getElem?_eq_none (by simp; omega)] at h; cases h
    · rw [List.getElem?_set_ne (fun z => e z.symm)] at h
      obtain ⟨h1, h2⟩ := wipeE_some h
      exact ⟨h1, fun z => (List.mem_cons.mp z).elim e h2⟩
theorem wipeE_out {ρ : Env} {i : Nat} : ∀ {vs : List Nat}, i ∉ vs → (wipeE ρ vs)[i]? = ρ[i]?
  | [], _ => rfl
  | v :: vs, h => by
    unfold wipeE
    rw [List.getElem?_set_ne (fun z => h (by rw [z]; exact List.mem_cons_self ..)), wipeE_out fun z => h (List.mem_cons_of_mem _ z)]
theorem set_ext {α : Type} {l r : List α} {i : Nat} {x : α} (hl : l.length = r.length) (h : ∀ j, j ≠ i → l[j]? = r[j]?) : l.set i x = r.set i x := by
  apply List.ext_getElem?
  intro j
  by_cases e : j = i
  · subst e
    by_cases hj : j < l.length
    · rw [List.getElem?_set_self hj, List.getElem?_set_self (by omega)]
    · rw [List.getElem?_eq_none (by simp; omega), List.getElem?_eq_none (by simp; omega)]
  · rw [List.getElem?_set_ne (fun z => e z.symm), List.getElem?_set_ne (fun z => e z.symm)]; exact h j e
theorem wipe_none {σ : L2.St} {i : Nat} : ∀ {vs : List Nat}, i ∈ vs → (wipe σ vs)[i]? = if i < σ.length then some none else none
  | v :: vs, h => by
    unfold wipe
    by_cases e : i = v
    · subst e
      by_cases hl : i < σ.length
      · rw [List.getElem?_set_self (by rw [wipe_length]; exact hl), if_pos hl]
      · rw [List.getElem?_eq_none (by rw [List.length_set, wipe_length]; omega), if_neg hl]
    · rw [List.getElem?_set_ne (fun z => e z.symm)]
      exact wipe_none ((List.mem_cons.mp h).resolve_left e)
theorem wipe_out' {σ : L2.St} {i : Nat} : ∀ {vs : List Nat}, i ∉ vs → (wipe σ vs)[i]? = σ[i]?
  | [], _ => rfl
  | v :: vs, h => by
    unfold wipe
    rw [List.getElem?_set_ne (fun z => h (by rw [z]; exact List.mem_cons_self ..)), wipe_out' fun z => h (List.mem_cons_of_mem _ z)]
theorem wipe_eq {σ1 σ2 : L2.St} {vs : List Nat} (hl : σ2.length = σ1.length) (h : ∀ j, j ∉ vs → σ2[j]? = (wipe σ1 vs)[j]?) : wipe σ2 vs = wipe σ1 vs := by
  apply List.ext_getElem?
  intro j
  by_cases e : j ∈ vs
  · rw [wipe_none e, wipe_none e, hl]
  · rw [wipe_out' e, h j e]
section
variable {K : PySem.W.Frag} {ks : List Bool} {is : List Nat} {σ : L2.St} {ρ ρ' : Env} {fp fp' : Nat → List Addr} {H H' : Hp} {κ : Kd} {m : List Addr}
theorem EOk.wipe (eo : EOk K H ks σ ρ fp) : EOk K H ks (L2.wipe σ is) (wipeE ρ is) fp where
  len := by rw [wipeE_len, wipe_length]; exact eo.len
  ab := fun i d h => by
    obtain ⟨h, n⟩ := wipeE_some h
    rw [wipe_out' n]
    exact eo.ab i d h
  nd := fun i d o h => eo.nd i d o (wipeE_some h).1
  dj := fun i j d e o n h1 h2 => eo.dj i j d e o n (wipeE_some h1).1 (wipeE_some h2).1
theorem Al.wipe {a : Addr} (h : Al (wipeE ρ is) fp a) : Al ρ fp a := let ⟨i, d, e, q⟩ := h; ⟨i, d, (wipeE_some e).1, q⟩
theorem Ow.wipe {a : Addr} (h : Ow ks (wipeE ρ is) fp a) : Ow ks ρ fp a := let ⟨i, d, o, e, q⟩ := h; ⟨i, d, o, (wipeE_some e).1, q⟩
theorem Ow.unwipe (hk : ∀ i ∈ is, ks[i]? = some false) {a : Addr} (h : Ow ks ρ fp a) : Ow ks (wipeE ρ is) fp a := by
  obtain ⟨i, d, o, e, q⟩ := h
  have n : i ∉ is := fun z => by unfold own at o; rw [hk i z] at o; cases o
  exact ⟨i, d, o, by rw [wipeE_out n]; exact e, q⟩
end
def noX {α : Type} : R α → R α
  | .ex _ => .no
  | r => r
theorem Holds.noX {α : Type} {r : R α} {P : α → Prop} {U U' : Ex → Prop} (h : Holds (PV.noX r) P U) : Holds r P U' := by
  cases r with
  | ok a => exact h
  | ex c => exact False.elim h
  | no => exact False.elim h
theorem Holds.noXb {α β : Type} {r : R α} {g : α → R β} {P : β → Prop} {U U' : Ex → Prop} (h : Holds (PV.noX r >>= g) P U) : Holds r (fun a => Holds (g a) P U) U' := Holds.noX (Holds.bind h)
def W0 : WX := fun _ _ _ _ => False
/-- of every block of this scope -/
abbrev Blk (X : Cx) (scope : Scope) (p : Cx → Prop) : Prop := ∀ (s : Shared) (H : Hp) (C : Addr) (cl : List (Str × Addr)) (fp : List Addr), p (X.blk s H scope (compEnvC scope cl C X.env) fp)
def fLcL (t : Tg) (own : List Nat) (ft : Env → R Bool) (fe : Env → R PyData) (ρ : Env) : List PyData → R (List PyData)
  | [] => .ok []
  | d :: ds => put t d (wipeE ρ own) >>= fun ρ1 => noX (ft ρ1) >>= fun b => if b then noX (fe ρ1) >>= fun y => fLcL t own ft fe ρ ds >>= fun ys => .ok (y :: ys) else fLcL t own ft fe ρ ds
def lstD (ys : List PyData) : R PyData := if ys.length ≤ sizeLine then .ok (.list ys) else .no
def fLc (t : Tg) (own : List Nat) (fi : Env → R (List PyData)) (ft : Env → R Bool) (fe : Env → R PyData) : Env → R PyData := fun ρ => fi ρ >>= fun xs => fLcL t own ft fe ρ xs >>= lstD
def gYes : Env → R Bool := fun _ => .ok true
theorem Holds.put' {t : Tg} {d : PyData} {ρ : Env} {β : Type} {g : Env → R β} {Pv : β → Prop} {U U' : Ex → Prop} (h : Holds (PV.put t d ρ >>= g) Pv U) : Holds (PV.put t d ρ) (fun ρ1 => Holds (g ρ1) Pv U) U' := Holds.put h
theorem assocR {α β γ : Type} (x : R α) (f : α → R β) (g : β → R γ) : (x >>= f) >>= g = x >>= fun a => f a >>= g := by cases x <;> rfl
section
variable {X : Cx} {W : WX} {ks : List Bool} {P : List Nat} {κ : Kd} {a b c e tg elt iter : Expr} {pos : Pos} {scope : Scope} {own : List (Str × Nat)} {ifs : List Expr}
theorem lcP_core {K : PySem.W.Frag} {t : Tg} {is : List Nat} {ft : Env → R Bool} {fe : Env → R PyData} {σ : L2.St} {H H1 : Hp} {ρ : Env} {fp : Nat → List Addr} {mi : List Addr} {J : It} {xs : List PyData} {Q : VK} {U : Ex → Prop} (hk : ∀ i ∈ is, ks[i]? = some false) (ht : ∀ i ∈ tgS t, i ∈ is) (hκ : κ ≠ .B) (eo : EOk K H ks σ ρ fp)
    (s1 : Same H H1) (rc : RCp .V H ks ρ fp mi) (tr : ∀ a ∈ mi, H1 a ≠ none) (wk : Walks K J xs mi (Same H1)) (h : Holds (fLcL t is ft fe ρ xs >>= lstD) (fun d => ∀ v H' m, Same H H' → Ab K H' κ.ow v d m → RCp κ H ks ρ fp m → Q v H') U) :
    ∀ D, H1 D = none → ∃ W1 : Nat → Nat → Hp → Prop, (∃ m, W1 0 m (upd H1 D (.lst []))) ∧ ∀ i m H2, W1 i m H2 →
      (J.stop i H2 ∧ Q (.ref D) H2) ∨ (J.go i H2 ∧ ∃ Nx : Hp → Prop, (∀ H', Nx H' → ∃ m', m' < m ∧ W1 (i + 1) m' H') ∧ ∀ x H', J.yld i H2 x H' → gT K t x (wipe σ is) H' fun σ2 H3 => wipe σ2 is = wipe σ is ∧ tPT K W0 ks ft σ2 H3 fun b H3 =>
        if b = true then tP K W0 ks κ fe σ2 H3 fun y H4 => ∃ acc, H4 D = some (.lst acc) ∧ acc.length < sizeLine ∧ Nx (upd H4 D (.lst (acc ++ [y]))) else Nx H3) := by
  intro D hD
  have hD0 : H D = none := Same.back s1 hD
  refine ⟨fun i k H2 => k = xs.length - i ∧ i ≤ xs.length ∧ ∃ acc ys m, H2 D = some (.lst acc) ∧ Same H1 H2 ∧ AbL K H2 κ.ow acc ys m ∧ RCp κ H ks ρ fp m ∧ D ∉ m ∧ Holds (fLcL t is ft fe ρ (xs.drop i) >>= fun zs => lstD (ys ++ zs)) (fun d => ∀ v H' m, Same H H' → Ab K H' κ.ow v d m → RCp κ H ks ρ fp m → Q v H') U,
    ⟨_, rfl, Nat.zero_le _, [], [], [], upd_same, same_new hD, .nil, RCp.nil _, fun z => (nomatch z), by simpa using h⟩, ?_⟩
  rintro i k H2 ⟨rfl, hi, acc, ys, m, hacc, s2, al, rcm, hDm, h2⟩
  by_cases hlt : i < xs.length
  · rw [List.drop_eq_getElem_cons hlt] at h2
    refine .inr ⟨wk.go i H2 s2 hlt, fun H' => i + 1 ≤ xs.length ∧ ∃ acc ys m, H' D = some (.lst acc) ∧ Same H1 H' ∧ AbL K H' κ.ow acc ys m ∧ RCp κ H ks ρ fp m ∧ D ∉ m ∧ Holds (fLcL t is ft fe ρ (xs.drop (i + 1)) >>= fun zs => lstD (ys ++ zs)) (fun d => ∀ v H' m, Same H H' → Ab K H' κ.ow v d m → RCp κ H ks ρ fp m → Q v H') U,
      fun H' q => ⟨xs.length - (i + 1), by omega, rfl, q⟩, fun x H' y => ?_⟩
    obtain ⟨sm, d, n, ed, ab, hn⟩ := wk.yld i H2 x H' s2 hlt y
    have ed' : xs[i] = d := by
      rw [List.getElem?_eq_getElem hlt] at ed
      exact Option.some.inj ed
    rw [ed'] at h2
    simp only [fLcL, assocR] at h2
    have sH : Same H H' := s1.trans (s2.trans sm)
    have st : Step K H H' ks (wipe σ is) ρ (wipeE ρ is) fp fp := ⟨(eo.same sH).wipe, Same.fr sH _, fun a q => .inl q.wipe, fun a q => .inl q.wipe⟩
    refine T_run t (fun j hj => hk j (ht j hj)) st ab (fun a q => ⟨fun z => (rc a (hn a q)).1 z.wipe, (rc a (hn a q)).2⟩) ((Holds.put' h2).mono (fun ρ3 h3 σ3 fp3 s3 off => ?_) fun c hc => hc)
    refine ⟨wipe_eq (by rw [off.len, wipe_length]) fun j hj => off.st j fun z => hj (ht j z), ρ3, fp3, s3.env, (Holds.noXb h3).mono (fun b hb H3 s4 => ?_) fun c hc => hc⟩
    have nAl : ¬ Al ρ3 fp3 D := fun z => by
      rcases off.al D z with q | q
      · exact eo.tr q.wipe hD0
      · exact tr D (hn D q) hD
    have hD3 : H3 D = some (.lst acc) := s4 _ _ (sm _ _ hacc)
    have s14 : Same H1 H3 := s2.trans (sm.trans s4)
    cases b with
    | false =>
      have hb' : Holds (fLcL t is ft fe ρ (xs.drop (i + 1)) >>= fun zs => lstD (ys ++ zs)) (fun d => ∀ v H' m, Same H H' → Ab K H' κ.ow v d m → RCp κ H ks ρ fp m → Q v H') U := by simpa using hb
      show if false = true then _ else _
      rw [if_neg Bool.false_ne_true]
      exact ⟨hlt, acc, ys, m, hD3, s14, al.same (sm.trans s4), rcm, hDm, hb'⟩
    | true =>
      show if true = true then _ else _
      rw [if_pos rfl]
      have hb' : Holds (noX (fe ρ3) >>= fun y => fLcL t is ft fe ρ (xs.drop (i + 1)) >>= fun zs => lstD (ys ++ y :: zs)) (fun d => ∀ v H' m, Same H H' → Ab K H' κ.ow v d m → RCp κ H ks ρ fp m → Q v H') U := by simpa [assocR] using hb
      refine ⟨ρ3, fp3, s3.env.same s4, (Holds.noXb hb').mono (fun y hy v H4 l s5 a5 r5 => ?_) fun c hc => hc⟩
      have hD4 : H4 D = some (.lst acc) := s5 _ _ hD3
      have hDl : D ∉ l := fun z => by
        cases κ with
        | B => exact hκ rfl
        | V => exact (r5 D z).2.elim nAl fun q => by rw [hD3] at q; cases q
        | F => have q := r5.2 D z; rw [hD3] at q; cases q
      have r5' : RCp κ H ks ρ fp l := by
        cases κ with
        | B => trivial
        | V => exact fun a q => ⟨fun z => (r5 a q).1 (off.ow' (fun j hj => hk j (ht j hj)) (z.unwipe hk)), (r5 a q).2.elim (fun z => s3.sub a z) fun z => .inr (Same.back (sH.trans s4) z)⟩
        | F => exact ⟨r5.1, fun a q => Same.back (sH.trans s4) (r5.2 a q)⟩
      have rcm' : RCp κ H ks ρ fp (m ++ l) := by
        cases κ with
        | B => trivial
        | V => exact fun a q => (List.mem_append.mp q).elim (rcm a) (r5' a)
        | F => exact ⟨List.nodup_append.mpr ⟨rcm.1, r5'.1, fun a q b z e => by
            rw [e] at q
            have tb : H3 b ≠ none := ((al.same sm).same s4).tr q
            exact tb (r5.2 b z)⟩, fun a q => (List.mem_append.mp q).elim (rcm.2 a) (r5'.2 a)⟩
      have hlen : acc.length < sizeLine := by
        have hp : ∃ zs, fLcL t is ft fe ρ (xs.drop (i + 1)) = .ok zs ∧ ∃ d, lstD (ys ++ y :: zs) = .ok d := by
          cases q : fLcL t is ft fe ρ (xs.drop (i + 1)) with
          | ok zs =>
            refine ⟨zs, rfl, ?_⟩
            rw [q] at hy
            cases q2 : lstD (ys ++ y :: zs) with
            | ok d => exact ⟨d, rfl⟩
            | ex c => simp only [lstD] at q2; split at q2 <;> cases q2
            | no => simp only [ok_bind, q2] at hy; exact hy.elim
          | ex c =>
            exfalso
            have : ∀ (l : List PyData) (c : Ex), fLcL t is ft fe ρ l ≠ .ex c := by
              intro l
              induction l with
              | nil => intro c z; cases z
              | cons d ds ih =>
                intro c z
                simp only [fLcL] at z
                rcases bind_ex_iff.mp z with z | ⟨ρ1, _, z⟩
                · exact put_ex t _ _ c z
                rcases bind_ex_iff.mp z with z | ⟨b, _, z⟩
                · cases w : ft ρ1 <;> rw [w] at z <;> cases z
                cases b with
                | false => rw [if_neg Bool.false_ne_true] at z; exact ih c z
                | true =>
                  rw [if_pos rfl] at z
                  rcases bind_ex_iff.mp z with z | ⟨y, _, z⟩
                  · cases w : fe ρ1 <;> rw [w] at z <;> cases z
                  rcases bind_ex_iff.mp z with z | ⟨y, _, z⟩
                  · exact ih c z
                  · cases z
            exact this _ c q
          | no => rw [q] at hy; exact hy.elim
        obtain ⟨zs, _, d, e⟩ := hp
        unfold lstD at e
        split at e
        · rename_i hz
          rw [List.length_append, List.length_cons] at hz
          rw [al.len]; omega
        · cases e
      refine ⟨acc, hD4, hlen, hlt, acc ++ [v], ys ++ [y], m ++ l, upd_same, ?_, ?_, rcm', fun z => (List.mem_append.mp z).elim hDm hDl, ?_⟩
      · intro b o e
        have : b ≠ D := fun z => by rw [z, hD] at e; cases e
        rw [upd_ne this]
        exact s5 _ _ (s14 b o e)
      · have fr : Fr (fun x => x = D) H4 (upd H4 D (.lst (acc ++ [v]))) := ⟨fun x o e q => by
          by_cases z : x = D
          · subst z; rw [hD4] at e; cases e; exact absurd trivial (q rfl)
          · rw [upd_ne z]; exact e, fun x q => by
          by_cases z : x = D
          · subst z; rw [upd_same]; exact fun z => nomatch z
          · rw [upd_ne z]; exact q⟩
        have a6 : AbL K H4 κ.ow (acc ++ [v]) (ys ++ [y]) (m ++ (l ++ [])) := (((al.same sm).same s4).same s5).append (.cons a5 .nil)
        rw [List.append_nil] at a6
        exact a6.fr fr fun a q z => (List.mem_append.mp q).elim (fun q => hDm (z ▸ q)) fun q => hDl (z ▸ q)
      · simpa using hy
  · have e : i = xs.length := by omega
    subst e
    rw [List.drop_length] at h2
    refine .inl ⟨wk.stop _ H2 s2 (Nat.le_refl _), ?_⟩
    have h2' : Holds (lstD ys) (fun d => ∀ v H' m, Same H H' → Ab K H' κ.ow v d m → RCp κ H ks ρ fp m → Q v H') U := by simpa [fLcL] using h2
    unfold lstD at h2'
    split at h2'
    · refine h2' (.ref D) H2 (D :: m) (s1.trans s2) (.lst hacc al) ?_
      cases κ with
      | B => trivial
      | V =>
        intro a q
        rcases List.mem_cons.mp q with e | q
        · rw [e]; exact ⟨fun z => eo.notAl hD0 z.al, .inr hD0⟩
        · exact rcm a q
      | F =>
        refine ⟨List.nodup_cons.mpr ⟨hDm, rcm.1⟩, fun a q => ?_⟩
        rcases List.mem_cons.mp q with e | q
        · rw [e]; exact hD0
        · exact rcm.2 a q
    · exact h2'.elim
theorem PTs.imp {X : Cx} {e : List Expr} {t t' : TT} (h : PTs X e t) (w : ∀ σ H Q, t' σ H Q → t σ H Q) : PTs X e t' := ⟨fun pins s σ H Q I q => h.run pins s σ H Q I (w σ H Q q)⟩
theorem ts_nil : PTs X [] (tPT X.K W ks gYes) := PTs.imp pts_nil fun σ H Q ⟨ρ, fp, eo, h⟩ => h H (Same.refl H)
theorem ts_one {f : Env → R Bool} (h : DPT X W ks c f) : PTs X [c] (tPT X.K W ks f) := pts_one h
theorem p_lc {t : Tg} {fi : Env → R (List PyData)} {ft : Env → R Bool} {fe : Env → R PyData} (hc : X.calm = true) (hN : X.N.Nodup) (hi : PI X tg iter (tIp X.K W ks fi)) (ok : BlkOk X.N X.env.scope scope own) (hk : ∀ i ∈ own.map (·.2), ks[i]? = some false) (ht : ∀ i ∈ tgS t, i ∈ own.map (·.2))
    (hg : Blk X scope fun B => PG B tg (gT X.K t)) (hf : Blk X scope fun B => PTs B ifs (tPT X.K W0 ks ft)) (he : Blk X scope fun B => DP B W0 ks κ elt fe) (hκ : κ ≠ .B := by decide) (hs : ∀ x, foldedSetIterable iter X.env x = pure x := by intro _; rfl) :
    DP X W ks κ (.ListComp elt [⟨tg, iter, ifs, 0⟩] scope pos) (fLc t (own.map (·.2)) fi ft fe) :=
  PE.imp (pe_lc hc hN hi ok hg hf he hs) fun σ H Q ⟨ρ, fp, eo, h⟩ => ⟨ρ, fp, eo, (Holds.bind h).mono (fun xs hx J H1 mi s1 rc tr wk => lcP_core hk ht hκ eo s1 rc tr wk hx) fun c hc => hc⟩
end
end PV

set_option Elab.async false
set_option linter.all false
set_option maxRecDepth 100000
set_option maxHeartbeats 1000000
set_option autoImplicit false
/-! PV, part j: comprehensions that change owning slots. -/
namespace PV
open PySem PySem.Spec PyProof.Rows L2
section
variable {K : PySem.W.Frag} {H H1 H2 H' H'' : Hp} {ks : List Bool} {is : List Nat} {σ σ' σ1 σ2 : L2.St} {ρ ρ' ρ'' ρ1 ρ2 : Env} {fp fp' fp'' fp1 fp2 : Nat → List Addr} {m n : List Addr} {κ : Kd}
theorem RCe.stepT (hk : κ ≠ .B) {σ2 : L2.St} (tr : ∀ a ∈ m, H' a ≠ none) (r : RCe κ H ks ρ fp ρ' fp' m) (s : Step K H' H'' ks σ2 ρ' ρ'' fp' fp'') : RCe κ H ks ρ fp ρ'' fp'' m := by
  cases κ with
  | B => exact absurd rfl hk
  | V => exact fun a q => ⟨fun z => (s.subo a z).elim (r a q).1 (fun y => tr a q y), (r a q).2⟩
  | F => exact ⟨r.1, fun a q => ⟨fun z => (s.sub a z).elim (r.2 a q).1 (fun y => tr a q y), (r.2 a q).2⟩⟩
theorem RCe.bothT (hk : κ ≠ .B) (s1 : Step K H H1 ks σ ρ ρ1 fp fp1) (tr : ∀ a ∈ m, H1 a ≠ none) (r : RCe κ H ks ρ fp ρ1 fp1 m) (s2 : Step K H1 H2 ks σ2 ρ1 ρ2 fp1 fp2) (q : RCe κ H1 ks ρ1 fp1 ρ2 fp2 n) : RCe κ H ks ρ fp ρ2 fp2 (m ++ n) := by
  have r' := RCe.stepT hk tr r s2
  have q' := RCe.pre s1 q
  cases κ with
  | B => exact absurd rfl hk
  | V => exact fun x z => (List.mem_append.mp z).elim (r' x) (q' x)
  | F =>
    refine ⟨List.nodup_append.mpr ⟨r'.1, q'.1, fun x hx y hy e => ?_⟩, fun x z => (List.mem_append.mp z).elim (r'.2 x) (q'.2 x)⟩
    rw [e] at hx
    rcases (q.2 y hy).2 with z | z
    · exact (r.2 y hx).1 z.al
    · exact tr y hx z
theorem RCe.wipe (r : RCe κ H ks ρ fp ρ' fp' m) : RCe κ H ks ρ fp (wipeE ρ' is) fp' m := by
  cases κ with
  | B => trivial
  | V => exact fun a q => ⟨fun z => (r a q).1 z.wipe, (r a q).2⟩
  | F => exact ⟨r.1, fun a q => ⟨fun z => (r.2 a q).1 z.wipe, (r.2 a q).2⟩⟩
theorem Step.wipe (s : Step K H H' ks σ ρ ρ' fp fp') : Step K H H' ks (L2.wipe σ is) ρ (wipeE ρ' is) fp fp' := ⟨s.env.wipe, s.fr, fun a q => s.sub a q.wipe, fun a q => s.subo a q.wipe⟩
theorem EOk.unwipe (eo : EOk K H ks (L2.wipe σ is) ρ fp) : EOk K H ks σ ρ fp :=
  ⟨by have := eo.len; rw [wipe_length] at this; exact this, fun i d h => let ⟨v, e, a⟩ := eo.ab i d h; ⟨v, (wipe_some e).1, a⟩, eo.nd, eo.dj⟩
theorem Step.unwipe (s : Step K H H' ks (L2.wipe σ is) ρ ρ' fp fp') : Step K H H' ks σ ρ ρ' fp fp' := ⟨s.env.unwipe, s.fr, s.sub, s.subo⟩
/-- something that no slot reaches is changed -/
theorem Step.side {D : Addr} {o : HO} (s : Step K H H' ks σ ρ ρ' fp fp') (h0 : H D = none) (nA : ¬ Al ρ' fp' D) {u : HO} (hu : H' D = some u) (mu : MutO u) : Step K H (L2.upd H' D o) ks σ ρ ρ' fp fp' := by
  have fr : Fr (fun x => x = D) H' (L2.upd H' D o) := ⟨fun x o e q => by
    by_cases z : x = D
    · subst z; rw [hu] at e; cases e; exact absurd mu (q rfl)
    · rw [upd_ne z]; exact e, fun x q => by
    by_cases z : x = D
    · subst z; rw [upd_same]; exact fun z => nomatch z
    · rw [upd_ne z]; exact q⟩
  refine ⟨⟨s.env.len, fun i d h => ?_, s.env.nd, s.env.dj⟩, ⟨fun x o e q => ?_, fun x q => fr.2 x (s.fr.2 x q)⟩, s.sub, s.subo⟩
  · obtain ⟨v, e, a⟩ := s.env.ab i d h
    exact ⟨v, e, a.fr fr fun x q z => nA ⟨i, d, h, by rw [← z]; exact q⟩⟩
  · have : x ≠ D := fun z => by rw [z, h0] at e; cases e
    rw [upd_ne this]
    exact s.fr.1 x o e q
end
def lstE (ys : List PyData) (ρ : Env) : R (PyData × Env) := if ys.length ≤ sizeLine then .ok (.list ys, ρ) else .no
def eLcL (t : Tg) (own : List Nat) (ft : Env → R (Bool × Env)) (fe : FE) : List PyData → Env → R (List PyData × Env)
  | [], ρ => .ok ([], ρ)
  | d :: ds, ρ => put t d ρ >>= fun ρ1 => noX (ft ρ1) >>= fun b => if b.1 then noX (fe b.2) >>= fun y => eLcL t own ft fe ds (wipeE y.2 own) >>= fun r => .ok (y.1 :: r.1, r.2) else eLcL t own ft fe ds (wipeE b.2 own)
def eLc (t : Tg) (own : List Nat) (fi : Env → R (List PyData × Env)) (ft : Env → R (Bool × Env)) (fe : FE) : FE := fun ρ => fi ρ >>= fun r => eLcL t own ft fe r.1 (wipeE r.2 own) >>= fun q => lstE q.1 q.2
def egYes : Env → R (Bool × Env) := fun ρ => .ok (true, ρ)
theorem eLcL_ex {t : Tg} {own : List Nat} {ft : Env → R (Bool × Env)} {fe : FE} : ∀ (l : List PyData) (ρ : Env) (c : Ex), eLcL t own ft fe l ρ ≠ .ex c
  | [], ρ, c, z => by cases z
  | d :: ds, ρ, c, z => by
    simp only [eLcL] at z
    rcases bind_ex_iff.mp z with z | ⟨ρ1, _, z⟩
    · exact put_ex t _ _ c z
    rcases bind_ex_iff.mp z with z | ⟨b, _, z⟩
    · cases w : ft ρ1 <;> rw [w] at z <;> cases z
    obtain ⟨b, ρ2⟩ := b
    cases b with
    | false => exact eLcL_ex ds _ c z
    | true =>
      have z' : (noX (fe ρ2) >>= fun y => eLcL t own ft fe ds (wipeE y.2 own) >>= fun r => .ok (y.1 :: r.1, r.2)) = .ex c := z
      rcases bind_ex_iff.mp z' with z | ⟨y, _, z⟩
      · cases w : fe ρ2 <;> rw [w] at z <;> cases z
      rcases bind_ex_iff.mp z with z | ⟨y, _, z⟩
      · exact eLcL_ex ds _ c z
      · cases z
section
variable {X : Cx} {W : WX} {ks : List Bool} {P : List Nat} {κ : Kd} {a b c e tg elt iter : Expr} {pos : Pos} {scope : Scope} {own : List (Str × Nat)} {ifs : List Expr}
theorem lcE_core {K : PySem.W.Frag} {t : Tg} {is : List Nat} {ft : Env → R (Bool × Env)} {fe : FE} {σ : L2.St} {H H1 : Hp} {ρ ρ1 : Env} {fp fp1 : Nat → List Addr} {mi : List Addr} {J : It} {xs : List PyData} {Q : VK} {U : Ex → Prop} (hk : ∀ i ∈ is, ks[i]? = some false) (ht : ∀ i ∈ tgS t, i ∈ is) (hκ : κ ≠ .B) (eo : EOk K H ks σ ρ fp)
    (s1 : Step K H H1 ks σ ρ ρ1 fp fp1) (rc : RCe .V H ks ρ fp ρ1 fp1 mi) (tr : ∀ a ∈ mi, H1 a ≠ none) (wk : Walks K J xs mi (Pr mi H1)) (h : Holds (eLcL t is ft fe xs (wipeE ρ1 is) >>= fun q => lstE q.1 q.2) (fun r => ∀ v H' fp' m, Step K H H' ks σ ρ r.2 fp fp' → Ab K H' κ.ow v r.1 m → RCe κ H ks ρ fp r.2 fp' m → Q v H') U) :
    ∀ D, H1 D = none → ∃ W1 : Nat → Nat → Hp → Prop, (∃ m, W1 0 m (upd H1 D (.lst []))) ∧ ∀ i m H2, W1 i m H2 →
      (J.stop i H2 ∧ Q (.ref D) H2) ∨ (J.go i H2 ∧ ∃ Nx : Hp → Prop, (∀ H', Nx H' → ∃ m', m' < m ∧ W1 (i + 1) m' H') ∧ ∀ x H', J.yld i H2 x H' → gT K t x (wipe σ is) H' fun σ2 H3 => wipe σ2 is = wipe σ is ∧ tET K W0 ks ft σ2 H3 fun b H3 =>
        if b = true then tE K W0 ks κ fe σ2 H3 fun y H4 => ∃ acc, H4 D = some (.lst acc) ∧ acc.length < sizeLine ∧ Nx (upd H4 D (.lst (acc ++ [y]))) else Nx H3) := by
  intro D hD
  have hD0 : H D = none := s1.fr.back hD
  have nA1 : ¬ Al ρ1 fp1 D := fun z => s1.env.tr z hD
  let St (xs' : List PyData) (H2 : Hp) : Prop := ∃ ρ2 fp2 acc ys m, H2 D = some (.lst acc) ∧ Step K H H2 ks (wipe σ is) ρ ρ2 fp fp2 ∧ Pr mi H1 H2 ∧ (∀ a ∈ mi, ¬ Ow ks ρ2 fp2 a) ∧ (∀ a ∈ mi, H2 a ≠ none) ∧ ¬ Al ρ2 fp2 D ∧ AbL K H2 κ.ow acc ys m ∧ RCe κ H ks ρ fp ρ2 fp2 m ∧ (κ = .F → ∀ a ∈ m, a ∉ mi) ∧ D ∉ m ∧
    Holds (eLcL t is ft fe xs' ρ2 >>= fun r => lstE (ys ++ r.1) r.2) (fun r => ∀ v H' fp' m, Step K H H' ks σ ρ r.2 fp fp' → Ab K H' κ.ow v r.1 m → RCe κ H ks ρ fp r.2 fp' m → Q v H') U
  refine ⟨fun i k H2 => k = xs.length - i ∧ i ≤ xs.length ∧ St (xs.drop i) H2,
    ⟨_, rfl, Nat.zero_le _, wipeE ρ1 is, fp1, [], [], [], upd_same, ?_, Pr.of (same_new hD) _, fun a q z => (rc a q).1 z.wipe, fun a q => ?_, fun z => nA1 z.wipe, .nil, RCe.nil _, fun _ _ q => (nomatch q), fun z => (nomatch z), by simpa using h⟩, ?_⟩
  · refine ⟨(s1.env.same (same_new hD)).wipe, ⟨fun x o e q => ?_, fun x q z => ?_⟩, fun a q => s1.sub a q.wipe, fun a q => s1.subo a q.wipe⟩
    · exact same_new hD x o (s1.fr.1 x o e q)
    · exact s1.fr.2 x q (Same.back (same_new hD) z)
  · exact fun z => tr a q (Same.back (same_new hD) z)
  rintro i k H2 ⟨rfl, hi, ρ2, fp2, acc, ys, m, hacc, s2, pr, nO, tr2, nA, al, rcm, hdis, hDm, h2⟩
  by_cases hlt : i < xs.length
  · rw [List.drop_eq_getElem_cons hlt] at h2
    refine .inr ⟨wk.go i H2 pr hlt, fun H' => i + 1 ≤ xs.length ∧ St (xs.drop (i + 1)) H', fun H' q => ⟨xs.length - (i + 1), by omega, rfl, q⟩, fun x H' y => ?_⟩
    obtain ⟨sm, d, n, ed, ab, hn⟩ := wk.yld i H2 x H' pr hlt y
    have ed' : xs[i] = d := by
      rw [List.getElem?_eq_getElem hlt] at ed
      exact Option.some.inj ed
    rw [ed'] at h2
    simp only [eLcL, assocR] at h2
    have s2' := s2.trans (Step.same s2.env sm)
    refine T_run t (fun j hj => hk j (ht j hj)) s2' ab (fun a q => ⟨nO a (hn a q), (rc a (hn a q)).2⟩) ((Holds.put' h2).mono (fun ρ3 h3 σ3 fp3 s3 off => ?_) fun c hc => hc)
    have hkt : ∀ i ∈ tgS t, ks[i]? = some false := fun j hj => hk j (ht j hj)
    have wq : wipe σ3 is = wipe σ is := wipe_eq (by rw [off.len, wipe_length]) fun j hj => off.st j fun z => hj (ht j z)
    have nA3 : ¬ Al ρ3 fp3 D := fun z => (off.al D z).elim nA fun q => tr D (hn D q) hD
    have nO3 : ∀ a ∈ mi, ¬ Ow ks ρ3 fp3 a := fun a q z => nO a q (off.ow hkt z)
    have tr3 : ∀ a ∈ mi, H' a ≠ none := fun a q z => tr2 a q (Same.back sm z)
    have pr3 : Pr mi H1 H' := fun a o e q => sm a o (pr a o e q)
    have hD3 : H' D = some (.lst acc) := sm _ _ hacc
    have al3 := al.same sm
    have trm3 : ∀ a ∈ m, H' a ≠ none := fun a q => al3.tr q
    have rc3 : RCe κ H ks ρ fp ρ3 fp3 m := by
      cases κ with
      | B => trivial
      | V => exact fun a q => ⟨fun z => (rcm a q).1 (off.ow hkt z), (rcm a q).2⟩
      | F => exact ⟨rcm.1, fun a q => ⟨fun z => (off.al a z).elim (rcm.2 a q).1 fun w => hdis rfl a q (hn a w), (rcm.2 a q).2⟩⟩
    refine ⟨wq, ρ3, fp3, s3.env, (Holds.noXb h3).mono (fun b hb H3 fp4 s4 => ?_) fun c hc => hc⟩
    have nA4 : ¬ Al b.2 fp4 D := fun z => (s4.sub D z).elim nA3 fun q => by rw [hD3] at q; cases q
    have nO4 : ∀ a ∈ mi, ¬ Ow ks b.2 fp4 a := fun a q z => (s4.subo a z).elim (nO3 a q) (tr3 a q)
    have tr4 : ∀ a ∈ mi, H3 a ≠ none := fun a q => s4.fr.2 a (tr3 a q)
    have pr4 : Pr mi H1 H3 := fun a o e q => s4.pr nO3 a o (pr3 a o e q) q
    have hD4 : H3 D = some (.lst acc) := s4.fr.1 _ _ hD3 fun z => absurd z.al nA3
    have al4 : AbL K H3 κ.ow acc ys m := al3.fr s4.fr (rc3.notO hκ)
    have trm4 : ∀ a ∈ m, H3 a ≠ none := fun a q => al4.tr q
    have rc4 := RCe.stepT hκ trm3 rc3 s4
    have s34 := s3.trans s4
    obtain ⟨b, ρ4⟩ := b
    cases b with
    | false =>
      have hb' : Holds (eLcL t is ft fe (xs.drop (i + 1)) (wipeE ρ4 is) >>= fun r => lstE (ys ++ r.1) r.2) (fun r => ∀ v H' fp' m, Step K H H' ks σ ρ r.2 fp fp' → Ab K H' κ.ow v r.1 m → RCe κ H ks ρ fp r.2 fp' m → Q v H') U := by simpa using hb
      show if false = true then _ else _
      rw [if_neg Bool.false_ne_true]
      have s5 := s34.wipe (is := is)
      rw [wq] at s5
      exact ⟨hlt, wipeE ρ4 is, fp4, acc, ys, m, hD4, s5, pr4, fun a q z => nO4 a q z.wipe, tr4, fun z => nA4 z.wipe, al4, rc4.wipe, hdis, hDm, hb'⟩
    | true =>
      show if true = true then _ else _
      rw [if_pos rfl]
      have hb' : Holds (noX (fe ρ4) >>= fun y => eLcL t is ft fe (xs.drop (i + 1)) (wipeE y.2 is) >>= fun r => lstE (ys ++ y.1 :: r.1) r.2) (fun r => ∀ v H' fp' m, Step K H H' ks σ ρ r.2 fp fp' → Ab K H' κ.ow v r.1 m → RCe κ H ks ρ fp r.2 fp' m → Q v H') U := by simpa [assocR] using hb
      refine ⟨ρ4, fp4, s34.env, (Holds.noXb hb').mono (fun y hy v H4 fp5 l s5 a5 r5 => ?_) fun c hc => hc⟩
      have hD5 : H4 D = some (.lst acc) := s5.fr.1 _ _ hD4 fun z => absurd z.al nA4
      have nA5 : ¬ Al y.2 fp5 D := fun z => (s5.sub D z).elim nA4 fun q => by rw [hD4] at q; cases q
      have hDl : D ∉ l := fun z => by
        cases κ with
        | B => exact hκ rfl
        | V => exact (r5 D z).2.elim nA4 fun q => by rw [hD4] at q; cases q
        | F => exact (r5.2 D z).2.elim (fun q => nA4 q.al) fun q => by rw [hD4] at q; cases q
      have rcb := RCe.bothT hκ s34 trm4 rc4 s5 r5
      have dis5 : κ = .F → ∀ a ∈ m ++ l, a ∉ mi := fun e a q z => (List.mem_append.mp q).elim (fun q => hdis e a q z) fun q => by
        subst e
        exact (r5.2 a q).2.elim (nO4 a z) (tr4 a z)
      have hlen : acc.length < sizeLine := by
        cases q : eLcL t is ft fe (xs.drop (i + 1)) (wipeE y.2 is) with
        | ex c => exact absurd q (eLcL_ex _ _ c)
        | no => rw [q] at hy; exact hy.elim
        | ok r =>
          rw [q] at hy
          have hy' : Holds (lstE (ys ++ y.1 :: r.1) r.2) _ _ := hy
          unfold lstE at hy'
          split at hy'
          · rename_i hz
            rw [List.length_append, List.length_cons] at hz
            rw [al.len]; omega
          · exact hy'.elim
      have s6 := ((s34.trans s5).side (o := .lst (acc ++ [v])) hD0 nA5 hD5 trivial).wipe (is := is)
      rw [wq] at s6
      have fr : Fr (fun x => x = D) H4 (upd H4 D (.lst (acc ++ [v]))) := ⟨fun x o e q => by
        by_cases z : x = D
        · subst z; rw [hD5] at e; cases e; exact absurd trivial (q rfl)
        · rw [upd_ne z]; exact e, fun x q => by
        by_cases z : x = D
        · subst z; rw [upd_same]; exact fun z => nomatch z
        · rw [upd_ne z]; exact q⟩
      have hDmi : D ∉ mi := fun z => tr D z hD
      refine ⟨acc, hD5, hlen, hlt, wipeE y.2 is, fp5, acc ++ [v], ys ++ [y.1], m ++ l, upd_same, s6, fun a o e q => ?_, fun a q z => (s5.subo a z.wipe).elim (nO4 a q) (tr4 a q), fun a q => fr.2 a (s5.fr.2 a (tr4 a q)), fun z => nA5 z.wipe, ?_, rcb.wipe, dis5, fun z => (List.mem_append.mp z).elim hDm hDl, ?_⟩
      · refine fr.1 a o (s5.pr nO4 a o (pr4 a o e q) q) fun z => ?_
        rw [z, hD] at e; cases e
      · have a6 : AbL K H4 κ.ow (acc ++ [v]) (ys ++ [y.1]) (m ++ (l ++ [])) := (al4.fr s5.fr (rc4.notO hκ)).append (.cons a5 .nil)
        rw [List.append_nil] at a6
        exact a6.fr fr fun a q z => (List.mem_append.mp q).elim (fun q => hDm (z ▸ q)) fun q => hDl (z ▸ q)
      · simpa using hy
  · have e : i = xs.length := by omega
    subst e
    rw [List.drop_length] at h2
    refine .inl ⟨wk.stop _ H2 pr (Nat.le_refl _), ?_⟩
    have h2' : Holds (lstE ys ρ2) (fun r => ∀ v H' fp' m, Step K H H' ks σ ρ r.2 fp fp' → Ab K H' κ.ow v r.1 m → RCe κ H ks ρ fp r.2 fp' m → Q v H') U := by simpa [eLcL] using h2
    unfold lstE at h2'
    split at h2'
    · refine h2' (.ref D) H2 fp2 (D :: m) s2.unwipe (.lst hacc al) ?_
      cases κ with
      | B => trivial
      | V =>
        intro a q
        rcases List.mem_cons.mp q with e | q
        · rw [e]; exact ⟨fun z => nA z.al, .inr hD0⟩
        · exact rcm a q
      | F =>
        refine ⟨List.nodup_cons.mpr ⟨hDm, rcm.1⟩, fun a q => ?_⟩
        rcases List.mem_cons.mp q with e | q
        · rw [e]; exact ⟨nA, .inr hD0⟩
        · exact rcm.2 a q
    · exact h2'.elim
theorem ets_nil : PTs X [] (tET X.K W ks egYes) := PTs.imp pts_nil fun σ H Q ⟨ρ, fp, eo, h⟩ => h H fp (Step.same eo (Same.refl H))
theorem ets_one {f : Env → R (Bool × Env)} (h : DET X W ks c f) : PTs X [c] (tET X.K W ks f) := pts_one h
theorem e_lc {t : Tg} {fi : Env → R (List PyData × Env)} {ft : Env → R (Bool × Env)} {fe : FE} (hc : X.calm = true) (hN : X.N.Nodup) (hi : PI X tg iter (tI X.K W ks fi)) (ok : BlkOk X.N X.env.scope scope own) (hk : ∀ i ∈ own.map (·.2), ks[i]? = some false) (ht : ∀ i ∈ tgS t, i ∈ own.map (·.2))
    (hg : Blk X scope fun B => PG B tg (gT X.K t)) (hf : Blk X scope fun B => PTs B ifs (tET X.K W0 ks ft)) (he : Blk X scope fun B => DE B W0 ks κ elt fe) (hκ : κ ≠ .B := by decide) (hs : ∀ x, foldedSetIterable iter X.env x = pure x := by intro _; rfl) :
    DE X W ks κ (.ListComp elt [⟨tg, iter, ifs, 0⟩] scope pos) (eLc t (own.map (·.2)) fi ft fe) :=
  PE.imp (pe_lc hc hN hi ok hg hf he hs) fun σ H Q ⟨ρ, fp, eo, h⟩ => ⟨ρ, fp, eo, (Holds.bind h).mono (fun xs hx J H1 fp1 mi s1 rc tr wk => lcE_core hk ht hκ eo s1 rc tr wk hx) fun c hc => hc⟩
/-- name = [..] -/
theorem s_setLc {i : Nat} {y : Str} {py spos : Pos} {bk : Bool} {t : Tg} {fi : Env → R (List PyData × Env)} {ft : Env → R (Bool × Env)} {fe : FE} (hc : X.calm = true) (hN : X.N.Nodup) (hi : PI X tg iter (tI X.K W ks fi)) (ok : BlkOk X.N X.env.scope scope own) (hk : ∀ i ∈ own.map (·.2), ks[i]? = some false) (ht : ∀ i ∈ tgS t, i ∈ own.map (·.2))
    (hg : Blk X scope fun B => PG B tg (gT X.K t)) (hf : Blk X scope fun B => PTs B ifs (tET X.K W0 ks ft)) (he : Blk X scope fun B => DE B W0 ks (kdOf bk) elt fe) (hki : ks[i]? = some bk := by rfl) (hP : i ∉ P := by decide) (hy : X.N[i]? = some y := by rfl) (hyl : X.env.scope.names.lookup y = some .local := by rfl)
    (hsw : swapsWith (.ListComp elt [⟨tg, iter, ifs, 0⟩] scope pos) (some (.Name y py)) spos.line X.env = pure true := by rfl) (hs : ∀ x, foldedSetIterable iter X.env x = pure x := by intro _; rfl) :
    DS X W ks P κ (.Assign [.Name y py] (.ListComp elt [⟨tg, iter, ifs, 0⟩] scope pos) spos) (sSet i (eLc t (own.map (·.2)) fi ft fe)) :=
  PS.imp (ps_setLc hc hN hy hyl hsw hi ok hg hf he hs) fun D σ H ⟨ρ, fp, eo, h⟩ => ⟨ρ, fp, eo, (Holds.bind (Holds.bind h)).mono (fun xs hx J H1 fp1 mi s1 rc tr wk =>
    lcE_core (κ := kdOf bk) (U := SX X.K W ks P σ H ρ fp) (Q := fun v H' => gName i v σ H' D.nx) hk ht (by cases bk <;> decide) eo s1 rc tr wk (hx.mono (fun r hr v H' fp' m s ab rc => hr _ H' _ (Step.set hki s (ab.any _) rc) (Keep.set hP)) fun c hc => hc)) fun c hc => SX.now hc⟩
end
end PV

set_option Elab.async false
set_option linter.all false
set_option maxRecDepth 100000
set_option maxHeartbeats 1000000
set_option autoImplicit false
/-! PV, part k: owning slots' lists are changed. -/
namespace PV
open PySem PySem.Spec PyProof.Rows L2
section
variable {K : PySem.W.Frag} {H0 H H' H'' : Hp} {ks : List Bool} {σ0 σ σ' : L2.St} {ρ0 ρ ρ' ρ'' : Env} {fp0 fp fp' fp'' : Nat → List Addr} {m n : List Addr} {κ : Kd}
/-- the list of an owning slot is changed, behind a step -/
theorem Step.mut {i : Nat} {ds ds' : List PyData} {p : Addr} {vs vs' : List V} {n n' : List Addr} (s : Step K H0 H ks σ ρ0 ρ fp0 fp) (hk : ks[i]? = some true) (h : ρ[i]? = some (some (.list ds))) (hv : σ[i]? = some (some (.ref p))) (hp : H p = some (.lst vs)) (hf : fp i = p :: n)
    (a : AbL K H true vs' ds' n') (nd : n'.Nodup) (hn : ∀ x ∈ n', x ≠ p ∧ (x ∈ n ∨ (¬ Al ρ fp x ∧ (Ow ks ρ0 fp0 x ∨ H0 x = none)))) :
    Step K H0 (upd H p (.lst vs')) ks σ ρ0 (ρ.set i (some (.list ds'))) fp0 (setF fp i (p :: n')) := by
  have eo := s.env
  have hl : i < ρ.length := (List.getElem?_eq_some_iff.mp h).1
  have own_p : Ow ks ρ fp p := ⟨i, _, hk, h, by rw [hf]; exact List.mem_cons_self ..⟩
  have fr : Fr (fun x => x = p) H (upd H p (.lst vs')) := ⟨fun x o e q => by
    by_cases z : x = p
    · subst z; rw [hp] at e; cases e; exact absurd trivial (q rfl)
    · rw [upd_ne z]; exact e, fun x q => by
    by_cases z : x = p
    · subst z; rw [upd_same]; exact fun z => nomatch z
    · rw [upd_ne z]; exact q⟩
  have frO : Fr (Ow ks ρ fp) H (upd H p (.lst vs')) := ⟨fun x o e q => fr.1 x o e fun z => q (by rw [z]; exact own_p), fr.2⟩
  refine ⟨⟨by rw [List.length_set]; exact eo.len, fun j e hj => ?_, fun j e ho hj => ?_, fun j l e g ho hne h1 h2 x hx' => ?_⟩, Fr.comp (K := K) s frO, fun x ⟨j, e, hj, hx'⟩ => ?_, fun x ⟨j, e, ho, hj, hx'⟩ => ?_⟩
  · rcases get_set hj with ⟨rfl, _, e1⟩ | ⟨hne, hj⟩
    · cases e1
      refine ⟨_, hv, ?_⟩
      rw [setF_same, hk]
      exact .lst upd_same (a.fr fr fun x q => (hn x q).1)
    · obtain ⟨u, e1, a1⟩ := eo.ab j e hj
      refine ⟨u, e1, ?_⟩
      rw [setF_ne hne]
      refine a1.fr fr fun x q z => ?_
      subst z
      exact eo.dj i j _ _ hk (fun z => hne z.symm) h hj x (by rw [hf]; exact List.mem_cons_self ..) q
  · rcases get_set hj with ⟨rfl, _, _⟩ | ⟨hne, hj⟩
    · rw [setF_same]; exact List.nodup_cons.mpr ⟨fun z => (hn p z).1 rfl, nd⟩
    · rw [setF_ne hne]; exact eo.nd j e ho hj
  · have key : ∀ (l : Nat) (g : PyData), l ≠ i → ρ[l]? = some (some g) → ∀ x ∈ p :: n', x ∉ fp l := fun l g hli hg x q z => by
      rcases List.mem_cons.mp q with e1 | q
      · rw [e1] at z
        exact eo.dj i l _ _ hk (fun z => hli z.symm) h hg p (by rw [hf]; exact List.mem_cons_self ..) z
      · rcases (hn x q).2 with y | y
        · exact eo.dj i l _ _ hk (fun z => hli z.symm) h hg x (by rw [hf]; exact List.mem_cons_of_mem _ y) z
        · exact y.1 ⟨l, g, hg, z⟩
    rcases get_set h1 with ⟨e1, _, _⟩ | ⟨hn1, h1'⟩
    · rcases get_set h2 with ⟨e2, _⟩ | ⟨hn2, h2'⟩
      · exact absurd (e1.trans e2.symm) hne
      · rw [e1, setF_same] at hx'
        rw [setF_ne hn2]
        exact key l g hn2 h2' x hx'
    · rw [setF_ne hn1] at hx'
      rcases get_set h2 with ⟨e2, _, _⟩ | ⟨hn2, h2'⟩
      · rw [e2, setF_same]
        exact fun z => key j e hn1 h1' x z hx'
      · rw [setF_ne hn2]
        exact eo.dj j l e g ho hne h1' h2' x hx'
  · rcases get_set hj with ⟨rfl, _, _⟩ | ⟨hne, hj⟩
    · rw [setF_same] at hx'
      rcases List.mem_cons.mp hx' with e1 | q
      · rw [e1]; exact s.sub p own_p.al
      · rcases (hn x q).2 with y | y
        · exact s.sub x ⟨j, _, h, by rw [hf]; exact List.mem_cons_of_mem _ y⟩
        · exact y.2.elim (fun z => .inl z.al) .inr
    · rw [setF_ne hne] at hx'
      exact s.sub x ⟨j, e, hj, hx'⟩
  · rcases get_set hj with ⟨rfl, _, _⟩ | ⟨hne, hj⟩
    · rw [setF_same] at hx'
      rcases List.mem_cons.mp hx' with e1 | q
      · rw [e1]; exact s.subo p own_p
      · rcases (hn x q).2 with y | y
        · exact s.subo x ⟨j, _, hk, h, by rw [hf]; exact List.mem_cons_of_mem _ y⟩
        · exact y.2
    · rw [setF_ne hne] at hx'
      exact s.subo x ⟨j, e, ho, hj, hx'⟩
theorem AbL.set {o : Bool} : ∀ {vs : List V} {ds : List PyData} {n : List Addr} {v : V} {d : PyData} {l : List Addr} {k : Nat}, AbL K H o vs ds n → Ab K H o v d l → ∃ n', AbL K H o (vs.set k v) (ds.set k d) n' ∧ (n.Nodup → l.Nodup → (∀ x ∈ l, x ∉ n) → n'.Nodup) ∧ ∀ x ∈ n', x ∈ n ∨ x ∈ l
  | [], ds, n, v, d, l, k, h, a => by cases h; exact ⟨[], .nil, fun h _ _ => h, fun _ q => nomatch q⟩
  | w :: vs, ds, n, v, d, l, k, h, a => by
    cases h with
    | @cons _ _ e es m1 m2 h1 h2 =>
      cases k with
      | zero =>
        exact ⟨l ++ m2, .cons a h2, fun hn hl hd => List.nodup_append.mpr ⟨hl, (List.nodup_append.mp hn).2.1, fun x hx y hy e => hd x hx (List.mem_append_right _ (e ▸ hy))⟩, fun x q => (List.mem_append.mp q).elim .inr fun q => .inl (List.mem_append_right _ q)⟩
      | succ k =>
        obtain ⟨n', a', nd, sb⟩ := AbL.set (k := k) h2 a
        refine ⟨m1 ++ n', .cons h1 a', fun hn hl hd => ?_, fun x q => ?_⟩
        · obtain ⟨p1, p2, p3⟩ := List.nodup_append.mp hn
          refine List.nodup_append.mpr ⟨p1, nd p2 hl fun x hx z => hd x hx (List.mem_append_right _ z), fun x hx y hy e => ?_⟩
          rcases sb y hy with z | z
          · exact p3 x hx y z e
          · exact hd y z (List.mem_append_left _ (e ▸ hx))
        · rcases List.mem_append.mp q with q | q
          · exact .inl (List.mem_append_left _ q)
          · exact (sb x q).imp (List.mem_append_right _) id
theorem AbL.snoc {o : Bool} {vs : List V} {ds : List PyData} {n l : List Addr} {v : V} {d : PyData} (h : AbL K H o vs ds n) (a : Ab K H o v d l) : AbL K H o (vs ++ [v]) (ds ++ [d]) (n ++ l) := by
  have := h.append (.cons a .nil)
  rw [List.append_nil] at this
  exact this
theorem AbL.split {o : Bool} : ∀ {vs ws : List V} {ds : List PyData} {n : List Addr}, AbL K H o (vs ++ ws) ds n → ∃ es fs n1 n2, ds = es ++ fs ∧ n = n1 ++ n2 ∧ AbL K H o vs es n1 ∧ AbL K H o ws fs n2
  | [], ws, ds, n, h => ⟨[], ds, [], n, rfl, rfl, .nil, h⟩
  | v :: vs, ws, ds, n, h => by
    cases h with
    | @cons _ _ e es m1 m2 h1 h2 =>
      obtain ⟨es', fs, n1, n2, rfl, rfl, a1, a2⟩ := AbL.split h2
      exact ⟨e :: es', fs, m1 ++ n1, n2, rfl, by rw [List.append_assoc], .cons h1 a1, a2⟩
theorem AbL.reverseF {o : Bool} : ∀ {vs : List V} {ds : List PyData}, AbL K H o vs ds [] → AbL K H o vs.reverse ds.reverse []
  | [], ds, h => by cases h; exact .nil
  | v :: vs, ds, h => by
    cases ds with
    | nil => cases h
    | cons d ds =>
      generalize hm : ([] : List Addr) = m at h
      cases h with
      | @cons _ _ _ _ m1 m2 h1 h2 =>
        have e1 : m1 = [] := (List.append_eq_nil_iff.mp hm.symm).1
        have e2 : m2 = [] := (List.append_eq_nil_iff.mp hm.symm).2
        subst e1 e2
        rw [List.reverse_cons, List.reverse_cons]
        exact AbL.snoc (AbL.reverseF h2) h1
end
section
variable {X : Cx} {W : WX} {ks : List Bool} {P : List Nat} {κ : Kd} {a b c e : Expr} {pos : Pos} {i : Nat} {y : Str} {py apos cpos : Pos}
/-- slot i holds a list -/
def slotL (i : Nat) (ρ : Env) : R (List PyData) := match ρ[i]? with
  | some (some (.list ds)) => .ok ds
  | _ => .no
theorem slotL_ok {i : Nat} {ρ : Env} {β : Type} {g : List PyData → R β} {P : β → Prop} {U : Ex → Prop} (h : Holds (slotL i ρ >>= g) P U) : ∃ d, ρ[i]? = some (some (.list d)) ∧ Holds (g d) P U := by
  unfold slotL at h
  split at h
  · exact ⟨_, by assumption, h⟩
  · exact h.elim
def eApp (i : Nat) (f : FE) : FE := fun ρ => slotL i ρ >>= fun _ => f ρ >>= fun r => slotL i r.2 >>= fun ds => if ds.length < sizeLine then .ok (.none, r.2.set i (some (.list (ds ++ [r.1])))) else .no
theorem e_append {f : FE} (hk : ks[i]? = some true) (he : DE X W ks .F e f) (hN : X.N[i]? = some y := by rfl) (hv : Vis X.env.scope y := by first | exact Or.inl rfl | exact Or.inr (Or.inl rfl) | exact Or.inr (Or.inr rfl)) (hd : (y == ("__debug__" : Str)) = false := by decide) (hcd : (y == ("__classdict__" : Str)) = false := by decide)
    (hbase : attributeBase (.Name y py) "append" X.env (eval (.Name y py) X.env) = eval (.Name y py) X.env := by rfl)
    (hfew : ((backTo cpos (starEach [e] X.env)).all (fun x => !x.1) && (backToKw cpos (keywordEach [] X.env)).all (fun x => x.1.isSome)
      && decide (([e] : List Expr).length + ([] : List Keyword).length + (if ([] : List Keyword).isEmpty then 0 else 1) < 30)) = true := by rfl)
    (hline : (apos.endLine == cpos.line) = true := by rfl) (hs : starEach [e] X.env = (false, eval e X.env) :: starEach [] X.env := by rfl) (hplain : (backTo cpos (starEach [] X.env)).any (·.1) = false := by rfl) :
    DE X W ks .F (.Call (.Attribute (.Name y py) "append" apos) [e] [] cpos) (eApp i f) :=
  PE.imp (pe_bm PySem.F.plainAttrs_list PySem.F.slot_list_append PySem.F.type_list_append mt_append (pe_var hN hv hd hcd) (pa_cons he pa_nil hs) hbase hfew hline hs hplain) fun σ H Q ⟨ρ, fp, eo, h⟩ => by
    obtain ⟨d0, e0, h⟩ := slotL_ok h
    obtain ⟨v0, ev, a0, _⟩ := eo.own hk e0
    obtain ⟨p0, vs0, n0, rfl, hp0, _, _⟩ := a0.ownL
    refine ⟨_, ev, .inl ⟨rfl, vs0, .inl (.inl hp0)⟩, ρ, fp, eo, (Holds.bind h).mono (fun r hr v H1 fp1 l s1 a1 r1 => ?_) fun c hc => hc⟩
    obtain ⟨ds, e1, hr⟩ := slotL_ok hr
    obtain ⟨v1, ev1, a2, nd⟩ := s1.env.own hk e1
    rw [ev] at ev1; cases ev1
    obtain ⟨p, vs, n, ep, hp, al, en⟩ := a2.ownL
    cases ep
    by_cases hl : ds.length < sizeLine
    · rw [if_pos hl] at hr
      refine ⟨p0, vs, v, rfl, rfl, hp, by rw [al.len]; exact hl, ?_⟩
      rw [en] at nd
      have nAl : ∀ x ∈ l, x ∉ p0 :: n := fun x q z => (r1.2 x q).1 ⟨i, _, e1, by rw [en]; exact z⟩
      have st := Step.mut s1 hk e1 ev hp en (al.snoc (a1.any true)) (List.nodup_append.mpr ⟨(List.nodup_cons.mp nd).2, r1.1, fun x hx z hz e => nAl z hz (List.mem_cons_of_mem _ (e ▸ hx))⟩) fun x q => by
        rcases List.mem_append.mp q with q | q
        · exact ⟨fun e => (List.nodup_cons.mp nd).1 (e ▸ q), .inl q⟩
        · exact ⟨fun e => nAl x q (e ▸ List.mem_cons_self ..), .inr (r1.2 x q)⟩
      exact hr .non _ _ [] st .non (RCe.nil _)
    · rw [if_neg hl] at hr; exact hr.elim
def eExt (i : Nat) (f : FE) : FE := fun ρ => slotL i ρ >>= fun _ => f ρ >>= fun r => slotL i r.2 >>= fun ds => match r.1 with
  | .list es => if flatL es then (if ds.length + es.length ≤ sizeLine then .ok (.none, r.2.set i (some (.list (ds ++ es)))) else .no) else .no
  | _ => .no
theorem e_extend {f : FE} (hk : ks[i]? = some true) (he : DE X W ks .B e f) (hN : X.N[i]? = some y := by rfl) (hv : Vis X.env.scope y := by first | exact Or.inl rfl | exact Or.inr (Or.inl rfl) | exact Or.inr (Or.inr rfl)) (hd : (y == ("__debug__" : Str)) = false := by decide) (hcd : (y == ("__classdict__" : Str)) = false := by decide)
    (hbase : attributeBase (.Name y py) "extend" X.env (eval (.Name y py) X.env) = eval (.Name y py) X.env := by rfl)
    (hfew : ((backTo cpos (starEach [e] X.env)).all (fun x => !x.1) && (backToKw cpos (keywordEach [] X.env)).all (fun x => x.1.isSome)
      && decide (([e] : List Expr).length + ([] : List Keyword).length + (if ([] : List Keyword).isEmpty then 0 else 1) < 30)) = true := by rfl)
    (hline : (apos.endLine == cpos.line) = true := by rfl) (hs : starEach [e] X.env = (false, eval e X.env) :: starEach [] X.env := by rfl) (hplain : (backTo cpos (starEach [] X.env)).any (·.1) = false := by rfl) :
    DE X W ks .F (.Call (.Attribute (.Name y py) "extend" apos) [e] [] cpos) (eExt i f) :=
  PE.imp (pe_bm PySem.F.plainAttrs_list PySem.F.slot_list_extend PySem.F.type_list_extend mt_extend (pe_var hN hv hd hcd) (pa_cons he pa_nil hs) hbase hfew hline hs hplain) fun σ H Q ⟨ρ, fp, eo, h⟩ => by
    obtain ⟨d0, e0, h⟩ := slotL_ok h
    obtain ⟨v0, ev, a0, _⟩ := eo.own hk e0
    obtain ⟨p0, vs0, n0, rfl, hp0, _, _⟩ := a0.ownL
    refine ⟨_, ev, .inl ⟨rfl, vs0, .inl (.inl hp0)⟩, ρ, fp, eo, (Holds.bind h).mono (fun r hr v H1 fp1 l s1 a1 r1 => ?_) fun c hc => hc⟩
    obtain ⟨ds, e1, hr⟩ := slotL_ok hr
    obtain ⟨v1, ev1, a2, nd⟩ := s1.env.own hk e1
    rw [ev] at ev1; cases ev1
    obtain ⟨p, vs, n, ep, hp, al, en⟩ := a2.ownL
    cases ep
    obtain ⟨d, ρ2⟩ := r
    cases d with
    | list es =>
      have hr' : Holds (if flatL es then (if ds.length + es.length ≤ sizeLine then R.ok (PyData.none, ρ2.set i (some (.list (ds ++ es)))) else .no) else .no) _ _ := hr
      by_cases hf : flatL es = true
      · rw [if_pos hf] at hr'
        by_cases hl : ds.length + es.length ≤ sizeLine
        · rw [if_pos hl] at hr'
          obtain ⟨q, ws, nq, rfl, hq, alq, _⟩ := a1.ownL
          have := alq.flat hf
          subst this
          refine ⟨p0, q, vs, ws, rfl, rfl, hp, hq, by rw [al.len, alq.len]; exact hl, ?_⟩
          rw [en] at nd
          have al2 := al.append (alq.any true)
          rw [List.append_nil] at al2
          have st := Step.mut s1 hk e1 ev hp en al2 (List.nodup_cons.mp nd).2 fun x q => ⟨fun e => (List.nodup_cons.mp nd).1 (e ▸ q), .inl q⟩
          exact hr' .non _ _ [] st .non (RCe.nil _)
        · rw [if_neg hl] at hr'; exact hr'.elim
      · rw [if_neg hf] at hr'; exact hr'.elim
    | _ => exact hr.elim
def eRev (i : Nat) : FE := fun ρ => slotL i ρ >>= fun ds => if flatL ds then .ok (.none, ρ.set i (some (.list ds.reverse))) else .no
theorem e_reverse (hk : ks[i]? = some true) (hN : X.N[i]? = some y := by rfl) (hv : Vis X.env.scope y := by first | exact Or.inl rfl | exact Or.inr (Or.inl rfl) | exact Or.inr (Or.inr rfl)) (hd : (y == ("__debug__" : Str)) = false := by decide) (hcd : (y == ("__classdict__" : Str)) = false := by decide)
    (hbase : attributeBase (.Name y py) "reverse" X.env (eval (.Name y py) X.env) = eval (.Name y py) X.env := by rfl) (hline : (apos.endLine == cpos.line) = true := by rfl) :
    DE X W ks .F (.Call (.Attribute (.Name y py) "reverse" apos) [] [] cpos) (eRev i) :=
  PE.imp (pe_bm0 PySem.F.plainAttrs_list PySem.F.slot_list_reverse PySem.F.type_list_reverse mt_reverse (pe_var hN hv hd hcd) hbase hline) fun σ H Q ⟨ρ, fp, eo, h⟩ => by
    obtain ⟨ds, e1, h⟩ := slotL_ok h
    obtain ⟨v0, ev, a0, nd⟩ := eo.own hk e1
    obtain ⟨p, vs, n, rfl, hp, al, en⟩ := a0.ownL
    by_cases hf : flatL ds = true
    · rw [if_pos hf] at h
      have := al.flat hf
      subst this
      refine ⟨_, ev, .inl ⟨rfl, vs, .inl (.inl hp)⟩, p, vs, rfl, rfl, hp, ?_⟩
      have st := Step.mut (Step.same eo (Same.refl H)) hk e1 ev hp en al.reverseF .nil fun x q => nomatch q
      exact h .non _ _ [] st .non (RCe.nil _)
    · rw [if_neg hf] at h; exact h.elim
def ePop (i : Nat) : FE := fun ρ => slotL i ρ >>= fun ds => match ds.getLast? with
  | some d => .ok (d, ρ.set i (some (.list ds.dropLast)))
  | none => .no
theorem e_pop (hk : ks[i]? = some true) (hN : X.N[i]? = some y := by rfl) (hv : Vis X.env.scope y := by first | exact Or.inl rfl | exact Or.inr (Or.inl rfl) | exact Or.inr (Or.inr rfl)) (hd : (y == ("__debug__" : Str)) = false := by decide) (hcd : (y == ("__classdict__" : Str)) = false := by decide)
    (hbase : attributeBase (.Name y py) "pop" X.env (eval (.Name y py) X.env) = eval (.Name y py) X.env := by rfl) (hline : (apos.endLine == cpos.line) = true := by rfl) :
    DE X W ks .F (.Call (.Attribute (.Name y py) "pop" apos) [] [] cpos) (ePop i) :=
  PE.imp (pe_bm0 PySem.F.plainAttrs_list PySem.F.slot_list_pop PySem.F.type_list_pop mt_pop (pe_var hN hv hd hcd) hbase hline) fun σ H Q ⟨ρ, fp, eo, h⟩ => by
    obtain ⟨ds, e1, h⟩ := slotL_ok h
    obtain ⟨v0, ev, a0, nd⟩ := eo.own hk e1
    obtain ⟨p, vs, n, rfl, hp, al, en⟩ := a0.ownL
    rcases List.eq_nil_or_concat ds with rfl | ⟨ds', d, rfl⟩
    · exact h.elim
    · rcases List.eq_nil_or_concat vs with rfl | ⟨vs', v, rfl⟩
      · have := al.len; simp at this
      · simp only [List.concat_eq_append] at al hp e1 h
        obtain ⟨es, fs, n1, n2, ed, rfl, al1, al2⟩ := al.split
        have l1 := al1.len
        have l2 := al2.len
        have := List.append_inj ed (by have := congrArg List.length ed; simp at this l2; omega)
        obtain ⟨rfl, rfl⟩ := this
        obtain ⟨w, ew, aw⟩ := al2.one
        cases ew
        rw [List.getLast?_concat, List.dropLast_concat] at h
        have h' := h
        refine ⟨_, ev, .inl ⟨rfl, _, .inl (.inl hp)⟩, p, _, v, rfl, rfl, hp, by simp, ?_⟩
        rw [List.dropLast_concat]
        rw [en] at nd
        obtain ⟨np, nn⟩ := List.nodup_cons.mp nd
        obtain ⟨nd1, nd2, nd3⟩ := List.nodup_append.mp nn
        have st := Step.mut (Step.same eo (Same.refl H)) hk e1 ev hp en al1 nd1 fun x q => ⟨fun e => np (e ▸ List.mem_append_left _ q), .inl (List.mem_append_left _ q)⟩
        have fr : Fr (fun x => x = p) H (upd H p (.lst vs')) := ⟨fun x o e q => by
          by_cases z : x = p
          · subst z; rw [hp] at e; cases e; exact absurd trivial (q rfl)
          · rw [upd_ne z]; exact e, fun x q => by
          by_cases z : x = p
          · subst z; rw [upd_same]; exact fun z => nomatch z
          · rw [upd_ne z]; exact q⟩
        refine h' v _ _ n2 st ((aw.fr fr fun x q z => np (z ▸ List.mem_append_right _ q)).any _) ⟨nd2, fun x q => ⟨fun ⟨j, e, hj, hx⟩ => ?_, .inl ⟨i, _, hk, e1, by rw [en]; exact List.mem_cons_of_mem _ (List.mem_append_right _ q)⟩⟩⟩
        rcases get_set hj with ⟨rfl, _, _⟩ | ⟨hne, hj⟩
        · rw [setF_same] at hx
          rcases List.mem_cons.mp hx with z | z
          · exact np (z ▸ List.mem_append_right _ q)
          · exact nd3 x z x q rfl
        · rw [setF_ne hne] at hx
          exact eo.dj i j _ _ hk (fun z => hne z.symm) e1 hj x (by rw [en]; exact List.mem_cons_of_mem _ (List.mem_append_right _ q)) hx
/-- xs[k] = e -/
def sStore (i : Nat) (f : FE) (g : Env → R PyData) : FS := fun ρ => f ρ >>= fun r => slotL i r.2 >>= fun ds => g r.2 >>= fun q => match q with
  | .int k => match ixN ds.length k with
    | some j => .ok (.nx, r.2.set i (some (.list (ds.set j r.1))))
    | none => .no
  | _ => .no
theorem s_store {ix : Expr} {f : FE} {g : Env → R PyData} {tpos : Pos} (hk : ks[i]? = some true) (he : DE X W ks .F e f) (hi : DP X W ks .B ix g) (hP : i ∉ P := by decide) (hN : X.N[i]? = some y := by rfl) (hv : Vis X.env.scope y := by first | exact Or.inl rfl | exact Or.inr (Or.inl rfl) | exact Or.inr (Or.inr rfl)) (hd : (y == ("__debug__" : Str)) = false := by decide) (hcd : (y == ("__classdict__" : Str)) = false := by decide)
    (hs : swapsWithSole [.Subscript (.Name y py) ix tpos] e pos.line X.env = pure false := by rfl) (hw : swappedStores [.Subscript (.Name y py) ix tpos] e X.env = pure none := by rfl) (h1 : (assignEach [.Subscript (.Name y py) ix tpos] X.env).map (·.2) = [assign (.Subscript (.Name y py) ix tpos) X.env] := by rfl)
    (ha : ∀ v, assign (.Subscript (.Name y py) ix tpos) X.env v = (do
      let ov ← holding [v] (eval (.Name y py) X.env)
      let iv ← holding [v, ov] (eval ix X.env)
      standAt tpos
      holding [v, ov, iv] (setItem ov iv v)
      release [v, ov, iv] []) := by intro _; rfl) :
    DS X W ks P κ (.Assign [.Subscript (.Name y py) ix tpos] e pos) (sStore i f g) := PS.imp (ps_asg he (pg_sub (pe_var hN hv hd hcd) hi set_list ha) hs hw h1) fun D σ H ⟨ρ, fp, eo, h⟩ =>
  ⟨ρ, fp, eo, (Holds.bind h).mono (fun r hr v H1 fp1 l s1 a1 r1 => by
    obtain ⟨ds, e1, hr⟩ := slotL_ok hr
    obtain ⟨v0, ev, a0, nd⟩ := s1.env.own hk e1
    obtain ⟨p, vs, n, rfl, hp, al, en⟩ := a0.ownL
    refine ⟨_, ev, r.2, fp1, s1.env, (Holds.bind hr).mono (fun q hq w H2 m2 s2 a2 _ => ?_) fun c hc H' s' => SX.now hc _ (Fr.comp (K := X.K) s1 (Same.fr s' _))⟩
    cases q with
    | int k =>
      obtain ⟨rfl, _⟩ := a2.eq_int
      cases ej : ixN ds.length k with
      | none =>
        have hq' : Holds (match ixN ds.length k with | some j => R.ok (Fl.nx, r.2.set i (some (.list (ds.set j r.1)))) | none => .no) _ _ := hq
        rw [ej] at hq'; exact hq'.elim
      | some j =>
        have hq' : Holds (match ixN ds.length k with | some j => R.ok (Fl.nx, r.2.set i (some (.list (ds.set j r.1)))) | none => .no) _ _ := hq
        rw [ej] at hq'
        have hp2 := s2 _ _ hp
        refine ⟨p, vs, k, j, rfl, rfl, hp2, by rw [al.len]; exact ej, ?_⟩
        rw [en] at nd
        obtain ⟨np, nn⟩ := List.nodup_cons.mp nd
        have nAl : ∀ x ∈ l, x ∉ p :: n := fun x q z => (r1.2 x q).1 ⟨i, _, e1, by rw [en]; exact z⟩
        obtain ⟨n', al', nd', sb⟩ := AbL.set (k := j) (al.same s2) ((a1.any true).same s2)
        have st := Step.mut (s1.trans (Step.same s1.env s2)) hk e1 ev hp2 en al' (nd' nn r1.1 fun x q z => nAl x q (List.mem_cons_of_mem _ z)) fun x q => by
          rcases sb x q with q | q
          · exact ⟨fun e => np (e ▸ q), .inl q⟩
          · exact ⟨fun e => nAl x q (e ▸ List.mem_cons_self ..), .inr (r1.2 x q)⟩
        exact hq' σ _ _ st (Keep.refl _ _)
    | _ => exact hq.elim) fun c hc => SX.now hc⟩
end
end PV

set_option Elab.async false
set_option linter.all false
set_option maxRecDepth 100000
set_option maxHeartbeats 1000000
set_option autoImplicit false
/-! PV, part l: defs. -/
namespace PV
open PySem PySem.Spec PyProof.Rows L2
/-- the slots at a def's entry -/
def rho0 (n : Nat) (ds : List PyData) : Env := ds.map some ++ List.replicate (n - ds.length) none
def endV : Fl → R PyData
  | .nx => .ok .none
  | .rt d => .ok d
  | _ => .no
/-- what a def gives -/
def runF (n : Nat) (f : FS) (ds : List PyData) : R PyData := f (rho0 n ds) >>= fun r => endV r.1
/-- .. and what it makes of its first parameter's list -/
def runM (n : Nat) (f : FS) (d0 : PyData) (ds : List PyData) : R (PyData × PyData) := f (rho0 n (d0 :: ds)) >>= fun r => endV r.1 >>= fun v => slot 0 r.2 >>= fun d => .ok (v, d)
section
variable {K : PySem.W.Frag} {H H' : Hp} {o : Bool} {vs : List V} {ds : List PyData} {n : List Addr}
theorem rho0_get {N i : Nat} {d : PyData} (h : (rho0 N ds)[i]? = some (some d)) : ds[i]? = some d := by
  unfold rho0 at h
  by_cases hi : i < (ds.map some).length
  · rw [List.getElem?_append_left hi, List.getElem?_map] at h
    cases e : ds[i]? with
    | none => rw [e] at h; cases h
    | some x => rw [e] at h; simp at h; rw [h]
  · rw [List.getElem?_append_right (by omega), List.getElem?_replicate] at h
    split at h <;> cases h
theorem start_get {N : List Str} {i : Nat} {v : V} (h : vs[i]? = some v) : (L2.start N vs)[i]? = some (some v) := by
  unfold L2.start
  have hi : i < vs.length := (List.getElem?_eq_some_iff.mp h).1
  rw [List.getElem?_append_left (by simpa using hi), List.getElem?_map, h]
  rfl
theorem AbL.fps (h : AbL K H o vs ds n) : ∃ fp : Nat → List Addr, (∀ i d, ds[i]? = some d → ∃ v, vs[i]? = some v ∧ Ab K H o v d (fp i)) ∧ ∀ i a, a ∈ fp i → a ∈ n := by
  have h1 : ∀ i : Nat, ∃ l : List Addr, (∀ d, ds[i]? = some d → ∃ v, vs[i]? = some v ∧ Ab K H o v d l) ∧ ∀ a ∈ l, a ∈ n := fun i => by
    cases e : ds[i]? with
    | none => exact ⟨[], (fun d h => by cases h), fun a q => nomatch q⟩
    | some d =>
      obtain ⟨v, l, e1, a, s⟩ := h.get e
      exact ⟨l, (fun d' h => by cases h; exact ⟨v, e1, a⟩), fun a q => s.subset q⟩
  exact ⟨fun i => Classical.choose (h1 i), fun i => (Classical.choose_spec (h1 i)).1, fun i => (Classical.choose_spec (h1 i)).2⟩
end
section
variable {P : Program} {w : World} {K : PySem.W.Frag} {mg : Str → Option Value} {base : Heap} {x qual : Str} {params : Arguments} {body : List Stmt} {scope : Scope} {f : Addr} {fd : FuncData} {N ps : List Str} {k : Nat} {κ : Kd} {ks : List Bool} {sem : FS}
/-- a def's body in its context: what the generated derivations show -/
abbrev BodyOk (P : Program) (w : World) (K : PySem.W.Frag) (mg : Str → Option Value) (base : Heap) (N : List Str) (qual : Str) (scope : Scope) (f : Addr) (k : Nat) (p : Cx → WX → Prop) : Prop :=
  ∀ (cdv : Value) (A : Around) (outer : List PySem.Env) (s : Shared) (H : Hp) (E : XK), RoomG k (A.deeper (envOfC qual scope s.heap.objs.size f cdv)) →
    Takes (cxOf (L2.CX P w) P w K mg base N qual scope f cdv A outer s H E) (fun cls d _ H => E cls d H) → PassesOwn (model P w) (A.deeper (envOfC qual scope s.heap.objs.size f cdv)) (envOfC qual scope s.heap.objs.size f cdv) (cxOf (L2.CX P w) P w K mg base N qual scope f cdv A outer s H E).xe →
    p (cxOf (L2.CX P w) P w K mg base N qual scope f cdv A outer s H E) (fun cls d _ H => E cls d H)
theorem fnP_core {vs : List V} {H : Hp} {Q : VK} {E : XK} (hks : ∀ i, i < ps.length → ks[i]? = some false) (hκ : κ ≠ .B) (hN : ps.length ≤ N.length) (h : spP K ps.length κ (runF N.length sem) vs H Q E) :
    tS K (fun cls d _ H => E cls d H) ks [] κ sem { nx := fun _ H' => Q .non H', rt := Q } (L2.start N vs) H := by
  obtain ⟨hl, ds, n, al, h⟩ := h
  obtain ⟨fp, h1, h2⟩ := al.fps
  have hld := al.len
  have nOwn : ∀ i d, own ks i → (rho0 N.length ds)[i]? = some (some d) → False := fun i d o e => by
    have hi := (List.getElem?_eq_some_iff.mp (rho0_get e)).1
    have := hks i (by omega)
    unfold own at o
    rw [this] at o; cases o
  have eo : EOk K H ks (L2.start N vs) (rho0 N.length ds) fp := ⟨by unfold rho0 L2.start; simp; omega, fun i d e => by
    obtain ⟨v, e1, a⟩ := h1 i d (rho0_get e)
    exact ⟨v, start_get e1, a.any _⟩, fun i d o e => (nOwn i d o e).elim, fun i j d e o _ e1 _ => (nOwn i d o e1).elim⟩
  have nOw : ∀ a, ¬ Ow ks (rho0 N.length ds) fp a := fun a ⟨i, d, o, e, _⟩ => nOwn i d o e
  have same : ∀ {H' : Hp}, Fr (Ow ks (rho0 N.length ds) fp) H H' → Same H H' := fun fr a o e => fr.1 a o e fun z => (nOw a z).elim
  have alN : ∀ a, Al (rho0 N.length ds) fp a → a ∈ n := fun a ⟨i, d, e, q⟩ => h2 i a q
  refine ⟨rho0 N.length ds, fp, eo, (Holds.bind h).mono (fun r hr => ?_) fun c hc σ' H' _ fr => hc H' (same fr)⟩
  obtain ⟨fl, ρ'⟩ := r
  cases fl with
  | nx => exact fun σ' H' fp' st _ => hr .non H' [] (same st.fr) .non (by
      cases κ with
      | B => exact absurd rfl hκ
      | V => exact fun _ q => nomatch q
      | F => exact New.nil)
  | bk => exact hr.elim
  | ct => exact hr.elim
  | rt d => exact fun σ' v H' fp' m st _ ab rc => hr v H' m (same st.fr) ab (by
      cases κ with
      | B => exact absurd rfl hκ
      | V => exact fun a q => ((rc a q).2).imp (alN a) id
      | F => exact ⟨rc.1, fun a q => ((rc.2 a q).2).elim (fun z => (nOw a z).elim) id⟩)
theorem fnP (F : FunD K x qual params body scope [] [] f fd) (S : FnScope N ps scope) (hks : ∀ i, i < ps.length → ks[i]? = some false) (hκ : κ ≠ .B) (hN : ps.length ≤ N.length)
    (hb : BodyOk P w K mg base N qual scope f k fun X W => DSs X W ks [] κ body sem) : FnG P w K mg base (L2.CX P w) (k + 1) f fd ps (spP K ps.length κ (runF N.length sem)) :=
  fnG_ok F S (fun vs H Q E h => h.1) fun cdv A outer s H vs Q E hr h => ⟨_, hb cdv A outer s H E hr (takes_of rfl rfl rfl rfl) (passes_of rfl), fnP_core hks hκ hN h⟩
theorem fnM {p0 : Str} (F : FunD K x qual params body scope [] [] f fd) (S : FnScope N (p0 :: ps) scope) (hk0 : ks[0]? = some true) (hks : ∀ i, i < ps.length → ks[i + 1]? = some false) (hκ : κ ≠ .B) (hN : ps.length + 1 ≤ N.length)
    (hb : BodyOk P w K mg base N qual scope f k fun X W => DSs X W ks [0] κ body sem) : FnG P w K mg base (L2.CX P w) (k + 1) f fd (p0 :: ps) (spM K (ps.length + 1) κ (runM N.length sem)) := by
  refine fnG_ok F S (fun vs H Q E h => h.1) fun cdv A outer s H vs Q E hr ⟨hl, v0, vr, d0, ds, m0, n, hvs, a0, nd0, al, hd, h⟩ => ⟨_, hb cdv A outer s H E hr (takes_of rfl rfl rfl rfl) (passes_of rfl), ?_⟩
  subst hvs
  obtain ⟨fp1, h1, h2⟩ := al.fps
  have hld := al.len
  let fp : Nat → List Addr := fun i => match i with | 0 => m0 | i + 1 => fp1 i
  have own0 : ∀ i d, own ks i → (rho0 N.length (d0 :: ds))[i]? = some (some d) → i = 0 := fun i d o e => by
    cases i with
    | zero => rfl
    | succ i =>
      have hi := (List.getElem?_eq_some_iff.mp (rho0_get e)).1
      have := hks i (by simp at hi hl; omega)
      unfold own at o
      rw [this] at o; cases o
  have eo : EOk K H ks (L2.start N (v0 :: vr)) (rho0 N.length (d0 :: ds)) fp := by
    refine ⟨by unfold rho0 L2.start; simp; omega, fun i d e => ?_, fun i d o e => ?_, fun i j d e o hne e1 e2 a q => ?_⟩
    · cases i with
      | zero =>
        have := rho0_get e
        cases this
        exact ⟨v0, start_get rfl, a0.any _⟩
      | succ i =>
        obtain ⟨v, e1, a⟩ := h1 i d (by simpa using rho0_get e)
        exact ⟨v, start_get (by simpa using e1), a.any _⟩
    · have := own0 i d o e
      subst this
      exact nd0
    · have := own0 i d o e1
      subst this
      cases j with
      | zero => exact absurd rfl hne
      | succ j => exact fun z => hd a (h2 j a z) q
  have ow0 : ∀ a, Ow ks (rho0 N.length (d0 :: ds)) fp a → a ∈ m0 := fun a ⟨i, d, o, e, q⟩ => by
    have := own0 i d o e
    subst this
    exact q
  have frM : ∀ {H' : Hp}, Fr (Ow ks (rho0 N.length (d0 :: ds)) fp) H H' → Fr (fun a => a ∈ m0) H H' := fun fr => ⟨fun a o e z => fr.1 a o e fun q => z (ow0 a q), fr.2⟩
  have alN : ∀ a, Al (rho0 N.length (d0 :: ds)) fp a → a ∈ n ∨ a ∈ m0 := fun a ⟨i, d, e, q⟩ => by
    cases i with
    | zero => exact .inr q
    | succ i => exact .inl (h2 i a q)
  have done : ∀ {fl : Fl} {d : PyData} {ρ' : PV.Env} {σ' : L2.St} {H' : Hp} {fp' : Nat → List Addr} {v : V} {m : List Addr}, endV fl = .ok d →
      Holds (endV fl >>= fun v => slot 0 ρ' >>= fun d => R.ok (v, d)) (fun r => ∀ v H' m0' l, Fr (fun a => a ∈ m0) H H' → Ab K H' true v0 r.2 m0' → m0'.Nodup → (∀ a ∈ m0', a ∈ m0 ∨ H a = none) → Ab K H' κ.ow v r.1 l →
        MC κ H n m0 m0' l → Q v H') (fun c => ∀ H', Fr (fun a => a ∈ m0) H H' → EEx K E c H') →
      Step K H H' ks σ' (rho0 N.length (d0 :: ds)) ρ' fp fp' → Keep [0] (L2.start N (v0 :: vr)) σ' → Ab K H' κ.ow v d m → RCe κ H ks (rho0 N.length (d0 :: ds)) fp ρ' fp' m → Q v H' := by
    intro fl d ρ' σ' H' fp' v m ed hh st kp ab rc
    rw [ed] at hh
    obtain ⟨d1, e1, hh⟩ := slot_ok (g := fun d2 => R.ok (d, d2)) hh
    obtain ⟨u, eu, a1, nd1⟩ := st.env.own hk0 e1
    have := kp.2 0 (List.mem_singleton.mpr rfl)
    rw [eu] at this
    have e0 : (L2.start N (v0 :: vr))[0]? = some (some v0) := start_get rfl
    rw [e0] at this
    cases this
    refine hh v H' (fp' 0) m (frM st.fr) a1 nd1 (fun a q => (st.subo a ⟨0, d1, hk0, e1, q⟩).imp (ow0 a) id) ab ?_
    cases κ with
    | B => exact absurd rfl hκ
    | V => exact fun a q => ⟨fun z => (rc a q).1 ⟨0, d1, hk0, e1, z⟩, (rc a q).2.elim (fun z => (alN a z).imp id .inl) fun z => .inr (.inr z)⟩
    | F => exact ⟨rc.1, fun a q => ⟨fun z => (rc.2 a q).1 ⟨0, d1, e1, z⟩, ((rc.2 a q).2).imp (ow0 a) id⟩⟩
  refine ⟨rho0 N.length (d0 :: ds), fp, eo, (Holds.bind h).mono (fun r hr => ?_) fun c hc σ' H' _ fr => hc H' (frM fr)⟩
  obtain ⟨fl, ρ'⟩ := r
  cases fl with
  | nx => exact fun σ' H' fp' st kp => done (fl := .nx) (v := .non) (m := []) rfl hr st kp .non (RCe.nil _)
  | bk => exact hr.elim
  | ct => exact hr.elim
  | rt d => exact fun σ' v H' fp' m st kp ab rc => done (fl := .rt d) rfl hr st kp ab rc
theorem FnG.never {m : List PyData → R PyData} (h : ∀ ds, m ds = .no) : FnG P w K mg base (L2.CX P w) k f fd ps (spP K ps.length κ m) := ⟨fun vs H Q E q => q.1, fun A outer s H args us vs Q E hr he hb hv ⟨_, ds, n, _, q⟩ => by rw [h] at q; exact q.elim⟩
theorem FnG.neverM {m : PyData → List PyData → R (PyData × PyData)} (h : ∀ d ds, m d ds = .no) : FnG P w K mg base (L2.CX P w) k f fd ps (spM K ps.length κ m) := ⟨fun vs H Q E q => q.1, fun A outer s H args us vs Q E hr he hb hv ⟨_, v0, vr, d0, ds, m0, n, _, _, _, _, _, q⟩ => by rw [h] at q; exact q.elim⟩
end
end PV

set_option Elab.async false
set_option linter.all false
set_option maxRecDepth 100000
set_option maxHeartbeats 1000000
set_option autoImplicit false
/-! PV, part m: operations on data. -/
namespace PV
open PySem PySem.Spec PyProof.Rows L2
section
variable {X : Cx} {K : PySem.W.Frag}
theorem Op2.or {r r' : R2} {f f' : PyData → PyData → Option PyData} (h : Op2 K r f) (h' : Op2 K r' f') : Op2 K (fun x y H Q => r x y H Q ∨ r' x y H Q) (fun a b => match f a b with | some d => some d | none => f' a b) :=
  ⟨fun H x y a b m n d Q a1 a2 e q => by
    cases ef : f a b with
    | some d' => simp only [ef] at e; cases e; exact .inl (h.run H x y a b m n _ Q a1 a2 ef q)
    | none => simp only [ef] at e; exact .inr (h'.run H x y a b m n _ Q a1 a2 e q)⟩
theorem OpB.or {r r' : R2} {f f' : PyData → PyData → Option Bool} (h : OpB K r f) (h' : OpB K r' f') : OpB K (fun x y H Q => r x y H Q ∨ r' x y H Q) (fun a b => match f a b with | some d => some d | none => f' a b) :=
  ⟨fun H x y a b m n d Q a1 a2 e q => by
    cases ef : f a b with
    | some d' => simp only [ef] at e; cases e; exact .inl (h.run H x y a b m n _ Q a1 a2 ef q)
    | none => simp only [ef] at e; exact .inr (h'.run H x y a b m n _ Q a1 a2 e q)⟩
theorem OpN.or {r r' : List V → Hp → VK → Prop} {f f' : List PyData → Option PyData} (h : OpN K r f) (h' : OpN K r' f') : OpN K (fun xs H Q => r xs H Q ∨ r' xs H Q) (fun a => match f a with | some d => some d | none => f' a) :=
  ⟨fun H x a m d Q a1 e q => by
    cases ef : f a with
    | some d' => simp only [ef] at e; cases e; exact .inl (h.run H x a m _ Q a1 ef q)
    | none => simp only [ef] at e; exact .inr (h'.run H x a m _ Q a1 e q)⟩
def iOp (c : Int → Int → Bool) (g : Int → Int → Int) : PyData → PyData → Option PyData
  | .int i, .int j => if c i j then some (.int (g i j)) else none
  | _, _ => none
def iCmp (g : Int → Int → Bool) : PyData → PyData → Option Bool
  | .int i, .int j => some (g i j)
  | _, _ => none
theorem opI0 {g : Int → Int → Int} : Op2 K (rI0 fun i j => .int (g i j)) (iOp (fun _ _ => true) g) := ⟨fun H x y a b m n d Q a1 a2 e q => by
  cases a <;> simp only [iOp, reduceCtorEq] at e
  cases b <;> simp only [iOp, reduceCtorEq, if_true, Option.some.injEq] at e
  obtain ⟨rfl, _⟩ := a1.eq_int
  obtain ⟨rfl, _⟩ := a2.eq_int
  subst e
  exact ⟨_, _, rfl, rfl, q.now (.int _)⟩⟩
theorem opI {C : Int → Int → Prop} {c : Int → Int → Bool} {g : Int → Int → Int} (hc : ∀ i j, c i j = true → C i j) : Op2 K (rI C fun i j => .int (g i j)) (iOp c g) := ⟨fun H x y a b m n d Q a1 a2 e q => by
  cases a <;> simp only [iOp, reduceCtorEq] at e
  cases b <;> simp only [iOp, reduceCtorEq] at e
  split at e
  · rename_i hh
    cases e
    obtain ⟨rfl, _⟩ := a1.eq_int
    obtain ⟨rfl, _⟩ := a2.eq_int
    exact ⟨_, _, rfl, rfl, hc _ _ hh, q.now (.int _)⟩
  · cases e⟩
theorem cmpI {g : Int → Int → Bool} : OpB K (rI0 fun i j => .bl (g i j)) (iCmp g) := ⟨fun H x y a b m n d Q a1 a2 e q => by
  cases a <;> simp only [iCmp, reduceCtorEq] at e
  cases b <;> simp only [iCmp, reduceCtorEq, Option.some.injEq] at e
  obtain ⟨rfl, _⟩ := a1.eq_int
  obtain ⟨rfl, _⟩ := a2.eq_int
  subst e
  exact ⟨_, _, rfl, rfl, q⟩⟩
/-! ### sums of sequences -/
def sCat : PyData → PyData → Option PyData
  | .str a, .str b => if a.length + b.length ≤ sizeLine then some (.str (a ++ b)) else none
  | _, _ => none
theorem op_sCat : Op2 K (fun x y H Q => ∃ i j, x = .str i ∧ y = .str j ∧ i.length + j.length ≤ sizeLine ∧ Q (.str (i ++ j)) H) sCat := ⟨fun H x y a b m n d Q a1 a2 e q => by
  cases a <;> simp only [sCat, reduceCtorEq] at e
  cases b <;> simp only [sCat, reduceCtorEq] at e
  split at e
  · rename_i hh
    cases e
    obtain ⟨rfl, _⟩ := a1.eq_str
    obtain ⟨rfl, _⟩ := a2.eq_str
    exact ⟨_, _, rfl, rfl, hh, q.now (.str _)⟩
  · cases e⟩
theorem flatL_append {xs ys : List PyData} (h : flatL xs = true) (h' : flatL ys = true) : flatL (xs ++ ys) = true := flatL_iff.mpr fun d q => (List.mem_append.mp q).elim (flatL_iff.mp h d) (flatL_iff.mp h' d)
theorem AbL.catF {H : Hp} {o o' o2 : Bool} {xs ys : List V} {ds es : List PyData} {m n : List Addr} (a : AbL K H o xs ds m) (b : AbL K H o' ys es n) (f : flatL ds = true) (g : flatL es = true) : AbL K H o2 (xs ++ ys) (ds ++ es) [] := by
  have h1 := a.flat f
  have h2 := b.flat g
  subst h1 h2
  exact (a.any o2).append (b.any o2)
def lCat : PyData → PyData → Option PyData
  | .list xs, .list ys => if flatL xs && flatL ys && decide (xs.length + ys.length ≤ sizeLine) then some (.list (xs ++ ys)) else none
  | _, _ => none
theorem op_lCat : Op2 K rCat lCat := ⟨fun H x y a b m n d Q a1 a2 e q => by
  cases a <;> simp only [lCat, reduceCtorEq] at e
  cases b <;> simp only [lCat, reduceCtorEq] at e
  split at e
  · rename_i hh
    cases e
    simp only [Bool.and_eq_true, decide_eq_true_eq] at hh
    obtain ⟨p1, v1, n1, rfl, h1, l1, _⟩ := a1.ownL
    obtain ⟨p2, v2, n2, rfl, h2, l2, _⟩ := a2.ownL
    exact ⟨p1, p2, v1, v2, rfl, rfl, h1, h2, by rw [l1.len, l2.len]; exact hh.2, q.lst (l1.catF l2 hh.1.1 hh.1.2)⟩
  · cases e⟩
def tCat : PyData → PyData → Option PyData
  | .tuple xs, .tuple ys => if flatL xs && flatL ys && decide (xs.length + ys.length ≤ sizeLine) then some (.tuple (xs ++ ys)) else none
  | _, _ => none
theorem op_tCat : Op2 K (rCatA K) tCat := ⟨fun H x y a b m n d Q a1 a2 e q => by
  cases a <;> simp only [tCat, reduceCtorEq] at e
  cases b <;> simp only [tCat, reduceCtorEq] at e
  split at e
  · rename_i hh
    cases e
    simp only [Bool.and_eq_true, decide_eq_true_eq] at hh
    obtain ⟨p1, v1, rfl, h1, l1⟩ := a1.tuple
    obtain ⟨p2, v2, rfl, h2, l2⟩ := a2.tuple
    have e1 := l1.flat hh.1.1
    have e2 := l2.flat hh.1.2
    subst e1 e2
    refine ⟨p1, p2, v1, v2, rfl, rfl, h1, h2, by rw [l1.len, l2.len]; exact hh.2, fun z => ?_, fun _ z => ?_, fun _ _ => q.tup (l1.catF l2 hh.1.1 hh.1.2)⟩
    · subst z
      have := l1.len
      have e : _ = [] := List.eq_nil_of_length_eq_zero this.symm
      subst e
      exact q.now (.tup h2 (l2.any _))
    · subst z
      have := l2.len
      have e : _ = [] := List.eq_nil_of_length_eq_zero this.symm
      subst e
      rw [List.append_nil] at q
      exact q.now (.tup h1 (l1.any _))
  · cases e⟩
def dAdd : PyData → PyData → Option PyData := fun a b => match iOp (fun _ _ => true) (fun i j => i + j) a b with
  | some d => some d
  | none => match sCat a b with
    | some d => some d
    | none => match lCat a b with
      | some d => some d
      | none => tCat a b
theorem o_add : ∃ r, OpR X (binaryOp .Add) r ∧ Op2 X.K r dAdd := ⟨_, (op_add).or ((op_add_str).or ((op_cat).or op_catA)), Op2.or opI0 (Op2.or op_sCat (Op2.or op_lCat op_tCat))⟩
theorem o_iadd : ∃ r, OpR X (inplaceOp .Add) r ∧ Op2 X.K r (fun a b => match iOp (fun _ _ => true) (fun i j => i + j) a b with | some d => some d | none => sCat a b) := ⟨_, (iop_add).or iop_add_str, Op2.or opI0 op_sCat⟩
def dSub := iOp (fun _ _ => true) fun i j => i - j
theorem o_sub : ∃ r, OpR X (binaryOp .Sub) r ∧ Op2 X.K r dSub := ⟨_, op_sub, opI0⟩
def cMul (i j : Int) : Bool := decide (i.natAbs.log2 + j.natAbs.log2 < 1000000)
def iMul := iOp cMul fun i j => i * j
theorem op_iMul : Op2 K (rI CMulW fun i j => .int (i * j)) iMul := opI fun i j h => by simpa [cMul, CMulW] using h
def lMul : PyData → PyData → Option PyData
  | .list xs, .int k => if flatL xs && decide (-(2 ^ 63) ≤ k) && decide (k < 2 ^ 63) && decide (xs.length * k.toNat ≤ sizeLine) then some (.list (List.replicate k.toNat xs).flatten) else none
  | _, _ => none
theorem AbL.rep {H : Hp} {o : Bool} {xs : List V} {ds : List PyData} (a : AbL K H o xs ds []) : ∀ k : Nat, AbL K H o (List.replicate k xs).flatten (List.replicate k ds).flatten []
  | 0 => .nil
  | k + 1 => by
    rw [List.replicate_succ, List.replicate_succ, List.flatten_cons, List.flatten_cons]
    have := a.append (a.rep k)
    exact this
theorem op_lMul : Op2 K rRep lMul := ⟨fun H x y a b m n d Q a1 a2 e q => by
  cases a <;> simp only [lMul, reduceCtorEq] at e
  cases b <;> simp only [lMul, reduceCtorEq] at e
  split at e
  · rename_i hh
    cases e
    simp only [Bool.and_eq_true, decide_eq_true_eq] at hh
    obtain ⟨p1, v1, n1, rfl, h1, l1, _⟩ := a1.ownL
    obtain ⟨rfl, _⟩ := a2.eq_int
    have e1 := l1.flat hh.1.1.1
    subst e1
    exact ⟨p1, _, v1, rfl, rfl, h1, hh.1.1.2, hh.1.2, by rw [l1.len]; exact hh.2, q.lst ((l1.any true).rep _)⟩
  · cases e⟩
def tMul : PyData → PyData → Option PyData
  | .tuple xs, .int k => if flatL xs && !xs.isEmpty && decide (2 ≤ k) && decide (k ≤ 1000) && decide (xs.length ≤ 1000) then some (.tuple (List.replicate k.toNat xs).flatten) else none
  | _, _ => none
theorem op_tMul : Op2 K (rRepT K) tMul := ⟨fun H x y a b m n d Q a1 a2 e q => by
  cases a <;> simp only [tMul, reduceCtorEq] at e
  cases b <;> simp only [tMul, reduceCtorEq] at e
  split at e
  · rename_i hh
    cases e
    simp only [Bool.and_eq_true, decide_eq_true_eq, Bool.not_eq_true', List.isEmpty_eq_false_iff] at hh
    obtain ⟨p1, v1, rfl, h1, l1⟩ := a1.tuple
    obtain ⟨rfl, _⟩ := a2.eq_int
    have e1 := l1.flat hh.1.1.1.1
    subst e1
    refine ⟨p1, _, v1, rfl, rfl, h1, fun z => hh.1.1.1.2 ?_, hh.1.1.2, hh.1.2, by rw [l1.len]; exact hh.2, q.tup ((l1.any true).rep _)⟩
    subst z
    exact List.eq_nil_of_length_eq_zero l1.len.symm
  · cases e⟩
def dMul : PyData → PyData → Option PyData := fun a b => match iMul a b with
  | some d => some d
  | none => match lMul a b with
    | some d => some d
    | none => tMul a b
theorem o_mul : ∃ r, OpR X (binaryOp .Mult) r ∧ Op2 X.K r dMul := ⟨_, (op_mulW).or ((op_rep).or op_repT), Op2.or op_iMul (Op2.or op_lMul op_tMul)⟩
def dDiv := iOp (fun _ j => decide (0 < j) && decide (j.natAbs.log2 < 9000)) fun i j => i / j
theorem o_div : ∃ r, OpR X (binaryOp .FloorDiv) r ∧ Op2 X.K r dDiv := ⟨_, op_fdivW, opI fun i j h => by simpa [CDivW] using h⟩
def dMod := iOp (fun _ j => decide (0 < j)) fun i j => i % j
theorem o_mod : ∃ r, OpR X (binaryOp .Mod) r ∧ Op2 X.K r dMod := ⟨_, op_mod, opI fun i j h => of_decide_eq_true h⟩
/-! ### comparisons -/
def sCmp (g : Str → Str → Bool) : PyData → PyData → Option Bool
  | .str a, .str b => some (g a b)
  | _, _ => none
theorem op_sCmp {g : Str → Str → Bool} : OpB K (fun x y H Q => ∃ i j, x = .str i ∧ y = .str j ∧ Q (.bl (g i j)) H) (sCmp g) := ⟨fun H x y a b m n d Q a1 a2 e q => by
  cases a <;> simp only [sCmp, reduceCtorEq] at e
  cases b <;> simp only [sCmp, reduceCtorEq, Option.some.injEq] at e
  obtain ⟨rfl, _⟩ := a1.eq_str
  obtain ⟨rfl, _⟩ := a2.eq_str
  subst e
  exact ⟨_, _, rfl, rfl, q⟩⟩
def dLt : PyData → PyData → Option Bool := fun a b => match iCmp (fun i j => decide (i < j)) a b with | some d => some d | none => sCmp (fun i j => decide (i.cps.toList < j.cps.toList)) a b
def dLe : PyData → PyData → Option Bool := fun a b => match iCmp (fun i j => decide (i ≤ j)) a b with | some d => some d | none => sCmp (fun i j => !decide (j.cps.toList < i.cps.toList)) a b
def dGt : PyData → PyData → Option Bool := fun a b => match iCmp (fun i j => decide (j < i)) a b with | some d => some d | none => sCmp (fun i j => decide (j.cps.toList < i.cps.toList)) a b
def dGe : PyData → PyData → Option Bool := fun a b => match iCmp (fun i j => decide (j ≤ i)) a b with | some d => some d | none => sCmp (fun i j => !decide (i.cps.toList < j.cps.toList)) a b
theorem o_lt : ∃ r, OpR X (compareOp .Lt) r ∧ OpB X.K r dLt := ⟨_, (op_lt).or op_lt_str, OpB.or cmpI op_sCmp⟩
theorem o_le : ∃ r, OpR X (compareOp .LtE) r ∧ OpB X.K r dLe := ⟨_, (op_le).or op_le_str, OpB.or cmpI op_sCmp⟩
theorem o_gt : ∃ r, OpR X (compareOp .Gt) r ∧ OpB X.K r dGt := ⟨_, (op_gt).or op_gt_str, OpB.or cmpI op_sCmp⟩
theorem o_ge : ∃ r, OpR X (compareOp .GtE) r ∧ OpB X.K r dGe := ⟨_, (op_ge).or op_ge_str, OpB.or cmpI op_sCmp⟩
def dEq (a b : PyData) : Option Bool := if SeqAt.shaped a && SeqAt.shaped b then some (PyData.eqv a b) else none
def dNe (a b : PyData) : Option Bool := if SeqAt.shaped a && SeqAt.shaped b then some (!PyData.eqv a b) else none
theorem o_eq (hu : X.A.units + 64 < cLine) : ∃ r, OpR X (compareOp .Eq) r ∧ OpB X.K r dEq := ⟨_, op_eqD hu, ⟨fun H x y a b m n d Q a1 a2 e q => by
  unfold dEq at e
  split at e
  · rename_i h
    cases e
    rw [Bool.and_eq_true] at h
    exact ⟨a, b, a1.dp h.1, a2.dp h.2, h.1, h.2, q⟩
  · cases e⟩⟩
theorem o_ne (hu : X.A.units + 64 < cLine) : ∃ r, OpR X (compareOp .NotEq) r ∧ OpB X.K r dNe := ⟨_, op_neD hu, ⟨fun H x y a b m n d Q a1 a2 e q => by
  unfold dNe at e
  split at e
  · rename_i h
    cases e
    rw [Bool.and_eq_true] at h
    exact ⟨a, b, a1.dp h.1, a2.dp h.2, h.1, h.2, q⟩
  · cases e⟩⟩
def lIn (neg : Bool) : PyData → PyData → Option Bool
  | d, .list ds => if SeqAt.shaped d && SeqAt.shaped (.list ds) then some (if neg then !(ds.any fun z => PyData.eqv z d) else ds.any fun z => PyData.eqv z d) else none
  | _, _ => none
theorem op_lIn {neg : Bool} : OpB K (if neg then rNotInD K else rInD K) (lIn neg) := ⟨fun H x y a b m n d Q a1 a2 e q => by
  cases b <;> simp only [lIn, reduceCtorEq] at e
  split at e
  · rename_i h
    cases e
    rw [Bool.and_eq_true] at h
    cases neg with
    | true => exact ⟨a, _, a1.dp h.1, a2.dp h.2, h.1, h.2, q⟩
    | false => exact ⟨a, _, a1.dp h.1, a2.dp h.2, h.1, h.2, q⟩
  · cases e⟩
def cIn (neg : Bool) : PyData → PyData → Option Bool
  | .str c, .str z => if c.cps.size = 1 then some (if neg then !decide (c.cps.getD 0 0 ∈ z.cps.toList) else decide (c.cps.getD 0 0 ∈ z.cps.toList)) else none
  | _, _ => none
theorem op_cIn {neg : Bool} : OpB K (fun x y H Q => ∃ (c : Nat) (z : Str), x = .str ⟨#[c]⟩ ∧ y = .str z ∧ Q (.bl (if neg then !decide (c ∈ z.cps.toList) else decide (c ∈ z.cps.toList))) H) (cIn neg) := ⟨fun H x y a b m n d Q a1 a2 e q => by
  cases a <;> simp only [cIn, reduceCtorEq] at e
  cases b <;> simp only [cIn, reduceCtorEq] at e
  split at e
  · rename_i c z h
    cases e
    obtain ⟨rfl, _⟩ := a1.eq_str
    obtain ⟨rfl, _⟩ := a2.eq_str
    obtain ⟨⟨l⟩⟩ := c
    match l, h, q with
    | [k], _, q => exact ⟨k, _, rfl, rfl, q⟩
  · cases e⟩
def fvD : PyData → Bool
  | .none => true
  | .bool _ => true
  | .int _ => true
  | .str _ => true
  | _ => false
def fvEq : PyData → PyData → Bool
  | .none, .none => true
  | .bool a, .bool b => a == b
  | .int a, .int b => a == b
  | .str a, .str b => a == b
  | .bool a, .int b => (if a then 1 else 0) == b
  | .int a, .bool b => a == (if b then 1 else 0)
  | _, _ => false
end
end PV

set_option Elab.async false
set_option linter.all false
set_option maxRecDepth 100000
set_option maxHeartbeats 1000000
set_option autoImplicit false
/-! PV, part n: built-in functions and methods on data. -/
namespace PV
open PySem PySem.Spec PyProof.Rows L2
section
variable {X : Cx} {K : PySem.W.Frag}
theorem AbL.nilL {H : Hp} {o : Bool} {vs : List V} {m : List Addr} (h : AbL K H o vs [] m) : vs = [] := by cases h; rfl
def dIn (neg : Bool) : PyData → PyData → Option Bool := fun a b => match lIn neg a b with | some d => some d | none => cIn neg a b
theorem o_in (hu : X.A.units + 65 < cLine) : ∃ r, OpR X (compareOp .In) r ∧ OpB X.K r (dIn false) := ⟨_, (op_inD hu).or op_in_sign, OpB.or (op_lIn (neg := false)) (op_cIn (neg := false))⟩
theorem o_notIn (hu : X.A.units + 65 < cLine) : ∃ r, OpR X (compareOp .NotIn) r ∧ OpB X.K r (dIn true) := ⟨_, (op_notInD hu).or op_notIn_sign, OpB.or (op_lIn (neg := true)) (op_cIn (neg := true))⟩
/-- x is None -/
def dIsN (neg : Bool) (a b : PyData) : Option Bool := match b with
  | .none => some (match a with | .none => !neg | _ => neg)
  | _ => none
theorem op_dIsN {neg : Bool} : OpB K (fun x y H Q => y = .non ∧ Q (.bl (if neg then !decide (x = .non) else decide (x = .non))) H) (dIsN neg) := ⟨fun H x y a b m n d Q a1 a2 e q => by
  cases b <;> simp only [dIsN, reduceCtorEq, Option.some.injEq] at e
  obtain ⟨rfl, _⟩ := a2.eq_non
  refine ⟨rfl, ?_⟩
  subst e
  have hd : decide (x = V.non) = (match a with | .none => true | _ => false) := by
    cases a1 <;> simp [frzD, adrD]
  rw [hd]
  cases neg <;> cases a <;> exact q⟩
def bIs (neg : Bool) : PyData → PyData → Option Bool
  | .bool a, .bool b => some (if neg then !decide (a = b) else decide (a = b))
  | _, _ => none
theorem op_bIs {neg : Bool} : OpB K (fun x y H Q => ∃ a b, x = .bl a ∧ y = .bl b ∧ Q (.bl (if neg then !decide (a = b) else decide (a = b))) H) (bIs neg) := ⟨fun H x y a b m n d Q a1 a2 e q => by
  cases a <;> simp only [bIs, reduceCtorEq] at e
  cases b <;> simp only [bIs, reduceCtorEq, Option.some.injEq] at e
  obtain ⟨rfl, _⟩ := a1.eq_bl
  obtain ⟨rfl, _⟩ := a2.eq_bl
  subst e
  exact ⟨_, _, rfl, rfl, q⟩⟩
def dIs (neg : Bool) : PyData → PyData → Option Bool := fun a b => match dIsN neg a b with | some d => some d | none => bIs neg a b
theorem o_is : ∃ r, OpR X (compareOp .Is) r ∧ OpB X.K r (dIs false) := ⟨_, (op_isN).or op_is_bl, OpB.or (op_dIsN (neg := false)) (op_bIs (neg := false))⟩
theorem o_isnot : ∃ r, OpR X (compareOp .IsNot) r ∧ OpB X.K r (dIs true) := ⟨_, (op_notN).or op_isnot_bl, OpB.or (op_dIsN (neg := true)) (op_bIs (neg := true))⟩
/-! ### truth -/
def dTru : PyData → Option Bool
  | .none => some false
  | .bool b => some b
  | .int i => some (i != 0)
  | .str x => if x.length ≤ sizeLine then some ((x.length : Int) != 0) else none
  | .list ds => some (!ds.isEmpty)
  | .tuple ds => some (!ds.isEmpty)
  | .dict _ => none
theorem AbL.isE {H : Hp} {o : Bool} {vs : List V} {ds : List PyData} {m : List Addr} (h : AbL K H o vs ds m) : vs.isEmpty = ds.isEmpty := by cases h <;> rfl
theorem o_tru : OpT K dTru := ⟨fun H x a m d a1 e => by
  cases a <;> simp only [dTru, reduceCtorEq, Option.some.injEq] at e
  · obtain ⟨rfl, _⟩ := a1.eq_non; exact e.symm
  · obtain ⟨rfl, _⟩ := a1.eq_bl; exact e.symm
  · obtain ⟨rfl, _⟩ := a1.eq_int; exact e.symm
  · obtain ⟨rfl, _⟩ := a1.eq_str
    split at e
    · rename_i h; cases e; exact ⟨h, rfl⟩
    · cases e
  · obtain ⟨p, vs, n, rfl, hp, al, _⟩ := a1.ownL
    exact .inl ⟨vs, .inl (.inl hp), by rw [al.isE]; exact e.symm⟩
  · obtain ⟨p, vs, rfl, hp, al⟩ := a1.tuple
    exact .inr (.inl ⟨vs, hp, by rw [al.isE]; exact e.symm⟩)⟩
/-! ### functions -/
def dLen : List PyData → Option PyData
  | [.str x] => if x.length ≤ sizeLine then some (.int x.length) else none
  | [.list ds] => some (.int ds.length)
  | [.tuple ds] => some (.int ds.length)
  | _ => none
theorem o_len : OpN K (fun xs H Q => ∃ x n, xs = [x] ∧ LenV K x H n ∧ Q (.int n) H) dLen := ⟨fun H x a m d Q a1 e q => by
  unfold dLen at e
  split at e
  · split at e
    · rename_i h
      cases e
      obtain ⟨v, rfl, a2⟩ := a1.one
      obtain ⟨rfl, _⟩ := a2.eq_str
      exact ⟨_, _, rfl, ⟨h, rfl⟩, q.now (.int _)⟩
    · cases e
  · cases e
    obtain ⟨v, rfl, a2⟩ := a1.one
    obtain ⟨p, vs, n, rfl, hp, al, _⟩ := a2.ownL
    rw [← al.len] at q
    exact ⟨_, _, rfl, .inl ⟨vs, .inl (.inl hp), rfl⟩, q.now (.int _)⟩
  · cases e
    obtain ⟨v, rfl, a2⟩ := a1.one
    obtain ⟨p, vs, rfl, hp, al⟩ := a2.tuple
    rw [← al.len] at q
    exact ⟨_, _, rfl, .inr ⟨vs, hp, rfl⟩, q.now (.int _)⟩
  · cases e⟩
def dAbs : List PyData → Option PyData
  | [.int i] => some (.int (if i < 0 then -i else i))
  | _ => none
theorem o_abs : OpN K (fun xs H Q => ∃ i, xs = [.int i] ∧ Q (.int (if i < 0 then -i else i)) H) dAbs := ⟨fun H x a m d Q a1 e q => by
  unfold dAbs at e
  split at e
  · cases e
    obtain ⟨v, rfl, a2⟩ := a1.one
    obtain ⟨rfl, _⟩ := a2.eq_int
    exact ⟨_, rfl, q.now (.int _)⟩
  · cases e⟩
def dInt : List PyData → Option PyData
  | [.int i] => some (.int i)
  | [.bool b] => some (.int (if b then 1 else 0))
  | [.str x] => if x.length ≤ 640 then (PySem.intText? x).map .int else none
  | _ => none
theorem o_int : ∃ r, CallR X (.type "int") r ∧ OpN X.K r dInt := ⟨_, (call_int1).or call_int_str, ⟨fun H x a m d Q a1 e q => by
  unfold dInt at e
  split at e
  · cases e
    obtain ⟨v, rfl, a2⟩ := a1.one
    obtain ⟨rfl, _⟩ := a2.eq_int
    exact .inl (.inl ⟨_, rfl, q.now (.int _)⟩)
  · cases e
    obtain ⟨v, rfl, a2⟩ := a1.one
    obtain ⟨rfl, _⟩ := a2.eq_bl
    exact .inl (.inr ⟨_, rfl, q.now (.int _)⟩)
  · split at e
    · rename_i h
      obtain ⟨n, e1, rfl⟩ := Option.map_eq_some_iff.mp e
      obtain ⟨v, rfl, a2⟩ := a1.one
      obtain ⟨rfl, _⟩ := a2.eq_str
      exact .inr ⟨_, n, rfl, e1, h, q.now (.int _)⟩
    · cases e
  · cases e⟩⟩
def dStr : List PyData → Option PyData
  | [.int i] => if i.natAbs.log2 < 1920 then some (.str (toString i)) else none
  | [.str x] => some (.str x)
  | _ => none
theorem o_str : ∃ r, CallR X (.type "str") r ∧ OpN X.K r dStr := ⟨_, (call_str_int).or SkE.call_str_str, ⟨fun H x a m d Q a1 e q => by
  unfold dStr at e
  split at e
  · split at e
    · rename_i h
      cases e
      obtain ⟨v, rfl, a2⟩ := a1.one
      obtain ⟨rfl, _⟩ := a2.eq_int
      exact .inl ⟨_, rfl, h, q.now (.str _)⟩
    · cases e
  · cases e
    obtain ⟨v, rfl, a2⟩ := a1.one
    obtain ⟨rfl, _⟩ := a2.eq_str
    exact .inr ⟨_, rfl, q.now (.str _)⟩
  · cases e⟩⟩
/-! ### all, any, sum, .. of a list -/
def asBools : List PyData → Option (List Bool)
  | [] => some []
  | .bool b :: ds => (asBools ds).map (b :: ·)
  | _ => none
def asInts : List PyData → Option (List Int)
  | [] => some []
  | .int b :: ds => (asInts ds).map (b :: ·)
  | _ => none
def asStrs : List PyData → Option (List Str)
  | [] => some []
  | .str b :: ds => (asStrs ds).map (b :: ·)
  | _ => none
theorem AbL.bools {H : Hp} {o : Bool} : ∀ {vs : List V} {ds : List PyData} {m : List Addr} {bs : List Bool}, AbL K H o vs ds m → asBools ds = some bs → vs = bs.map V.bl
  | [], ds, m, bs, h, e => by cases h; cases e; rfl
  | v :: vs, ds, m, bs, h, e => by
    cases h with
    | @cons _ _ d es m1 m2 h1 h2 =>
      cases d <;> simp only [asBools, reduceCtorEq] at e
      obtain ⟨cs, e1, rfl⟩ := Option.map_eq_some_iff.mp e
      obtain ⟨rfl, _⟩ := h1.eq_bl
      rw [AbL.bools h2 e1]; rfl
theorem AbL.ints {H : Hp} {o : Bool} : ∀ {vs : List V} {ds : List PyData} {m : List Addr} {bs : List Int}, AbL K H o vs ds m → asInts ds = some bs → vs = bs.map V.int
  | [], ds, m, bs, h, e => by cases h; cases e; rfl
  | v :: vs, ds, m, bs, h, e => by
    cases h with
    | @cons _ _ d es m1 m2 h1 h2 =>
      cases d <;> simp only [asInts, reduceCtorEq] at e
      obtain ⟨cs, e1, rfl⟩ := Option.map_eq_some_iff.mp e
      obtain ⟨rfl, _⟩ := h1.eq_int
      rw [AbL.ints h2 e1]; rfl
theorem AbL.strs {H : Hp} {o : Bool} : ∀ {vs : List V} {ds : List PyData} {m : List Addr} {bs : List Str}, AbL K H o vs ds m → asStrs ds = some bs → vs = bs.map V.str
  | [], ds, m, bs, h, e => by cases h; cases e; rfl
  | v :: vs, ds, m, bs, h, e => by
    cases h with
    | @cons _ _ d es m1 m2 h1 h2 =>
      cases d <;> simp only [asStrs, reduceCtorEq] at e
      obtain ⟨cs, e1, rfl⟩ := Option.map_eq_some_iff.mp e
      obtain ⟨rfl, _⟩ := h1.eq_str
      rw [AbL.strs h2 e1]; rfl
theorem AbL.ofStrs {H : Hp} {o : Bool} : ∀ (ys : List Str), AbL K H o (ys.map V.str) (ys.map PyData.str) []
  | [] => .nil
  | y :: ys => AbL.cons (m := []) (n := []) (.str y) (AbL.ofStrs ys)
theorem AbL.ofInts {H : Hp} {o : Bool} : ∀ (ys : List Int), AbL K H o (ys.map V.int) (ys.map PyData.int) []
  | [] => .nil
  | y :: ys => AbL.cons (m := []) (n := []) (.int y) (AbL.ofInts ys)
def dAll : List PyData → Option PyData
  | [.list ds] => (asBools ds).map fun bs => .bool (bs.all id)
  | _ => none
theorem o_all : OpN K (rAll K) dAll := ⟨fun H x a m d Q a1 e q => by
  unfold dAll at e
  split at e
  · obtain ⟨bs, e1, rfl⟩ := Option.map_eq_some_iff.mp e
    obtain ⟨v, rfl, a2⟩ := a1.one
    obtain ⟨p, vs, n, rfl, hp, al, _⟩ := a2.ownL
    rw [al.bools e1] at hp
    exact ⟨p, bs, rfl, .inl (.inl hp), q.now (.bl _)⟩
  · cases e⟩
def dAny : List PyData → Option PyData
  | [.list ds] => (asBools ds).map fun bs => .bool (bs.any id)
  | _ => none
theorem o_any : OpN K (rAny K) dAny := ⟨fun H x a m d Q a1 e q => by
  unfold dAny at e
  split at e
  · obtain ⟨bs, e1, rfl⟩ := Option.map_eq_some_iff.mp e
    obtain ⟨v, rfl, a2⟩ := a1.one
    obtain ⟨p, vs, n, rfl, hp, al, _⟩ := a2.ownL
    rw [al.bools e1] at hp
    exact ⟨p, bs, rfl, .inl (.inl hp), q.now (.bl _)⟩
  · cases e⟩
def dSum : List PyData → Option PyData
  | [.list ds] => (asInts ds).map fun bs => .int bs.sum
  | _ => none
theorem o_sum : OpN K (rSum K) dSum := ⟨fun H x a m d Q a1 e q => by
  unfold dSum at e
  split at e
  · obtain ⟨bs, e1, rfl⟩ := Option.map_eq_some_iff.mp e
    obtain ⟨v, rfl, a2⟩ := a1.one
    obtain ⟨p, vs, n, rfl, hp, al, _⟩ := a2.ownL
    rw [al.ints e1] at hp
    exact ⟨p, bs, rfl, .inl (.inl hp), q.now (.int _)⟩
  · cases e⟩
/-- tuple(xs) of flat items -/
def dTuple : List PyData → Option PyData
  | [.list ds] => if flatL ds then some (.tuple ds) else none
  | [.tuple ds] => if flatL ds then some (.tuple ds) else none
  | _ => none
theorem o_tuple : ∃ r, CallR X (.type "tuple") r ∧ OpN X.K r dTuple := ⟨_, call_tuple_of, ⟨fun H x a m d Q a1 e q => by
  unfold dTuple at e
  split at e
  · split at e
    · rename_i hf
      cases e
      obtain ⟨v, rfl, a2⟩ := a1.one
      obtain ⟨p, vs, n, rfl, hp, al, _⟩ := a2.ownL
      have := al.flat hf
      subst this
      exact ⟨p, vs, rfl, .inl ⟨.inl (.inl hp), q.tup (al.any _)⟩⟩
    · cases e
  · split at e
    · rename_i hf
      cases e
      obtain ⟨v, rfl, a2⟩ := a1.one
      obtain ⟨p, vs, rfl, hp, al⟩ := a2.tuple
      have := al.flat hf
      subst this
      exact ⟨p, vs, rfl, .inr ⟨hp, q.now (.tup hp (al.any _))⟩⟩
    · cases e
  · cases e⟩⟩
/-- list(xs) of flat items -/
def dList : List PyData → Option PyData
  | [.list ds] => if flatL ds then some (.list ds) else none
  | [.tuple ds] => if flatL ds then some (.list ds) else none
  | _ => none
theorem o_list : ∃ r, CallR X (.type "list") r ∧ OpN X.K r dList := ⟨_, call_list_of, ⟨fun H x a m d Q a1 e q => by
  unfold dList at e
  split at e
  · split at e
    · rename_i hf
      cases e
      obtain ⟨v, rfl, a2⟩ := a1.one
      obtain ⟨p, vs, n, rfl, hp, al, _⟩ := a2.ownL
      have := al.flat hf
      subst this
      exact ⟨p, vs, rfl, .inl (.inl (.inl hp)), q.lst (al.any _)⟩
    · cases e
  · split at e
    · rename_i hf
      cases e
      obtain ⟨v, rfl, a2⟩ := a1.one
      obtain ⟨p, vs, rfl, hp, al⟩ := a2.tuple
      have := al.flat hf
      subst this
      exact ⟨p, vs, rfl, .inr hp, q.lst (al.any _)⟩
    · cases e
  · cases e⟩⟩
/-- repr(x) -/
def dRepr : List PyData → Option PyData
  | [d] => if SeqAt.shaped d && d.showable && !d.hasDict && decide (d.shown.length ≤ sizeLine) then some (.str d.shown) else none
  | _ => none
def rRepr (K : PySem.W.Frag) : List V → Hp → VK → Prop := fun xs H Q => ∃ x d, xs = [x] ∧ Dp K H x d ∧ SeqAt.shaped d = true ∧ d.showable = true ∧ d.hasDict = false ∧ d.shown.length ≤ sizeLine ∧ Q (.str d.shown) H
theorem call_reprD (hg : X.A.guards = some []) (hu : X.A.units + 66 < cLine) : CallR X (.builtin "repr") (rRepr X.K) := by
  intro pins s σ H xs us Q I r h
  obtain ⟨x, d, rfl, hd, sh, hs, hn, hz, q⟩ := h
  obtain ⟨u, rfl, ru⟩ := vals1 r
  obtain ⟨as, rd⟩ := Dp.reads I d x u hd ru
  have hdep : d.depth ≤ 64 := by
    unfold SeqAt.shaped at sh
    rw [Bool.and_eq_true] at sh
    exact of_decide_eq_true sh.2
  cases hd with
  | non =>
    cases ru
    have e : PyData.none.shown = ("None" : Str) := by simp only [PyData.shown]
    rw [e] at q
    exact PySem.P.repr_of_none ⟨.str _, H, I.tok _, ⟨_, rfl⟩, q⟩
  | bl b =>
    cases ru
    have e : (PyData.bool b).shown = (if b then "True" else "False" : Str) := by simp only [PyData.shown]
    rw [e] at q
    exact PySem.P.repr_of_bool ⟨.str _, H, I.tok _, ⟨_, rfl⟩, q⟩
  | int i =>
    obtain ⟨t, rfl⟩ := ru
    have e : (PyData.int i).shown = toString i := by simp only [PyData.shown]
    rw [e] at q
    exact PySem.P.repr_of_int (by simpa [PyData.showable] using hs) ⟨.str _, H, I.tok _, ⟨_, rfl⟩, q⟩
  | str y =>
    obtain ⟨t, rfl⟩ := ru
    have e : (PyData.str y).shown = reprText y := by simp only [PyData.shown]
    rw [e] at q hz
    exact PySem.P.repr_of_str ⟨.str _, H, I.tok _, ⟨_, rfl⟩, q⟩ hz
  | tup hs' ha =>
    cases ru
    exact repr_of_reads' rd hs (PyData.noDict_hsm hn) hg (by omega) (fun _ _ e => e) (fun h' u tk hk => ⟨.str _, H, I.kept hk, ⟨_, rfl⟩, q⟩) hz
  | lst hs' ha =>
    cases ru
    exact repr_of_reads' rd hs (PyData.noDict_hsm hn) hg (by omega) (fun _ _ e => e) (fun h' u tk hk => ⟨.str _, H, I.kept hk, ⟨_, rfl⟩, q⟩) hz
theorem o_repr : OpN K (rRepr K) dRepr := ⟨fun H x a m d Q a1 e q => by
  unfold dRepr at e
  split at e
  · split at e
    · rename_i h
      cases e
      simp only [Bool.and_eq_true, decide_eq_true_eq, Bool.not_eq_true'] at h
      obtain ⟨v, rfl, a2⟩ := a1.one
      exact ⟨v, _, rfl, a2.dp h.1.1.1, h.1.1.1, h.1.1.2, h.1.2, h.2, q.now (.str _)⟩
    · cases e
  · cases e⟩
/-! ### methods -/
def isStr : PyData → Bool
  | .str _ => true
  | _ => false
def isList : PyData → Bool
  | .list _ => true
  | _ => false
theorem ty_str {H : Hp} {x : V} {a : PyData} {m : List Addr} (h : Ab K H false x a m) (e : isStr a = true) : tyV K "str" x H := by
  cases a <;> simp only [isStr, reduceCtorEq] at e
  obtain ⟨rfl, _⟩ := h.eq_str
  exact rfl
theorem ty_list {H : Hp} {x : V} {a : PyData} {m : List Addr} (h : Ab K H false x a m) (e : isList a = true) : tyV K "list" x H := by
  cases a <;> simp only [isList, reduceCtorEq] at e
  obtain ⟨p, vs, n, rfl, hp, _, _⟩ := h.ownL
  exact .inl ⟨rfl, vs, .inl (.inl hp)⟩
def dSplit : PyData → List PyData → Option PyData
  | .str a, [.str b] => if !(b.length == 0) && decide (a.length + 2 ≤ sizeLine) then some (.list ((Txt.split a b).map .str)) else none
  | _, _ => none
theorem o_split : ∃ r, MtR X "str.split" r ∧ OpM X.K "str" r isStr dSplit := ⟨_, mt_split, ⟨fun H x a m h e => ty_str h e, fun H x xs a as m n d Q h1 h2 _ e q => by
  unfold dSplit at e
  split at e
  · split at e
    · rename_i hh
      cases e
      simp only [Bool.and_eq_true, decide_eq_true_eq, Bool.not_eq_true'] at hh
      obtain ⟨rfl, _⟩ := h1.eq_str
      obtain ⟨v, rfl, a2⟩ := h2.one
      obtain ⟨rfl, _⟩ := a2.eq_str
      exact ⟨_, _, rfl, rfl, hh.1, hh.2, fun p hp => q.lst (AbL.ofStrs _) p hp⟩
    · cases e
  · cases e⟩⟩
def dJoin : PyData → List PyData → Option PyData
  | .str a, [.list ds] => match asStrs ds with
    | some ys => if (ys.map (·.length)).sum + ys.length * a.length ≤ 16777216 then some (.str (Txt.join a ys)) else none
    | none => none
  | _, _ => none
theorem o_join : ∃ r, MtR X "str.join" r ∧ OpM X.K "str" r isStr dJoin := ⟨_, mt_join, ⟨fun H x a m h e => ty_str h e, fun H x xs a as m n d Q h1 h2 _ e q => by
  unfold dJoin at e
  split at e
  · split at e
    · rename_i ys ey
      split at e
      · rename_i hh
        cases e
        obtain ⟨rfl, _⟩ := h1.eq_str
        obtain ⟨v, rfl, a2⟩ := h2.one
        obtain ⟨p, vs, n, rfl, hp, al, _⟩ := a2.ownL
        rw [al.strs ey] at hp
        exact ⟨_, p, ys, rfl, rfl, .inl (.inl (.inl hp)), hh, q.now (.str _)⟩
      · cases e
    · cases e
  · cases e⟩⟩
/-! ### list.index, list.count -/
def dIndex : PyData → List PyData → Option PyData
  | .list ds, [d] => if SeqAt.shaped (.list ds) && SeqAt.shaped d then (ds.findIdx? fun z => PyData.eqv z d).map fun (j : Nat) => .int (j : Int) else none
  | _, _ => none
theorem o_index (hu : X.A.units + 65 < cLine) : ∃ r, MtR X "list.index" r ∧ OpM X.K "list" r isList dIndex := ⟨_, mt_indexD hu, ⟨fun H x a m h e => ty_list h e, fun H x xs a as m n d Q h1 h2 _ e q => by
  unfold dIndex at e
  split at e
  · rename_i ds dd _
    split at e
    · rename_i hh
      rw [Bool.and_eq_true] at hh
      obtain ⟨j, ej, rfl⟩ := Option.map_eq_some_iff.mp e
      obtain ⟨v, rfl, a2⟩ := h2.one
      have h1d := h1.dp hh.1
      obtain ⟨p, vs, n', rfl, hp, al, _⟩ := h1.ownL
      obtain ⟨hj, hz, hno⟩ := List.findIdx?_eq_some_iff_getElem.mp ej
      refine ⟨p, v, dd, ds, j, ds[j], rfl, rfl, h1d, a2.dp hh.2, hh.1, hh.2, List.getElem?_eq_getElem hj, hz, fun m z' hm em => ?_, q.now (.int _)⟩
      have hm' : m < ds.length := by omega
      rw [List.getElem?_eq_getElem hm'] at em
      cases em
      simpa using hno m hm
    · cases e
  · cases e⟩⟩
def rCountV (K : PySem.W.Frag) : V → List V → Hp → VK → Prop := fun x xs H Q => ∃ (p : Addr) (ys : List V) (y : V), x = .ref p ∧ xs = [y] ∧ SqL K H p ys ∧ flatV y = true ∧ ys.all flatV = true ∧ Q (.int (ys.countP (fun z => eqV z y) : Nat)) H
theorem countP_eqU {x : V} : ∀ {ys : List V} {us : List Value}, Vals ys us → ys.all flatV = true → us.countP (eqU x) = ys.countP (fun z => eqV z x)
  | _, _, .nil, _ => rfl
  | y :: ys, u :: us, .cons r t, f => by
    rw [List.all_cons, Bool.and_eq_true] at f
    rw [List.countP_cons, List.countP_cons, eqU_of r f.1, countP_eqU t f.2]
theorem mt_countV : MtR X "list.count" (rCountV X.K) := by
  intro pins s σ H x xs v us Q I rx rxs h
  obtain ⟨p, ys, y, rfl, rfl, hs, fy, fys, q⟩ := h
  cases rx
  obtain ⟨u, rfl, ru⟩ := rxs.one
  obtain ⟨its, rv, ⟨⟨cls, dd, data, sl⟩, n, ho, hc, hdn, hd⟩, hlen⟩ := I.list hs
  simp only at hc hd
  subst hc hd
  refine call_meets PySem.F.slot_list_count ⟨_, ho, rfl⟩ PySem.F.entry_list_count (PySem.F.args_list_count_2 _ _)
    (SeqAt.list_countAt p its.toArray n dd sl u (eqU y)) ⟨ho, fun w hw => mem_eqAt ru fy rv fys w (by simpa using hw), ?_⟩
  have ec : its.toArray.toList.countP (eqU y) = ys.countP (fun z => eqV z y) := countP_eqU rv fys
  rw [ec]
  exact ⟨.int _, H, I.tok _, ⟨s.toks, rfl⟩, q⟩
def dCount : PyData → List PyData → Option PyData
  | .list ds, [.bool b] => (asBools ds).map fun bs => .int (bs.count b : Nat)
  | .list ds, [.int b] => (asInts ds).map fun bs => .int (bs.count b : Nat)
  | _, _ => none
theorem o_count : ∃ r, MtR X "list.count" r ∧ OpM X.K "list" r isList dCount := ⟨_, mt_countV, ⟨fun H x a m h e => ty_list h e, fun H x xs a as m n d Q h1 h2 _ e q => by
  unfold dCount at e
  split at e
  · rename_i ds b _
    obtain ⟨bs, eb, rfl⟩ := Option.map_eq_some_iff.mp e
    obtain ⟨v, rfl, a2⟩ := h2.one
    obtain ⟨rfl, _⟩ := a2.eq_bl
    obtain ⟨p, vs, n', rfl, hp, al, _⟩ := h1.ownL
    have ev := al.bools eb
    subst ev
    refine ⟨p, bs.map V.bl, .bl b, rfl, rfl, .inl (.inl hp), rfl, by simp [flatV], ?_⟩
    have : (bs.map V.bl).countP (fun z => eqV z (.bl b)) = bs.count b := by
      rw [List.countP_map]; rfl
    rw [this]
    exact q.now (.int _)
  · rename_i ds b _
    obtain ⟨bs, eb, rfl⟩ := Option.map_eq_some_iff.mp e
    obtain ⟨v, rfl, a2⟩ := h2.one
    obtain ⟨rfl, _⟩ := a2.eq_int
    obtain ⟨p, vs, n', rfl, hp, al, _⟩ := h1.ownL
    have ev := al.ints eb
    subst ev
    refine ⟨p, bs.map V.int, .int b, rfl, rfl, .inl (.inl hp), rfl, by simp [flatV], ?_⟩
    have : (bs.map V.int).countP (fun z => eqV z (.int b)) = bs.count b := by
      rw [List.countP_map]; rfl
    rw [this]
    exact q.now (.int _)
  · cases e⟩⟩
/-! ### isinstance(x, T), T a built-in type -/
def tyD : PyData → String
  | .none => "NoneType"
  | .bool _ => "bool"
  | .int _ => "int"
  | .str _ => "str"
  | .list _ => "list"
  | .tuple _ => "tuple"
  | .dict _ => "dict"
def isiD (T : String) (d : PyData) : Option Bool := match d with
  | .dict [(.dict [], .tuple _)] => none
  | .dict [(.dict [], .int _)] => none
  | d => kitB (tyD d) T
theorem SqT.ty {H : Hp} {a : Addr} {xs : List V} (h : SqT K H a xs) : TyX K H (.ref a) (.type "tuple") := by
  rcases h with (h | ⟨o, h⟩) | h
  · exact .base (.tup h)
  · exact .fTuple h
  · obtain ⟨o, its, n, e, c, _⟩ := h
    exact .kTuple e c
theorem Ab.ty {H : Hp} {o : Bool} {v : V} {d : PyData} {m : List Addr} (a : Ab K H o v d m) (h : ∀ ds, d ≠ frzD ds) (h' : ∀ a, d ≠ adrD a) : TyX K H v (.type (tyD d)) := by
  cases a with
  | non => exact .base .non
  | bl b => exact .base (.bl b)
  | int i => exact .base (.int i)
  | str x => exact .base (.str x)
  | tup hs _ => exact PV.SqT.ty hs
  | lst hs _ => exact .base (.lst hs)
  | dk hs _ _ => exact .base (.dK hs)
  | dt hs _ _ => exact .base (.dT hs)
  | frz hs _ => exact absurd rfl (h _)
  | adr a => exact absurd rfl (h' _)
end
section
variable {X : Cx} {W : WX} {ks : List Bool} {κ : Kd} {e : Expr} {p px pos : Pos} {T : String} {y : Str}
def fIsi (T : String) (f : Env → R PyData) : Env → R PyData := fun ρ => f ρ >>= fun x => ofO (isiD T x) >>= fun b => .ok (.bool b)
theorem isi_ok {K : PySem.W.Frag} {H : Hp} {v : V} {d : PyData} {m : List Addr} {b : Bool} {Q : VK} (a : Ab K H false v d m) (e : isiD T d = some b) (q : Q (.bl b) H) : rIsi K [v, .ty T] H Q := by
  have hn : ∀ ds, d ≠ frzD ds := fun ds z => by rw [z] at e; simp [isiD, frzD] at e
  have hn' : ∀ c, d ≠ adrD c := fun ds z => by rw [z] at e; simp [isiD, adrD] at e
  refine ⟨v, .ty T, .type (tyD d), .type T, b, rfl, .ty T, a.ty hn hn', kit_ty ?_, q⟩
  unfold isiD at e
  split at e
  · cases e
  · cases e
  · exact e
theorem p_isi {f : Env → R PyData} (hm : X.mg "isinstance" = none) (hmT : X.mg y = none) (hv : bootBuiltins y = some (.type T)) (he : DP X W ks .B e f) (hg : Gl X "isinstance" := by rfl) (hgT : Gl X y := by rfl) (hn : y ≠ "__name__" := by decide) (hd : (y == ("__debug__" : Str)) = false := by decide)
    (hs : starEach [e, .Name y p] X.env = (false, eval e X.env) :: starEach [.Name y p] X.env := by rfl) (hs2 : starEach [.Name y p] X.env = (false, eval (.Name y p) X.env) :: starEach [] X.env := by rfl) (hpl : (backTo pos (starEach [.Name y p] X.env)).any (·.1) = false := by rfl) :
    DP X W ks κ (.Call (.Name "isinstance" px) [e, .Name y p] [] pos) (fIsi T f) :=
  PE.imp (pe_callB call_isi hg hm PyProof.Rows.boot_isinstance (pa_cons he (pa_cons (pe_bltn hgT hmT hv (v := .ty T) rfl hn hd) pa_nil hs2) hs) (by decide) (by decide) hs hpl) fun σ H Q ⟨ρ, fp, eo, h⟩ => ⟨ρ, fp, eo, (Holds.bind h).mono (fun x hx v H1 m s1 a1 _ => by
    obtain ⟨b, eb, hx⟩ := Holds.ofO (Holds.bind hx)
    exact isi_ok (a1.any _) eb (hx _ H1 [] s1 (.bl b) (RCp.nil _))) fun c hc => hc⟩
def eIsi (T : String) (f : FE) : FE := fun ρ => f ρ >>= fun x => ofO (isiD T x.1) >>= fun b => .ok (.bool b, x.2)
theorem e_isi {f : FE} (hm : X.mg "isinstance" = none) (hmT : X.mg y = none) (hv : bootBuiltins y = some (.type T)) (he : DE X W ks .B e f) (hg : Gl X "isinstance" := by rfl) (hgT : Gl X y := by rfl) (hn : y ≠ "__name__" := by decide) (hd : (y == ("__debug__" : Str)) = false := by decide)
    (hs : starEach [e, .Name y p] X.env = (false, eval e X.env) :: starEach [.Name y p] X.env := by rfl) (hs2 : starEach [.Name y p] X.env = (false, eval (.Name y p) X.env) :: starEach [] X.env := by rfl) (hpl : (backTo pos (starEach [.Name y p] X.env)).any (·.1) = false := by rfl) :
    DE X W ks κ (.Call (.Name "isinstance" px) [e, .Name y p] [] pos) (eIsi T f) :=
  PE.imp (pe_callB call_isi hg hm PyProof.Rows.boot_isinstance (pa_cons he (pa_cons (pe_bltn hgT hmT hv (v := .ty T) rfl hn hd) pa_nil hs2) hs) (by decide) (by decide) hs hpl) fun σ H Q ⟨ρ, fp, eo, h⟩ => ⟨ρ, fp, eo, (Holds.bind h).mono (fun x hx v H1 fp1 m s1 a1 _ => by
    obtain ⟨b, eb, hx⟩ := Holds.ofO (Holds.bind hx)
    exact isi_ok (a1.any _) eb (hx _ H1 fp1 [] s1 (.bl b) (RCe.nil _))) fun c hc => hc⟩
end
end PV

set_option Elab.async false
set_option linter.all false
set_option maxRecDepth 100000
set_option maxHeartbeats 1000000
set_option autoImplicit false
/-! PV, part o: try; a def that is called while an exception is handled. -/
namespace PV
open PySem PySem.Spec PyProof.Rows L2
theorem Ab.eq_adr {K : PySem.W.Frag} {H : Hp} {o : Bool} {v : V} {a : Addr} {m : List Addr} (h : Ab K H o v (adrD a) m) : v = .ref a ∧ m = [] := by
  generalize hd : adrD a = d at h
  cases h with
  | dk hs hk al => unfold adrD at hd; injection hd with hd; exact (no_dk hk hd.symm).elim
  | dt hs hk al => unfold adrD at hd; injection hd with hd; exact (no_dt hk hd.symm).elim
  | frz hs al => unfold adrD frzD at hd; simp at hd
  | adr b =>
    have : a = b := by
      unfold adrD at hd
      injection hd with hd
      injection hd with hd _
      injection hd with _ hd
      injection hd with hd
      exact Int.ofNat.inj hd
    subst this
    exact ⟨rfl, rfl⟩
  | _ => unfold adrD at hd; cases hd
/-! ### the def -/
structure RoomHG (k : Nat) (A : Around) : Prop where
  rm : L2H.RoomH k A
  gd : A.guards = some []
theorem RoomHG.deeper {k : Nat} {A : Around} (r : RoomHG (k + 1) A) (env : PySem.Env) : RoomHG k (A.deeper env) := ⟨r.rm.deeper env, r.gd⟩
theorem RoomHG.u {k : Nat} {A : Around} (r : RoomHG k A) : A.units + 66 < cLine := by have := r.rm.un; omega
theorem RoomHG.u64 {k : Nat} {A : Around} (r : RoomHG k A) : A.units + 64 < cLine := by have := r.rm.un; omega
theorem RoomHG.u65 {k : Nat} {A : Around} (r : RoomHG k A) : A.units + 65 < cLine := by have := r.rm.un; omega
theorem RoomG.hot {k : Nat} {A : Around} {h : Option Value} (r : RoomG k A) : RoomHG k (A.mark h) := ⟨⟨r.rm.dp, r.rm.un⟩, r.gd⟩
theorem RoomHG.mono {j k : Nat} {A : Around} (r : RoomHG k A) (h : j ≤ k) : RoomHG j A := ⟨r.rm.mono h, r.gd⟩
/-- a def that is called with the handled exception; pp: what is known of its object -/
structure FnE (P : Program) (w : World) (K : PySem.W.Frag) (mg : Str → Option Value) (base : Heap) (CX : CXT) (k : Nat) (f : Addr) (fd : FuncData) (ps : List Str) (pp : Obj → Prop) (sp : Addr → Sp) : Prop where
  len : ∀ a vs H Q E, sp a vs H Q E → vs.length = ps.length
  run : ∀ (A : Around) (outer : List PySem.Env) (s : Shared) (H : Hp) (args : Args) (us : List Value) (vs : List V) (Q : VK) (E : XK) (p : Addr × Obj), RoomHG k A → pp p.2 → L2H.PinOk outer H s p → Env0 P w K mg base A outer s H → BindsTo s fd args (ps.zip us) → Vals vs us → sp p.1 vs H Q E →
    codeAny (model P w) A (.call (.ref f) args) (CR CX outer P w H s Q E) s
section
variable {P : Program} {w : World} {K : PySem.W.Frag} {mg : Str → Option Value} {base : Heap} {x qual : Str} {params : Arguments} {body : List Stmt} {scope : Scope} {f : Addr} {fd : FuncData} {N ps : List Str} {k : Nat} {pp : Obj → Prop}
theorem fnE_ok {CX : CXT} {sp : Addr → Sp} (F : FunD K x qual params body scope [] [] f fd) (S : FnScope N ps scope) (len : ∀ a vs H Q E, sp a vs H Q E → vs.length = ps.length)
    (hbody : ∀ (cdv : Value) (A : Around) (outer : List PySem.Env) (s : Shared) (H : Hp) (vs : List V) (Q : VK) (E : XK) (p : Addr × Obj), pp p.2 → RoomHG k (A.deeper (envOfC qual scope s.heap.objs.size f cdv)) → sp p.1 vs H Q E →
      ∃ t, PSs (L2H.cxH CX P w K mg base N qual scope f cdv A outer s H E p) body t ∧ t { nx := fun _ H' => Q .non H', rt := Q } (L2.start N vs) H) :
    FnE P w K mg base CX (k + 1) f fd ps pp sp := by
  obtain ⟨oc, od, dV, kV, doc, pm, an, cdv, ct, osl, rfl, lk, hcd, _, _⟩ := F.ex
  refine ⟨len, fun A outer s H args us vs Q E p hr hot hpin e0 hb r hsp => ?_⟩
  have hl := len _ _ _ _ _ hsp
  have KX : K.In s.heap := e0.mod.kin.keeps fun b o e => (e0.bs b o e).1
  have lim : s.heap.NoLimit := e0.mod.nolimit.keeps fun b o e => (e0.bs b o e).1
  have hkind : ∀ y ∈ ps.zip us, scope.names.lookup y.1 = some .local ∨ (scope.names.lookup y.1 = some .cell ∧ ((cellsFrom (s.heap.objs.size + 1) scope.names []).lookup y.1).isSome = true) := fun ⟨n, v⟩ hy => by
    rcases S.par n (List.of_mem_zip hy).1 with q | q
    · exact .inl q
    · exact .inr ⟨q, PySem.W.cellsFrom_some _ _ _ (.inl q)⟩
  refine codeAny_call_function hr.rm.depth (KX _ _ lk) rfl S.co S.gen rfl (PySem.W.codeRec_of KX hcd) (hb _ _ _ _ ?_)
  refine wpAny_newFunctionEnv_cells S.kind hkind fun env he s1 x => ?_
  subst he
  refine ⟨lim.keeps x.toInCall.keep, codeAny_func ?_⟩
  obtain ⟨t, ht, hq⟩ := hbody cdv A outer s H vs Q E p hot (hr.deeper _) hsp
  have I : Inv (L2H.cxH CX P w K mg base N qual scope f cdv A outer s H E p) [] (L2.start N vs) H s1 := L2H.inv_startH S hpin e0 hl r x
  refine wpAny_mono (ht.run [] s1 (L2.start N vs) H _ I hq) (fun fl s' hs => ?_) fun e s' hs => hs
  have fin : ∀ {σ' : L2.St} {H' : Hp} {v : V} {u : Value}, Inv (L2H.cxH CX P w K mg base N qual scope f cdv A outer s H E p) [] σ' H' s' → RelV v u → Q v H' → CE outer P w H s Q u s' :=
    fun {σ' H' v u} J rv q => ⟨v, H', J.os, J.bare, J.base, J.hok, rv, q⟩
  cases fl with
  | ret u =>
    obtain ⟨v, σ', H', J, rv, q⟩ := hs
    exact fin J rv q
  | next =>
    obtain ⟨σ', H', J, q⟩ := hs
    exact fin (v := V.non) (u := Value.none) J rfl q
  | brk =>
    obtain ⟨_, _, _, q⟩ := hs
    exact False.elim q
  | cont =>
    obtain ⟨_, _, _, q⟩ := hs
    exact False.elim q
end
section
variable {X : Cx} {W : WX} {ks : List Bool} {P : List Nat} {κ : Kd} {a b c e : Expr} {pos p px : Pos} {k : Nat} {x y : Str} {ps : List Str} {es : List Expr}
theorem run_fnE {CX : CXT} {E : L2.St → XK} {f : Addr} {fd : FuncData} {pp : Obj → Prop} {sp : Addr → Sp} {pins : List (Addr × Obj)} {σ : L2.St} {H : Hp} {s : Shared} {Q : VK} {us : List Value} {vs : List V} {q : Addr × Obj} (F : FnE X.prog X.w X.K X.mg X.base CX k f fd ps pp sp) (hr : RoomHG k X.A) (hq : q ∈ X.pn) (hpp : pp q.2) (hb : Binds X.K fd ps []) (hx : PassesAt CX X σ (E σ))
    (I : Inv X pins σ H s) (r : Vals vs us) (h : sp q.1 vs H Q (E σ)) : wpAny (model X.prog X.w) X.A (call (.ref f) us) (EP X pins σ Q) X.xe s := by
  have hl : us.length = ps.length := by rw [← r.length]; exact F.len _ _ _ _ _ h
  have b := hb s us I.kIn (by rw [List.append_nil]; exact hl)
  rw [List.append_nil] at b
  have P1 := I.pin q (List.mem_append_left _ hq)
  have hpin : L2H.PinOk X.stack H s q := ⟨P1.1, P1.2.1, fun hm => (List.mem_cons.mp (I.stkSub q.1 hm)).elim P1.2.2.1 P1.2.2.2.1, P1.2.2.2.2⟩
  refine wpAny_call (codeAny_mono (F.run X.A X.stack s H ⟨us, []⟩ us vs Q (E σ) q hr hpp hpin I.env0 b r h) fun r s' hq => ?_)
  cases r with
  | error e => exact hx pins H s e s' I hq
  | ok fl =>
    cases fl with
    | ret u => exact I.after hq
    | next => exact False.elim hq
    | brk => exact False.elim hq
    | cont => exact False.elim hq
theorem pe_callE {CX : CXT} {E : L2.St → XK} {f : Addr} {fd : FuncData} {pp : Obj → Prop} {sp : Addr → Sp} {t : TA} {q : Addr × Obj} (F : FnE X.prog X.w X.K X.mg X.base CX k f fd ps pp sp) (hr : RoomHG k X.A) (hq : q ∈ X.pn) (hpp : pp q.2) (hg : Gl X x) (hm : X.mg x = some (.ref f)) (hk : PySem.W.keepIn X.K (.ref f) = true) (hb : Binds X.K fd ps []) (hx : ∀ σ, PassesAt CX X σ (E σ))
    (ha : PA X (e :: es) t) (hdb : (x == ("__debug__" : Str)) = false := by decide) (he : starEach (e :: es) X.env = (false, eval e X.env) :: starEach es X.env := by rfl) (hpl : (backTo pos (starEach es X.env)).any (·.1) = false := by rfl) :
    PE X (.Call (.Name x p) (e :: es) [] pos) (tCallS (sp q.1) E t) := by
  refine ⟨fun pins s σ H Q I h => ?_⟩
  refine wpAny_Call_Name_kw (ld_glob I hg hm ?_ hdb)
  refine PySem.W.callWith_K (h₀ := X.base) I.ok.mod.kin hk (thn (ha.run pos pins s σ H _ I h) fun us s1 ⟨vs, H1, I1, r, q'⟩ => ⟨I1.kIn, ?_⟩) he hpl
  exact run_fnE F hr hq hpp hb (hx σ) I1 r q'
/-- the same by data; the result: new -/
structure FnEE (P : Program) (w : World) (K : PySem.W.Frag) (mg : Str → Option Value) (base : Heap) (k : Nat) (x : Str) (ps : List Str) (pp : Obj → Prop) (m : Addr → List PyData → R PyData) : Prop where
  ex : ∃ f fd, FnE P w K mg base (L2.CX P w) k f fd ps pp (fun a => spP K ps.length .F (m a)) ∧ mg x = some (.ref f) ∧ PySem.W.keepIn K (.ref f) = true ∧ Binds K fd ps []
abbrev FnEx (X : Cx) (k : Nat) (x : Str) (ps : List Str) (pp : Obj → Prop) (m : Addr → List PyData → R PyData) : Prop := FnEE X.prog X.w X.K X.mg X.base k x ps pp m
theorem fnE_core {P : Program} {w : World} {K : PySem.W.Frag} {mg : Str → Option Value} {base : Heap} {x qual : Str} {params : Arguments} {body : List Stmt} {scope : Scope} {f : Addr} {fd : FuncData} {N ps : List Str} {k : Nat} {pp : Obj → Prop} {ks : List Bool} {sem : Addr → FS}
    (F : FunD K x qual params body scope [] [] f fd) (S : FnScope N ps scope) (hks : ∀ i, i < ps.length → ks[i]? = some false) (hN : ps.length ≤ N.length)
    (hb : ∀ (cdv : Value) (A : Around) (outer : List PySem.Env) (s : Shared) (H : Hp) (E : XK) (p : Addr × Obj), pp p.2 → RoomHG k (A.deeper (envOfC qual scope s.heap.objs.size f cdv)) →
      Takes (L2H.cxH (L2.CX P w) P w K mg base N qual scope f cdv A outer s H E p) (fun cls d _ H => E cls d H) →
      DSs (L2H.cxH (L2.CX P w) P w K mg base N qual scope f cdv A outer s H E p) (fun cls d _ H => E cls d H) ks [] .F body (sem p.1)) :
    FnE P w K mg base (L2.CX P w) (k + 1) f fd ps pp (fun a => spP K ps.length .F (runF N.length (sem a))) :=
  fnE_ok F S (fun a vs H Q E h => h.1) fun cdv A outer s H vs Q E p hp hr h => ⟨_, hb cdv A outer s H E p hp hr (takes_of rfl rfl rfl rfl), fnP_core hks (by decide) hN h⟩
theorem p_callE {pp : Obj → Prop} {m : Addr → List PyData → R PyData} {f : Env → R (List PyData)} {q : Addr × Obj} (F : FnEx X k x ps pp m) (tk : Takes X W) (hr : RoomHG k X.A) (hq : q ∈ X.pn) (hpp : pp q.2) (ha : DPA X W ks .B (e :: es) f) (hlen : HL ps.length f := by repeat (first | exact HL.nil | refine HL.cons ?_)) (hg : Gl X x := by rfl) (hdb : (x == ("__debug__" : Str)) = false := by decide)
    (he : starEach (e :: es) X.env = (false, eval e X.env) :: starEach es X.env := by rfl) (hpl : (backTo pos (starEach es X.env)).any (·.1) = false := by rfl) : DP X W ks .F (.Call (.Name x p) (e :: es) [] pos) (fCall (m q.1) f) := by
  obtain ⟨fa, fd, G, hm, hk, hb⟩ := F.ex
  exact PE.imp (pe_callE G hr hq hpp hg hm hk hb (passAt tk) ha hdb he hpl) fun σ H Q ⟨ρ, fp, eo, h⟩ => ⟨ρ, fp, eo, call_core hlen (fun a => a) (fun s _ r => hκF (K := X.K) (κa := .B) (σ := σ) s r) eo h⟩
/-! ### isinstance(error, C) -/
def fIsE (a0 : Addr) (b : Bool) (f : Env → R PyData) : Env → R PyData := fun ρ => f ρ >>= fun d => match d with
  | .dict [(.dict [], .int a)] => if a = (a0 : Int) then .ok (.bool b) else .no
  | _ => .no
theorem call_isEq {a D : Addr} {oe : Obj} (hp : (a, oe) ∈ X.pn) (C : ExcC X.K D) (hz : Zc (.ref D) none oe) (hf : ∃ vs, oe.data = .fields vs) : CallR X (.builtin "isinstance") (rIsE X.K D a) := by
  intro pins s σ H xs us Q I r h
  obtain ⟨c, cv, b, rfl, hcv, e, q⟩ := h
  cases r with
  | cons rx rr =>
    cases rr with
    | cons rt rr =>
      cases rr
      cases rx
      have ec := hcv _ rt
      subst ec
      obtain ⟨hget, _⟩ := I.pin (a, oe) (List.mem_append_left _ hp)
      obtain ⟨vs, hv⟩ := hf
      have J : PySem.W.InstAt s.heap a oe D none := by
        obtain ⟨oc, od, oda, osl⟩ := oe
        obtain ⟨h1, h2⟩ := hz
        dsimp only at h1 h2 hv
        subst h1 h2 hv
        exact ⟨hget, rfl, rfl, trivial⟩
      exact PySem.W.kia_one (PySem.W.handS_kitx_exc C.hg C.hk C.hs C.hd C.ha C.hn C.ht C.hm) I.kIn J e (fun z => nomatch z) fun tk => ⟨.bl b, H, I.kept (t' := tk) fun _ _ z => z, rfl, q⟩
/-- what an exception of class D is like -/
def PpE (D : Addr) (o : Obj) : Prop := Zc (.ref D) none o ∧ ∃ vs, o.data = .fields vs
theorem p_isE {D : Addr} {q : Addr × Obj} {bb : Bool} {f : Env → R PyData} (hq : q ∈ X.pn) (hz : PpE D q.2) (C : ExcC X.K D) (hm : X.mg "isinstance" = none) (hmC : X.mg y = some (.ref (He.ga X.K y))) (hk : PySem.W.kitOne X.K (.ref D) (.ref (He.ga X.K y)) = some bb) (he : DP X W ks .B e f) (hg : Gl X "isinstance" := by rfl) (hgT : Gl X y := by rfl) (hd : (y == ("__debug__" : Str)) = false := by decide)
    (hs : starEach [e, .Name y p] X.env = (false, eval e X.env) :: starEach [.Name y p] X.env := by rfl) (hs2 : starEach [.Name y p] X.env = (false, eval (.Name y p) X.env) :: starEach [] X.env := by rfl) (hpl : (backTo pos (starEach [.Name y p] X.env)).any (·.1) = false := by rfl) :
    DP X W ks κ (.Call (.Name "isinstance" px) [e, .Name y p] [] pos) (fIsE q.1 bb f) :=
  PE.imp (pe_callB (call_isEq hq C hz.1 hz.2) hg hm PyProof.Rows.boot_isinstance (pa_cons he (pa_cons (pe_glob hgT hmC (v := .ref (He.ga X.K y)) rfl hd) pa_nil hs2) hs) (by decide) (by decide) hs hpl) fun σ H Q ⟨ρ, fp, eo, h⟩ => ⟨ρ, fp, eo, (Holds.bind h).mono (fun d hx v H1 m s1 a1 _ => by
    by_cases hd : ∃ i, d = .dict [(.dict [], .int i)]
    · obtain ⟨i, rfl⟩ := hd
      by_cases hi : i = (q.1 : Int)
      · subst hi
        have hx' : Holds (if ((q.1 : Nat) : Int) = (q.1 : Int) then R.ok (PyData.bool bb) else R.no) _ _ := hx
        rw [if_pos rfl] at hx'
        obtain ⟨rfl, _⟩ := Ab.eq_adr a1
        exact ⟨.ref (He.ga X.K y), .ref (He.ga X.K y), bb, rfl, fun u r => r, hk, hx' _ H1 [] s1 (.bl bb) (RCp.nil _)⟩
      · have hx' : Holds (if i = (q.1 : Int) then R.ok (PyData.bool bb) else R.no) _ _ := hx
        rw [if_neg hi] at hx'
        exact hx'.elim
    · exfalso
      revert hx
      split
      · rename_i i; exact fun _ => hd ⟨i, rfl⟩
      · exact fun z => z) fun c hc => hc⟩
end
end PV

set_option Elab.async false
set_option linter.all false
set_option maxRecDepth 100000
set_option maxHeartbeats 1000000
set_option autoImplicit false
/-! PV, part p: try .. except C as n. -/
namespace PV
open PySem PySem.Spec PyProof.Rows L2
def keepFrom (P : List Nat) : Nat → Env → Env
  | _, [] => []
  | n, x :: xs => (if n ∈ P then x else none) :: keepFrom P (n + 1) xs
abbrev keepE (P : List Nat) (ρ : Env) : Env := keepFrom P 0 ρ
theorem keepFrom_len {P : List Nat} : ∀ {n : Nat} {ρ : Env}, (keepFrom P n ρ).length = ρ.length
  | _, [] => rfl
  | n, x :: xs => by rw [keepFrom, List.length_cons, List.length_cons, keepFrom_len]
theorem keepFrom_get {P : List Nat} : ∀ {n : Nat} {ρ : Env} {i : Nat} {d : PyData}, (keepFrom P n ρ)[i]? = some (some d) → ρ[i]? = some (some d) ∧ n + i ∈ P
  | _, [], i, d, h => by simp [keepFrom] at h
  | n, x :: xs, 0, d, h => by
    rw [keepFrom, List.getElem?_cons_zero] at h
    by_cases q : n ∈ P
    · rw [if_pos q] at h; exact ⟨by simpa using h, q⟩
    · rw [if_neg q] at h; cases h
  | n, x :: xs, i + 1, d, h => by
    rw [keepFrom, List.getElem?_cons_succ] at h
    obtain ⟨h1, h2⟩ := keepFrom_get h
    exact ⟨by simpa using h1, by rw [show n + (i + 1) = n + 1 + i by omega]; exact h2⟩
open Classical in
noncomputable def allA {β : Type} (f : Addr → R β) : R β := if ∀ a, f a = f 0 then f 0 else .no
theorem Holds.allA {β : Type} {f : Addr → R β} {P : β → Prop} {U : Ex → Prop} (h : Holds (PV.allA f) P U) (a : Addr) : Holds (f a) P U := by
  unfold PV.allA at h
  split at h
  · rename_i q; rw [q a]; exact h
  · exact h.elim
@[simp] theorem allA_const {β : Type} (r : R β) : PV.allA (fun _ => r) = r := by unfold PV.allA; simp
noncomputable def sTry (xs : List Str) (i : Nat) (P : List Nat) (fb : FS) (fs : Addr → Str → FS) : FS := fun ρ => match fb ρ with
  | .ok r => .ok r
  | .no => .no
  | .ex c => if c.fld.isNone && decide (c.cls ∈ xs) then allA (fun a => noX (fs a c.cls ((keepE P ρ).set i (some (adrD a)))) >>= fun r => .ok (r.1, r.2.set i none)) else .no
section
variable {K : PySem.W.Frag} {W : WX} {ks : List Bool} {P P0 : List Nat} {κ : Kd} {D : Ends} {σ σ' σ1 : L2.St} {H H' H1 : Hp} {ρ ρ' ρ1 : Env} {fp fp' fp1 : Nat → List Addr} {i : Nat}
theorem EOk.unset (eo : EOk K H ks σ ρ fp) : EOk K H ks (σ.set i none) (ρ.set i none) fp where
  len := by rw [List.length_set, List.length_set]; exact eo.len
  ab := fun j d h => by
    rcases get_set h with ⟨_, _, e⟩ | ⟨hne, h⟩
    · cases e
    · rw [List.getElem?_set_ne (fun z => hne z.symm)]; exact eo.ab j d h
  nd := fun j d o h => by
    rcases get_set h with ⟨_, _, e⟩ | ⟨hne, h⟩
    · cases e
    · exact eo.nd j d o h
  dj := fun j l d e o n h1 h2 => by
    rcases get_set h1 with ⟨_, _, e1⟩ | ⟨_, h1⟩
    · cases e1
    rcases get_set h2 with ⟨_, _, e1⟩ | ⟨_, h2⟩
    · cases e1
    exact eo.dj j l d e o n h1 h2
theorem Step.unset (s : Step K H H' ks σ ρ ρ' fp fp') : Step K H H' ks (σ.set i none) ρ (ρ'.set i none) fp fp' := by
  refine ⟨s.env.unset, s.fr, fun a ⟨j, d, h, q⟩ => ?_, fun a ⟨j, d, o, h, q⟩ => ?_⟩
  · rcases get_set h with ⟨_, _, e⟩ | ⟨hne, h⟩
    · cases e
    · exact s.sub a ⟨j, d, h, q⟩
  · rcases get_set h with ⟨_, _, e⟩ | ⟨hne, h⟩
    · cases e
    · exact s.subo a ⟨j, d, o, h, q⟩
theorem RCe.unset {m : List Addr} (r : RCe κ H ks ρ fp ρ' fp' m) : RCe κ H ks ρ fp (ρ'.set i none) fp' m := by
  have ow : ∀ a, Ow ks (ρ'.set i none) fp' a → Ow ks ρ' fp' a := fun a ⟨j, d, o, h, q⟩ => by
    rcases get_set h with ⟨_, _, e⟩ | ⟨hne, h⟩
    · cases e
    · exact ⟨j, d, o, h, q⟩
  have al : ∀ a, Al (ρ'.set i none) fp' a → Al ρ' fp' a := fun a ⟨j, d, h, q⟩ => by
    rcases get_set h with ⟨_, _, e⟩ | ⟨hne, h⟩
    · cases e
    · exact ⟨j, d, h, q⟩
  cases κ with
  | B => trivial
  | V => exact fun a q => ⟨fun z => (r a q).1 (ow a z), (r a q).2⟩
  | F => exact ⟨r.1, fun a q => ⟨fun z => (r.2 a q).1 (al a z), (r.2 a q).2⟩⟩
theorem SE.weakP (h0 : ∀ j ∈ P0, j ∈ P) {r : Fl × Env} (h : SE K ks P0 κ D σ H ρ fp r) : SE K ks P κ D σ H ρ fp r := by
  obtain ⟨f, ρ2⟩ := r
  cases f with
  | nx => exact fun σ' H' fp' s k => h σ' H' fp' s (k.mono h0)
  | bk => exact fun σ' H' fp' s k => h σ' H' fp' s (k.mono h0)
  | ct => exact fun σ' H' fp' s k => h σ' H' fp' s (k.mono h0)
  | rt d => exact fun σ' v H' fp' m s k a r => h σ' v H' fp' m s (k.mono h0) a r
/-- the slots at the suite's start -/
theorem Step.hand (eo : EOk K H ks σ ρ fp) (hPk : ∀ j ∈ P, ks[j]? = some false) (k : Keep P σ σ') (fr : Fr (Ow ks ρ fp) H H') : Step K H H' ks σ' ρ (keepE P ρ) fp fp := by
  refine ⟨⟨by rw [keepFrom_len, k.1]; exact eo.len, fun j d h => ?_, fun j d o h => ?_, fun j l d e o n h1 h2 => ?_⟩, fr, fun a ⟨j, d, h, q⟩ => ?_, fun a ⟨j, d, o, h, q⟩ => ?_⟩
  · obtain ⟨h1, h2⟩ := keepFrom_get h
    rw [Nat.zero_add] at h2
    obtain ⟨v, e, a⟩ := eo.ab j d h1
    refine ⟨v, by rw [k.2 j h2]; exact e, a.fr fr fun x q ⟨l, g, o, hl, ql⟩ => ?_⟩
    have hne : l ≠ j := fun z => by unfold own at o; rw [z, hPk j h2] at o; cases o
    exact eo.dj l j g d o hne hl h1 x ql q
  · obtain ⟨h1, h2⟩ := keepFrom_get h
    exact eo.nd j d o h1
  · exact eo.dj j l d e o n (keepFrom_get h1).1 (keepFrom_get h2).1
  · exact .inl ⟨j, d, (keepFrom_get h).1, q⟩
  · exact .inl ⟨j, d, o, (keepFrom_get h).1, q⟩
end
section
variable {X : Cx} {W : WX} {ks : List Bool} {P P0 : List Nat} {κ : Kd} {pos pos' np : Pos} {i : Nat} {n x : Str} {body suite : List Stmt} {b₀ : Stmt} {xs : List Str}
theorem takes0' {X : Cx} : Takes X W0 := fun u s' ⟨a, B, sI, pins, σ, H, cls, d, e, I, nb, up, sky, na, os, ag, w⟩ => w.elim
theorem s_try {fb : FS} {fs : Addr → Str → FS} (hN : X.N.Nodup) (tk : Takes X W) (hmx : X.mg x = some (.ref (He.ga X.K x))) (hx : ∀ z ∈ xs, PySem.W.exmOne X.K (.ref (He.ga X.K z)) (.ref (He.ga X.K x)) = some true)
    (hb : ∀ (W : WX) (pn : List (Addr × Obj)) (xe : Value → Shared → Prop), Takes (X.tr pn xe) W → PassesOwn (model X.prog X.w) X.A X.env xe → DSs (X.tr pn xe) W ks P κ body fb)
    (hsu : ∀ (a : Addr) (oe : Obj) (z : Str) (pn : List (Addr × Obj)), z ∈ xs → PpE (He.ga X.K z) oe → DSs (X.suite a ((a, oe) :: pn)) W0 ks P0 κ (b₀ :: suite) (fs a z))
    (hki : ks[i]? = some false := by rfl) (hiP : i ∉ P0 := by decide) (hPk : ∀ j ∈ P, ks[j]? = some false := by decide) (hP0 : ∀ j ∈ P0, j ∈ P := by decide)
    (hs : X.stack = X.env :: X.outer := by rfl) (hf : X.env.frame = some X.env.locals := by rfl) (hi : X.N[i]? = some n := by rfl) (hln : X.env.kindOf n = some .local := by rfl) (hg : Gl X x := by rfl) (hd : (x == ("__debug__" : Str)) = false := by decide) :
    DS X W ks P0 κ (.Try body [.ExceptHandler (some (.Name x np)) (some n) (b₀ :: suite) pos'] [] [] pos) (sTry xs i P fb fs) := by
  refine PS.imp (ps_try_as (c := .ref (He.ga X.K x)) (i := i) (tb := fun W => tS X.K W ks P κ fb) (ts := fun a cls d => fun D σ H => ∃ z, z ∈ xs ∧ cls = .ref (He.ga X.K z) ∧ d = none ∧ tS X.K W0 ks P0 κ (fs a z) D σ H) (Wout := W) hs hf hN hi hln ⟨hg, hd, .inl hmx⟩ tk hb ?_) fun D σ H ⟨ρ, fp, eo, h⟩ => ?_
  · intro a oe cls d pn hz hfl
    refine ⟨fun pins s σ H D I ⟨z, hz1, hc, hd, q⟩ => ?_⟩
    subst hc hd
    exact (hsu a oe z pn hz1 ⟨hz, hfl⟩).run pins s σ H D I q
  · refine ⟨ρ, fp, eo, ?_⟩
    unfold sTry at h
    cases e : fb ρ with
    | ok r => rw [e] at h; exact SE.weakP hP0 h
    | no => rw [e] at h; exact h
    | ex c =>
      rw [e] at h
      have h' : Holds (if c.fld.isNone && decide (c.cls ∈ xs) then allA (fun a => noX (fs a c.cls ((keepE P ρ).set i (some (adrD a)))) >>= fun r => .ok (r.1, r.2.set i none)) else .no) (SE X.K ks P0 κ D σ H ρ fp) (SX X.K W ks P0 σ H ρ fp) := h
      by_cases hc : (c.fld.isNone && decide (c.cls ∈ xs)) = true
      · rw [if_pos hc] at h'
        rw [Bool.and_eq_true, decide_eq_true_eq] at hc
        obtain ⟨cc, cf⟩ := c
        cases cf with
        | some q => exact absurd hc.1 (by simp)
        | none =>
          intro σ' H' kp fr
          refine ⟨true, hx cc hc.2, fun _ a hna => ⟨cc, hc.2, rfl, rfl, ?_⟩, fun z => Bool.noConfusion z⟩
          have s1 := Step.hand eo hPk kp fr
          have s2 := Step.set (i := i) (b := false) hki s1 (Ab.adr a) (RCe.nil _)
          have kp2 : Keep P0 σ (σ'.set i (some (.ref a))) := (kp.mono hP0).trans (Keep.set hiP)
          refine ⟨_, _, s2.env, (Holds.noXb (h'.allA a)).mono (fun r hr => ?_) fun u hu => hu⟩
          · obtain ⟨fl, ρ2⟩ := r
            cases fl with
            | nx => exact fun σ2 H2 fp2 s3 k3 => hr _ H2 fp2 (s2.trans s3).unset ((kp2.trans k3).trans (Keep.set hiP))
            | bk => exact fun σ2 H2 fp2 s3 k3 => hr _ H2 fp2 (s2.trans s3).unset ((kp2.trans k3).trans (Keep.set hiP))
            | ct => exact fun σ2 H2 fp2 s3 k3 => hr _ H2 fp2 (s2.trans s3).unset ((kp2.trans k3).trans (Keep.set hiP))
            | rt d => exact fun σ2 v H2 fp2 m s3 k3 ab rc => hr _ v H2 fp2 m (s2.trans s3).unset ((kp2.trans k3).trans (Keep.set hiP)) ab (RCe.pre s2 rc).unset
      · rw [if_neg hc] at h'; exact h'.elim
end
end PV

set_option Elab.async false
set_option linter.all false
set_option maxRecDepth 100000
set_option maxHeartbeats 1000000
set_option autoImplicit false
/-! PV, part q: the rules as the printed derivations name them; the law's end. -/
namespace PV
open PySem PySem.Spec PyProof.Rows L2
theorem bt_len : bootBuiltins "len" = some (.builtin "len") := by decide +kernel
theorem bt_abs : bootBuiltins "abs" = some (.builtin "abs") := by decide +kernel
theorem bt_all : bootBuiltins "all" = some (.builtin "all") := by decide +kernel
theorem bt_any : bootBuiltins "any" = some (.builtin "any") := by decide +kernel
theorem bt_sum : bootBuiltins "sum" = some (.builtin "sum") := by decide +kernel
theorem bt_repr : bootBuiltins "repr" = some (.builtin "repr") := by decide +kernel
theorem bt_min : bootBuiltins "min" = some (.builtin "min") := by decide +kernel
theorem bt_max : bootBuiltins "max" = some (.builtin "max") := by decide +kernel
theorem bt_sorted : bootBuiltins "sorted" = some (.builtin "sorted") := by decide +kernel
theorem bt_int : bootBuiltins "int" = some (.type "int") := by decide +kernel
theorem bt_str : bootBuiltins "str" = some (.type "str") := by decide +kernel
theorem bt_tuple : bootBuiltins "tuple" = some (.type "tuple") := by decide +kernel
theorem bt_list : bootBuiltins "list" = some (.type "list") := by decide +kernel
theorem bt_bool : bootBuiltins "bool" = some (.type "bool") := by decide +kernel
theorem bt_dict : bootBuiltins "dict" = some (.type "dict") := by decide +kernel
theorem bt_set : bootBuiltins "set" = some (.type "set") := by decide +kernel
section
variable {X : Cx} {W : WX} {ks : List Bool} {P : List Nat} {κ : Kd} {a b c e : Expr} {pos : Pos} {o o' : PyData → PyData → Option PyData} {ob ob' : PyData → PyData → Option Bool}
theorem p_bin {op : Operator} {f g : Env → R PyData} (h : ∃ r, OpR X (binaryOp op) r ∧ Op2 X.K r o) (ha : DP X W ks .B a f) (hb : DP X W ks .B b g) : DP X W ks .F (.BinOp a op b pos) (fOp o f g) := let ⟨_, h1, h2⟩ := h; p_op h1 h2 ha hb
theorem e_bin {op : Operator} {f g : FE} (h : ∃ r, OpR X (binaryOp op) r ∧ Op2 X.K r o) (ha : DE X W ks .V a f) (hb : DE X W ks .B b g) : DE X W ks .F (.BinOp a op b pos) (eOp o f g) := let ⟨_, h1, h2⟩ := h; e_op h1 h2 ha hb
theorem p_cm {op : CmpOp} {f g : Env → R PyData} (h : ∃ r, OpR X (compareOp op) r ∧ OpB X.K r ob) (ha : DP X W ks .B a f) (hb : DP X W ks .B b g) (hm : behindInMarks op b = false := by with_unfolding_all rfl) : DP X W ks .F (.Compare a [op] [b] pos) (fOfB (gCmp ob f g)) := let ⟨_, h1, h2⟩ := h; p_cmp h1 h2 ha hb hm
theorem t_cm {op : CmpOp} {f g : Env → R PyData} (h : ∃ r, OpR X (compareOp op) r ∧ OpB X.K r ob) (ha : DP X W ks .B a f) (hb : DP X W ks .B b g) (hm : behindInMarks op b = false := by with_unfolding_all rfl) : DPT X W ks (.Compare a [op] [b] pos) (gCmp ob f g) := let ⟨_, h1, h2⟩ := h; t_cmp h1 h2 ha hb hm
theorem e_cm {op : CmpOp} {f g : FE} (h : ∃ r, OpR X (compareOp op) r ∧ OpB X.K r ob) (ha : DE X W ks .V a f) (hb : DE X W ks .B b g) (hm : behindInMarks op b = false := by with_unfolding_all rfl) : DE X W ks .F (.Compare a [op] [b] pos) (eOfB (eCmp ob f g)) := let ⟨_, h1, h2⟩ := h; e_cmpV h1 h2 ha hb hm
theorem et_cm {op : CmpOp} {f g : FE} (h : ∃ r, OpR X (compareOp op) r ∧ OpB X.K r ob) (ha : DE X W ks .V a f) (hb : DE X W ks .B b g) (hm : behindInMarks op b = false := by with_unfolding_all rfl) : DET X W ks (.Compare a [op] [b] pos) (eCmp ob f g) := let ⟨_, h1, h2⟩ := h; e_cmp h1 h2 ha hb hm
theorem t_ch {op op' : CmpOp} {f g k : Env → R PyData} (h : ∃ r, OpR X (compareOp op) r ∧ OpB X.K r ob) (h' : ∃ r, OpR X (compareOp op') r ∧ OpB X.K r ob') (ha : DP X W ks .B a f) (hb : DP X W ks .B b g) (hc : DP X W ks .B c k) (hm : lastMarks [op, op'] [b, c] = false := by with_unfolding_all rfl) : DPT X W ks (.Compare a [op, op'] [b, c] pos) (gChain ob ob' f g k) :=
  let ⟨_, h1, h2⟩ := h; let ⟨_, h3, h4⟩ := h'; t_chain h1 h2 h3 h4 ha hb hc hm
theorem p_ch {op op' : CmpOp} {f g k : Env → R PyData} (h : ∃ r, OpR X (compareOp op) r ∧ OpB X.K r ob) (h' : ∃ r, OpR X (compareOp op') r ∧ OpB X.K r ob') (ha : DP X W ks .B a f) (hb : DP X W ks .B b g) (hc : DP X W ks .B c k) (hm : lastMarks [op, op'] [b, c] = false := by with_unfolding_all rfl) : DP X W ks .F (.Compare a [op, op'] [b, c] pos) (fOfB (gChain ob ob' f g k)) :=
  let ⟨_, h1, h2⟩ := h; let ⟨_, h3, h4⟩ := h'; p_chain h1 h2 h3 h4 ha hb hc hm
theorem p_tyE {x : Str} {p : Pos} {es : List Expr} {id : String} {on : List PyData → Option PyData} {f : Env → R (List PyData)} (h : ∃ r, CallR X (.type id) r ∧ OpN X.K r on) (hm : X.mg x = none) (hv : bootBuiltins x = some (.type id)) (ha : DPA X W ks .B (e :: es) f) (hg : Gl X x := by rfl)
    (hn : x ≠ "__name__" := by decide) (hdb : (x == ("__debug__" : Str)) = false := by decide) (he : starEach (e :: es) X.env = (false, eval e X.env) :: starEach es X.env := by rfl) (hpl : (backTo pos (starEach es X.env)).any (·.1) = false := by rfl) : DP X W ks .F (.Call (.Name x p) (e :: es) [] pos) (fN on f) :=
  let ⟨_, h1, h2⟩ := h; p_ty h1 h2 hm hv ha hg hn hdb he hpl
theorem e_tyE {x : Str} {p : Pos} {es : List Expr} {id : String} {on : List PyData → Option PyData} {f : Env → R (List PyData × Env)} (h : ∃ r, CallR X (.type id) r ∧ OpN X.K r on) (hm : X.mg x = none) (hv : bootBuiltins x = some (.type id)) (ha : DEA X W ks κ (e :: es) f) (hg : Gl X x := by rfl)
    (hn : x ≠ "__name__" := by decide) (hdb : (x == ("__debug__" : Str)) = false := by decide) (he : starEach (e :: es) X.env = (false, eval e X.env) :: starEach es X.env := by rfl) (hpl : (backTo pos (starEach es X.env)).any (·.1) = false := by rfl) : DE X W ks .F (.Call (.Name x p) (e :: es) [] pos) (eN on f) :=
  let ⟨_, h1, h2⟩ := h; e_ty h1 h2 hm hv ha hg hn hdb he hpl
theorem p_biE {x : Str} {p : Pos} {es : List Expr} {id : String} {on : List PyData → Option PyData} {f : Env → R (List PyData)} (h : ∃ r, CallR X (.builtin id) r ∧ OpN X.K r on) (hm : X.mg x = none) (hv : bootBuiltins x = some (.builtin id)) (ha : DPA X W ks .B (e :: es) f) (hg : Gl X x := by rfl)
    (hn : x ≠ "__name__" := by decide) (hdb : (x == ("__debug__" : Str)) = false := by decide) (he : starEach (e :: es) X.env = (false, eval e X.env) :: starEach es X.env := by rfl) (hpl : (backTo pos (starEach es X.env)).any (·.1) = false := by rfl) : DP X W ks .F (.Call (.Name x p) (e :: es) [] pos) (fN on f) :=
  let ⟨_, h1, h2⟩ := h; p_bi h1 h2 hm hv ha hg hn hdb he hpl
theorem e_biE {x : Str} {p : Pos} {es : List Expr} {id : String} {on : List PyData → Option PyData} {f : Env → R (List PyData × Env)} (h : ∃ r, CallR X (.builtin id) r ∧ OpN X.K r on) (hm : X.mg x = none) (hv : bootBuiltins x = some (.builtin id)) (ha : DEA X W ks κ (e :: es) f) (hg : Gl X x := by rfl)
    (hn : x ≠ "__name__" := by decide) (hdb : (x == ("__debug__" : Str)) = false := by decide) (he : starEach (e :: es) X.env = (false, eval e X.env) :: starEach es X.env := by rfl) (hpl : (backTo pos (starEach es X.env)).any (·.1) = false := by rfl) : DE X W ks .F (.Call (.Name x p) (e :: es) [] pos) (eN on f) :=
  let ⟨_, h1, h2⟩ := h; e_bi h1 h2 hm hv ha hg hn hdb he hpl
theorem o_len' : ∃ r, CallR X (.builtin "len") r ∧ OpN X.K r dLen := ⟨_, call_len, o_len⟩
theorem o_abs' : ∃ r, CallR X (.builtin "abs") r ∧ OpN X.K r dAbs := ⟨_, call_abs, o_abs⟩
theorem o_all' (hc : X.calm = true) : ∃ r, CallR X (.builtin "all") r ∧ OpN X.K r dAll := ⟨_, cr_all hc, o_all⟩
theorem o_any' (hc : X.calm = true) : ∃ r, CallR X (.builtin "any") r ∧ OpN X.K r dAny := ⟨_, cr_any hc, o_any⟩
theorem o_sum' (hc : X.calm = true) : ∃ r, CallR X (.builtin "sum") r ∧ OpN X.K r dSum := ⟨_, cr_sum hc, o_sum⟩
theorem o_repr' (hg : X.A.guards = some []) (hu : X.A.units + 66 < cLine) : ∃ r, CallR X (.builtin "repr") r ∧ OpN X.K r dRepr := ⟨_, call_reprD hg hu, o_repr⟩
theorem p_meE {ob : Expr} {es : List Expr} {name : Str} {apos cpos : Pos} {T id : String} {isT : PyData → Bool} {om : PyData → List PyData → Option PyData} {f : Env → R PyData} {g : Env → R (List PyData)}
    (pa : PlainAttrs T) (slot : Slot T name id) (hty : typeOf (.builtin id) = pure (.type "method_descriptor")) (h : ∃ r, MtR X id r ∧ OpM X.K T r isT om) (ho : DP X W ks .B ob f) (ha : DPA X W ks .B (e :: es) g)
    (hbase : attributeBase ob name X.env (eval ob X.env) = eval ob X.env := by rfl)
    (hfew : ((backTo cpos (starEach (e :: es) X.env)).all (fun x => !x.1) && (backToKw cpos (keywordEach [] X.env)).all (fun x => x.1.isSome)
      && decide ((e :: es).length + ([] : List Keyword).length + (if ([] : List Keyword).isEmpty then 0 else 1) < 30)) = true := by rfl)
    (hline : (apos.endLine == cpos.line) = true := by rfl) (hs : starEach (e :: es) X.env = (false, eval e X.env) :: starEach es X.env := by rfl) (hplain : (backTo cpos (starEach es X.env)).any (·.1) = false := by rfl) :
    DP X W ks .F (.Call (.Attribute ob name apos) (e :: es) [] cpos) (fMe isT om f g) := let ⟨_, h1, h2⟩ := h; p_me pa slot hty h1 h2 ho ha hbase hfew hline hs hplain
theorem e_meE {ob : Expr} {es : List Expr} {name : Str} {apos cpos : Pos} {T id : String} {isT : PyData → Bool} {om : PyData → List PyData → Option PyData} {f : FE} {g : Env → R (List PyData × Env)}
    (pa : PlainAttrs T) (slot : Slot T name id) (hty : typeOf (.builtin id) = pure (.type "method_descriptor")) (h : ∃ r, MtR X id r ∧ OpM X.K T r isT om) (ho : DE X W ks .V ob f) (ha : DEA X W ks κ (e :: es) g)
    (hbase : attributeBase ob name X.env (eval ob X.env) = eval ob X.env := by rfl)
    (hfew : ((backTo cpos (starEach (e :: es) X.env)).all (fun x => !x.1) && (backToKw cpos (keywordEach [] X.env)).all (fun x => x.1.isSome)
      && decide ((e :: es).length + ([] : List Keyword).length + (if ([] : List Keyword).isEmpty then 0 else 1) < 30)) = true := by rfl)
    (hline : (apos.endLine == cpos.line) = true := by rfl) (hs : starEach (e :: es) X.env = (false, eval e X.env) :: starEach es X.env := by rfl) (hplain : (backTo cpos (starEach es X.env)).any (·.1) = false := by rfl) :
    DE X W ks .F (.Call (.Attribute ob name apos) (e :: es) [] cpos) (eMe isT om f g) := let ⟨_, h1, h2⟩ := h; e_me pa slot hty h1 h2 ho ha hbase hfew hline hs hplain
/-- an object of the module, by its place -/
theorem p_globR {x : Str} (hm : X.mg x = some (.ref (He.ga X.K x))) (hg : Gl X x := by rfl) (hd : (x == ("__debug__" : Str)) = false := by decide) : DP X W ks κ (.Name x pos) (fC (adrD (He.ga X.K x))) := p_glob (v := .ref (He.ga X.K x)) hm rfl (fun _ _ => .adr _) hg hd
theorem p_globS {x z : Str} (hm : ∃ t, X.mg x = some (.str z t)) (hg : Gl X x := by rfl) (hd : (x == ("__debug__" : Str)) = false := by decide) : DP X W ks κ (.Name x pos) (fC (.str z)) := let ⟨_, h⟩ := hm; p_glob (v := .str z) h ⟨_, rfl⟩ (fun _ _ => .str _) hg hd
theorem p_globI {x : Str} {z : Int} (hm : ∃ t, X.mg x = some (.int z t)) (hg : Gl X x := by rfl) (hd : (x == ("__debug__" : Str)) = false := by decide) : DP X W ks κ (.Name x pos) (fC (.int z)) := let ⟨_, h⟩ := hm; p_glob (v := .int z) h ⟨_, rfl⟩ (fun _ _ => .int _) hg hd
/-- an own slot's thing is given away -/
def sRetO (i : Nat) : FS := fun ρ => slot i ρ >>= fun d => .ok (.rt d, ρ.set i none)
theorem s_retO {i : Nat} {x : Str} {px : Pos} (hk : ks[i]? = some true) (hP : i ∉ P := by decide) (hN : X.N[i]? = some x := by rfl) (hv : Vis X.env.scope x := by first | exact Or.inl rfl | exact Or.inr (Or.inl rfl) | exact Or.inr (Or.inr rfl)) (hd : (x == ("__debug__" : Str)) = false := by decide) (hcd : (x == ("__classdict__" : Str)) = false := by decide) :
    DS X W ks P .F (.Return (some (.Name x px)) pos) (sRetO i) := PS.imp (ps_ret (pe_var hN hv hd hcd)) fun D σ H ⟨ρ, fp, eo, h⟩ => by
  obtain ⟨d, e, h⟩ := slot_ok h
  obtain ⟨v, ev, ab, nd⟩ := eo.own hk e
  refine ⟨v, ev, h σ v H fp (fp i) ?_ (Keep.refl _ _) ab ⟨nd, fun a q => ⟨fun ⟨j, g, hj, z⟩ => ?_, .inl ⟨i, d, hk, e, q⟩⟩⟩⟩
  · have s0 := Step.same eo (Same.refl H)
    refine ⟨⟨by rw [List.length_set]; exact eo.len, fun j g hj => ?_, fun j g o hj => ?_, fun j l g g' o n h1 h2 => ?_⟩, s0.fr, fun a ⟨j, g, hj, q⟩ => ?_, fun a ⟨j, g, o, hj, q⟩ => ?_⟩
    · rcases get_set hj with ⟨_, _, z⟩ | ⟨_, hj⟩
      · cases z
      · exact eo.ab j g hj
    · rcases get_set hj with ⟨_, _, z⟩ | ⟨_, hj⟩
      · cases z
      · exact eo.nd j g o hj
    · rcases get_set h1 with ⟨_, _, z⟩ | ⟨_, h1⟩
      · cases z
      rcases get_set h2 with ⟨_, _, z⟩ | ⟨_, h2⟩
      · cases z
      exact eo.dj j l g g' o n h1 h2
    · rcases get_set hj with ⟨_, _, z⟩ | ⟨_, hj⟩
      · cases z
      · exact .inl ⟨j, g, hj, q⟩
    · rcases get_set hj with ⟨_, _, z⟩ | ⟨_, hj⟩
      · cases z
      · exact .inl ⟨j, g, o, hj, q⟩
  · rcases get_set hj with ⟨_, _, y⟩ | ⟨hne, hj⟩
    · cases y
    · exact eo.dj i j _ _ hk (fun w => hne w.symm) e hj a q z
def dIadd : PyData → PyData → Option PyData := fun a b => match iOp (fun _ _ => true) (fun i j => i + j) a b with | some d => some d | none => sCat a b
theorem s_augE {i : Nat} {x : Str} {op : Operator} {f : FE} {bk : Bool} {pos' : Pos} (h : ∃ r, OpR X (inplaceOp op) r ∧ Op2 X.K r o) (he : DE X W ks .B e f) (hN : X.N.Nodup) (hk : ks[i]? = some bk := by rfl) (hP : i ∉ P := by decide) (hi : X.N[i]? = some x := by rfl) (hx : Loc X.env.scope x := by first | exact Or.inl rfl | exact Or.inr rfl)
    (hf : X.fn x = true ∨ X.env.scope.names.lookup x = some .local := by first | exact .inl rfl | exact .inr rfl | assumption) : DS X W ks P κ (.AugAssign (.Name x pos') op e pos) (sAug i o f) := let ⟨_, h1, h2⟩ := h; s_aug h1 h2 he hN hk hP hi hx hf
/-- what is known of an exception class of the program -/
structure ExK (K : PySem.W.Frag) (mg : Str → Option Value) (x : Str) : Prop where
  q : PySem.W.excIn K (He.ga K x) He.veBase "ValueError.__new__" = true
  g : mg x = some (.ref (He.ga K x))
  k : PySem.W.keepIn K (.ref (He.ga K x)) = true
  s : PySem.W.subIn K (.ref (He.ga K x)) (.type "BaseException") = some true
  t : PySem.W.typeIn K (.ref (He.ga K x)) = some (.type "type")
theorem exF {x : Str} (h : ExK X.K X.mg x) : ExcF X x := ⟨h.q, h.g, h.k, raises_own h.s h.t⟩
def excB (K : PySem.W.Frag) (D : Addr) : Bool := He.eqO (PySem.W.findIn K (.ref D) "__getattribute__") (some (some (.builtin "BaseException.__getattribute__"))) && (He.eqO (PySem.W.findIn K (.ref D) "__getattr__") (some none) &&
  (decide (PySem.W.subIn K (.ref D) (.type "BaseException") = some true) && (PySem.W.hasDictIn K D && (He.eqO (PySem.W.findIn K (.ref D) "__class__") (some (some (.builtin "object.__class__"))) &&
  (He.eqO (PySem.W.specialIn K (.builtin "object.__class__") "__get__") (some (some (.builtin "getset_descriptor.__get__"))) && (decide (PySem.W.takesIn K (.builtin "object.__class__") = some true) && decide (PySem.W.mroIn K D (.type "object") = some true)))))))
theorem excB_ok {K : PySem.W.Frag} {D : Addr} (h : excB K D = true) : ExcC K D := by
  unfold excB at h
  obtain ⟨h1, h⟩ := He.ba h
  obtain ⟨h2, h⟩ := He.ba h
  obtain ⟨h3, h⟩ := He.ba h
  obtain ⟨h4, h⟩ := He.ba h
  obtain ⟨h5, h⟩ := He.ba h
  obtain ⟨h6, h⟩ := He.ba h
  obtain ⟨h7, h8⟩ := He.ba h
  exact ⟨He.eqO_ok h1, He.eqO_ok h2, of_decide_eq_true h3, h4, He.eqO_ok h5, He.eqO_ok h6, of_decide_eq_true h7, of_decide_eq_true h8⟩
/-! ### a dict of the module: which of some texts stand in it -/
structure KdT (K : PySem.W.Frag) (w : World) (d : Addr) (tab : List (Str × Option Addr)) : Prop where
  ex : ∃ es n, KDict K w d es n
  at_ : ∀ q ∈ tab, PySem.W.nsIn K d q.1 = some (q.2.map Value.ref)
def kdIn (neg : Bool) (d : Addr) (tab : List (Str × Option Addr)) : PyData → PyData → Option Bool
  | .str z, .dict [(.dict [], .int a)] => if a = (d : Int) then (tab.lookup z).map fun r => if neg then !r.isSome else r.isSome else none
  | _, _ => none
theorem lookup_mem' {α : Type} {z : Str} {r : α} : ∀ {tab : List (Str × α)}, tab.lookup z = some r → (z, r) ∈ tab
  | [], h => by cases h
  | (k, v) :: t, h => by
    rw [List.lookup_cons] at h
    split at h
    · rename_i e
      cases h
      rw [eq_of_beq e]; exact List.mem_cons_self ..
    · exact List.mem_cons_of_mem _ (lookup_mem' h)
theorem o_kdNotIn {d : Addr} {tab : List (Str × Option Addr)} (D : KdT X.K X.w d tab) : ∃ r, OpR X (compareOp .NotIn) r ∧ OpB X.K r (kdIn true d tab) := by
  obtain ⟨es, n, kd⟩ := D.ex
  refine ⟨_, op_notIn_kd kd, ⟨fun H x y a b m n d' Q a1 a2 e q => ?_⟩⟩
  unfold kdIn at e
  split at e
  · rename_i z a
    split at e
    · rename_i ha
      subst ha
      obtain ⟨r, er, rfl⟩ := Option.map_eq_some_iff.mp e
      obtain ⟨rfl, _⟩ := a1.eq_str
      obtain ⟨rfl, _⟩ := Ab.eq_adr a2
      refine ⟨z, r.map Value.ref, rfl, rfl, D.at_ (z, r) (lookup_mem' er), ?_⟩
      cases r <;> exact q
    · cases e
  · cases e
def kdGet (d : Addr) (tab : List (Str × Option Addr)) : PyData → PyData → Option PyData
  | .dict [(.dict [], .int a)], .str z => if a = (d : Int) then match tab.lookup z with
    | some (some f) => some (adrD f)
    | _ => none else none
  | _, _ => none
theorem p_kd {d : Addr} {tab : List (Str × Option Addr)} {f g : Env → R PyData} (D : KdT X.K X.w d tab) (ha : DP X W ks .B a f) (hb : DP X W ks .B b g) (hs : PlainIx b := by exact fun _ _ => rfl) : DP X W ks κ (.Subscript a b pos) (fOp (kdGet d tab) f g) := by
  obtain ⟨es, n, kd⟩ := D.ex
  refine PE.imp (pe_ix ix_kdict ha hb hs) fun σ H Q ⟨ρ, fp, eo, h⟩ => ⟨ρ, fp, eo, (Holds.bind h).mono (fun x hx v H1 m s1 a1 r1 => ⟨ρ, fp, eo.same s1, (Holds.bind hx).mono (fun y hy u H2 n s2 a2 _ => ?_) fun c hc H' s' => hc H' (s1.trans s')⟩) fun c hc => hc⟩
  obtain ⟨r, er, hy⟩ := Holds.ofO hy
  unfold kdGet at er
  split at er
  · rename_i a z
    split at er
    · rename_i ha
      subst ha
      split at er
      · rename_i f e
        cases er
        obtain ⟨rfl, _⟩ := Ab.eq_adr a1
        obtain ⟨rfl, _⟩ := a2.eq_str
        exact ⟨_, _, .ref f, rfl, rfl, ⟨es, _, .ref f, kd.at_, kd.lit, D.at_ _ (lookup_mem' e), rfl⟩, hy _ H2 [] (s1.trans s2) (.adr f) (RCp.nil _)⟩
      · cases er
    · cases er
  · cases er
/-! ### a call of a def that an expression names -/
structure FnT (P : Program) (w : World) (K : PySem.W.Frag) (mg : Str → Option Value) (base : Heap) (k np : Nat) (κ : Kd) (tab : List (Addr × (List PyData → R PyData))) : Prop where
  at_ : ∀ q ∈ tab, ∃ fd ps, ps.length = np ∧ FnG P w K mg base (L2.CX P w) k q.1 fd ps (spP K ps.length κ q.2) ∧ PySem.W.keepIn K (.ref q.1) = true ∧ Binds K fd ps []
theorem FnT.nil {P : Program} {w : World} {K : PySem.W.Frag} {mg : Str → Option Value} {base : Heap} {k np : Nat} {κ : Kd} : FnT P w K mg base k np κ [] := ⟨fun _ q => nomatch q⟩
theorem FnT.cons {P : Program} {w : World} {K : PySem.W.Frag} {mg : Str → Option Value} {base : Heap} {k j : Nat} {κ : Kd} {tab : List (Addr × (List PyData → R PyData))} {x : Str} {ps : List Str} {m : List PyData → R PyData}
    (F : FnPP P w K mg base j x ps κ m) (hj : j ≤ k) (hx : mg x = some (.ref (He.ga K x))) (T : FnT P w K mg base k ps.length κ tab) : FnT P w K mg base k ps.length κ ((He.ga K x, m) :: tab) := ⟨fun q hq => by
  rcases List.mem_cons.mp hq with e | hq
  · obtain ⟨f, fd, G, hm, hk, hb⟩ := F.ex
    rw [hx] at hm
    cases hm
    subst e
    exact ⟨fd, ps, rfl, G.mono hj, hk, hb⟩
  · exact T.at_ q hq⟩
def adrOf : PyData → Option Int
  | .dict [(.dict [], .int a)] => some a
  | _ => none
def fCallX (tab : List (Addr × (List PyData → R PyData))) (g : Env → R PyData) (f : Env → R (List PyData)) : Env → R PyData := fun ρ => g ρ >>= fun d => ofO ((adrOf d).bind fun a => tab.find? fun q => a == (q.1 : Int)) >>= fun q => f ρ >>= q.2
theorem adrOf_eq {d : PyData} {a : Int} (h : adrOf d = some a) : d = .dict [(.dict [], .int a)] := by
  unfold adrOf at h
  split at h
  · cases h; rfl
  · cases h
theorem p_callX {np k : Nat} {tab : List (Addr × (List PyData → R PyData))} {fe : Expr} {es : List Expr} {g : Env → R PyData} {f : Env → R (List PyData)} (T : FnT X.prog X.w X.K X.mg X.base k np .F tab) (tk : Takes X W) (hr : RoomG k X.A) (hf : DP X W ks .B fe g) (ha : DPA X W ks .B (e :: es) f)
    (hlen : HL np f := by repeat (first | exact HL.nil | refine HL.cons ?_)) (ht : eval (.Call fe (e :: es) [] pos) X.env = (do callWith pos (← eval fe X.env) [] (backTo pos (starEach (e :: es) X.env)) (backToKw pos (keywordEach [] X.env))) := by rfl)
    (he : starEach (e :: es) X.env = (false, eval e X.env) :: starEach es X.env := by rfl) (hpl : (backTo pos (starEach es X.env)).any (·.1) = false := by rfl) : DP X W ks .F (.Call fe (e :: es) [] pos) (fCallX tab g f) := by
  refine ⟨fun pins s σ H Q I ⟨ρ, fp, eo, h⟩ => ?_⟩
  refine Call_ (thn (hf.run pins s σ H (fun v H1 => ∃ q, q ∈ tab ∧ v = .ref q.1 ∧ Same H H1 ∧ Holds (f ρ >>= q.2) (fun d => ∀ v H' m, Same H H' → Ab X.K H' Kd.F.ow v d m → RCp .F H ks ρ fp m → Q v H') fun c => ∀ H', Same H H' → WEx X.K W c σ H') I ⟨ρ, fp, eo, (Holds.bind h).mono (fun d hd v H1 m s1 a1 _ => ?_) fun c hc => hc⟩) fun u s1 ⟨v, H1, I1, rv, q, hq, ev, s1', hh⟩ => ?_) ht
  · obtain ⟨q, eq, hd2⟩ := Holds.ofO (Holds.bind hd)
    clear hd
    obtain ⟨a, ea, ef⟩ := Option.bind_eq_some_iff.mp eq
    have e1 := adrOf_eq ea
    have e2 := List.mem_of_find?_eq_some ef
    have e3 : a = (q.1 : Int) := by simpa using List.find?_some ef
    subst e1 e3
    obtain ⟨rfl, _⟩ := Ab.eq_adr a1
    exact ⟨q, e2, rfl, s1, hd2⟩
  · subst ev
    obtain rfl : u = Value.ref q.1 := rv
    obtain ⟨fd, ps, hps, G, hk, hb⟩ := T.at_ q hq
    subst hps
    refine PySem.W.callWith_K (h₀ := X.base) I1.ok.mod.kin hk (thn (ha.run pos pins s1 σ H1 (fun vs H2 => spP X.K ps.length .F q.2 vs H2 Q (WE W σ)) I1 ⟨ρ, fp, eo.same s1', ?_⟩) fun us s2 ⟨vs, H2, I2, r, q2⟩ => ⟨I2.kIn, run_fnG G hr hb (passAt tk σ) I2 r q2⟩) he hpl
    have := call_core (κa := .B) (κr := .F) (κf := .F) (W := W) (σ := σ) (Q := Q) hlen (fun a => a) (fun s _ r => hκF (K := X.K) (κa := .B) (σ := σ) s r) eo (m := q.2) (f := f) hh
    exact this.mono (fun ds hd v H' m' s2 al rc => hd v H' m' (s1'.trans s2) al trivial) fun c hc H' s2 => hc H' (s1'.trans s2)
end
/-! ### the end -/
theorem law_callG {P : Program} {w : World} {K : PySem.W.Frag} {mg mb : Str → Option Value} {CX : CXT} {k : Nat} {fa a : Addr} {fd : FuncData} {x : Str} {sp : Sp} {s₁ : Shared} {vs : List Value} {ns : List Int}
    (KX : K.In s₁.heap) (hns : s₁.heap.Ns mainGlobals mg) (hb : s₁.heap.Ns builtinsNs mb) (hbb : ∀ x : Str, x ≠ "__name__" → mb x = bootBuiltins x) (hlim : s₁.heap.NoLimit) (hg : s₁.gens = #[])
    (ha : s₁.heap.get? a = some { cls := .type "list", data := .seq vs.toArray }) (hi : IntsAre vs ns) (hl : ns.length ≤ sizeLine) (hr : RoomG k callerA)
    (F : ∀ base : Heap, K.In base → base.Ns mainGlobals mg → FnG P w K mg base CX k fa fd [x] sp) (hbind : Binds K fd [x] [])
    (hsp : ∀ H : Hp, Only H → SqL K H a (ns.map V.int) → sp [.ref a] H (fun v _ => v = .bl true) fun _ _ _ => False)
    (hCX : ∀ H e s', CX [] H s₁ (fun _ _ _ => False) e s' → False) :
    codeAny (model P w) callerA (.call (.ref fa) ⟨[.ref a], []⟩) (fun r s' => r = .ok (.ret (.bool true)) ∧ OldK s₁.heap s'.heap ∧ s'.os = s₁.os ∧ AllBare s'.gens) s₁ := by
  have rv := vals_ints hi
  have core : ∀ H : Hp, Only H → SqL K H a (ns.map V.int) → HOk P w H s₁.heap → (∀ b, H b ≠ none → b = a) → (H a ≠ none → K.lookup a = none) →
      codeAny (model P w) callerA (.call (.ref fa) ⟨[.ref a], []⟩) (fun r s' => r = .ok (.ret (.bool true)) ∧ OldK s₁.heap s'.heap ∧ s'.os = s₁.os ∧ AllBare s'.gens) s₁ := by
    intro H hO hS hok hA hK
    have free : ∀ {b : Addr}, b ≠ a → H b = none := fun {b} n => Classical.byContradiction fun z => n (hA b z)
    have hid : ∀ {b : Addr} {o : Obj}, s₁.heap.get? b = some o → H b = none → (hidT s₁.heap H).get? b = some o := fun e n => hidT_get e n
    have dic : ∀ {b : Addr} {o : Obj} {es : Array DictEntry} {ep : Nat}, s₁.heap.get? b = some o → o.data = .dict es ep → H b = none := fun {b o es ep} e d => free fun z => by
      rw [z, ha] at e
      cases e
      exact Data.noConfusion (show Data.seq vs.toArray _ = Data.dict es ep from d)
    have ns' : ∀ {b : Addr} {m : Str → Option Value}, s₁.heap.Ns b m → (hidT s₁.heap H).Ns b m := fun {b m} ⟨o, es, ep, e, d, r⟩ => ⟨o, es, ep, hid e (dic e d), d, r⟩
    have kin : K.In (hidT s₁.heap H) := fun b o e => hid (KX b o e) (by
      by_cases z : b = a
      · subst z
        exact Classical.byContradiction fun n => by rw [hK n] at e; cases e
      · exact free z)
    obtain ⟨mc, l1, l2⟩ := hlim
    have e0 : Env0 P w K mg (hidT s₁.heap H) callerA [] s₁ H := ⟨rfl, ⟨kin, ns' hns, ⟨mb, ns' hb, hbb⟩, ⟨mc, ns' l1, l2⟩⟩, fun b o e => of_hidT e, Nat.le_of_eq (hidT_size _ _), trivial, (fun b hb => nomatch hb), hok, .of_eq hg⟩
    refine codeAny_mono ((F _ kin (ns' hns)).run callerA [] s₁ H ⟨[.ref a], []⟩ [.ref a] [.ref a] _ _ hr e0 (hbind s₁ [.ref a] KX rfl) (.cons rfl .nil) (hsp H hO hS)) fun r s' h => ?_
    match r, h with
    | .error e, h => exact (hCX H e s' h).elim
    | .ok (.ret u), ⟨v, H', os, bare, un, hok', r', q⟩ =>
      have q' : v = .bl true := q
      subst q'
      obtain rfl : u = Value.bool true := r'
      refine ⟨rfl, OldK.of_keep fun b o e => ?_, os, bare⟩
      rcases hO b with z | ⟨ob, xs, z⟩
      · exact un.keep b o e z (fun z => nomatch (show b ∈ ([] : List Addr) from z)) (fun z => nomatch z)
      · obtain ⟨e1, _⟩ := hok b _ z
        obtain ⟨e2, _⟩ := hok' b _ (un.frzs b ob _ z)
        rw [e] at e1; cases e1
        exact e2
  cases hk : K.lookup a with
  | some o =>
    have e := KX a o hk
    rw [ha] at e
    cases e
    exact core (fun _ => none) (fun _ => .inl rfl) (.inr ⟨_, vs.toArray, _, hk, rfl, rfl, rfl, by rw [List.size_toArray, hi.length]; exact hl, by simpa using rv⟩) (fun b u z => nomatch z) (fun b z => absurd rfl z) fun z => absurd rfl z
  | none =>
    let H1 : Hp := upd (fun _ => none) a (.frz { cls := .type "list", data := .seq vs.toArray } (.lst (ns.map V.int)))
    have at1 : H1 a = some (.frz { cls := .type "list", data := .seq vs.toArray } (.lst (ns.map V.int))) := upd_same
    have off1 : ∀ b, b ≠ a → H1 b = none := fun b n => upd_ne n
    refine core H1 (fun b => ?_) (.inl (.inr ⟨_, at1⟩)) (fun b u z => ?_) (fun b z => Classical.byContradiction fun n => z (off1 b n)) fun _ => hk
    · by_cases n : b = a
      · subst n; exact .inr ⟨_, _, at1⟩
      · exact .inl (off1 b n)
    · by_cases n : b = a
      · subst n
        rw [at1] at z
        cases z
        exact ⟨ha, by rw [List.length_map]; exact hl, vs, _, rv, ha⟩
      · rw [off1 b n] at z; cases z
theorem walkG {l : PySem.W.OpenLaw} {n k : Nat} {q : Program} {loose : List Str} {XP : (Str → Option Value) → Heap → Prop} {YP : World → Heap → Prop} {d : DefRec} {x : Str}
    (hn : l.most = some n) (hn2 : n ≤ sizeLine) (hdf : d.params.defaults = []) (hr : Room k callerA)
    (F : ∀ (w : World) (mg : Str → Option Value) (fa : Addr) (h : Heap), YP w h → h.Ns mainGlobals mg → mg d.name = some (.ref fa) →
      ∃ (K : PySem.W.Frag) (fd : FuncData) (m : List PyData → R PyData), K.In h ∧ Binds K fd [x] [] ∧
        (∀ ns : List Int, ns.length ≤ n → m [frzD (ns.map .int)] = .ok (.bool true)) ∧
        ∀ base : Heap, K.In base → base.Ns mainGlobals mg → FnG l.prog w K mg base (L2.CX l.prog w) k fa fd [x] (spP K 1 .F m)) :
    PySem.W.WalkO q loose XP YP l.row.toRowW d [] (fun f vs => PySem.call f vs) := by
  refine Att.attach_call hn hdf fun w s₀ s₁ mg mb fa o pm cd doc a vs ns G Y ho hd hcd hmg hobj hints hlen hg => ?_
  obtain ⟨K, fd, m, KX, hb, hm, hF⟩ := F w mg fa _ Y G.T.g hmg
  refine law_callG KX G.T.g G.T.b G.T.builtins G.T.nolimit hg hobj hints (Nat.le_trans hlen hn2) ⟨hr, rfl⟩ hF hb (fun H hO hS => ?_) fun H e s' h => ?_
  · have hF : SqF K H a (ns.map V.int) := by
      rcases hS with (h | ⟨o, h⟩) | h
      · rcases hO a with z | ⟨ob, xs, z⟩
        · rw [h] at z; cases z
        · rw [h] at z; cases z
      · exact .inl ⟨o, h⟩
      · exact .inr h
    have al : AbL K H false [V.ref a] [frzD (ns.map .int)] ([] ++ []) := .cons (.frz hF (AbL.ofInts ns)) .nil
    refine ⟨rfl, _, _, al, ?_⟩
    rw [hm ns hlen]
    intro v H' l s ab _
    exact ab.eq_bl.1
  · obtain ⟨_, _, _, _, _, _, _, _, _, _, _, _, z⟩ := h
    exact z
end PV

set_option Elab.async false
set_option linter.all false
set_option maxRecDepth 100000
set_option maxHeartbeats 1000000
set_option autoImplicit false
/-! PV, part r: plain facts of the semantic functions; the helpers that the laws share. -/
namespace PV
open PySem PySem.Spec PyProof.Rows L2
@[simp] theorem fVar_zero {d : PyData} {ρ : Env} : fVar 0 (some d :: ρ) = .ok d := id rfl
@[simp] theorem fVar_succ {i : Nat} {x : Option PyData} {ρ : Env} : fVar (i + 1) (x :: ρ) = fVar i ρ := by simp [fVar]
@[simp] theorem slotL_zero {d : List PyData} {ρ : Env} : slotL 0 (some (.list d) :: ρ) = .ok d := id rfl
@[simp] theorem slotL_succ {i : Nat} {x : Option PyData} {ρ : Env} : slotL (i + 1) (x :: ρ) = slotL i ρ := by simp [slotL]
@[simp] theorem slot_zero {d : PyData} {ρ : Env} : slot 0 (some d :: ρ) = .ok d := id rfl
@[simp] theorem slot_succ {i : Nat} {x : Option PyData} {ρ : Env} : slot (i + 1) (x :: ρ) = slot i ρ := by simp [slot]
@[simp] theorem fC_ok {d : PyData} {ρ : Env} : fC d ρ = .ok d := id rfl
@[simp] theorem fNil_ok {ρ : Env} : fNil ρ = .ok [] := id rfl
@[simp] theorem fCons_ok {f : Env → R PyData} {g : Env → R (List PyData)} {ρ : Env} : fCons f g ρ = f ρ >>= fun x => g ρ >>= fun xs => .ok (x :: xs) := id rfl
@[simp] theorem fCall_ok {m : List PyData → R PyData} {f : Env → R (List PyData)} {ρ : Env} : fCall m f ρ = f ρ >>= m := id rfl
@[simp] theorem fN_ok {o : List PyData → Option PyData} {f : Env → R (List PyData)} {ρ : Env} : fN o f ρ = f ρ >>= fun xs => ofO (o xs) := id rfl
@[simp] theorem fOp_ok {o : PyData → PyData → Option PyData} {f g : Env → R PyData} {ρ : Env} : fOp o f g ρ = f ρ >>= fun x => g ρ >>= fun y => ofO (o x y) := id rfl
@[simp] theorem fLst_ok {f : Env → R (List PyData)} {ρ : Env} : fLst f ρ = f ρ >>= fun xs => if xs.length ≤ sizeLine then .ok (.list xs) else .no := id rfl
@[simp] theorem fTup_ok {f : Env → R (List PyData)} {ρ : Env} : fTup f ρ = f ρ >>= fun xs => if xs.length ≤ sizeLine then .ok (.tuple xs) else .no := id rfl
@[simp] theorem eL_ok {f : Env → R PyData} {ρ : Env} : eL f ρ = f ρ >>= fun d => .ok (d, ρ) := id rfl
@[simp] theorem eLA_ok {f : Env → R (List PyData)} {ρ : Env} : eLA f ρ = f ρ >>= fun d => .ok (d, ρ) := id rfl
@[simp] theorem eLT_ok {f : Env → R Bool} {ρ : Env} : eLT f ρ = f ρ >>= fun d => .ok (d, ρ) := id rfl
@[simp] theorem eNil_ok {ρ : Env} : eNil ρ = .ok ([], ρ) := id rfl
@[simp] theorem eCons_ok {f : FE} {g : Env → R (List PyData × Env)} {ρ : Env} : eCons f g ρ = f ρ >>= fun r => g r.2 >>= fun q => .ok (r.1 :: q.1, q.2) := id rfl
@[simp] theorem eOp_ok {o : PyData → PyData → Option PyData} {f g : FE} {ρ : Env} : eOp o f g ρ = f ρ >>= fun r => g r.2 >>= fun q => ofO (o r.1 q.1) >>= fun z => .ok (z, q.2) := id rfl
@[simp] theorem eN_ok {o : List PyData → Option PyData} {f : Env → R (List PyData × Env)} {ρ : Env} : eN o f ρ = f ρ >>= fun r => ofO (o r.1) >>= fun z => .ok (z, r.2) := id rfl
@[simp] theorem gCmp_ok {o : PyData → PyData → Option Bool} {f g : Env → R PyData} {ρ : Env} : gCmp o f g ρ = f ρ >>= fun x => g ρ >>= fun y => ofO (o x y) := id rfl
@[simp] theorem gTru_ok {t : PyData → Option Bool} {f : Env → R PyData} {ρ : Env} : gTru t f ρ = f ρ >>= fun x => ofO (t x) := id rfl
@[simp] theorem gNot_ok {f : Env → R Bool} {ρ : Env} : gNot f ρ = f ρ >>= fun c => .ok (!c) := id rfl
@[simp] theorem gAnd_ok {f g : Env → R Bool} {ρ : Env} : gAnd f g ρ = f ρ >>= fun c => if c then g ρ else .ok false := id rfl
@[simp] theorem gOr_ok {f g : Env → R Bool} {ρ : Env} : gOr f g ρ = f ρ >>= fun c => if c then .ok true else g ρ := id rfl
@[simp] theorem sNil_ok {ρ : Env} : sNil ρ = .ok (.nx, ρ) := id rfl
@[simp] theorem sSet_ok {i : Nat} {f : FE} {ρ : Env} : sSet i f ρ = f ρ >>= fun r => .ok (.nx, r.2.set i (some r.1)) := id rfl
@[simp] theorem sDrop_ok {f : FE} {ρ : Env} : sDrop f ρ = f ρ >>= fun r => .ok (.nx, r.2) := id rfl
@[simp] theorem sRet_ok {f : FE} {ρ : Env} : sRet f ρ = f ρ >>= fun r => .ok (.rt r.1, r.2) := id rfl
@[simp] theorem sIf_ok {t : Env → R (Bool × Env)} {f g : FS} {ρ : Env} : sIf t f g ρ = t ρ >>= fun r => if r.1 then f r.2 else g r.2 := id rfl
@[simp] theorem sSeq_ok {f g : FS} {ρ : Env} : sSeq f g ρ = f ρ >>= fun r => match r.1 with | .nx => g r.2 | .bk => .ok (.bk, r.2) | .ct => .ok (.ct, r.2) | .rt d => .ok (.rt d, r.2) := id rfl
@[simp] theorem sFor_ok {t : Tg} {fi : Env → R (List PyData × Env)} {f : FS} {ρ : Env} : sFor t fi f ρ = fi ρ >>= fun r => sForL t f r.1 r.2 := id rfl
@[simp] theorem eIt_ok {f : FE} {ρ : Env} : eIt f ρ = f ρ >>= fun r => ofO (itemsD r.1) >>= fun ds => .ok (ds, r.2) := id rfl
@[simp] theorem eRg_ok {f : Env → R (List PyData × Env)} {ρ : Env} : eRg f ρ = f ρ >>= fun r => ofO (rangeD r.1) >>= fun ds => .ok (ds, r.2) := id rfl
@[simp] theorem put_nm {i : Nat} {d : PyData} {ρ : Env} : put (.nm i) d ρ = .ok (ρ.set i (some d)) := by simp [put]
@[simp] theorem iOp_t {g : Int → Int → Int} {i j : Int} : iOp (fun _ _ => true) g (.int i) (.int j) = some (.int (g i j)) := id rfl
@[simp] theorem dAdd_int {i j : Int} : dAdd (.int i) (.int j) = some (.int (i + j)) := id rfl
@[simp] theorem dSub_int {i j : Int} : dSub (.int i) (.int j) = some (.int (i - j)) := id rfl
theorem dMod_int {i j : Int} (h : 0 < j) : dMod (.int i) (.int j) = some (.int (i % j)) := by simp [dMod, iOp, h]
theorem dDiv_int {i j : Int} (h : 0 < j) (h2 : j.natAbs.log2 < 9000) : dDiv (.int i) (.int j) = some (.int (i / j)) := by simp [dDiv, iOp, h, h2]
theorem dMul_int {i j : Int} (h : i.natAbs.log2 + j.natAbs.log2 < 1000000) : dMul (.int i) (.int j) = some (.int (i * j)) := by simp [dMul, iMul, iOp, cMul, h]
@[simp] theorem dLt_int {i j : Int} : dLt (.int i) (.int j) = some (decide (i < j)) := id rfl
@[simp] theorem dLe_int {i j : Int} : dLe (.int i) (.int j) = some (decide (i ≤ j)) := id rfl
@[simp] theorem dGt_int {i j : Int} : dGt (.int i) (.int j) = some (decide (j < i)) := id rfl
@[simp] theorem dGe_int {i j : Int} : dGe (.int i) (.int j) = some (decide (j ≤ i)) := id rfl
@[simp] theorem dInt_int {i : Int} : dInt [.int i] = some (.int i) := id rfl
theorem log2_lt {n k : Nat} (h : n < 2 ^ k) (hk : 0 < k) : n.log2 < k := by
  by_cases h0 : n = 0
  · subst h0; simpa using hk
  · exact (Nat.log2_lt h0).mpr h
/-! ### draws -/
def Dr (n : Nat) (ds : List PyData) : Prop := (∀ d ∈ ds, ∃ i : Int, d = .int i ∧ 0 ≤ i ∧ i < 1000) ∧ ds.length ≤ n
def semNext : FS :=
  (sSeq (sIf (eLT (gTru dTru (fVar 0))) (sRet (ePop 0))
  sNil)
  (sRet (eL (fC (.int 0)))))
def mNext : PyData → List PyData → R (PyData × PyData) := runM 1 semNext
theorem next_ok {n : Nat} {ds : List PyData} (h : Dr n ds) : ∃ (i : Int) (ds' : List PyData), mNext (.list ds) [] = .ok (.int i, .list ds') ∧ 0 ≤ i ∧ i < 1000 ∧ Dr n ds' := by
  rcases List.eq_nil_or_concat ds with rfl | ⟨l, d, rfl⟩
  · exact ⟨0, [], rfl, by omega, by omega, h⟩
  · rw [List.concat_eq_append] at h ⊢
    obtain ⟨i, rfl, h1, h2⟩ := h.1 d (by simp)
    refine ⟨i, l, ?_, h1, h2, fun x hx => h.1 x (by simp [hx]), by have := h.2; simp at this; omega⟩
    have e : (l ++ [PyData.int i]).isEmpty = false := by simp
    simp [mNext, runM, semNext, rho0, dTru, ePop, endV, e]
@[simp] theorem eCallM_ok {i : Nat} {m : PyData → List PyData → R (PyData × PyData)} {f : Env → R (List PyData × Env)} {ρ : Env} : eCallM i m f ρ = slot i ρ >>= fun _ => f ρ >>= fun r => slot i r.2 >>= fun d0 => m d0 r.1 >>= fun q => .ok (q.1, r.2.set i (some q.2)) := id rfl
@[simp] theorem eFlat_ok {f : FE} {ρ : Env} : eFlat f ρ = f ρ >>= fun r => if flat r.1 then .ok r else .no := id rfl
@[simp] theorem eApp_ok {i : Nat} {f : FE} {ρ : Env} : eApp i f ρ = slotL i ρ >>= fun _ => f ρ >>= fun r => slotL i r.2 >>= fun ds => if ds.length < sizeLine then .ok (.none, r.2.set i (some (.list (ds ++ [r.1])))) else .no := id rfl
@[simp] theorem eExt_ok {i : Nat} {f : FE} {ρ : Env} : eExt i f ρ = slotL i ρ >>= fun _ => f ρ >>= fun r => slotL i r.2 >>= fun ds => match r.1 with
  | .list es => if flatL es then (if ds.length + es.length ≤ sizeLine then .ok (.none, r.2.set i (some (.list (ds ++ es)))) else .no) else .no
  | _ => .no := id rfl
theorem sz : sizeLine = 16777216 := by decide
/-- an index within the list -/
theorem ixD_list {xs : List PyData} {i : Int} {d : PyData} (h0 : 0 ≤ i) (h : xs[i.toNat]? = some d) : ixD (.list xs) (.int i) = some d := by
  have hl := (List.getElem?_eq_some_iff.mp h).1
  have e : ixN xs.length i = some i.toNat := by
    unfold ixN
    rw [if_pos h0]
    exact if_pos (by omega)
  show atI xs i = some d
  unfold atI
  rw [e]
  exact h
def semPick : FS :=
  (sRet (eFlat (eOp ixD (eL (fVar 1)) (eOp dMod (eN dInt (eCons (eCallM 0 mNext (eLA fNil)) eNil)) (eL (fN dLen (fCons (fVar 1) fNil)))))))
def mPick : PyData → List PyData → R (PyData × PyData) := runM 2 semPick
theorem pick_ok {n : Nat} {ds xs : List PyData} (h : Dr n ds) (hx : xs ≠ []) (hf : flatL xs = true) : ∃ d ds', d ∈ xs ∧ mPick (.list ds) [.list xs] = .ok (d, .list ds') ∧ Dr n ds' := by
  obtain ⟨i, ds', e, h1, h2, hd⟩ := next_ok h
  have hl : 0 < (xs.length : Int) := by
    have := List.length_pos_iff.mpr hx; omega
  have m0 := Int.emod_nonneg i (show (xs.length : Int) ≠ 0 by omega)
  have m1 := Int.emod_lt_of_pos i hl
  have hlt : (i % (xs.length : Int)).toNat < xs.length := by omega
  refine ⟨xs[(i % (xs.length : Int)).toNat], ds', List.getElem_mem _, ?_, hd⟩
  have e1 : ixD (.list xs) (.int (i % (xs.length : Int))) = some (xs[(i % (xs.length : Int)).toNat]) := ixD_list m0 (List.getElem?_eq_getElem hlt)
  have e2 : flat (xs[(i % (xs.length : Int)).toNat]) = true := flatL_iff.mp hf _ (List.getElem_mem _)
  simp [mPick, runM, semPick, rho0, e, dLen, dMod_int hl, e1, e2, endV]
/-! ### loops -/
theorem for_inv {t : Tg} {f : FS} (I : Env → Prop) : ∀ (ds : List PyData), (∀ d ∈ ds, ∀ ρ, I ρ → ∃ ρ1 ρ2, put t d ρ = .ok ρ1 ∧ f ρ1 = .ok (.nx, ρ2) ∧ I ρ2) → ∀ ρ, I ρ → ∃ ρ', sForL t f ds ρ = .ok (.nx, ρ') ∧ I ρ'
  | [], _, ρ, h => ⟨ρ, rfl, h⟩
  | d :: ds, hs, ρ, h => by
    obtain ⟨ρ1, ρ2, e1, e2, h2⟩ := hs d (List.mem_cons_self ..) ρ h
    obtain ⟨ρ', e3, h3⟩ := for_inv I ds (fun x hx => hs x (List.mem_cons_of_mem _ hx)) ρ2 h2
    exact ⟨ρ', by simp [sForL, e1, e2, e3], h3⟩
/-- with a break -/
theorem for_brk {t : Tg} {f : FS} (I : Env → Prop) : ∀ (ds : List PyData), (∀ d ∈ ds, ∀ ρ, I ρ → ∃ ρ1 ρ2, put t d ρ = .ok ρ1 ∧ (f ρ1 = .ok (.nx, ρ2) ∨ f ρ1 = .ok (.bk, ρ2)) ∧ I ρ2) → ∀ ρ, I ρ → ∃ ρ', sForL t f ds ρ = .ok (.nx, ρ') ∧ I ρ'
  | [], _, ρ, h => ⟨ρ, rfl, h⟩
  | d :: ds, hs, ρ, h => by
    obtain ⟨ρ1, ρ2, e1, e2, h2⟩ := hs d (List.mem_cons_self ..) ρ h
    rcases e2 with e2 | e2
    · obtain ⟨ρ', e3, h3⟩ := for_brk I ds (fun x hx => hs x (List.mem_cons_of_mem _ hx)) ρ2 h2
      exact ⟨ρ', by simp [sForL, e1, e2, e3], h3⟩
    · exact ⟨ρ2, by simp [sForL, e1, e2], h2⟩
/-- an invariant that counts the turns -/
theorem for_cnt {t : Tg} {f : FS} (N : Nat) (I : Nat → Env → Prop) : ∀ (ds : List PyData), (∀ i d, d ∈ ds → i < N → ∀ ρ, I i ρ → ∃ ρ1 ρ2, put t d ρ = .ok ρ1 ∧ f ρ1 = .ok (.nx, ρ2) ∧ I (i + 1) ρ2) → ∀ i ρ, i + ds.length ≤ N → I i ρ → ∃ ρ', sForL t f ds ρ = .ok (.nx, ρ') ∧ I (i + ds.length) ρ'
  | [], _, i, ρ, _, h => ⟨ρ, rfl, h⟩
  | d :: ds, hs, i, ρ, hN, h => by
    rw [List.length_cons] at hN
    obtain ⟨ρ1, ρ2, e1, e2, h2⟩ := hs i d (List.mem_cons_self ..) (by omega) ρ h
    obtain ⟨ρ', e3, h3⟩ := for_cnt N I ds (fun i x hx => hs i x (List.mem_cons_of_mem _ hx)) (i + 1) ρ2 (by omega) h2
    exact ⟨ρ', by simp [sForL, e1, e2, e3], by rw [List.length_cons, show i + (ds.length + 1) = i + 1 + ds.length by omega]; exact h3⟩
/-- with a break, counting -/
theorem for_brkC {t : Tg} {f : FS} (N : Nat) (I : Nat → Env → Prop) (mono : ∀ i j ρ, i ≤ j → I i ρ → I j ρ) : ∀ (ds : List PyData), (∀ i d, d ∈ ds → i < N → ∀ ρ, I i ρ → ∃ ρ1 ρ2, put t d ρ = .ok ρ1 ∧ ((f ρ1 = .ok (.nx, ρ2) ∧ I (i + 1) ρ2) ∨ (f ρ1 = .ok (.bk, ρ2) ∧ I i ρ2))) → ∀ i ρ, i + ds.length ≤ N → I i ρ → ∃ ρ', sForL t f ds ρ = .ok (.nx, ρ') ∧ I (i + ds.length) ρ'
  | [], _, i, ρ, _, h => ⟨ρ, rfl, h⟩
  | d :: ds, hs, i, ρ, hN, h => by
    rw [List.length_cons] at hN
    obtain ⟨ρ1, ρ2, e1, e2⟩ := hs i d (List.mem_cons_self ..) (by omega) ρ h
    rcases e2 with ⟨e2, h2⟩ | ⟨e2, h2⟩
    · obtain ⟨ρ', e3, h3⟩ := for_brkC N I mono ds (fun i x hx => hs i x (List.mem_cons_of_mem _ hx)) (i + 1) ρ2 (by omega) h2
      exact ⟨ρ', by simp [sForL, e1, e2, e3], by rw [List.length_cons, show i + (ds.length + 1) = i + 1 + ds.length by omega]; exact h3⟩
    · exact ⟨ρ2, by simp [sForL, e1, e2], mono _ _ _ (by omega) h2⟩
/-- a comprehension that changes slots -/
theorem lc_inv {t : Tg} {own : List Nat} {fe : FE} (I : Env → Prop) (Q : PyData → Prop) : ∀ (ds : List PyData), (∀ d ∈ ds, ∀ ρ, I ρ → ∃ ρ1 y ρ2, put t d ρ = .ok ρ1 ∧ fe ρ1 = .ok (y, ρ2) ∧ Q y ∧ I (wipeE ρ2 own)) → ∀ ρ, I ρ → ∃ ys ρ', eLcL t own egYes fe ds ρ = .ok (ys, ρ') ∧ (∀ y ∈ ys, Q y) ∧ ys.length = ds.length ∧ I ρ'
  | [], _, ρ, h => ⟨[], ρ, rfl, fun _ q => (nomatch q), rfl, h⟩
  | d :: ds, hs, ρ, h => by
    obtain ⟨ρ1, y, ρ2, e1, e2, hy, h2⟩ := hs d (List.mem_cons_self ..) ρ h
    obtain ⟨ys, ρ', e3, q3, l3, h3⟩ := lc_inv I Q ds (fun x hx => hs x (List.mem_cons_of_mem _ hx)) _ h2
    refine ⟨y :: ys, ρ', by simp [eLcL, e1, egYes, noX, e2, e3], fun z hz => ?_, by simp [l3], h3⟩
    rcases List.mem_cons.mp hz with rfl | hz
    · exact hy
    · exact q3 z hz
/-- a pure comprehension without a condition -/
theorem plc_map {t : Tg} {own : List Nat} {fe : Env → R PyData} {ρ : Env} (g : PyData → PyData) : ∀ (ds : List PyData), (∀ d ∈ ds, ∃ ρ1, put t d (wipeE ρ own) = .ok ρ1 ∧ fe ρ1 = .ok (g d)) → fLcL t own gYes fe ρ ds = .ok (ds.map g)
  | [], _ => rfl
  | d :: ds, h => by
    obtain ⟨ρ1, e1, e2⟩ := h d (List.mem_cons_self ..)
    simp [fLcL, e1, gYes, noX, e2, plc_map g ds fun x hx => h x (List.mem_cons_of_mem _ hx)]
theorem shaped_int {i : Int} : SeqAt.shaped (.int i) = true := by simp [SeqAt.shaped, PyData.canLay0, PyData.depth]
theorem dEq_int {i j : Int} : dEq (.int i) (.int j) = some (i == j) := by simp [dEq, shaped_int, PyData.eqv]
def semNumber : FS :=
  (sSeq (sIf (eLT (gCmp dLt (fVar 0) (fC (.int 0)))) (sRet (eL (fOp dSub (fC (.int 0)) (fVar 0))))
  sNil)
  (sRet (eFlat (eL (fVar 0)))))
def mNumber : List PyData → R PyData := runF 1 semNumber
theorem number_ok (c : Int) : mNumber [.int c] = .ok (.int c.natAbs) := by
  by_cases h : c < 0
  · have e : 0 - c = (c.natAbs : Int) := by omega
    simp [mNumber, runF, semNumber, rho0, h, endV, e]
  · have e : c = (c.natAbs : Int) := by omega
    simp only [mNumber, runF, semNumber, rho0]
    simp [h, endV, flat]
    exact e
def semDraws : FS :=
  (sSeq (sSet 1 (eL (fLst fNil)))
  (sSeq (sFor (.nm 2) (eIt (eL (fVar 0))) (sSeq (sSet 3 (eL (fCall mNumber (fCons (fVar 2) fNil))))
  (sIf (eLT (gCmp dGe (fVar 3) (fC (.int 1000000000000000000)))) (sFor (.nm 4) (eRg (eLA (fCons (fC (.int 60)) fNil))) (sSeq (sIf (eLT (gCmp dEq (fVar 3) (fC (.int 0)))) (fun ρ => .ok (.bk, ρ))
  sNil)
  (sSeq (sDrop (eApp 1 (eL (fOp dMod (fN dInt (fCons (fVar 3) fNil)) (fC (.int 1000))))))
  (sSet 3 (eL (fOp dDiv (fVar 3) (fC (.int 1000))))))))
  (sSeq (sSet 5 (eL (fOp dMod (fN dInt (fCons (fOp dAdd (fOp dMul (fVar 3) (fC (.int 48271))) (fC (.int 11))) fNil)) (fC (.int 2147483647)))))
  (sSeq (sSet 6 (eL (fOp dMod (fN dInt (fCons (fOp dAdd (fOp dMul (fVar 5) (fC (.int 69621))) (fVar 3)) fNil)) (fC (.int 2147483629)))))
  (sDrop (eExt 1 (eL (fLst (fCons (fOp dMod (fN dInt (fCons (fVar 3) fNil)) (fC (.int 1000))) (fCons (fOp dMod (fN dInt (fCons (fVar 5) fNil)) (fC (.int 1000))) (fCons (fOp dMod (fN dInt (fCons (fVar 6) fNil)) (fC (.int 1000))) fNil))))))))))))
  (sSeq (sDrop (eRev 1))
  (sRetO 1))))
def mDraws : List PyData → R PyData := runF 7 semDraws
def Dv (ds : List PyData) : Prop := ∀ d ∈ ds, ∃ i : Int, d = .int i ∧ 0 ≤ i ∧ i < 1000
theorem Dv.flat {ds : List PyData} (h : Dv ds) : flatL ds = true := flatL_iff.mpr fun d q => by obtain ⟨i, rfl, _⟩ := h d q; rfl
theorem mod1000 (r : Int) : 0 ≤ r % 1000 ∧ r % 1000 < 1000 := ⟨Int.emod_nonneg _ (by decide), Int.emod_lt_of_pos _ (by decide)⟩
theorem Dv.snoc {ds : List PyData} (h : Dv ds) (r : Int) : Dv (ds ++ [.int (r % 1000)]) := fun d q => by
  rcases List.mem_append.mp q with q | q
  · exact h d q
  · rw [List.mem_singleton.mp q]; exact ⟨_, rfl, mod1000 r⟩
def EnvD (n : Nat) (ρ : Env) : Prop := ∃ a0 ds a2 a3 a4 a5 a6, ρ = [a0, some (.list ds), a2, a3, a4, a5, a6] ∧ Dv ds ∧ ds.length ≤ n
def EnvJ (b n : Nat) (ρ : Env) : Prop := ∃ a0 ds a2 r a4 a5 a6, ρ = [a0, some (.list ds), a2, some (.int r), a4, a5, a6] ∧ Dv ds ∧ ds.length ≤ b + n
theorem inner60 {b : Nat} (hb : b + 60 ≤ 100000) {ρ : Env} (h : EnvJ b 0 ρ) : ∃ ρ', sFor (.nm 4) (eRg (eLA (fCons (fC (.int 60)) fNil))) (sSeq (sIf (eLT (gCmp dEq (fVar 3) (fC (.int 0)))) (fun ρ => .ok (.bk, ρ))
  sNil)
  (sSeq (sDrop (eApp 1 (eL (fOp dMod (fN dInt (fCons (fVar 3) fNil)) (fC (.int 1000))))))
  (sSet 3 (eL (fOp dDiv (fVar 3) (fC (.int 1000))))))) ρ = .ok (.nx, ρ') ∧ EnvJ b 60 ρ' := by
  have key := for_brkC (t := .nm 4) (f := sSeq (sIf (eLT (gCmp dEq (fVar 3) (fC (.int 0)))) (fun ρ => .ok (.bk, ρ)) sNil) (sSeq (sDrop (eApp 1 (eL (fOp dMod (fN dInt (fCons (fVar 3) fNil)) (fC (.int 1000)))))) (sSet 3 (eL (fOp dDiv (fVar 3) (fC (.int 1000)))))))
    60 (fun i ρ => EnvJ b i ρ) (fun i j ρ hij h => by
      obtain ⟨a0, ds, a2, r, a4, a5, a6, e, d, l⟩ := h
      exact ⟨a0, ds, a2, r, a4, a5, a6, e, d, by omega⟩) (rangeL 0 60) ?_ 0 ρ (by decide) h
  · obtain ⟨ρ', e, h'⟩ := key
    refine ⟨ρ', ?_, h'⟩
    have e1 : rangeD [.int 60] = some (rangeL 0 60) := by simp [rangeD, smallI]
    simp only [sFor_ok, eRg_ok, eLA_ok, fCons_ok, fC_ok, fNil_ok, ok_bind, e1, ofO_some]
    exact e
  · intro i d hd hi ρ ⟨a0, ds, a2, r, a4, a5, a6, e, dv, hl⟩
    subst e
    refine ⟨[a0, some (.list ds), a2, some (.int r), some d, a5, a6], ?_⟩
    by_cases hr : r = 0
    · refine ⟨_, rfl, .inr ⟨?_, ⟨a0, ds, a2, r, some d, a5, a6, rfl, dv, by omega⟩⟩⟩
      subst hr
      simp [dEq_int]
    · refine ⟨[a0, some (.list (ds ++ [.int (r % 1000)])), a2, some (.int (r / 1000)), some d, a5, a6], rfl, .inl ⟨?_, ⟨a0, _, a2, _, some d, a5, a6, rfl, dv.snoc r, by simp; omega⟩⟩⟩
      have hz : ds.length < sizeLine := by rw [sz]; omega
      have e1 : (r == 0) = false := by simpa using hr
      simp [dEq_int, e1, dMod_int, dDiv_int, hz, show (1000 : Nat).log2 < 9000 by decide]
/-- int(x * m + a) % p and the like stay small -/
theorem log2_le18 {x : Int} (h0 : 0 ≤ x) (h : x < 1000000000000000000) : x.natAbs.log2 < 60 := log2_lt (by omega) (by decide)
theorem log2_le31 {x : Int} (h0 : 0 ≤ x) (h : x < 2147483647) : x.natAbs.log2 < 31 := log2_lt (by omega) (by decide)
theorem draws_ok (ns : List Int) (hn : ns.length ≤ 63) : ∃ ds, mDraws [frzD (ns.map .int)] = .ok (.list ds) ∧ Dr 3780 ds := by
  have key := for_cnt (t := .nm 2) (f := sSeq (sSet 3 (eL (fCall mNumber (fCons (fVar 2) fNil))))
  (sIf (eLT (gCmp dGe (fVar 3) (fC (.int 1000000000000000000)))) (sFor (.nm 4) (eRg (eLA (fCons (fC (.int 60)) fNil))) (sSeq (sIf (eLT (gCmp dEq (fVar 3) (fC (.int 0)))) (fun ρ => .ok (.bk, ρ))
  sNil)
  (sSeq (sDrop (eApp 1 (eL (fOp dMod (fN dInt (fCons (fVar 3) fNil)) (fC (.int 1000))))))
  (sSet 3 (eL (fOp dDiv (fVar 3) (fC (.int 1000))))))))
  (sSeq (sSet 5 (eL (fOp dMod (fN dInt (fCons (fOp dAdd (fOp dMul (fVar 3) (fC (.int 48271))) (fC (.int 11))) fNil)) (fC (.int 2147483647)))))
  (sSeq (sSet 6 (eL (fOp dMod (fN dInt (fCons (fOp dAdd (fOp dMul (fVar 5) (fC (.int 69621))) (fVar 3)) fNil)) (fC (.int 2147483629)))))
  (sDrop (eExt 1 (eL (fLst (fCons (fOp dMod (fN dInt (fCons (fVar 3) fNil)) (fC (.int 1000))) (fCons (fOp dMod (fN dInt (fCons (fVar 5) fNil)) (fC (.int 1000))) (fCons (fOp dMod (fN dInt (fCons (fVar 6) fNil)) (fC (.int 1000))) fNil))))))))))) 63 (fun i ρ => EnvD (60 * i) ρ) (ns.map .int) ?_ 0 [some (frzD (ns.map .int)), some (.list []), none, none, none, none, none] (by simpa using hn) ⟨_, [], _, _, _, _, _, rfl, (fun _ q => nomatch q), Nat.zero_le _⟩
  · obtain ⟨ρ', e, a0, ds, a2, a3, a4, a5, a6, rfl, dv, hl⟩ := key
    refine ⟨ds.reverse, ?_, fun d q => dv d (List.mem_reverse.mp q), by simp at hl ⊢; omega⟩
    have e0 : itemsD (frzD (ns.map .int)) = some (ns.map .int) := rfl
    simp only [mDraws, runF, semDraws, rho0, List.map_cons, List.map_nil, List.length_cons, List.length_nil, List.cons_append, List.nil_append]
    simp [e0, e, eRev, dv.flat, sRetO, endV, sz]
  · intro i d hd hi ρ ⟨a0, ds, a2, a3, a4, a5, a6, e, dv, hl⟩
    subst e
    obtain ⟨c, _, rfl⟩ := List.mem_map.mp hd
    refine ⟨[a0, some (.list ds), some (.int c), a3, a4, a5, a6], ?_⟩
    by_cases hc : (1000000000000000000 : Int) ≤ (c.natAbs : Int)
    · obtain ⟨ρ', e, a0', ds', a2', r', a4', a5', a6', rfl, dv', hl'⟩ := inner60 (b := 60 * i) (by omega) (ρ := [a0, some (.list ds), some (.int c), some (.int c.natAbs), a4, a5, a6]) ⟨a0, ds, _, _, a4, a5, a6, rfl, dv, by omega⟩
      refine ⟨[a0', some (.list ds'), a2', some (.int r'), a4', a5', a6'], rfl, ?_, a0', ds', a2', _, a4', a5', a6', rfl, dv', by omega⟩
      simp [number_ok, hc]
      simpa using e
    · have h18 : (c.natAbs : Int) < 1000000000000000000 := by omega
      generalize hr : (c.natAbs : Int) = r at hc h18
      have hr0 : 0 ≤ r := by omega
      generalize ho : (r * 48271 + 11) % 2147483647 = o
      have o0 : 0 ≤ o := by rw [← ho]; exact Int.emod_nonneg _ (by decide)
      have o1 : o < 2147483647 := by rw [← ho]; exact Int.emod_lt_of_pos _ (by decide)
      generalize ht : (o * 69621 + r) % 2147483629 = t
      refine ⟨[a0, some (.list (ds ++ [.int (r % 1000), .int (o % 1000), .int (t % 1000)])), some (.int c), some (.int r), a4, some (.int o), some (.int t)], rfl, ?_, a0, _, _, _, a4, _, _, rfl, fun d q => ?_, by simp; omega⟩
      · have m1 := dMul_int (i := r) (j := 48271) (by have := log2_le18 hr0 h18; have : (48271 : Nat).log2 < 60 := by decide
                                                      show r.natAbs.log2 + (48271 : Nat).log2 < 1000000; omega)
        have m2 := dMul_int (i := o) (j := 69621) (by have := log2_le31 o0 o1; have : (69621 : Nat).log2 < 60 := by decide
                                                      show o.natAbs.log2 + (69621 : Nat).log2 < 1000000; omega)
        have hz : ds.length + 3 ≤ sizeLine := by rw [sz]; omega
        simp [number_ok, hr, hc, m1, m2, dMod_int, ho, ht, sz, hz, flatL, flat]
        rw [if_pos (by omega)]
        rfl
      · rcases List.mem_append.mp q with q | q
        · exact dv d q
        · simp only [List.mem_cons, List.not_mem_nil, or_false] at q
          rcases q with rfl | rfl | rfl <;> exact ⟨_, rfl, mod1000 _⟩
def semMore : FS :=
  (sSeq (sSet 2 (eOp dAdd (eOp dAdd (eOp dMul (eL (fC (.int 1000))) (eCallM 0 mNext (eLA fNil))) (eCallM 0 mNext (eLA fNil))) (eL (fC (.int 1)))))
  (sSeq (sSet 3 (eL (fLst fNil)))
  (sSeq (sFor (.nm 4) (eRg (eLA (fCons (fVar 1) fNil))) (sSeq (sSet 2 (eL (fOp dMod (fN dInt (fCons (fOp dAdd (fOp dMul (fVar 2) (fC (.int 48271))) (fC (.int 12345))) fNil)) (fC (.int 2147483647)))))
  (sDrop (eApp 3 (eL (fOp dMod (fN dInt (fCons (fOp dDiv (fVar 2) (fC (.int 7))) fNil)) (fC (.int 1000))))))))
  (sRet (eL (fOp dAdd (fVar 3) (fVar 0)))))))
def mMore : PyData → List PyData → R (PyData × PyData) := runM 5 semMore
def EnvM (n : Nat) (ds : List PyData) (ρ : Env) : Prop := ∃ a1 s l a4, ρ = [some (.list ds), a1, some (.int s), some (.list l), a4] ∧ 0 ≤ s ∧ s < 2147483647 ∧ Dv l ∧ l.length ≤ n
theorem more_s1 {ds ds1 ds2 : List PyData} {i j m : Int} (e1 : mNext (.list ds) [] = .ok (.int i, .list ds1)) (e2 : mNext (.list ds1) [] = .ok (.int j, .list ds2)) (m1 : dMul (.int 1000) (.int i) = some (.int (1000 * i))) : sSet 2 (eOp dAdd (eOp dAdd (eOp dMul (eL (fC (.int 1000))) (eCallM 0 mNext (eLA fNil))) (eCallM 0 mNext (eLA fNil))) (eL (fC (.int 1)))) [some (.list ds), some (.int m), none, none, none] = .ok (.nx, [some (.list ds2), some (.int m), some (.int (1000 * i + j + 1)), none, none]) := by
      simp [e1, e2, m1]
theorem more_s2 {i : Int} (h0 : 0 ≤ i) (h1 : i < 1000) : dMul (.int 1000) (.int i) = some (.int (1000 * i)) := dMul_int (i := 1000) (j := i) (by
      have := log2_lt (n := i.natAbs) (k := 10) (by omega) (by decide)
      show (1000 : Nat).log2 + i.natAbs.log2 < 1000000
      have : (1000 : Nat).log2 < 60 := by decide
      omega)
theorem more_s3 {l ds2 : List PyData} {m s s' : Int} {a1 a4 : Option PyData} (hr : rangeD [.int m] = some (rangeL 0 m)) (f : FS) (e : sForL (.nm 4) f (rangeL 0 m) [some (.list ds2), some (.int m), some (.int s), some (.list []), none] = .ok (.nx, [some (.list ds2), a1, some (.int s'), some (.list l), a4])) (ca : dAdd (.list l) (.list ds2) = some (.list (l ++ ds2))) :
  (sSeq (sSet 3 (eL (fLst fNil))) (sSeq (sFor (.nm 4) (eRg (eLA (fCons (fVar 1) fNil))) f) (sRet (eL (fOp dAdd (fVar 3) (fVar 0))))) [some (.list ds2), some (.int m), some (.int s), none, none]) = .ok (.rt (.list (l ++ ds2)), [some (.list ds2), a1, some (.int s'), some (.list l), a4]) := by
    have z0 : (0 : Nat) ≤ sizeLine := Nat.zero_le _
    simp [z0, hr, e, ca]
theorem more_s4 {f g : FS} {ds ds2 r : List PyData} {m : PyData} {ρ1 ρ2 : Env} (h1 : f [some (.list ds), some m, none, none, none] = .ok (.nx, ρ1)) (h2 : g ρ1 = .ok (.rt (.list r), some (.list ds2) :: ρ2)) : runM 5 (sSeq f g) (.list ds) [m] = .ok (.list r, .list ds2) := by
  have e : rho0 5 [PyData.list ds, m] = [some (.list ds), some m, none, none, none] := rfl
  unfold runM
  rw [e, sSeq_ok, h1]
  simp only [ok_bind]
  rw [h2]
  simp [endV]
theorem more_ok {n : Nat} {ds : List PyData} (h : Dr n ds) (hn : n ≤ 100000) (m : Nat) (hm : m ≤ 100000) : ∃ r ds', mMore (.list ds) [.int m] = .ok (.list r, .list ds') ∧ Dr (n + m) r := by
  obtain ⟨i, ds1, e1, i0, i1, h1⟩ := next_ok h
  obtain ⟨j, ds2, e2, j0, j1, h2⟩ := next_ok h1
  have key := for_cnt (t := .nm 4) (f := sSeq (sSet 2 (eL (fOp dMod (fN dInt (fCons (fOp dAdd (fOp dMul (fVar 2) (fC (.int 48271))) (fC (.int 12345))) fNil)) (fC (.int 2147483647)))))
  (sDrop (eApp 3 (eL (fOp dMod (fN dInt (fCons (fOp dDiv (fVar 2) (fC (.int 7))) fNil)) (fC (.int 1000)))))))
    m (fun i ρ => EnvM i ds2 ρ) (rangeL 0 m) ?_ 0 [some (.list ds2), some (.int m), some (.int (1000 * i + j + 1)), some (.list []), none] (by simp [rangeL]) ⟨_, _, [], _, rfl, by omega, by omega, (fun _ q => nomatch q), Nat.zero_le _⟩
  · obtain ⟨ρ', e, a1, s, l, a4, rfl, s0, s1, dv, hl⟩ := key
    have hl' : l.length ≤ m := by simpa [rangeL] using hl
    have hr : rangeD [.int (m : Int)] = some (rangeL 0 m) := by
      have : smallI (m : Int) = true := by rw [smallI_iff]; omega
      simp [rangeD, this]
    refine ⟨l ++ ds2, ds2, ?_, fun d q => (List.mem_append.mp q).elim (dv d) (h2.1 d), by have := h2.2; simp; omega⟩
    have f2 : flatL ds2 = true := Dv.flat h2.1
    have ca : dAdd (.list l) (.list ds2) = some (.list (l ++ ds2)) := by
      have hh := h2.2
      have : l.length + ds2.length ≤ 16777216 := by omega
      simp [dAdd, iOp, sCat, lCat, dv.flat, f2, sz, this]
    exact more_s4 (more_s1 e1 e2 (more_s2 i0 i1)) (more_s3 hr _ e ca)
  · intro i d hd hi ρ ⟨a1, s, l, a4, e, s0, s1, dv, hl⟩
    subst e
    generalize ho : (s * 48271 + 12345) % 2147483647 = o
    have o0 : 0 ≤ o := by rw [← ho]; exact Int.emod_nonneg _ (by decide)
    have o1 : o < 2147483647 := by rw [← ho]; exact Int.emod_lt_of_pos _ (by decide)
    have m1 := dMul_int (i := s) (j := 48271) (by have := log2_le31 s0 s1; have : (48271 : Nat).log2 < 60 := by decide
                                                  show s.natAbs.log2 + (48271 : Nat).log2 < 1000000; omega)
    have hz : l.length < sizeLine := by rw [sz]; omega
    refine ⟨_, [some (.list ds2), a1, some (.int o), some (.list (l ++ [.int (o / 7 % 1000)])), some d], rfl, ?_, _, _, _, _, rfl, o0, o1, dv.snoc _, by simp; omega⟩
    simp [m1, ho, dMod_int, dDiv_int, hz, show (7 : Nat).log2 < 9000 by decide]
end PV

set_option Elab.async false
set_option linter.all false
set_option maxRecDepth 100000
set_option maxHeartbeats 0
set_option autoImplicit false
/-! printed by gen.py for stakestold_k21_lines_and_forms -/
noncomputable section
namespace PV
open PySem PySem.Spec PyProof.Rows L2

def top (i : Nat) : Stmt := PySem.Challenge.pw_stakestold_k21_lines_and_forms.main.body.getD i (.Pass ⟨0, 0, 0, 0⟩)
def exNames : List Str := ["StakeError", "NotStakes", "NotTable", "NotMix", "NotPaper", "BadNumber", "NoAnswer", "TooLarge"]
def isC (z y : Str) : Bool := decide (z = y) || decide (y = "StakeError")
def tab_FORMS (K : PySem.W.Frag) : List (Str × Option Addr) := [("rows", some (He.ga K "are_pairs")), ("game", some (He.ga K "is_told_game")), ("buyer", some (He.ga K "is_told_buyer")), ("row", some (He.ga K "is_row")), ("", none), ("Form", none), ("term", none)]
abbrev st__law_number : Stmt := top 24
abbrev st__law_draws : Stmt := top 25
abbrev st__law_next : Stmt := top 26
abbrev st__law_more : Stmt := top 27
abbrev st_words_of : Stmt := top 20
abbrev st_is_name : Stmt := top 21
abbrev st_number_in : Stmt := top 22
abbrev st_is_integer : Stmt := top 10
abbrev st_is_row : Stmt := top 11
abbrev st_are_pairs : Stmt := top 12
abbrev st_is_told_game : Stmt := top 13
abbrev st_is_told_buyer : Stmt := top 14
abbrev st_has_form : Stmt := top 16
abbrev st__law_pick : Stmt := top 28
abbrev st__law_line : Stmt := top 30
abbrev st__law_spoilt : Stmt := top 35
abbrev st__law_is_row : Stmt := top 32
abbrev st__law_are_pairs : Stmt := top 33
abbrev st__law_due : Stmt := top 34
abbrev st__law_number_of : Stmt := top 31
abbrev st__law_kind : Stmt := top 29
abbrev st_law : Stmt := top 36
structure Ctx (w : World) (K : PySem.W.Frag) (mg : Str → Option Value) : Prop where
  f_all : mg "all" = none
  f_int : mg "int" = none
  f_isinstance : mg "isinstance" = none
  f_len : mg "len" = none
  f_range : mg "range" = none
  f_repr : mg "repr" = none
  f_str : mg "str" = none
  f_tuple : mg "tuple" = none
  g_BadNumber : mg "BadNumber" = some (.ref (He.ga K "BadNumber"))
  g_FORMS : mg "FORMS" = some (.ref (He.ga K "FORMS"))
  g_NoAnswer : mg "NoAnswer" = some (.ref (He.ga K "NoAnswer"))
  g_NotMix : mg "NotMix" = some (.ref (He.ga K "NotMix"))
  g_NotPaper : mg "NotPaper" = some (.ref (He.ga K "NotPaper"))
  g_NotStakes : mg "NotStakes" = some (.ref (He.ga K "NotStakes"))
  g_NotTable : mg "NotTable" = some (.ref (He.ga K "NotTable"))
  g_StakeError : mg "StakeError" = some (.ref (He.ga K "StakeError"))
  g_TooLarge : mg "TooLarge" = some (.ref (He.ga K "TooLarge"))
  g__law_are_pairs : mg "_law_are_pairs" = some (.ref (He.ga K "_law_are_pairs"))
  g__law_draws : mg "_law_draws" = some (.ref (He.ga K "_law_draws"))
  g__law_due : mg "_law_due" = some (.ref (He.ga K "_law_due"))
  g__law_is_row : mg "_law_is_row" = some (.ref (He.ga K "_law_is_row"))
  g__law_kind : mg "_law_kind" = some (.ref (He.ga K "_law_kind"))
  g__law_line : mg "_law_line" = some (.ref (He.ga K "_law_line"))
  g__law_more : mg "_law_more" = some (.ref (He.ga K "_law_more"))
  g__law_next : mg "_law_next" = some (.ref (He.ga K "_law_next"))
  g__law_number : mg "_law_number" = some (.ref (He.ga K "_law_number"))
  g__law_number_of : mg "_law_number_of" = some (.ref (He.ga K "_law_number_of"))
  g__law_pick : mg "_law_pick" = some (.ref (He.ga K "_law_pick"))
  g__law_spoilt : mg "_law_spoilt" = some (.ref (He.ga K "_law_spoilt"))
  g_are_pairs : mg "are_pairs" = some (.ref (He.ga K "are_pairs"))
  g_has_form : mg "has_form" = some (.ref (He.ga K "has_form"))
  g_is_integer : mg "is_integer" = some (.ref (He.ga K "is_integer"))
  g_is_name : mg "is_name" = some (.ref (He.ga K "is_name"))
  g_is_row : mg "is_row" = some (.ref (He.ga K "is_row"))
  g_is_told_buyer : mg "is_told_buyer" = some (.ref (He.ga K "is_told_buyer"))
  g_is_told_game : mg "is_told_game" = some (.ref (He.ga K "is_told_game"))
  g_law : mg "law" = some (.ref (He.ga K "law"))
  g_number_in : mg "number_in" = some (.ref (He.ga K "number_in"))
  g_words_of : mg "words_of" = some (.ref (He.ga K "words_of"))
  s_FIGURES : ∃ t, mg "FIGURES" = some (.str "0123456789" t)
  s_SMALL : ∃ t, mg "SMALL" = some (.str "abcdefghijklmnopqrstuvwxyz" t)
  e_BadNumber : ExK K mg "BadNumber"
  t_FORMS : KdT K w (He.ga K "FORMS") (tab_FORMS K)
  tr_StakeError : ∀ z ∈ exNames, PySem.W.exmOne K (.ref (He.ga K z)) (.ref (He.ga K "StakeError")) = some true
  hI : ∀ z ∈ exNames, ∀ y ∈ exNames, PySem.W.kitOne K (.ref (He.ga K z)) (.ref (He.ga K y)) = some (isC z y)
  hC : ∀ z ∈ exNames, ExcC K (He.ga K z)
  nd_has_form : ([He.ga K "are_pairs", He.ga K "is_told_game", He.ga K "is_told_buyer", He.ga K "is_row"] : List Addr).Nodup
  d__law_number : ∃ fd, FunD K "_law_number" "_law_number" (defArgs st__law_number) (defBody st__law_number) (defScope st__law_number) [] [] (He.ga K "_law_number") fd
  d__law_draws : ∃ fd, FunD K "_law_draws" "_law_draws" (defArgs st__law_draws) (defBody st__law_draws) (defScope st__law_draws) [] [] (He.ga K "_law_draws") fd
  d__law_next : ∃ fd, FunD K "_law_next" "_law_next" (defArgs st__law_next) (defBody st__law_next) (defScope st__law_next) [] [] (He.ga K "_law_next") fd
  d__law_more : ∃ fd, FunD K "_law_more" "_law_more" (defArgs st__law_more) (defBody st__law_more) (defScope st__law_more) [] [] (He.ga K "_law_more") fd
  d_words_of : ∃ fd, FunD K "words_of" "words_of" (defArgs st_words_of) (defBody st_words_of) (defScope st_words_of) [] [] (He.ga K "words_of") fd
  d_is_name : ∃ fd, FunD K "is_name" "is_name" (defArgs st_is_name) (defBody st_is_name) (defScope st_is_name) [] [] (He.ga K "is_name") fd
  d_number_in : ∃ fd, FunD K "number_in" "number_in" (defArgs st_number_in) (defBody st_number_in) (defScope st_number_in) [] [] (He.ga K "number_in") fd
  d_is_integer : ∃ fd, FunD K "is_integer" "is_integer" (defArgs st_is_integer) (defBody st_is_integer) (defScope st_is_integer) [] [] (He.ga K "is_integer") fd
  d_is_row : ∃ fd, FunD K "is_row" "is_row" (defArgs st_is_row) (defBody st_is_row) (defScope st_is_row) [] [] (He.ga K "is_row") fd
  d_are_pairs : ∃ fd, FunD K "are_pairs" "are_pairs" (defArgs st_are_pairs) (defBody st_are_pairs) (defScope st_are_pairs) [] [] (He.ga K "are_pairs") fd
  d_is_told_game : ∃ fd, FunD K "is_told_game" "is_told_game" (defArgs st_is_told_game) (defBody st_is_told_game) (defScope st_is_told_game) [] [] (He.ga K "is_told_game") fd
  d_is_told_buyer : ∃ fd, FunD K "is_told_buyer" "is_told_buyer" (defArgs st_is_told_buyer) (defBody st_is_told_buyer) (defScope st_is_told_buyer) [] [] (He.ga K "is_told_buyer") fd
  d_has_form : ∃ fd, FunD K "has_form" "has_form" (defArgs st_has_form) (defBody st_has_form) (defScope st_has_form) [] [] (He.ga K "has_form") fd
  d__law_pick : ∃ fd, FunD K "_law_pick" "_law_pick" (defArgs st__law_pick) (defBody st__law_pick) (defScope st__law_pick) [] [] (He.ga K "_law_pick") fd
  d__law_line : ∃ fd, FunD K "_law_line" "_law_line" (defArgs st__law_line) (defBody st__law_line) (defScope st__law_line) [] [] (He.ga K "_law_line") fd
  d__law_spoilt : ∃ fd, FunD K "_law_spoilt" "_law_spoilt" (defArgs st__law_spoilt) (defBody st__law_spoilt) (defScope st__law_spoilt) [] [] (He.ga K "_law_spoilt") fd
  d__law_is_row : ∃ fd, FunD K "_law_is_row" "_law_is_row" (defArgs st__law_is_row) (defBody st__law_is_row) (defScope st__law_is_row) [] [] (He.ga K "_law_is_row") fd
  d__law_are_pairs : ∃ fd, FunD K "_law_are_pairs" "_law_are_pairs" (defArgs st__law_are_pairs) (defBody st__law_are_pairs) (defScope st__law_are_pairs) [] [] (He.ga K "_law_are_pairs") fd
  d__law_due : ∃ fd, FunD K "_law_due" "_law_due" (defArgs st__law_due) (defBody st__law_due) (defScope st__law_due) [] [] (He.ga K "_law_due") fd
  d__law_number_of : ∃ fd, FunD K "_law_number_of" "_law_number_of" (defArgs st__law_number_of) (defBody st__law_number_of) (defScope st__law_number_of) [] [] (He.ga K "_law_number_of") fd
  d__law_kind : ∃ fd, FunD K "_law_kind" "_law_kind" (defArgs st__law_kind) (defBody st__law_kind) (defScope st__law_kind) [] [] (He.ga K "_law_kind") fd
  d_law : ∃ fd, FunD K "law" "law" (defArgs st_law) (defBody st_law) (defScope st_law) [] [] (He.ga K "law") fd
variable {P : Program} {w : World} {K : PySem.W.Frag} {mg : Str → Option Value} {base : Heap}

/-! ### _law_number -/
theorem sc__law_number : FnScope ["cell"] ["cell"] (defScope st__law_number) := ⟨rfl, rfl, rfl, by decide +kernel, rfl, by decide +kernel, by decide +kernel⟩
def sem__law_number : FS :=
  (sSeq (sIf (eLT (gCmp dLt (fVar 0) (fC (.int 0)))) (sRet (eL (fOp dSub (fC (.int 0)) (fVar 0))))
  sNil)
  (sRet (eFlat (eL (fVar 0)))))
def m__law_number : List PyData → R PyData := runF 1 (sem__law_number)
theorem body__law_number (c : Ctx w K mg)  : BodyOk P w K mg base ["cell"] "_law_number" (defScope st__law_number) (He.ga K "_law_number") 0 fun X W => DSs X W [false] [] .F (defBody st__law_number) (sem__law_number) := by
  intro cdv A outer s H E hr tk hp
  exact (ss_cons (s_if (et_lift (t_cm o_lt (p_toB (p_varV (i := 0))) p_int)) (ss_one (s_ret (e_lift (p_bin o_sub p_int (p_toB (p_varV (i := 0)))))))
  ss_nil)
  (ss_one (s_ret (e_flat (e_toB (e_lift (p_varV (i := 0))))))))
theorem fp__law_number (c : Ctx w K mg)  : FnPP P w K mg base 1 "_law_number" ["cell"] .F (m__law_number) := by
  obtain ⟨fd, F⟩ := c.d__law_number
  have h : FnG P w K mg base (L2.CX P w) (0 + 1) (He.ga K "_law_number") fd ["cell"] (spP K (["cell"] : List Str).length .F (runF (["cell"] : List Str).length (sem__law_number))) := fnP (P := P) (w := w) (base := base) (mg := mg) (ks := [false]) (k := 0) F sc__law_number (by decide) (by decide) (by decide) (body__law_number c )
  have b : Binds K fd ["cell"] [] := F.bindsN (fun _ _ _ _ _ _ us hl => match us, hl with | [_], _ => rfl)
  exact ⟨_, fd, h, c.g__law_number, F.kp, b⟩

/-! ### _law_draws -/
theorem sc__law_draws : FnScope ["script", "draws", "cell", "rest", "k", "once", "twice"] ["script"] (defScope st__law_draws) := ⟨rfl, rfl, rfl, by decide +kernel, rfl, by decide +kernel, by decide +kernel⟩
def sem__law_draws : FS :=
  (sSeq (sSet 1 (eL (fLst fNil)))
  (sSeq (sFor (.nm 2) (eIt (eL (fVar 0))) (sSeq (sSet 3 (eL (fCall m__law_number (fCons (fVar 2) fNil))))
  (sIf (eLT (gCmp dGe (fVar 3) (fC (.int 1000000000000000000)))) (sFor (.nm 4) (eRg (eLA (fCons (fC (.int 60)) fNil))) (sSeq (sIf (eLT (gCmp dEq (fVar 3) (fC (.int 0)))) (fun ρ => .ok (.bk, ρ))
  sNil)
  (sSeq (sDrop (eApp 1 (eL (fOp dMod (fN dInt (fCons (fVar 3) fNil)) (fC (.int 1000))))))
  (sSet 3 (eL (fOp dDiv (fVar 3) (fC (.int 1000))))))))
  (sSeq (sSet 5 (eL (fOp dMod (fN dInt (fCons (fOp dAdd (fOp dMul (fVar 3) (fC (.int 48271))) (fC (.int 11))) fNil)) (fC (.int 2147483647)))))
  (sSeq (sSet 6 (eL (fOp dMod (fN dInt (fCons (fOp dAdd (fOp dMul (fVar 5) (fC (.int 69621))) (fVar 3)) fNil)) (fC (.int 2147483629)))))
  (sDrop (eExt 1 (eL (fLst (fCons (fOp dMod (fN dInt (fCons (fVar 3) fNil)) (fC (.int 1000))) (fCons (fOp dMod (fN dInt (fCons (fVar 5) fNil)) (fC (.int 1000))) (fCons (fOp dMod (fN dInt (fCons (fVar 6) fNil)) (fC (.int 1000))) fNil))))))))))))
  (sSeq (sDrop (eRev 1))
  (sRetO 1))))
def m__law_draws : List PyData → R PyData := runF 7 (sem__law_draws)
theorem body__law_draws (c : Ctx w K mg) (F__law_number : FnPP P w K mg base 1 "_law_number" ["cell"] .F (m__law_number)) : BodyOk P w K mg base ["script", "draws", "cell", "rest", "k", "once", "twice"] "_law_draws" (defScope st__law_draws) (He.ga K "_law_draws") 1 fun X W => DSs X W [false, true, false, false, false, false, false] [] .F (defBody st__law_draws) (sem__law_draws) := by
  intro cdv A outer s H E hr tk hp
  exact (ss_cons (s_set (i := 1) (bk := true) (e_lift (p_lst a_nil)) rfl (by decide) sc__law_draws.nd)
  (ss_cons (s_for (t := (.nm 2)) hp rfl (i_seq (e_lift (p_varV (i := 0)))) (pg_name (i := 2) sc__law_draws.nd rfl (by first | exact Or.inl rfl | exact Or.inr rfl)) (ss_cons (s_set (i := 3) (bk := false) (e_toV (e_lift (p_callF F__law_number tk (hr.mono (by omega)) (a_cons (p_toB (p_varV (i := 2))) a_nil)))) rfl (by decide) sc__law_draws.nd)
  (ss_one (s_if (et_lift (t_cm o_ge (p_toB (p_varV (i := 3))) p_int)) (ss_one (s_for (t := (.nm 4)) hp rfl (i_range1 (κ := .V) c.f_range (ea_lift (a_cons p_int a_nil)) (HLe.lift (by repeat (first | exact HL.nil | refine HL.cons ?_)))) (pg_name (i := 4) sc__law_draws.nd rfl (by first | exact Or.inl rfl | exact Or.inr rfl)) (ss_cons (s_if (et_lift (t_cm (o_eq hr.u64) (p_toB (p_varV (i := 3))) p_int)) (ss_one s_brk)
  ss_nil)
  (ss_cons (s_expr (e_append (i := 1) rfl (e_lift (p_bin o_mod (p_toB (p_tyE o_int c.f_int bt_int (a_cons (p_toB (p_varV (i := 3))) a_nil))) p_int))))
  (ss_one (s_set (i := 3) (bk := false) (e_toV (e_lift (p_bin o_div (p_toB (p_varV (i := 3))) p_int))) rfl (by decide) sc__law_draws.nd))))))
  (ss_cons (s_set (i := 5) (bk := false) (e_toV (e_lift (p_bin o_mod (p_toB (p_tyE o_int c.f_int bt_int (a_cons (p_toB (p_bin o_add (p_toB (p_bin o_mul (p_toB (p_varV (i := 3))) p_int)) p_int)) a_nil))) p_int))) rfl (by decide) sc__law_draws.nd)
  (ss_cons (s_set (i := 6) (bk := false) (e_toV (e_lift (p_bin o_mod (p_toB (p_tyE o_int c.f_int bt_int (a_cons (p_toB (p_bin o_add (p_toB (p_bin o_mul (p_toB (p_varV (i := 5))) p_int)) (p_toB (p_varV (i := 3))))) a_nil))) p_int))) rfl (by decide) sc__law_draws.nd)
  (ss_one (s_expr (e_extend (i := 1) rfl (e_toB (e_lift (p_lst (κ := .F) (a_cons (p_bin o_mod (p_toB (p_tyE o_int c.f_int bt_int (a_cons (p_toB (p_varV (i := 3))) a_nil))) p_int) (a_cons (p_bin o_mod (p_toB (p_tyE o_int c.f_int bt_int (a_cons (p_toB (p_varV (i := 5))) a_nil))) p_int) (a_cons (p_bin o_mod (p_toB (p_tyE o_int c.f_int bt_int (a_cons (p_toB (p_varV (i := 6))) a_nil))) p_int) a_nil)))))))))))))))
  (ss_cons (s_expr (e_reverse (i := 1) rfl))
  (ss_one (s_retO (i := 1) rfl)))))
theorem fp__law_draws (c : Ctx w K mg) (F__law_number : FnPP P w K mg base 1 "_law_number" ["cell"] .F (m__law_number)) : FnPP P w K mg base 2 "_law_draws" ["script"] .F (m__law_draws) := by
  obtain ⟨fd, F⟩ := c.d__law_draws
  have h : FnG P w K mg base (L2.CX P w) (1 + 1) (He.ga K "_law_draws") fd ["script"] (spP K (["script"] : List Str).length .F (runF (["script", "draws", "cell", "rest", "k", "once", "twice"] : List Str).length (sem__law_draws))) := fnP (P := P) (w := w) (base := base) (mg := mg) (ks := [false, true, false, false, false, false, false]) (k := 1) F sc__law_draws (by decide) (by decide) (by decide) (body__law_draws c F__law_number)
  have b : Binds K fd ["script"] [] := F.bindsN (fun _ _ _ _ _ _ us hl => match us, hl with | [_], _ => rfl)
  exact ⟨_, fd, h, c.g__law_draws, F.kp, b⟩

/-! ### _law_next -/
theorem sc__law_next : FnScope ["draws"] ["draws"] (defScope st__law_next) := ⟨rfl, rfl, rfl, by decide +kernel, rfl, by decide +kernel, by decide +kernel⟩
def sem__law_next : FS :=
  (sSeq (sIf (eLT (gTru dTru (fVar 0))) (sRet (ePop 0))
  sNil)
  (sRet (eL (fC (.int 0)))))
def m__law_next : PyData → List PyData → R (PyData × PyData) := runM 1 (sem__law_next)
theorem body__law_next (c : Ctx w K mg)  : BodyOk P w K mg base ["draws"] "_law_next" (defScope st__law_next) (He.ga K "_law_next") 0 fun X W => DSs X W [true] [0] .F (defBody st__law_next) (sem__law_next) := by
  intro cdv A outer s H E hr tk hp
  exact (ss_cons (s_if (et_lift (t_truth o_tru (p_varB (i := 0)))) (ss_one (s_ret (e_pop (i := 0) rfl)))
  ss_nil)
  (ss_one (s_ret (e_lift p_int))))
theorem fp__law_next (c : Ctx w K mg)  : FnMM P w K mg base 1 "_law_next" ["draws"] .F (m__law_next) := by
  obtain ⟨fd, F⟩ := c.d__law_next
  have h : FnG P w K mg base (L2.CX P w) (0 + 1) (He.ga K "_law_next") fd ["draws"] (spM K (([] : List Str).length + 1) .F (runM (["draws"] : List Str).length (sem__law_next))) := fnM (P := P) (w := w) (base := base) (mg := mg) (ks := [true]) (k := 0) F sc__law_next rfl (by decide) (by decide) (by decide) (body__law_next c )
  have b : Binds K fd ["draws"] [] := F.bindsN (fun _ _ _ _ _ _ us hl => match us, hl with | [_], _ => rfl)
  exact ⟨_, fd, h, c.g__law_next, F.kp, b⟩

/-! ### _law_more -/
theorem sc__law_more : FnScope ["draws", "many", "seed", "more", "k"] ["draws", "many"] (defScope st__law_more) := ⟨rfl, rfl, rfl, by decide +kernel, rfl, by decide +kernel, by decide +kernel⟩
def sem__law_more : FS :=
  (sSeq (sSet 2 (eOp dAdd (eOp dAdd (eOp dMul (eL (fC (.int 1000))) (eCallM 0 m__law_next (eLA fNil))) (eCallM 0 m__law_next (eLA fNil))) (eL (fC (.int 1)))))
  (sSeq (sSet 3 (eL (fLst fNil)))
  (sSeq (sFor (.nm 4) (eRg (eLA (fCons (fVar 1) fNil))) (sSeq (sSet 2 (eL (fOp dMod (fN dInt (fCons (fOp dAdd (fOp dMul (fVar 2) (fC (.int 48271))) (fC (.int 12345))) fNil)) (fC (.int 2147483647)))))
  (sDrop (eApp 3 (eL (fOp dMod (fN dInt (fCons (fOp dDiv (fVar 2) (fC (.int 7))) fNil)) (fC (.int 1000))))))))
  (sRet (eL (fOp dAdd (fVar 3) (fVar 0)))))))
def m__law_more : PyData → List PyData → R (PyData × PyData) := runM 5 (sem__law_more)
theorem body__law_more (c : Ctx w K mg) (F__law_next : FnMM P w K mg base 1 "_law_next" ["draws"] .F (m__law_next)) : BodyOk P w K mg base ["draws", "many", "seed", "more", "k"] "_law_more" (defScope st__law_more) (He.ga K "_law_more") 1 fun X W => DSs X W [true, false, false, true, false] [0] .F (defBody st__law_more) (sem__law_more) := by
  intro cdv A outer s H E hr tk hp
  exact (ss_cons (s_set (i := 2) (bk := false) (e_toV (e_bin o_add (e_toV (e_bin o_add (e_toV (e_bin o_mul (e_lift p_int) (e_toB (e_callM (i := 0) F__law_next tk (hr.mono (by omega)) rfl (ea_lift a_nil) (HLe.lift (by repeat (first | exact HL.nil | refine HL.cons ?_))))))) (e_toB (e_callM (i := 0) F__law_next tk (hr.mono (by omega)) rfl (ea_lift a_nil) (HLe.lift (by repeat (first | exact HL.nil | refine HL.cons ?_))))))) (e_lift p_int))) rfl (by decide) sc__law_more.nd)
  (ss_cons (s_set (i := 3) (bk := true) (e_lift (p_lst a_nil)) rfl (by decide) sc__law_more.nd)
  (ss_cons (s_for (t := (.nm 4)) hp rfl (i_range1 (κ := .V) c.f_range (ea_lift (a_cons (p_varV (i := 1)) a_nil)) (HLe.lift (by repeat (first | exact HL.nil | refine HL.cons ?_)))) (pg_name (i := 4) sc__law_more.nd rfl (by first | exact Or.inl rfl | exact Or.inr rfl)) (ss_cons (s_set (i := 2) (bk := false) (e_toV (e_lift (p_bin o_mod (p_toB (p_tyE o_int c.f_int bt_int (a_cons (p_toB (p_bin o_add (p_toB (p_bin o_mul (p_toB (p_varV (i := 2))) p_int)) p_int)) a_nil))) p_int))) rfl (by decide) sc__law_more.nd)
  (ss_one (s_expr (e_append (i := 3) rfl (e_lift (p_bin o_mod (p_toB (p_tyE o_int c.f_int bt_int (a_cons (p_toB (p_bin o_div (p_toB (p_varV (i := 2))) p_int)) a_nil))) p_int)))))))
  (ss_one (s_ret (e_lift (p_bin o_add (p_varB (i := 3)) (p_varB (i := 0)))))))))
theorem fp__law_more (c : Ctx w K mg) (F__law_next : FnMM P w K mg base 1 "_law_next" ["draws"] .F (m__law_next)) : FnMM P w K mg base 2 "_law_more" ["draws", "many"] .F (m__law_more) := by
  obtain ⟨fd, F⟩ := c.d__law_more
  have h : FnG P w K mg base (L2.CX P w) (1 + 1) (He.ga K "_law_more") fd ["draws", "many"] (spM K ((["many"] : List Str).length + 1) .F (runM (["draws", "many", "seed", "more", "k"] : List Str).length (sem__law_more))) := fnM (P := P) (w := w) (base := base) (mg := mg) (ks := [true, false, false, true, false]) (k := 1) F sc__law_more rfl (by decide) (by decide) (by decide) (body__law_more c F__law_next)
  have b : Binds K fd ["draws", "many"] [] := F.bindsN (fun _ _ _ _ _ _ us hl => match us, hl with | [_, _], _ => rfl)
  exact ⟨_, fd, h, c.g__law_more, F.kp, b⟩

/-! ### words_of -/
theorem sc_words_of : FnScope ["line", "words", "word", "char"] ["line"] (defScope st_words_of) := ⟨rfl, rfl, rfl, by decide +kernel, rfl, by decide +kernel, by decide +kernel⟩
def sem_words_of : FS :=
  (sSeq (sSet 1 (eL (fMe isStr dSplit (fVar 0) (fCons (fC (.str " ")) fNil))))
  (sSeq (sFor (.nm 2) (eIt (eL (fVar 1))) (sIf (eLT (gOr (gCmp dEq (fVar 2) (fC (.str ""))) (gNot (gTru dTru (fN dAll (fCons (fLc (.nm 3) [3] (fIt (fVar 2)) gYes (fOfB (gChain dLe dLe (fC (.str "!")) (fVar 3) (fC (.str "~"))))) fNil)))))) (sRet (eL (fC .none)))
  sNil))
  (sRet (eL (fVar 1)))))
def m_words_of : List PyData → R PyData := runF 4 (sem_words_of)
theorem body_words_of (c : Ctx w K mg)  : BodyOk P w K mg base ["line", "words", "word", "char"] "words_of" (defScope st_words_of) (He.ga K "words_of") 0 fun X W => DSs X W [false, false, false, false] [] .V (defBody st_words_of) (sem_words_of) := by
  intro cdv A outer s H E hr tk hp
  exact (ss_cons (s_set (i := 1) (bk := false) (e_toV (e_lift (p_meE PySem.F.plainAttrs_str PySem.F.slot_str_split PySem.F.type_str_split o_split (p_toB (p_varV (i := 0))) (a_cons p_str a_nil)))) rfl (by decide) sc_words_of.nd)
  (ss_cons (s_for (t := (.nm 2)) hp rfl (i_seq (e_lift (p_varV (i := 1)))) (pg_name (i := 2) sc_words_of.nd rfl (by first | exact Or.inl rfl | exact Or.inr rfl)) (ss_one (s_if (et_lift (t_w (w_or (t_cm (o_eq hr.u64) (p_toB (p_varV (i := 2))) p_str) (w_or1 (t_not (t_truth o_tru (p_toB (p_biE (o_all' rfl) c.f_all bt_all (a_cons (p_toB (p_lc (κ := .F) (own := [("char", 3)]) (t := (.nm 3)) rfl sc_words_of.nd (i_seqP (p_varV (i := 2))) (blkOk_by (N := ["line", "words", "word", "char"]) (sc := defScope st_words_of) (by decide +kernel)) (by decide) (by decide) (fun _ _ _ _ _ => (pg_name (i := 3) sc_words_of.nd rfl (by first | exact Or.inl rfl | exact Or.inr rfl))) (fun _ _ _ _ _ => ts_nil) (fun _ _ _ _ _ => (p_ch o_le o_le p_str (p_toB (p_varV (i := 3))) p_str)))) a_nil))))))))) (ss_one (s_ret (e_lift p_non)))
  ss_nil)))
  (ss_one (s_ret (e_lift (p_varV (i := 1)))))))
theorem fp_words_of (c : Ctx w K mg)  : FnPP P w K mg base 1 "words_of" ["line"] .V (m_words_of) := by
  obtain ⟨fd, F⟩ := c.d_words_of
  have h : FnG P w K mg base (L2.CX P w) (0 + 1) (He.ga K "words_of") fd ["line"] (spP K (["line"] : List Str).length .V (runF (["line", "words", "word", "char"] : List Str).length (sem_words_of))) := fnP (P := P) (w := w) (base := base) (mg := mg) (ks := [false, false, false, false]) (k := 0) F sc_words_of (by decide) (by decide) (by decide) (body_words_of c )
  have b : Binds K fd ["line"] [] := F.bindsN (fun _ _ _ _ _ _ us hl => match us, hl with | [_], _ => rfl)
  exact ⟨_, fd, h, c.g_words_of, F.kp, b⟩

/-! ### is_name -/
theorem sc_is_name : FnScope ["word", "char"] ["word"] (defScope st_is_name) := ⟨rfl, rfl, rfl, by decide +kernel, rfl, by decide +kernel, by decide +kernel⟩
def sem_is_name : FS :=
  (sRet (eL (fAnd (fOfB (gChain dLe dLe (fC (.int 1)) (fN dLen (fCons (fVar 0) fNil)) (fC (.int 12)))) (fN dAll (fCons (fLc (.nm 1) [1] (fIt (fVar 0)) gYes (fOfB (gCmp (dIn false) (fVar 1) (fC (.str "abcdefghijklmnopqrstuvwxyz"))))) fNil)))))
def m_is_name : List PyData → R PyData := runF 2 (sem_is_name)
theorem body_is_name (c : Ctx w K mg)  : BodyOk P w K mg base ["word", "char"] "is_name" (defScope st_is_name) (He.ga K "is_name") 0 fun X W => DSs X W [false, false] [] .F (defBody st_is_name) (sem_is_name) := by
  intro cdv A outer s H E hr tk hp
  exact (ss_one (s_ret (e_lift (p_and (p_toB (p_ch o_le o_le p_int (p_toB (p_biE o_len' c.f_len bt_len (a_cons (p_toB (p_varV (i := 0))) a_nil))) p_int)) (p_one (p_biE (o_all' rfl) c.f_all bt_all (a_cons (p_toB (p_lc (κ := .F) (own := [("char", 1)]) (t := (.nm 1)) rfl sc_is_name.nd (i_seqP (p_varV (i := 0))) (blkOk_by (N := ["word", "char"]) (sc := defScope st_is_name) (by decide +kernel)) (by decide) (by decide) (fun _ _ _ _ _ => (pg_name (i := 1) sc_is_name.nd rfl (by first | exact Or.inl rfl | exact Or.inr rfl))) (fun _ _ _ _ _ => ts_nil) (fun _ _ _ _ _ => (p_cm (o_in hr.u65) (p_toB (p_varV (i := 1))) (p_globS c.s_SMALL))))) a_nil)))))))
theorem fp_is_name (c : Ctx w K mg)  : FnPP P w K mg base 1 "is_name" ["word"] .F (m_is_name) := by
  obtain ⟨fd, F⟩ := c.d_is_name
  have h : FnG P w K mg base (L2.CX P w) (0 + 1) (He.ga K "is_name") fd ["word"] (spP K (["word"] : List Str).length .F (runF (["word", "char"] : List Str).length (sem_is_name))) := fnP (P := P) (w := w) (base := base) (mg := mg) (ks := [false, false]) (k := 0) F sc_is_name (by decide) (by decide) (by decide) (body_is_name c )
  have b : Binds K fd ["word"] [] := F.bindsN (fun _ _ _ _ _ _ us hl => match us, hl with | [_], _ => rfl)
  exact ⟨_, fd, h, c.g_is_name, F.kp, b⟩

/-! ### number_in -/
theorem sc_number_in : FnScope ["word", "char"] ["word"] (defScope st_number_in) := ⟨rfl, rfl, rfl, by decide +kernel, rfl, by decide +kernel, by decide +kernel⟩
def sem_number_in : FS :=
  (sSeq (sIf (eLT (gOr (gNot (gChain dLe dLe (fC (.int 1)) (fN dLen (fCons (fVar 0) fNil)) (fC (.int 2)))) (gNot (gTru dTru (fN dAll (fCons (fLc (.nm 1) [1] (fIt (fVar 0)) gYes (fOfB (gCmp (dIn false) (fVar 1) (fC (.str "0123456789"))))) fNil)))))) (sRet (eL (fC .none)))
  sNil)
  (sSeq (sIf (eLT (gAnd (gCmp dEq (fN dLen (fCons (fVar 0) fNil)) (fC (.int 2))) (gCmp dEq (fOp ixD (fVar 0) (fC (.int 0))) (fC (.str "0"))))) (sRet (eL (fC .none)))
  sNil)
  (sRet (eL (fN dInt (fCons (fVar 0) fNil))))))
def m_number_in : List PyData → R PyData := runF 2 (sem_number_in)
theorem body_number_in (c : Ctx w K mg)  : BodyOk P w K mg base ["word", "char"] "number_in" (defScope st_number_in) (He.ga K "number_in") 0 fun X W => DSs X W [false, false] [] .F (defBody st_number_in) (sem_number_in) := by
  intro cdv A outer s H E hr tk hp
  exact (ss_cons (s_if (et_lift (t_w (w_or (t_not (t_ch o_le o_le p_int (p_toB (p_biE o_len' c.f_len bt_len (a_cons (p_toB (p_varV (i := 0))) a_nil))) p_int)) (w_or1 (t_not (t_truth o_tru (p_toB (p_biE (o_all' rfl) c.f_all bt_all (a_cons (p_toB (p_lc (κ := .F) (own := [("char", 1)]) (t := (.nm 1)) rfl sc_number_in.nd (i_seqP (p_varV (i := 0))) (blkOk_by (N := ["word", "char"]) (sc := defScope st_number_in) (by decide +kernel)) (by decide) (by decide) (fun _ _ _ _ _ => (pg_name (i := 1) sc_number_in.nd rfl (by first | exact Or.inl rfl | exact Or.inr rfl))) (fun _ _ _ _ _ => ts_nil) (fun _ _ _ _ _ => (p_cm (o_in hr.u65) (p_toB (p_varV (i := 1))) (p_globS c.s_FIGURES))))) a_nil))))))))) (ss_one (s_ret (e_lift p_non)))
  ss_nil)
  (ss_cons (s_if (et_lift (t_w (w_and (t_cm (o_eq hr.u64) (p_toB (p_biE o_len' c.f_len bt_len (a_cons (p_toB (p_varV (i := 0))) a_nil))) p_int) (w_and1 (t_cm (o_eq hr.u64) (p_toB (p_ix (p_varV (i := 0)) p_int)) p_str))))) (ss_one (s_ret (e_lift p_non)))
  ss_nil)
  (ss_one (s_ret (e_lift (p_tyE o_int c.f_int bt_int (a_cons (p_toB (p_varV (i := 0))) a_nil)))))))
theorem fp_number_in (c : Ctx w K mg)  : FnPP P w K mg base 1 "number_in" ["word"] .F (m_number_in) := by
  obtain ⟨fd, F⟩ := c.d_number_in
  have h : FnG P w K mg base (L2.CX P w) (0 + 1) (He.ga K "number_in") fd ["word"] (spP K (["word"] : List Str).length .F (runF (["word", "char"] : List Str).length (sem_number_in))) := fnP (P := P) (w := w) (base := base) (mg := mg) (ks := [false, false]) (k := 0) F sc_number_in (by decide) (by decide) (by decide) (body_number_in c )
  have b : Binds K fd ["word"] [] := F.bindsN (fun _ _ _ _ _ _ us hl => match us, hl with | [_], _ => rfl)
  exact ⟨_, fd, h, c.g_number_in, F.kp, b⟩

/-! ### is_integer -/
theorem sc_is_integer : FnScope ["term"] ["term"] (defScope st_is_integer) := ⟨rfl, rfl, rfl, by decide +kernel, rfl, by decide +kernel, by decide +kernel⟩
def sem_is_integer : FS :=
  (sRet (eL (fIsi "int" (fVar 0))))
def m_is_integer : List PyData → R PyData := runF 1 (sem_is_integer)
theorem body_is_integer (c : Ctx w K mg)  : BodyOk P w K mg base ["term"] "is_integer" (defScope st_is_integer) (He.ga K "is_integer") 0 fun X W => DSs X W [false] [] .F (defBody st_is_integer) (sem_is_integer) := by
  intro cdv A outer s H E hr tk hp
  exact (ss_one (s_ret (e_lift (p_isi c.f_isinstance c.f_int bt_int (p_toB (p_varV (i := 0)))))))
theorem fp_is_integer (c : Ctx w K mg)  : FnPP P w K mg base 1 "is_integer" ["term"] .F (m_is_integer) := by
  obtain ⟨fd, F⟩ := c.d_is_integer
  have h : FnG P w K mg base (L2.CX P w) (0 + 1) (He.ga K "is_integer") fd ["term"] (spP K (["term"] : List Str).length .F (runF (["term"] : List Str).length (sem_is_integer))) := fnP (P := P) (w := w) (base := base) (mg := mg) (ks := [false]) (k := 0) F sc_is_integer (by decide) (by decide) (by decide) (body_is_integer c )
  have b : Binds K fd ["term"] [] := F.bindsN (fun _ _ _ _ _ _ us hl => match us, hl with | [_], _ => rfl)
  exact ⟨_, fd, h, c.g_is_integer, F.kp, b⟩

/-! ### is_row -/
theorem sc_is_row : FnScope ["term", "entry"] ["term"] (defScope st_is_row) := ⟨rfl, rfl, rfl, by decide +kernel, rfl, by decide +kernel, by decide +kernel⟩
def sem_is_row : FS :=
  (sRet (eL (fAnd (fIsi "tuple" (fVar 0)) (fN dAll (fCons (fLc (.nm 1) [1] (fIt (fVar 0)) gYes (fCall m_is_integer (fCons (fVar 1) fNil))) fNil)))))
def m_is_row : List PyData → R PyData := runF 2 (sem_is_row)
theorem body_is_row (c : Ctx w K mg) (F_is_integer : FnPP P w K mg base 1 "is_integer" ["term"] .F (m_is_integer)) : BodyOk P w K mg base ["term", "entry"] "is_row" (defScope st_is_row) (He.ga K "is_row") 1 fun X W => DSs X W [false, false] [] .F (defBody st_is_row) (sem_is_row) := by
  intro cdv A outer s H E hr tk hp
  exact (ss_one (s_ret (e_lift (p_and (p_isi c.f_isinstance c.f_tuple bt_tuple (p_toB (p_varV (i := 0)))) (p_one (p_biE (o_all' rfl) c.f_all bt_all (a_cons (p_toB (p_lc (κ := .F) (own := [("entry", 1)]) (t := (.nm 1)) rfl sc_is_row.nd (i_seqP (p_varV (i := 0))) (blkOk_by (N := ["term", "entry"]) (sc := defScope st_is_row) (by decide +kernel)) (by decide) (by decide) (fun _ _ _ _ _ => (pg_name (i := 1) sc_is_row.nd rfl (by first | exact Or.inl rfl | exact Or.inr rfl))) (fun _ _ _ _ _ => ts_nil) (fun _ _ _ _ _ => (p_callF F_is_integer takes0' (hr.mono (by omega)) (a_cons (p_toB (p_varV (i := 1))) a_nil))))) a_nil)))))))
theorem fp_is_row (c : Ctx w K mg) (F_is_integer : FnPP P w K mg base 1 "is_integer" ["term"] .F (m_is_integer)) : FnPP P w K mg base 2 "is_row" ["term"] .F (m_is_row) := by
  obtain ⟨fd, F⟩ := c.d_is_row
  have h : FnG P w K mg base (L2.CX P w) (1 + 1) (He.ga K "is_row") fd ["term"] (spP K (["term"] : List Str).length .F (runF (["term", "entry"] : List Str).length (sem_is_row))) := fnP (P := P) (w := w) (base := base) (mg := mg) (ks := [false, false]) (k := 1) F sc_is_row (by decide) (by decide) (by decide) (body_is_row c F_is_integer)
  have b : Binds K fd ["term"] [] := F.bindsN (fun _ _ _ _ _ _ us hl => match us, hl with | [_], _ => rfl)
  exact ⟨_, fd, h, c.g_is_row, F.kp, b⟩

/-! ### are_pairs -/
theorem sc_are_pairs : FnScope ["term", "entry"] ["term"] (defScope st_are_pairs) := ⟨rfl, rfl, rfl, by decide +kernel, rfl, by decide +kernel, by decide +kernel⟩
def sem_are_pairs : FS :=
  (sRet (eL (fAnd (fIsi "tuple" (fVar 0)) (fN dAll (fCons (fLc (.nm 1) [1] (fIt (fVar 0)) gYes (fCall m_is_row (fCons (fVar 1) fNil))) fNil)))))
def m_are_pairs : List PyData → R PyData := runF 2 (sem_are_pairs)
theorem body_are_pairs (c : Ctx w K mg) (F_is_row : FnPP P w K mg base 2 "is_row" ["term"] .F (m_is_row)) : BodyOk P w K mg base ["term", "entry"] "are_pairs" (defScope st_are_pairs) (He.ga K "are_pairs") 2 fun X W => DSs X W [false, false] [] .F (defBody st_are_pairs) (sem_are_pairs) := by
  intro cdv A outer s H E hr tk hp
  exact (ss_one (s_ret (e_lift (p_and (p_isi c.f_isinstance c.f_tuple bt_tuple (p_toB (p_varV (i := 0)))) (p_one (p_biE (o_all' rfl) c.f_all bt_all (a_cons (p_toB (p_lc (κ := .F) (own := [("entry", 1)]) (t := (.nm 1)) rfl sc_are_pairs.nd (i_seqP (p_varV (i := 0))) (blkOk_by (N := ["term", "entry"]) (sc := defScope st_are_pairs) (by decide +kernel)) (by decide) (by decide) (fun _ _ _ _ _ => (pg_name (i := 1) sc_are_pairs.nd rfl (by first | exact Or.inl rfl | exact Or.inr rfl))) (fun _ _ _ _ _ => ts_nil) (fun _ _ _ _ _ => (p_callF F_is_row takes0' (hr.mono (by omega)) (a_cons (p_toB (p_varV (i := 1))) a_nil))))) a_nil)))))))
theorem fp_are_pairs (c : Ctx w K mg) (F_is_row : FnPP P w K mg base 2 "is_row" ["term"] .F (m_is_row)) : FnPP P w K mg base 3 "are_pairs" ["term"] .F (m_are_pairs) := by
  obtain ⟨fd, F⟩ := c.d_are_pairs
  have h : FnG P w K mg base (L2.CX P w) (2 + 1) (He.ga K "are_pairs") fd ["term"] (spP K (["term"] : List Str).length .F (runF (["term", "entry"] : List Str).length (sem_are_pairs))) := fnP (P := P) (w := w) (base := base) (mg := mg) (ks := [false, false]) (k := 2) F sc_are_pairs (by decide) (by decide) (by decide) (body_are_pairs c F_is_row)
  have b : Binds K fd ["term"] [] := F.bindsN (fun _ _ _ _ _ _ us hl => match us, hl with | [_], _ => rfl)
  exact ⟨_, fd, h, c.g_are_pairs, F.kp, b⟩

/-! ### is_told_game -/
theorem sc_is_told_game : FnScope ["term"] ["term"] (defScope st_is_told_game) := ⟨rfl, rfl, rfl, by decide +kernel, rfl, by decide +kernel, by decide +kernel⟩
def sem_is_told_game : FS :=
  (sRet (eL (fAnd (fIsi "tuple" (fVar 0)) (fAnd (fOfB (gCmp dEq (fN dLen (fCons (fVar 0) fNil)) (fC (.int 2)))) (fAnd (fCall m_is_integer (fCons (fOp ixD (fVar 0) (fC (.int 0))) fNil)) (fCall m_is_row (fCons (fOp ixD (fVar 0) (fC (.int 1))) fNil)))))))
def m_is_told_game : List PyData → R PyData := runF 1 (sem_is_told_game)
theorem body_is_told_game (c : Ctx w K mg) (F_is_integer : FnPP P w K mg base 1 "is_integer" ["term"] .F (m_is_integer)) (F_is_row : FnPP P w K mg base 2 "is_row" ["term"] .F (m_is_row)) : BodyOk P w K mg base ["term"] "is_told_game" (defScope st_is_told_game) (He.ga K "is_told_game") 2 fun X W => DSs X W [false] [] .F (defBody st_is_told_game) (sem_is_told_game) := by
  intro cdv A outer s H E hr tk hp
  exact (ss_one (s_ret (e_lift (p_and (p_isi c.f_isinstance c.f_tuple bt_tuple (p_toB (p_varV (i := 0)))) (p_and (p_toB (p_cm (o_eq hr.u64) (p_toB (p_biE o_len' c.f_len bt_len (a_cons (p_toB (p_varV (i := 0))) a_nil))) p_int)) (p_and (p_toB (p_callF F_is_integer tk (hr.mono (by omega)) (a_cons (p_toB (p_ix (p_varV (i := 0)) p_int)) a_nil))) (p_one (p_callF F_is_row tk (hr.mono (by omega)) (a_cons (p_toB (p_ix (p_varV (i := 0)) p_int)) a_nil)))))))))
theorem fp_is_told_game (c : Ctx w K mg) (F_is_integer : FnPP P w K mg base 1 "is_integer" ["term"] .F (m_is_integer)) (F_is_row : FnPP P w K mg base 2 "is_row" ["term"] .F (m_is_row)) : FnPP P w K mg base 3 "is_told_game" ["term"] .F (m_is_told_game) := by
  obtain ⟨fd, F⟩ := c.d_is_told_game
  have h : FnG P w K mg base (L2.CX P w) (2 + 1) (He.ga K "is_told_game") fd ["term"] (spP K (["term"] : List Str).length .F (runF (["term"] : List Str).length (sem_is_told_game))) := fnP (P := P) (w := w) (base := base) (mg := mg) (ks := [false]) (k := 2) F sc_is_told_game (by decide) (by decide) (by decide) (body_is_told_game c F_is_integer F_is_row)
  have b : Binds K fd ["term"] [] := F.bindsN (fun _ _ _ _ _ _ us hl => match us, hl with | [_], _ => rfl)
  exact ⟨_, fd, h, c.g_is_told_game, F.kp, b⟩

/-! ### is_told_buyer -/
theorem sc_is_told_buyer : FnScope ["term", "worth", "chance", "entry"] ["term"] (defScope st_is_told_buyer) := ⟨rfl, rfl, rfl, by decide +kernel, rfl, by decide +kernel, by decide +kernel⟩
def sem_is_told_buyer : FS :=
  (sSeq (sIf (eLT (gOr (gNot (gTru dTru (fIsi "tuple" (fVar 0)))) (gNot (gTru dTru (fN dAll (fCons (fLc (.nm 3) [3] (fIt (fVar 0)) gYes (fAnd (fIsi "tuple" (fVar 3)) (fOfB (gCmp dEq (fN dLen (fCons (fVar 3) fNil)) (fC (.int 2)))))) fNil)))))) (sRet (eL (fC (.bool false))))
  sNil)
  (sRet (eL (fN dAll (fCons (fLc (.tp [(.nm 1), (.nm 2)]) [1, 2] (fIt (fVar 0)) gYes (fAnd (fCall m_is_integer (fCons (fVar 1) fNil)) (fCall m_is_row (fCons (fVar 2) fNil)))) fNil)))))
def m_is_told_buyer : List PyData → R PyData := runF 4 (sem_is_told_buyer)
theorem body_is_told_buyer (c : Ctx w K mg) (F_is_integer : FnPP P w K mg base 1 "is_integer" ["term"] .F (m_is_integer)) (F_is_row : FnPP P w K mg base 2 "is_row" ["term"] .F (m_is_row)) : BodyOk P w K mg base ["term", "worth", "chance", "entry"] "is_told_buyer" (defScope st_is_told_buyer) (He.ga K "is_told_buyer") 2 fun X W => DSs X W [false, false, false, false] [] .F (defBody st_is_told_buyer) (sem_is_told_buyer) := by
  intro cdv A outer s H E hr tk hp
  exact (ss_cons (s_if (et_lift (t_w (w_or (t_not (t_truth o_tru (p_isi c.f_isinstance c.f_tuple bt_tuple (p_toB (p_varV (i := 0)))))) (w_or1 (t_not (t_truth o_tru (p_toB (p_biE (o_all' rfl) c.f_all bt_all (a_cons (p_toB (p_lc (κ := .F) (own := [("entry", 3)]) (t := (.nm 3)) rfl sc_is_told_buyer.nd (i_seqP (p_varV (i := 0))) (blkOk_by (N := ["term", "worth", "chance", "entry"]) (sc := defScope st_is_told_buyer) (by decide +kernel)) (by decide) (by decide) (fun _ _ _ _ _ => (pg_name (i := 3) sc_is_told_buyer.nd rfl (by first | exact Or.inl rfl | exact Or.inr rfl))) (fun _ _ _ _ _ => ts_nil) (fun _ _ _ _ _ => (p_and (p_isi c.f_isinstance c.f_tuple bt_tuple (p_toB (p_varV (i := 3)))) (p_one (p_cm (o_eq hr.u64) (p_toB (p_biE o_len' c.f_len bt_len (a_cons (p_toB (p_varV (i := 3))) a_nil))) p_int)))))) a_nil))))))))) (ss_one (s_ret (e_lift p_bl)))
  ss_nil)
  (ss_one (s_ret (e_lift (p_biE (o_all' rfl) c.f_all bt_all (a_cons (p_toB (p_lc (κ := .F) (own := [("worth", 1), ("chance", 2)]) (t := (.tp [(.nm 1), (.nm 2)])) rfl sc_is_told_buyer.nd (i_seqP (p_varV (i := 0))) (blkOk_by (N := ["term", "worth", "chance", "entry"]) (sc := defScope st_is_told_buyer) (by decide +kernel)) (by decide) (by decide) (fun _ _ _ _ _ => (pg_tup rfl (pgs_cons (pg_name (i := 1) sc_is_told_buyer.nd rfl (by first | exact Or.inl rfl | exact Or.inr rfl)) (pgs_cons (pg_name (i := 2) sc_is_told_buyer.nd rfl (by first | exact Or.inl rfl | exact Or.inr rfl)) pgs_nil)) rfl rfl)) (fun _ _ _ _ _ => ts_nil) (fun _ _ _ _ _ => (p_and (p_toB (p_callF F_is_integer takes0' (hr.mono (by omega)) (a_cons (p_toB (p_varV (i := 1))) a_nil))) (p_one (p_callF F_is_row takes0' (hr.mono (by omega)) (a_cons (p_toB (p_varV (i := 2))) a_nil))))))) a_nil))))))
theorem fp_is_told_buyer (c : Ctx w K mg) (F_is_integer : FnPP P w K mg base 1 "is_integer" ["term"] .F (m_is_integer)) (F_is_row : FnPP P w K mg base 2 "is_row" ["term"] .F (m_is_row)) : FnPP P w K mg base 3 "is_told_buyer" ["term"] .F (m_is_told_buyer) := by
  obtain ⟨fd, F⟩ := c.d_is_told_buyer
  have h : FnG P w K mg base (L2.CX P w) (2 + 1) (He.ga K "is_told_buyer") fd ["term"] (spP K (["term"] : List Str).length .F (runF (["term", "worth", "chance", "entry"] : List Str).length (sem_is_told_buyer))) := fnP (P := P) (w := w) (base := base) (mg := mg) (ks := [false, false, false, false]) (k := 2) F sc_is_told_buyer (by decide) (by decide) (by decide) (body_is_told_buyer c F_is_integer F_is_row)
  have b : Binds K fd ["term"] [] := F.bindsN (fun _ _ _ _ _ _ us hl => match us, hl with | [_], _ => rfl)
  exact ⟨_, fd, h, c.g_is_told_buyer, F.kp, b⟩

/-! ### has_form -/
theorem sc_has_form : FnScope ["thing", "term"] ["thing", "term"] (defScope st_has_form) := ⟨rfl, rfl, rfl, by decide +kernel, rfl, by decide +kernel, by decide +kernel⟩
def ct_has_form (K : PySem.W.Frag) : List (Addr × (List PyData → R PyData)) := [(He.ga K "are_pairs", m_are_pairs), (He.ga K "is_told_game", m_is_told_game), (He.ga K "is_told_buyer", m_is_told_buyer), (He.ga K "is_row", m_is_row)]
def sem_has_form (K : PySem.W.Frag) : FS :=
  (sSeq (sIf (eLT (gCmp (kdIn true (He.ga K "FORMS") (tab_FORMS K)) (fVar 0) (fC (adrD (He.ga K "FORMS"))))) (fun _ => .ex ⟨"BadNumber", none⟩)
  sNil)
  (sRet (eL (fCallX (ct_has_form K) (fOp (kdGet (He.ga K "FORMS") (tab_FORMS K)) (fC (adrD (He.ga K "FORMS"))) (fVar 0)) (fCons (fVar 1) fNil)))))
def m_has_form (K : PySem.W.Frag) : List PyData → R PyData := runF 2 (sem_has_form K)
theorem body_has_form (c : Ctx w K mg) (F_is_row : FnPP P w K mg base 2 "is_row" ["term"] .F (m_is_row)) (F_are_pairs : FnPP P w K mg base 3 "are_pairs" ["term"] .F (m_are_pairs)) (F_is_told_game : FnPP P w K mg base 3 "is_told_game" ["term"] .F (m_is_told_game)) (F_is_told_buyer : FnPP P w K mg base 3 "is_told_buyer" ["term"] .F (m_is_told_buyer)) : BodyOk P w K mg base ["thing", "term"] "has_form" (defScope st_has_form) (He.ga K "has_form") 3 fun X W => DSs X W [false, false] [] .F (defBody st_has_form) (sem_has_form K) := by
  intro cdv A outer s H E hr tk hp
  exact have CT : FnT P w K mg base 3 1 .F (ct_has_form K) := (FnT.cons F_are_pairs (by omega) c.g_are_pairs (FnT.cons F_is_told_game (by omega) c.g_is_told_game (FnT.cons F_is_told_buyer (by omega) c.g_is_told_buyer (FnT.cons F_is_row (by omega) c.g_is_row FnT.nil)))); (ss_cons (s_if (et_lift (t_cm (o_kdNotIn c.t_FORMS) (p_toB (p_varV (i := 0))) (p_globR c.g_FORMS))) (ss_one (s_raise rfl tk (exF c.e_BadNumber)))
  ss_nil)
  (ss_one (s_ret (e_lift (p_callX CT tk hr (p_kd c.t_FORMS (p_globR c.g_FORMS) (p_toB (p_varV (i := 0)))) (a_cons (p_toB (p_varV (i := 1))) a_nil))))))
theorem fp_has_form (c : Ctx w K mg) (F_is_row : FnPP P w K mg base 2 "is_row" ["term"] .F (m_is_row)) (F_are_pairs : FnPP P w K mg base 3 "are_pairs" ["term"] .F (m_are_pairs)) (F_is_told_game : FnPP P w K mg base 3 "is_told_game" ["term"] .F (m_is_told_game)) (F_is_told_buyer : FnPP P w K mg base 3 "is_told_buyer" ["term"] .F (m_is_told_buyer)) : FnPP P w K mg base 4 "has_form" ["thing", "term"] .F (m_has_form K) := by
  obtain ⟨fd, F⟩ := c.d_has_form
  have h : FnG P w K mg base (L2.CX P w) (3 + 1) (He.ga K "has_form") fd ["thing", "term"] (spP K (["thing", "term"] : List Str).length .F (runF (["thing", "term"] : List Str).length (sem_has_form K))) := fnP (P := P) (w := w) (base := base) (mg := mg) (ks := [false, false]) (k := 3) F sc_has_form (by decide) (by decide) (by decide) (body_has_form c F_is_row F_are_pairs F_is_told_game F_is_told_buyer)
  have b : Binds K fd ["thing", "term"] [] := F.bindsN (fun _ _ _ _ _ _ us hl => match us, hl with | [_, _], _ => rfl)
  exact ⟨_, fd, h, c.g_has_form, F.kp, b⟩

/-! ### _law_pick -/
theorem sc__law_pick : FnScope ["draws", "some"] ["draws", "some"] (defScope st__law_pick) := ⟨rfl, rfl, rfl, by decide +kernel, rfl, by decide +kernel, by decide +kernel⟩
def sem__law_pick : FS :=
  (sRet (eFlat (eOp ixD (eL (fVar 1)) (eOp dMod (eN dInt (eCons (eCallM 0 m__law_next (eLA fNil)) eNil)) (eL (fN dLen (fCons (fVar 1) fNil)))))))
def m__law_pick : PyData → List PyData → R (PyData × PyData) := runM 2 (sem__law_pick)
theorem body__law_pick (c : Ctx w K mg) (F__law_next : FnMM P w K mg base 1 "_law_next" ["draws"] .F (m__law_next)) : BodyOk P w K mg base ["draws", "some"] "_law_pick" (defScope st__law_pick) (He.ga K "_law_pick") 1 fun X W => DSs X W [true, false] [0] .F (defBody st__law_pick) (sem__law_pick) := by
  intro cdv A outer s H E hr tk hp
  exact (ss_one (s_ret (e_flat (e_toB (e_ix (e_lift (p_varV (i := 1))) (e_toB (e_bin o_mod (e_toV (e_tyE o_int c.f_int bt_int (ea_cons (e_toV (e_callM (i := 0) F__law_next tk (hr.mono (by omega)) rfl (ea_lift a_nil) (HLe.lift (by repeat (first | exact HL.nil | refine HL.cons ?_))))) ea_nil))) (e_toB (e_lift (p_biE o_len' c.f_len bt_len (a_cons (p_toB (p_varV (i := 1))) a_nil)))))))))))
theorem fp__law_pick (c : Ctx w K mg) (F__law_next : FnMM P w K mg base 1 "_law_next" ["draws"] .F (m__law_next)) : FnMM P w K mg base 2 "_law_pick" ["draws", "some"] .F (m__law_pick) := by
  obtain ⟨fd, F⟩ := c.d__law_pick
  have h : FnG P w K mg base (L2.CX P w) (1 + 1) (He.ga K "_law_pick") fd ["draws", "some"] (spM K ((["some"] : List Str).length + 1) .F (runM (["draws", "some"] : List Str).length (sem__law_pick))) := fnM (P := P) (w := w) (base := base) (mg := mg) (ks := [true, false]) (k := 1) F sc__law_pick rfl (by decide) (by decide) (by decide) (body__law_pick c F__law_next)
  have b : Binds K fd ["draws", "some"] [] := F.bindsN (fun _ _ _ _ _ _ us hl => match us, hl with | [_, _], _ => rfl)
  exact ⟨_, fd, h, c.g__law_pick, F.kp, b⟩

/-! ### _law_line -/
theorem sc__law_line : FnScope ["line", "words", "word", "sign"] ["line"] (defScope st__law_line) := ⟨rfl, rfl, rfl, by decide +kernel, rfl, by decide +kernel, by decide +kernel⟩
def sem__law_line : FS :=
  (sSeq (sSet 1 (eL (fMe isStr dSplit (fVar 0) (fCons (fC (.str " ")) fNil))))
  (sSeq (sFor (.nm 2) (eIt (eL (fVar 1))) (sIf (eLT (gOr (gCmp dEq (fVar 2) (fC (.str ""))) (gNot (gTru dTru (fN dAll (fCons (fLc (.nm 3) [3] (fIt (fVar 2)) gYes (fOfB (gChain dLe dLe (fC (.str "!")) (fVar 3) (fC (.str "~"))))) fNil)))))) (sRet (eL (fC .none)))
  sNil))
  (sRet (eL (fVar 1)))))
def m__law_line : List PyData → R PyData := runF 4 (sem__law_line)
theorem body__law_line (c : Ctx w K mg)  : BodyOk P w K mg base ["line", "words", "word", "sign"] "_law_line" (defScope st__law_line) (He.ga K "_law_line") 0 fun X W => DSs X W [false, false, false, false] [] .V (defBody st__law_line) (sem__law_line) := by
  intro cdv A outer s H E hr tk hp
  exact (ss_cons (s_set (i := 1) (bk := false) (e_toV (e_lift (p_meE PySem.F.plainAttrs_str PySem.F.slot_str_split PySem.F.type_str_split o_split (p_toB (p_varV (i := 0))) (a_cons p_str a_nil)))) rfl (by decide) sc__law_line.nd)
  (ss_cons (s_for (t := (.nm 2)) hp rfl (i_seq (e_lift (p_varV (i := 1)))) (pg_name (i := 2) sc__law_line.nd rfl (by first | exact Or.inl rfl | exact Or.inr rfl)) (ss_one (s_if (et_lift (t_w (w_or (t_cm (o_eq hr.u64) (p_toB (p_varV (i := 2))) p_str) (w_or1 (t_not (t_truth o_tru (p_toB (p_biE (o_all' rfl) c.f_all bt_all (a_cons (p_toB (p_lc (κ := .F) (own := [("sign", 3)]) (t := (.nm 3)) rfl sc__law_line.nd (i_seqP (p_varV (i := 2))) (blkOk_by (N := ["line", "words", "word", "sign"]) (sc := defScope st__law_line) (by decide +kernel)) (by decide) (by decide) (fun _ _ _ _ _ => (pg_name (i := 3) sc__law_line.nd rfl (by first | exact Or.inl rfl | exact Or.inr rfl))) (fun _ _ _ _ _ => ts_nil) (fun _ _ _ _ _ => (p_ch o_le o_le p_str (p_toB (p_varV (i := 3))) p_str)))) a_nil))))))))) (ss_one (s_ret (e_lift p_non)))
  ss_nil)))
  (ss_one (s_ret (e_lift (p_varV (i := 1)))))))
theorem fp__law_line (c : Ctx w K mg)  : FnPP P w K mg base 1 "_law_line" ["line"] .V (m__law_line) := by
  obtain ⟨fd, F⟩ := c.d__law_line
  have h : FnG P w K mg base (L2.CX P w) (0 + 1) (He.ga K "_law_line") fd ["line"] (spP K (["line"] : List Str).length .V (runF (["line", "words", "word", "sign"] : List Str).length (sem__law_line))) := fnP (P := P) (w := w) (base := base) (mg := mg) (ks := [false, false, false, false]) (k := 0) F sc__law_line (by decide) (by decide) (by decide) (body__law_line c )
  have b : Binds K fd ["line"] [] := F.bindsN (fun _ _ _ _ _ _ us hl => match us, hl with | [_], _ => rfl)
  exact ⟨_, fd, h, c.g__law_line, F.kp, b⟩

/-! ### _law_spoilt -/
theorem sc__law_spoilt : FnScope ["draws", "term", "at", "kind"] ["draws", "term"] (defScope st__law_spoilt) := ⟨rfl, rfl, rfl, by decide +kernel, rfl, by decide +kernel, by decide +kernel⟩
def sem__law_spoilt (rc : PyData → List PyData → R (PyData × PyData)) : FS :=
  (sSeq (sIf (eOrT (eLT (gNot (gTru dTru (fIsi "tuple" (fVar 1))))) (eCmp dEq (eOp dMod (eN dInt (eCons (eCallM 0 m__law_next (eLA fNil)) eNil)) (eL (fC (.int 6)))) (eL (fC (.int 0))))) (sRet (eCallM 0 m__law_pick (eLA (fCons (fLst (fCons (fC .none) (fCons (fC (.str "ada")) (fCons (fC (.str "")) (fCons (fC (.int 5)) (fCons (fTup fNil) (fCons (fTup (fCons (fC (.int 1)) fNil)) (fCons (fTup (fCons (fTup fNil) fNil)) (fCons (fTup (fCons (fC (.str "a")) fNil)) (fCons (fVar 1) fNil)))))))))) fNil))))
  sNil)
  (sSeq (sIf (eLT (gCmp dEq (fVar 1) (fTup fNil))) (sRet (eCallM 0 m__law_pick (eLA (fCons (fLst (fCons (fTup (fCons (fC (.int 0)) fNil)) (fCons (fTup (fCons (fC (.str "")) fNil)) (fCons (fTup (fCons (fTup fNil) fNil)) (fCons (fC .none) fNil))))) fNil))))
  sNil)
  (sSeq (sSet 2 (eOp dMod (eN dInt (eCons (eCallM 0 m__law_next (eLA fNil)) eNil)) (eL (fN dLen (fCons (fVar 1) fNil)))))
  (sSeq (sSet 3 (eOp dMod (eN dInt (eCons (eCallM 0 m__law_next (eLA fNil)) eNil)) (eL (fC (.int 5)))))
  (sSeq (sIf (eLT (gCmp dEq (fVar 3) (fC (.int 0)))) (sRet (eL (fOp dAdd (fSl (fVar 1) fNoPart (fPart (fVar 2))) (fSl (fVar 1) (fPart (fOp dAdd (fVar 2) (fC (.int 1)))) fNoPart))))
  sNil)
  (sRet (eIf (eLT (gCmp dEq (fVar 3) (fC (.int 1)))) (eL (fOp dAdd (fVar 1) (fSl (fVar 1) (fPart (fVar 2)) (fPart (fOp dAdd (fVar 2) (fC (.int 1))))))) (eOp dAdd (eOp dAdd (eL (fSl (fVar 1) fNoPart (fPart (fVar 2)))) (eTup (eCons (eCallM 0 rc (eLA (fCons (fOp ixD (fVar 1) (fVar 2)) fNil))) eNil))) (eL (fSl (fVar 1) (fPart (fOp dAdd (fVar 2) (fC (.int 1)))) fNoPart))))))))))
def m__law_spoilt : Nat → PyData → List PyData → R (PyData × PyData)
  | 0 => fun _ _ => .no
  | n + 1 => runM 4 (sem__law_spoilt (m__law_spoilt n))
theorem body__law_spoilt (c : Ctx w K mg) (F__law_next : FnMM P w K mg base 1 "_law_next" ["draws"] .F (m__law_next)) (F__law_pick : FnMM P w K mg base 2 "_law_pick" ["draws", "some"] .F (m__law_pick)) (k : Nat) (hk : 3 ≤ k) (rc : PyData → List PyData → R (PyData × PyData)) (F__law_spoilt : FnMM P w K mg base k "_law_spoilt" ["draws", "term"] .F rc) : BodyOk P w K mg base ["draws", "term", "at", "kind"] "_law_spoilt" (defScope st__law_spoilt) (He.ga K "_law_spoilt") k fun X W => DSs X W [true, false, false, false] [0] .F (defBody st__law_spoilt) (sem__law_spoilt rc) := by
  intro cdv A outer s H E hr tk hp
  exact (ss_cons (s_if (et_w (ew_or (et_lift (t_not (t_truth o_tru (p_isi c.f_isinstance c.f_tuple bt_tuple (p_toB (p_varV (i := 1))))))) (ew_or1 (et_cm (o_eq hr.u64) (e_toV (e_bin o_mod (e_toV (e_tyE o_int c.f_int bt_int (ea_cons (e_toV (e_callM (i := 0) F__law_next tk (hr.mono (by omega)) rfl (ea_lift a_nil) (HLe.lift (by repeat (first | exact HL.nil | refine HL.cons ?_))))) ea_nil))) (e_lift p_int))) (e_lift p_int))))) (ss_one (s_ret (e_callM (i := 0) F__law_pick tk (hr.mono (by omega)) rfl (ea_lift (a_cons (p_lst (κ := .V) (a_cons p_non (a_cons p_str (a_cons p_str (a_cons p_int (a_cons (p_tup a_nil) (a_cons (p_toV (p_tup (κ := .F) (a_cons p_int a_nil))) (a_cons (p_toV (p_tup (κ := .F) (a_cons (p_tup a_nil) a_nil))) (a_cons (p_toV (p_tup (κ := .F) (a_cons p_str a_nil))) (a_cons (p_varV (i := 1)) a_nil)))))))))) a_nil)) (HLe.lift (by repeat (first | exact HL.nil | refine HL.cons ?_))))))
  ss_nil)
  (ss_cons (s_if (et_lift (t_cm (o_eq hr.u64) (p_toB (p_varV (i := 1))) (p_tup a_nil))) (ss_one (s_ret (e_callM (i := 0) F__law_pick tk (hr.mono (by omega)) rfl (ea_lift (a_cons (p_toV (p_lst (κ := .F) (a_cons (p_tup (κ := .F) (a_cons p_int a_nil)) (a_cons (p_tup (κ := .F) (a_cons p_str a_nil)) (a_cons (p_tup (κ := .F) (a_cons (p_tup a_nil) a_nil)) (a_cons p_non a_nil)))))) a_nil)) (HLe.lift (by repeat (first | exact HL.nil | refine HL.cons ?_))))))
  ss_nil)
  (ss_cons (s_set (i := 2) (bk := false) (e_toV (e_bin o_mod (e_toV (e_tyE o_int c.f_int bt_int (ea_cons (e_toV (e_callM (i := 0) F__law_next tk (hr.mono (by omega)) rfl (ea_lift a_nil) (HLe.lift (by repeat (first | exact HL.nil | refine HL.cons ?_))))) ea_nil))) (e_toB (e_lift (p_biE o_len' c.f_len bt_len (a_cons (p_toB (p_varV (i := 1))) a_nil)))))) rfl (by decide) sc__law_spoilt.nd)
  (ss_cons (s_set (i := 3) (bk := false) (e_toV (e_bin o_mod (e_toV (e_tyE o_int c.f_int bt_int (ea_cons (e_toV (e_callM (i := 0) F__law_next tk (hr.mono (by omega)) rfl (ea_lift a_nil) (HLe.lift (by repeat (first | exact HL.nil | refine HL.cons ?_))))) ea_nil))) (e_lift p_int))) rfl (by decide) sc__law_spoilt.nd)
  (ss_cons (s_if (et_lift (t_cm (o_eq hr.u64) (p_toB (p_varV (i := 3))) p_int)) (ss_one (s_ret (e_lift (p_bin o_add (p_toB (p_sl (p_varV (i := 1)) o_none (o_some (p_toB (p_varV (i := 2)))))) (p_toB (p_sl (p_varV (i := 1)) (o_some (p_toB (p_bin o_add (p_toB (p_varV (i := 2))) p_int))) o_none))))))
  ss_nil)
  (ss_one (s_ret (e_if (et_lift (t_cm (o_eq hr.u64) (p_toB (p_varV (i := 3))) p_int)) (e_lift (p_bin o_add (p_toB (p_varV (i := 1))) (p_toB (p_sl (p_varV (i := 1)) (o_some (p_toB (p_varV (i := 2)))) (o_some (p_toB (p_bin o_add (p_toB (p_varV (i := 2))) p_int))))))) (e_bin o_add (e_toV (e_bin o_add (e_lift (p_sl (p_varV (i := 1)) o_none (o_some (p_toB (p_varV (i := 2)))))) (e_toB (e_tup (κ := .F) (ea_cons (e_callM (i := 0) F__law_spoilt tk hr rfl (ea_lift (a_cons (p_ix (p_varV (i := 1)) (p_toB (p_varV (i := 2)))) a_nil)) (HLe.lift (by repeat (first | exact HL.nil | refine HL.cons ?_)))) ea_nil))))) (e_toB (e_lift (p_sl (p_varV (i := 1)) (o_some (p_toB (p_bin o_add (p_toB (p_varV (i := 2))) p_int))) o_none))))))))))))
theorem fp__law_spoilt (c : Ctx w K mg) (F__law_next : FnMM P w K mg base 1 "_law_next" ["draws"] .F (m__law_next)) (F__law_pick : FnMM P w K mg base 2 "_law_pick" ["draws", "some"] .F (m__law_pick)) : ∀ n : Nat, FnMM P w K mg base (3 + n) "_law_spoilt" ["draws", "term"] .F (m__law_spoilt n)
  | 0 => by
    obtain ⟨fd, F⟩ := c.d__law_spoilt
    have b : Binds K fd ["draws", "term"] [] := F.bindsN (fun _ _ _ _ _ _ us hl => match us, hl with | [_, _], _ => rfl)
    exact ⟨_, fd, FnG.neverM fun _ _ => rfl, c.g__law_spoilt, F.kp, b⟩
  | n + 1 => by
    obtain ⟨fd, F⟩ := c.d__law_spoilt
    have F__law_spoilt := fp__law_spoilt c F__law_next F__law_pick n
    have h : FnG P w K mg base (L2.CX P w) ((3 + n) + 1) (He.ga K "_law_spoilt") fd ["draws", "term"] (spM K ((["term"] : List Str).length + 1) .F (runM (["draws", "term", "at", "kind"] : List Str).length (sem__law_spoilt (m__law_spoilt n)))) := fnM (P := P) (w := w) (base := base) (mg := mg) (ks := [true, false, false, false]) (k := 3 + n) F sc__law_spoilt rfl (by decide) (by decide) (by decide) (body__law_spoilt c F__law_next F__law_pick (3 + n) (by omega) (m__law_spoilt n) F__law_spoilt)
    have b : Binds K fd ["draws", "term"] [] := F.bindsN (fun _ _ _ _ _ _ us hl => match us, hl with | [_, _], _ => rfl)
    exact ⟨_, fd, h, c.g__law_spoilt, F.kp, b⟩

/-! ### _law_is_row -/
theorem sc__law_is_row : FnScope ["term", "entry"] ["term"] (defScope st__law_is_row) := ⟨rfl, rfl, rfl, by decide +kernel, rfl, by decide +kernel, by decide +kernel⟩
def sem__law_is_row : FS :=
  (sRet (eL (fAnd (fIsi "tuple" (fVar 0)) (fN dAll (fCons (fLc (.nm 1) [1] (fIt (fVar 0)) gYes (fIsi "int" (fVar 1))) fNil)))))
def m__law_is_row : List PyData → R PyData := runF 2 (sem__law_is_row)
theorem body__law_is_row (c : Ctx w K mg)  : BodyOk P w K mg base ["term", "entry"] "_law_is_row" (defScope st__law_is_row) (He.ga K "_law_is_row") 0 fun X W => DSs X W [false, false] [] .F (defBody st__law_is_row) (sem__law_is_row) := by
  intro cdv A outer s H E hr tk hp
  exact (ss_one (s_ret (e_lift (p_and (p_isi c.f_isinstance c.f_tuple bt_tuple (p_toB (p_varV (i := 0)))) (p_one (p_biE (o_all' rfl) c.f_all bt_all (a_cons (p_toB (p_lc (κ := .F) (own := [("entry", 1)]) (t := (.nm 1)) rfl sc__law_is_row.nd (i_seqP (p_varV (i := 0))) (blkOk_by (N := ["term", "entry"]) (sc := defScope st__law_is_row) (by decide +kernel)) (by decide) (by decide) (fun _ _ _ _ _ => (pg_name (i := 1) sc__law_is_row.nd rfl (by first | exact Or.inl rfl | exact Or.inr rfl))) (fun _ _ _ _ _ => ts_nil) (fun _ _ _ _ _ => (p_isi c.f_isinstance c.f_int bt_int (p_toB (p_varV (i := 1))))))) a_nil)))))))
theorem fp__law_is_row (c : Ctx w K mg)  : FnPP P w K mg base 1 "_law_is_row" ["term"] .F (m__law_is_row) := by
  obtain ⟨fd, F⟩ := c.d__law_is_row
  have h : FnG P w K mg base (L2.CX P w) (0 + 1) (He.ga K "_law_is_row") fd ["term"] (spP K (["term"] : List Str).length .F (runF (["term", "entry"] : List Str).length (sem__law_is_row))) := fnP (P := P) (w := w) (base := base) (mg := mg) (ks := [false, false]) (k := 0) F sc__law_is_row (by decide) (by decide) (by decide) (body__law_is_row c )
  have b : Binds K fd ["term"] [] := F.bindsN (fun _ _ _ _ _ _ us hl => match us, hl with | [_], _ => rfl)
  exact ⟨_, fd, h, c.g__law_is_row, F.kp, b⟩

/-! ### _law_are_pairs -/
theorem sc__law_are_pairs : FnScope ["term", "entry"] ["term"] (defScope st__law_are_pairs) := ⟨rfl, rfl, rfl, by decide +kernel, rfl, by decide +kernel, by decide +kernel⟩
def sem__law_are_pairs : FS :=
  (sRet (eL (fAnd (fIsi "tuple" (fVar 0)) (fN dAll (fCons (fLc (.nm 1) [1] (fIt (fVar 0)) gYes (fCall m__law_is_row (fCons (fVar 1) fNil))) fNil)))))
def m__law_are_pairs : List PyData → R PyData := runF 2 (sem__law_are_pairs)
theorem body__law_are_pairs (c : Ctx w K mg) (F__law_is_row : FnPP P w K mg base 1 "_law_is_row" ["term"] .F (m__law_is_row)) : BodyOk P w K mg base ["term", "entry"] "_law_are_pairs" (defScope st__law_are_pairs) (He.ga K "_law_are_pairs") 1 fun X W => DSs X W [false, false] [] .F (defBody st__law_are_pairs) (sem__law_are_pairs) := by
  intro cdv A outer s H E hr tk hp
  exact (ss_one (s_ret (e_lift (p_and (p_isi c.f_isinstance c.f_tuple bt_tuple (p_toB (p_varV (i := 0)))) (p_one (p_biE (o_all' rfl) c.f_all bt_all (a_cons (p_toB (p_lc (κ := .F) (own := [("entry", 1)]) (t := (.nm 1)) rfl sc__law_are_pairs.nd (i_seqP (p_varV (i := 0))) (blkOk_by (N := ["term", "entry"]) (sc := defScope st__law_are_pairs) (by decide +kernel)) (by decide) (by decide) (fun _ _ _ _ _ => (pg_name (i := 1) sc__law_are_pairs.nd rfl (by first | exact Or.inl rfl | exact Or.inr rfl))) (fun _ _ _ _ _ => ts_nil) (fun _ _ _ _ _ => (p_callF F__law_is_row takes0' (hr.mono (by omega)) (a_cons (p_toB (p_varV (i := 1))) a_nil))))) a_nil)))))))
theorem fp__law_are_pairs (c : Ctx w K mg) (F__law_is_row : FnPP P w K mg base 1 "_law_is_row" ["term"] .F (m__law_is_row)) : FnPP P w K mg base 2 "_law_are_pairs" ["term"] .F (m__law_are_pairs) := by
  obtain ⟨fd, F⟩ := c.d__law_are_pairs
  have h : FnG P w K mg base (L2.CX P w) (1 + 1) (He.ga K "_law_are_pairs") fd ["term"] (spP K (["term"] : List Str).length .F (runF (["term", "entry"] : List Str).length (sem__law_are_pairs))) := fnP (P := P) (w := w) (base := base) (mg := mg) (ks := [false, false]) (k := 1) F sc__law_are_pairs (by decide) (by decide) (by decide) (body__law_are_pairs c F__law_is_row)
  have b : Binds K fd ["term"] [] := F.bindsN (fun _ _ _ _ _ _ us hl => match us, hl with | [_], _ => rfl)
  exact ⟨_, fd, h, c.g__law_are_pairs, F.kp, b⟩

/-! ### _law_due -/
theorem sc__law_due : FnScope ["thing", "term", "worth", "chance", "entry"] ["thing", "term"] (defScope st__law_due) := ⟨rfl, rfl, rfl, by decide +kernel, rfl, by decide +kernel, by decide +kernel⟩
def sem__law_due : FS :=
  (sSeq (sIf (eLT (gCmp dEq (fVar 0) (fC (.str "row")))) (sRet (eL (fCall m__law_is_row (fCons (fVar 1) fNil))))
  sNil)
  (sSeq (sIf (eLT (gCmp dEq (fVar 0) (fC (.str "rows")))) (sRet (eL (fCall m__law_are_pairs (fCons (fVar 1) fNil))))
  sNil)
  (sSeq (sIf (eLT (gCmp dEq (fVar 0) (fC (.str "buyer")))) (sSeq (sIf (eLT (gOr (gNot (gTru dTru (fIsi "tuple" (fVar 1)))) (gNot (gTru dTru (fN dAll (fCons (fLc (.nm 4) [4] (fIt (fVar 1)) gYes (fAnd (fIsi "tuple" (fVar 4)) (fOfB (gCmp dEq (fN dLen (fCons (fVar 4) fNil)) (fC (.int 2)))))) fNil)))))) (sRet (eL (fC (.bool false))))
  sNil)
  (sRet (eL (fN dAll (fCons (fLc (.tp [(.nm 2), (.nm 3)]) [2, 3] (fIt (fVar 1)) gYes (fAnd (fIsi "int" (fVar 2)) (fCall m__law_is_row (fCons (fVar 3) fNil)))) fNil)))))
  sNil)
  (sRet (eL (fAnd (fIsi "tuple" (fVar 1)) (fAnd (fOfB (gCmp dEq (fN dLen (fCons (fVar 1) fNil)) (fC (.int 2)))) (fAnd (fIsi "int" (fOp ixD (fVar 1) (fC (.int 0)))) (fCall m__law_is_row (fCons (fOp ixD (fVar 1) (fC (.int 1))) fNil))))))))))
def m__law_due : List PyData → R PyData := runF 5 (sem__law_due)
theorem body__law_due (c : Ctx w K mg) (F__law_is_row : FnPP P w K mg base 1 "_law_is_row" ["term"] .F (m__law_is_row)) (F__law_are_pairs : FnPP P w K mg base 2 "_law_are_pairs" ["term"] .F (m__law_are_pairs)) : BodyOk P w K mg base ["thing", "term", "worth", "chance", "entry"] "_law_due" (defScope st__law_due) (He.ga K "_law_due") 2 fun X W => DSs X W [false, false, false, false, false] [] .F (defBody st__law_due) (sem__law_due) := by
  intro cdv A outer s H E hr tk hp
  exact (ss_cons (s_if (et_lift (t_cm (o_eq hr.u64) (p_toB (p_varV (i := 0))) p_str)) (ss_one (s_ret (e_lift (p_callF F__law_is_row tk (hr.mono (by omega)) (a_cons (p_toB (p_varV (i := 1))) a_nil)))))
  ss_nil)
  (ss_cons (s_if (et_lift (t_cm (o_eq hr.u64) (p_toB (p_varV (i := 0))) p_str)) (ss_one (s_ret (e_lift (p_callF F__law_are_pairs tk (hr.mono (by omega)) (a_cons (p_toB (p_varV (i := 1))) a_nil)))))
  ss_nil)
  (ss_cons (s_if (et_lift (t_cm (o_eq hr.u64) (p_toB (p_varV (i := 0))) p_str)) (ss_cons (s_if (et_lift (t_w (w_or (t_not (t_truth o_tru (p_isi c.f_isinstance c.f_tuple bt_tuple (p_toB (p_varV (i := 1)))))) (w_or1 (t_not (t_truth o_tru (p_toB (p_biE (o_all' rfl) c.f_all bt_all (a_cons (p_toB (p_lc (κ := .F) (own := [("entry", 4)]) (t := (.nm 4)) rfl sc__law_due.nd (i_seqP (p_varV (i := 1))) (blkOk_by (N := ["thing", "term", "worth", "chance", "entry"]) (sc := defScope st__law_due) (by decide +kernel)) (by decide) (by decide) (fun _ _ _ _ _ => (pg_name (i := 4) sc__law_due.nd rfl (by first | exact Or.inl rfl | exact Or.inr rfl))) (fun _ _ _ _ _ => ts_nil) (fun _ _ _ _ _ => (p_and (p_isi c.f_isinstance c.f_tuple bt_tuple (p_toB (p_varV (i := 4)))) (p_one (p_cm (o_eq hr.u64) (p_toB (p_biE o_len' c.f_len bt_len (a_cons (p_toB (p_varV (i := 4))) a_nil))) p_int)))))) a_nil))))))))) (ss_one (s_ret (e_lift p_bl)))
  ss_nil)
  (ss_one (s_ret (e_lift (p_biE (o_all' rfl) c.f_all bt_all (a_cons (p_toB (p_lc (κ := .F) (own := [("worth", 2), ("chance", 3)]) (t := (.tp [(.nm 2), (.nm 3)])) rfl sc__law_due.nd (i_seqP (p_varV (i := 1))) (blkOk_by (N := ["thing", "term", "worth", "chance", "entry"]) (sc := defScope st__law_due) (by decide +kernel)) (by decide) (by decide) (fun _ _ _ _ _ => (pg_tup rfl (pgs_cons (pg_name (i := 2) sc__law_due.nd rfl (by first | exact Or.inl rfl | exact Or.inr rfl)) (pgs_cons (pg_name (i := 3) sc__law_due.nd rfl (by first | exact Or.inl rfl | exact Or.inr rfl)) pgs_nil)) rfl rfl)) (fun _ _ _ _ _ => ts_nil) (fun _ _ _ _ _ => (p_and (p_isi c.f_isinstance c.f_int bt_int (p_toB (p_varV (i := 2)))) (p_one (p_callF F__law_is_row takes0' (hr.mono (by omega)) (a_cons (p_toB (p_varV (i := 3))) a_nil))))))) a_nil))))))
  ss_nil)
  (ss_one (s_ret (e_lift (p_and (p_isi c.f_isinstance c.f_tuple bt_tuple (p_toB (p_varV (i := 1)))) (p_and (p_toB (p_cm (o_eq hr.u64) (p_toB (p_biE o_len' c.f_len bt_len (a_cons (p_toB (p_varV (i := 1))) a_nil))) p_int)) (p_and (p_isi c.f_isinstance c.f_int bt_int (p_toB (p_ix (p_varV (i := 1)) p_int))) (p_one (p_callF F__law_is_row tk (hr.mono (by omega)) (a_cons (p_toB (p_ix (p_varV (i := 1)) p_int)) a_nil))))))))))))
theorem fp__law_due (c : Ctx w K mg) (F__law_is_row : FnPP P w K mg base 1 "_law_is_row" ["term"] .F (m__law_is_row)) (F__law_are_pairs : FnPP P w K mg base 2 "_law_are_pairs" ["term"] .F (m__law_are_pairs)) : FnPP P w K mg base 3 "_law_due" ["thing", "term"] .F (m__law_due) := by
  obtain ⟨fd, F⟩ := c.d__law_due
  have h : FnG P w K mg base (L2.CX P w) (2 + 1) (He.ga K "_law_due") fd ["thing", "term"] (spP K (["thing", "term"] : List Str).length .F (runF (["thing", "term", "worth", "chance", "entry"] : List Str).length (sem__law_due))) := fnP (P := P) (w := w) (base := base) (mg := mg) (ks := [false, false, false, false, false]) (k := 2) F sc__law_due (by decide) (by decide) (by decide) (body__law_due c F__law_is_row F__law_are_pairs)
  have b : Binds K fd ["thing", "term"] [] := F.bindsN (fun _ _ _ _ _ _ us hl => match us, hl with | [_, _], _ => rfl)
  exact ⟨_, fd, h, c.g__law_due, F.kp, b⟩

/-! ### _law_number_of -/
theorem sc__law_number_of : FnScope ["word", "k"] ["word"] (defScope st__law_number_of) := ⟨rfl, rfl, rfl, by decide +kernel, rfl, by decide +kernel, by decide +kernel⟩
def sem__law_number_of : FS :=
  (sRet (eL (fIf (gCmp (dIn false) (fVar 0) (fLc (.nm 1) [1] (fRg (fCons (fC (.int 100)) fNil)) gYes (fN dStr (fCons (fVar 1) fNil)))) (fN dInt (fCons (fVar 0) fNil)) (fC .none))))
def m__law_number_of : List PyData → R PyData := runF 2 (sem__law_number_of)
theorem body__law_number_of (c : Ctx w K mg)  : BodyOk P w K mg base ["word", "k"] "_law_number_of" (defScope st__law_number_of) (He.ga K "_law_number_of") 0 fun X W => DSs X W [false, false] [] .F (defBody st__law_number_of) (sem__law_number_of) := by
  intro cdv A outer s H E hr tk hp
  exact (ss_one (s_ret (e_lift (p_if (t_cm (o_in hr.u65) (p_toB (p_varV (i := 0))) (p_toB (p_lc (κ := .F) (own := [("k", 1)]) (t := (.nm 1)) rfl sc__law_number_of.nd (i_range1P (κ := .B) c.f_range (a_cons p_int a_nil)) (blkOk_by (N := ["word", "k"]) (sc := defScope st__law_number_of) (by decide +kernel)) (by decide) (by decide) (fun _ _ _ _ _ => (pg_name (i := 1) sc__law_number_of.nd rfl (by first | exact Or.inl rfl | exact Or.inr rfl))) (fun _ _ _ _ _ => ts_nil) (fun _ _ _ _ _ => (p_tyE o_str c.f_str bt_str (a_cons (p_toB (p_varV (i := 1))) a_nil)))))) (p_tyE o_int c.f_int bt_int (a_cons (p_toB (p_varV (i := 0))) a_nil)) p_non))))
theorem fp__law_number_of (c : Ctx w K mg)  : FnPP P w K mg base 1 "_law_number_of" ["word"] .F (m__law_number_of) := by
  obtain ⟨fd, F⟩ := c.d__law_number_of
  have h : FnG P w K mg base (L2.CX P w) (0 + 1) (He.ga K "_law_number_of") fd ["word"] (spP K (["word"] : List Str).length .F (runF (["word", "k"] : List Str).length (sem__law_number_of))) := fnP (P := P) (w := w) (base := base) (mg := mg) (ks := [false, false]) (k := 0) F sc__law_number_of (by decide) (by decide) (by decide) (body__law_number_of c )
  have b : Binds K fd ["word"] [] := F.bindsN (fun _ _ _ _ _ _ us hl => match us, hl with | [_], _ => rfl)
  exact ⟨_, fd, h, c.g__law_number_of, F.kp, b⟩

/-! ### _law_kind -/
theorem sc__law_kind : FnScope ["error", "names", "found"] ["error"] (defScope st__law_kind) := ⟨rfl, rfl, rfl, by decide +kernel, rfl, by decide +kernel, by decide +kernel⟩
def sem__law_kind (z0 : Str) (q0 : Addr) : FS :=
  (sSeq (sSet 1 (eL (fLst (fCons (fC (.str "stakes")) (fCons (fC (.str "table")) (fCons (fC (.str "mix")) (fCons (fC (.str "paper")) (fCons (fC (.str "number")) (fCons (fC (.str "none")) (fCons (fC (.str "large")) fNil))))))))))
  (sSeq (sSet 2 (eL (fLst (fCons (fIsE q0 (isC z0 "NotStakes") (fVar 0)) (fCons (fIsE q0 (isC z0 "NotTable") (fVar 0)) (fCons (fIsE q0 (isC z0 "NotMix") (fVar 0)) (fCons (fIsE q0 (isC z0 "NotPaper") (fVar 0)) fNil)))))))
  (sSeq (sSet 2 (eL (fOp dAdd (fVar 2) (fLst (fCons (fIsE q0 (isC z0 "BadNumber") (fVar 0)) (fCons (fIsE q0 (isC z0 "NoAnswer") (fVar 0)) (fCons (fIsE q0 (isC z0 "TooLarge") (fVar 0)) fNil)))))))
  (sRet (eL (fIf (gCmp dEq (fMe isList dCount (fVar 2) (fCons (fC (.bool true)) fNil)) (fC (.int 1))) (fOp dAdd (fC (.str "!")) (fOp ixD (fVar 1) (fMe isList dIndex (fVar 2) (fCons (fC (.bool true)) fNil)))) (fC (.str "!other"))))))))
def m__law_kind (z0 : Str) (q0 : Addr) : List PyData → R PyData := runF 3 (sem__law_kind z0 q0)
theorem fp__law_kind (c : Ctx w K mg)  : ∀ z, z ∈ exNames → FnEE P w K mg base 1 "_law_kind" ["error"] (PpE (He.ga K z)) (m__law_kind z) := by
  intro z0 hz0
  obtain ⟨fd, F⟩ := c.d__law_kind
  have hI := c.hI z0 hz0
  have hC := c.hC z0 hz0
  have h : FnE P w K mg base (L2.CX P w) (0 + 1) (He.ga K "_law_kind") fd ["error"] (PpE (He.ga K z0)) (fun a => spP K (["error"] : List Str).length .F (runF (["error", "names", "found"] : List Str).length (sem__law_kind z0 a))) := by
    refine fnE_core (ks := [false, false, false]) F sc__law_kind (by decide) (by decide) ?_
    intro cdv A outer s H E ⟨q0, o0⟩ hz hr tk
    have hq : (q0, o0) ∈ (L2H.cxH (L2.CX P w) P w K mg base ["error", "names", "found"] "_law_kind" (defScope st__law_kind) (He.ga K "_law_kind") cdv A outer s H E (q0, o0)).pn := List.mem_cons_self ..
    exact (ss_cons (s_set (i := 1) (bk := false) (e_toV (e_lift (p_lst (κ := .F) (a_cons p_str (a_cons p_str (a_cons p_str (a_cons p_str (a_cons p_str (a_cons p_str (a_cons p_str a_nil)))))))))) rfl (by decide) sc__law_kind.nd)
  (ss_cons (s_set (i := 2) (bk := false) (e_toV (e_lift (p_lst (κ := .F) (a_cons (p_isE (q := (q0, o0)) hq hz hC c.f_isinstance c.g_NotStakes (hI "NotStakes" (by decide)) (p_toB (p_varV (i := 0)))) (a_cons (p_isE (q := (q0, o0)) hq hz hC c.f_isinstance c.g_NotTable (hI "NotTable" (by decide)) (p_toB (p_varV (i := 0)))) (a_cons (p_isE (q := (q0, o0)) hq hz hC c.f_isinstance c.g_NotMix (hI "NotMix" (by decide)) (p_toB (p_varV (i := 0)))) (a_cons (p_isE (q := (q0, o0)) hq hz hC c.f_isinstance c.g_NotPaper (hI "NotPaper" (by decide)) (p_toB (p_varV (i := 0)))) a_nil))))))) rfl (by decide) sc__law_kind.nd)
  (ss_cons (s_set (i := 2) (bk := false) (e_toV (e_lift (p_bin o_add (p_toB (p_varV (i := 2))) (p_toB (p_lst (κ := .F) (a_cons (p_isE (q := (q0, o0)) hq hz hC c.f_isinstance c.g_BadNumber (hI "BadNumber" (by decide)) (p_toB (p_varV (i := 0)))) (a_cons (p_isE (q := (q0, o0)) hq hz hC c.f_isinstance c.g_NoAnswer (hI "NoAnswer" (by decide)) (p_toB (p_varV (i := 0)))) (a_cons (p_isE (q := (q0, o0)) hq hz hC c.f_isinstance c.g_TooLarge (hI "TooLarge" (by decide)) (p_toB (p_varV (i := 0)))) a_nil)))))))) rfl (by decide) sc__law_kind.nd)
  (ss_one (s_ret (e_lift (p_if (t_cm (o_eq hr.u64) (p_toB (p_meE PySem.F.plainAttrs_list PySem.F.slot_list_count PySem.F.type_list_count o_count (p_toB (p_varV (i := 2))) (a_cons p_bl a_nil))) p_int) (p_bin o_add p_str (p_toB (p_ix (p_varV (i := 1)) (p_toB (p_meE PySem.F.plainAttrs_list PySem.F.slot_list_index PySem.F.type_list_index (o_index hr.u65) (p_toB (p_varV (i := 2))) (a_cons p_bl a_nil)))))) p_str)))))))
  have b : Binds K fd ["error"] [] := F.bindsN (fun _ _ _ _ _ _ us hl => match us, hl with | [_], _ => rfl)
  exact ⟨_, fd, h, c.g__law_kind, F.kp, b⟩

/-! ### law -/
theorem sc_law : FnScope ["script", "draws", "turn", "terms", "term", "wrong", "line", "word", "small", "kinds", "error", "at", "thing", "sign"] ["script"] (defScope st_law) := ⟨rfl, rfl, rfl, by decide +kernel, rfl, by decide +kernel, by decide +kernel⟩
def sem_law (K : PySem.W.Frag) : FS :=
  (sSeq (sSet 1 (eL (fCall m__law_draws (fCons (fVar 0) fNil))))
  (sSeq (sSet 1 (eCallM 1 m__law_more (eLA (fCons (fC (.int 200)) fNil))))
  (sSeq (sIf (eLT (gCmp dNe (fLst (fCons (fCall m_words_of (fCons (fC (.str "a b")) fNil)) (fCons (fCall m_is_name (fCons (fC (.str "abcdefghijkl")) fNil)) (fCons (fCall m_is_name (fCons (fC (.str "abcdefghijklm")) fNil)) (fCons (fCall m_number_in (fCons (fC (.str "07")) fNil)) (fCons (fCall m_number_in (fCons (fC (.str "99")) fNil)) fNil)))))) (fLst (fCons (fLst (fCons (fC (.str "a")) (fCons (fC (.str "b")) fNil))) (fCons (fC (.bool true)) (fCons (fC (.bool false)) (fCons (fC .none) (fCons (fC (.int 99)) fNil)))))))) (sRet (eL (fC (.bool false))))
  sNil)
  (sSeq (sFor (.nm 2) (eRg (eLA (fCons (fC (.int 6)) fNil))) (sSeq (sSet 6 (eMe isStr dJoin (eL (fC (.str ""))) (eCons (eLc (.nm 11) [11] (eRg (eCons (eOp dMod (eN dInt (eCons (eCallM 1 m__law_next (eLA fNil)) eNil)) (eL (fC (.int 9)))) eNil)) egYes (eCallM 1 m__law_pick (eLA (fCons (fLst (fCons (fC (.str "a")) (fCons (fC (.str "b")) (fCons (fC (.str " ")) (fCons (fC (.str "0")) (fCons (fC (.str "7")) (fCons (fC (.str "~")) (fCons (fC (.str "!")) (fCons (fC (.str "(")) (fCons (fC (.str "A")) (fCons (fC (.str "\t")) (fCons (fC (.str "-")) (fCons (fC (.str "z")) (fCons (fC (.str "  ")) fNil)))))))))))))) fNil)))) eNil)))
  (sSeq (sIf (eLT (gCmp dNe (fN dRepr (fCons (fCall m_words_of (fCons (fVar 6) fNil)) fNil)) (fN dRepr (fCons (fCall m__law_line (fCons (fVar 6) fNil)) fNil)))) (sRet (eL (fC (.bool false))))
  sNil)
  (sSeq (sSet 7 (eMe isStr dJoin (eL (fC (.str ""))) (eCons (eLc (.nm 11) [11] (eRg (eCons (eOp dMod (eN dInt (eCons (eCallM 1 m__law_next (eLA fNil)) eNil)) (eL (fC (.int 15)))) eNil)) egYes (eCallM 1 m__law_pick (eLA (fCons (fLst (fCons (fC (.str "a")) (fCons (fC (.str "k")) (fCons (fC (.str "z")) (fCons (fC (.str "9")) (fCons (fC (.str "0")) (fCons (fC (.str "1")) (fCons (fC (.str "")) (fCons (fC (.str "")) (fCons (fC (.str "B")) fNil)))))))))) fNil)))) eNil)))
  (sSeq (sSet 8 (eL (fAnd (fOfB (gChain dLe dLe (fC (.int 1)) (fN dLen (fCons (fVar 7) fNil)) (fC (.int 12)))) (fN dAll (fCons (fLc (.nm 13) [13] (fIt (fVar 7)) gYes (fOfB (gCmp (dIn false) (fVar 13) (fC (.str "abcdefghijklmnopqrstuvwxyz"))))) fNil)))))
  (sIf (eLT (gCmp dNe (fN dRepr (fCons (fLst (fCons (fCall m_is_name (fCons (fVar 7) fNil)) (fCons (fCall m_number_in (fCons (fVar 7) fNil)) fNil))) fNil)) (fN dRepr (fCons (fLst (fCons (fVar 8) (fCons (fCall m__law_number_of (fCons (fVar 7) fNil)) fNil))) fNil)))) (sRet (eL (fC (.bool false))))
  sNil))))))
  (sSeq (sIf (eLT (gCmp dNe (fLc (.nm 7) [7] (fIt (fLst (fCons (fC (.str "")) (fCons (fC (.str "0")) (fCons (fC (.str "00")) (fCons (fC (.str "100")) (fCons (fC (.str "-1")) (fCons (fC (.str "5")) (fCons (fC (.str "+5")) (fCons (fC (.str " 5")) (fCons (fC (.str "5 ")) fNil))))))))))) gYes (fN dRepr (fCons (fCall m_number_in (fCons (fVar 7) fNil)) fNil))) (fLst (fCons (fC (.str "None")) (fCons (fC (.str "0")) (fCons (fC (.str "None")) (fCons (fC (.str "None")) (fCons (fC (.str "None")) (fCons (fC (.str "5")) (fCons (fC (.str "None")) (fCons (fC (.str "None")) (fCons (fC (.str "None")) fNil)))))))))))) (sRet (eL (fC (.bool false))))
  sNil)
  (sSeq (sSet 3 (eL (fLst (fCons (fTup (fCons (fC (.int 2)) (fCons (fTup (fCons (fC (.int 0)) (fCons (fC (.int 1)) fNil))) fNil))) (fCons (fTup (fCons (fTup (fCons (fC (.int 1)) (fCons (fTup (fCons (fC (.int 1)) (fCons (fC (.int 1)) fNil))) fNil))) (fCons (fTup (fCons (fC (.int 2)) (fCons (fTup (fCons (fC (.int 1)) fNil)) fNil))) fNil))) (fCons (fTup (fCons (fTup (fCons (fC (.int 1)) (fCons (fTup (fCons (fC (.int 1)) (fCons (fC (.int 2)) fNil))) fNil))) (fCons (fTup (fCons (fC (.int 2)) fNil)) fNil))) (fCons (fTup (fCons (fC (.int 0)) (fCons (fC (.int 1)) (fCons (fC (.int 1)) fNil)))) (fCons (fTup (fCons (fTup fNil) (fCons (fTup (fCons (fTup (fCons (fC (.int 1)) fNil)) fNil)) fNil))) fNil))))))))
  (sSeq (sFor (.nm 4) (eIt (eOp dAdd (eOp dAdd (eL (fVar 3)) (eLc (.nm 2) [2] (eRg (eLA (fCons (fC (.int 12)) fNil))) egYes (eCallM 1 (m__law_spoilt 20) (eCons (eCallM 1 m__law_pick (eLA (fCons (fVar 3) fNil))) eNil)))) (eL (fLst (fCons (fTup fNil) (fCons (fC .none) (fCons (fC (.str "")) (fCons (fC (.int 0)) fNil)))))))) (sSeq (sSet 9 (eL (fLst (fCons (fC (.str "rows")) (fCons (fC (.str "game")) (fCons (fC (.str "buyer")) (fCons (fC (.str "row")) fNil)))))))
  (sIf (eLT (gCmp dNe (fLc (.nm 12) [12] (fIt (fVar 9)) gYes (fCall (m_has_form K) (fCons (fVar 12) (fCons (fVar 4) fNil)))) (fLc (.nm 12) [12] (fIt (fVar 9)) gYes (fCall m__law_due (fCons (fVar 12) (fCons (fVar 4) fNil)))))) (sRet (eL (fC (.bool false))))
  sNil)))
  (sSeq (sFor (.nm 5) (eIt (eL (fLst (fCons (fC (.str "")) (fCons (fC (.str "Form")) (fCons (fC (.str "term")) fNil)))))) (sTry exNames 10 [0, 2, 3, 4, 5, 6, 7, 8, 9, 11, 12, 13] (sSeq (sDrop (eL (fCall (m_has_form K) (fCons (fVar 5) (fCons (fTup fNil) fNil)))))
  (sRet (eL (fC (.bool false))))) (fun q0 z0 => (sIf (eLT (gCmp dNe (fCall (m__law_kind z0 q0) (fCons (fVar 10) fNil)) (fC (.str "!number")))) (sRet (eL (fC (.bool false))))
  sNil))))
  (sRet (eL (fC (.bool true))))))))))))
def m_law (K : PySem.W.Frag) : List PyData → R PyData := runF 14 (sem_law K)
theorem body_law (c : Ctx w K mg) (F__law_draws : FnPP P w K mg base 2 "_law_draws" ["script"] .F (m__law_draws)) (F__law_next : FnMM P w K mg base 1 "_law_next" ["draws"] .F (m__law_next)) (F__law_more : FnMM P w K mg base 2 "_law_more" ["draws", "many"] .F (m__law_more)) (F_words_of : FnPP P w K mg base 1 "words_of" ["line"] .V (m_words_of)) (F_is_name : FnPP P w K mg base 1 "is_name" ["word"] .F (m_is_name)) (F_number_in : FnPP P w K mg base 1 "number_in" ["word"] .F (m_number_in)) (F_has_form : FnPP P w K mg base 4 "has_form" ["thing", "term"] .F (m_has_form K)) (F__law_pick : FnMM P w K mg base 2 "_law_pick" ["draws", "some"] .F (m__law_pick)) (F__law_line : FnPP P w K mg base 1 "_law_line" ["line"] .V (m__law_line)) (F__law_spoilt : FnMM P w K mg base 23 "_law_spoilt" ["draws", "term"] .F (m__law_spoilt 20)) (F__law_due : FnPP P w K mg base 3 "_law_due" ["thing", "term"] .F (m__law_due)) (F__law_number_of : FnPP P w K mg base 1 "_law_number_of" ["word"] .F (m__law_number_of)) (F__law_kind : ∀ z, z ∈ exNames → FnEE P w K mg base 1 "_law_kind" ["error"] (PpE (He.ga K z)) (m__law_kind z)) : BodyOk P w K mg base ["script", "draws", "turn", "terms", "term", "wrong", "line", "word", "small", "kinds", "error", "at", "thing", "sign"] "law" (defScope st_law) (He.ga K "law") 23 fun X W => DSs X W [false, true, false, false, false, false, false, false, false, false, false, false, false, false] [] .F (defBody st_law) (sem_law K) := by
  intro cdv A outer s H E hr tk hp
  exact (ss_cons (s_set (i := 1) (bk := true) (e_lift (p_callF F__law_draws tk (hr.mono (by omega)) (a_cons (p_toB (p_varV (i := 0))) a_nil))) rfl (by decide) sc_law.nd)
  (ss_cons (s_set (i := 1) (bk := true) (e_callM (i := 1) F__law_more tk (hr.mono (by omega)) rfl (ea_lift (a_cons p_int a_nil)) (HLe.lift (by repeat (first | exact HL.nil | refine HL.cons ?_)))) rfl (by decide) sc_law.nd)
  (ss_cons (s_if (et_lift (t_cm (o_ne hr.u64) (p_toB (p_lst (κ := .V) (a_cons (p_callV F_words_of tk (hr.mono (by omega)) (a_cons p_str a_nil)) (a_cons (p_toV (p_callF F_is_name tk (hr.mono (by omega)) (a_cons p_str a_nil))) (a_cons (p_toV (p_callF F_is_name tk (hr.mono (by omega)) (a_cons p_str a_nil))) (a_cons (p_toV (p_callF F_number_in tk (hr.mono (by omega)) (a_cons p_str a_nil))) (a_cons (p_toV (p_callF F_number_in tk (hr.mono (by omega)) (a_cons p_str a_nil))) a_nil))))))) (p_toB (p_lst (κ := .F) (a_cons (p_lst (κ := .F) (a_cons p_str (a_cons p_str a_nil))) (a_cons p_bl (a_cons p_bl (a_cons p_non (a_cons p_int a_nil))))))))) (ss_one (s_ret (e_lift p_bl)))
  ss_nil)
  (ss_cons (s_for (t := (.nm 2)) hp rfl (i_range1 (κ := .V) c.f_range (ea_lift (a_cons p_int a_nil)) (HLe.lift (by repeat (first | exact HL.nil | refine HL.cons ?_)))) (pg_name (i := 2) sc_law.nd rfl (by first | exact Or.inl rfl | exact Or.inr rfl)) (ss_cons (s_set (i := 6) (bk := false) (e_toV (e_meE PySem.F.plainAttrs_str PySem.F.slot_str_join PySem.F.type_str_join o_join (e_lift p_str) (ea_cons (e_toV (e_lc (κ := .F) (own := [("at", 11)]) (t := (.nm 11)) rfl sc_law.nd (i_range1 (κ := .V) c.f_range (ea_cons (e_toV (e_bin o_mod (e_toV (e_tyE o_int c.f_int bt_int (ea_cons (e_toV (e_callM (i := 1) F__law_next tk (hr.mono (by omega)) rfl (ea_lift a_nil) (HLe.lift (by repeat (first | exact HL.nil | refine HL.cons ?_))))) ea_nil))) (e_lift p_int))) ea_nil) (by repeat (first | exact HLe.nil | refine HLe.cons ?_))) (blkOk_by (N := ["script", "draws", "turn", "terms", "term", "wrong", "line", "word", "small", "kinds", "error", "at", "thing", "sign"]) (sc := defScope st_law) (by decide +kernel)) (by decide) (by decide) (fun _ _ _ _ _ => (pg_name (i := 11) sc_law.nd rfl (by first | exact Or.inl rfl | exact Or.inr rfl))) (fun _ _ _ _ _ => ets_nil) (fun _ _ _ _ _ => (e_callM (i := 1) F__law_pick takes0' (hr.mono (by omega)) rfl (ea_lift (a_cons (p_toV (p_lst (κ := .F) (a_cons p_str (a_cons p_str (a_cons p_str (a_cons p_str (a_cons p_str (a_cons p_str (a_cons p_str (a_cons p_str (a_cons p_str (a_cons p_str (a_cons p_str (a_cons p_str (a_cons p_str a_nil))))))))))))))) a_nil)) (HLe.lift (by repeat (first | exact HL.nil | refine HL.cons ?_))))))) ea_nil))) rfl (by decide) sc_law.nd)
  (ss_cons (s_if (et_lift (t_cm (o_ne hr.u64) (p_toB (p_biE (o_repr' hr.gd hr.u) c.f_repr bt_repr (a_cons (p_toB (p_callV F_words_of tk (hr.mono (by omega)) (a_cons (p_varV (i := 6)) a_nil))) a_nil))) (p_toB (p_biE (o_repr' hr.gd hr.u) c.f_repr bt_repr (a_cons (p_toB (p_callV F__law_line tk (hr.mono (by omega)) (a_cons (p_varV (i := 6)) a_nil))) a_nil))))) (ss_one (s_ret (e_lift p_bl)))
  ss_nil)
  (ss_cons (s_set (i := 7) (bk := false) (e_toV (e_meE PySem.F.plainAttrs_str PySem.F.slot_str_join PySem.F.type_str_join o_join (e_lift p_str) (ea_cons (e_toV (e_lc (κ := .F) (own := [("at", 11)]) (t := (.nm 11)) rfl sc_law.nd (i_range1 (κ := .V) c.f_range (ea_cons (e_toV (e_bin o_mod (e_toV (e_tyE o_int c.f_int bt_int (ea_cons (e_toV (e_callM (i := 1) F__law_next tk (hr.mono (by omega)) rfl (ea_lift a_nil) (HLe.lift (by repeat (first | exact HL.nil | refine HL.cons ?_))))) ea_nil))) (e_lift p_int))) ea_nil) (by repeat (first | exact HLe.nil | refine HLe.cons ?_))) (blkOk_by (N := ["script", "draws", "turn", "terms", "term", "wrong", "line", "word", "small", "kinds", "error", "at", "thing", "sign"]) (sc := defScope st_law) (by decide +kernel)) (by decide) (by decide) (fun _ _ _ _ _ => (pg_name (i := 11) sc_law.nd rfl (by first | exact Or.inl rfl | exact Or.inr rfl))) (fun _ _ _ _ _ => ets_nil) (fun _ _ _ _ _ => (e_callM (i := 1) F__law_pick takes0' (hr.mono (by omega)) rfl (ea_lift (a_cons (p_toV (p_lst (κ := .F) (a_cons p_str (a_cons p_str (a_cons p_str (a_cons p_str (a_cons p_str (a_cons p_str (a_cons p_str (a_cons p_str (a_cons p_str a_nil))))))))))) a_nil)) (HLe.lift (by repeat (first | exact HL.nil | refine HL.cons ?_))))))) ea_nil))) rfl (by decide) sc_law.nd)
  (ss_cons (s_set (i := 8) (bk := false) (e_toV (e_lift (p_and (p_toB (p_ch o_le o_le p_int (p_toB (p_biE o_len' c.f_len bt_len (a_cons (p_toB (p_varV (i := 7))) a_nil))) p_int)) (p_one (p_biE (o_all' rfl) c.f_all bt_all (a_cons (p_toB (p_lc (κ := .F) (own := [("sign", 13)]) (t := (.nm 13)) rfl sc_law.nd (i_seqP (p_varV (i := 7))) (blkOk_by (N := ["script", "draws", "turn", "terms", "term", "wrong", "line", "word", "small", "kinds", "error", "at", "thing", "sign"]) (sc := defScope st_law) (by decide +kernel)) (by decide) (by decide) (fun _ _ _ _ _ => (pg_name (i := 13) sc_law.nd rfl (by first | exact Or.inl rfl | exact Or.inr rfl))) (fun _ _ _ _ _ => ts_nil) (fun _ _ _ _ _ => (p_cm (o_in hr.u65) (p_toB (p_varV (i := 13))) p_str)))) a_nil)))))) rfl (by decide) sc_law.nd)
  (ss_one (s_if (et_lift (t_cm (o_ne hr.u64) (p_toB (p_biE (o_repr' hr.gd hr.u) c.f_repr bt_repr (a_cons (p_toB (p_lst (κ := .F) (a_cons (p_callF F_is_name tk (hr.mono (by omega)) (a_cons (p_toB (p_varV (i := 7))) a_nil)) (a_cons (p_callF F_number_in tk (hr.mono (by omega)) (a_cons (p_toB (p_varV (i := 7))) a_nil)) a_nil)))) a_nil))) (p_toB (p_biE (o_repr' hr.gd hr.u) c.f_repr bt_repr (a_cons (p_toB (p_lst (κ := .V) (a_cons (p_varV (i := 8)) (a_cons (p_toV (p_callF F__law_number_of tk (hr.mono (by omega)) (a_cons (p_toB (p_varV (i := 7))) a_nil))) a_nil)))) a_nil))))) (ss_one (s_ret (e_lift p_bl)))
  ss_nil)))))))
  (ss_cons (s_if (et_lift (t_cm (o_ne hr.u64) (p_toB (p_lc (κ := .F) (own := [("word", 7)]) (t := (.nm 7)) rfl sc_law.nd (i_seqP (p_toV (p_lst (κ := .F) (a_cons p_str (a_cons p_str (a_cons p_str (a_cons p_str (a_cons p_str (a_cons p_str (a_cons p_str (a_cons p_str (a_cons p_str a_nil)))))))))))) (blkOk_by (N := ["script", "draws", "turn", "terms", "term", "wrong", "line", "word", "small", "kinds", "error", "at", "thing", "sign"]) (sc := defScope st_law) (by decide +kernel)) (by decide) (by decide) (fun _ _ _ _ _ => (pg_name (i := 7) sc_law.nd rfl (by first | exact Or.inl rfl | exact Or.inr rfl))) (fun _ _ _ _ _ => ts_nil) (fun _ _ _ _ _ => (p_biE (o_repr' hr.gd hr.u) c.f_repr bt_repr (a_cons (p_toB (p_callF F_number_in takes0' (hr.mono (by omega)) (a_cons (p_toB (p_varV (i := 7))) a_nil))) a_nil))))) (p_toB (p_lst (κ := .F) (a_cons p_str (a_cons p_str (a_cons p_str (a_cons p_str (a_cons p_str (a_cons p_str (a_cons p_str (a_cons p_str (a_cons p_str a_nil))))))))))))) (ss_one (s_ret (e_lift p_bl)))
  ss_nil)
  (ss_cons (s_set (i := 3) (bk := false) (e_toV (e_lift (p_lst (κ := .F) (a_cons (p_tup (κ := .F) (a_cons p_int (a_cons (p_tup (κ := .F) (a_cons p_int (a_cons p_int a_nil))) a_nil))) (a_cons (p_tup (κ := .F) (a_cons (p_tup (κ := .F) (a_cons p_int (a_cons (p_tup (κ := .F) (a_cons p_int (a_cons p_int a_nil))) a_nil))) (a_cons (p_tup (κ := .F) (a_cons p_int (a_cons (p_tup (κ := .F) (a_cons p_int a_nil)) a_nil))) a_nil))) (a_cons (p_tup (κ := .F) (a_cons (p_tup (κ := .F) (a_cons p_int (a_cons (p_tup (κ := .F) (a_cons p_int (a_cons p_int a_nil))) a_nil))) (a_cons (p_tup (κ := .F) (a_cons p_int a_nil)) a_nil))) (a_cons (p_tup (κ := .F) (a_cons p_int (a_cons p_int (a_cons p_int a_nil)))) (a_cons (p_tup (κ := .F) (a_cons (p_tup a_nil) (a_cons (p_tup (κ := .F) (a_cons (p_tup (κ := .F) (a_cons p_int a_nil)) a_nil)) a_nil))) a_nil)))))))) rfl (by decide) sc_law.nd)
  (ss_cons (s_for (t := (.nm 4)) hp rfl (i_seq (e_toV (e_bin o_add (e_toV (e_bin o_add (e_lift (p_varV (i := 3))) (e_toB (e_lc (κ := .F) (own := [("turn", 2)]) (t := (.nm 2)) rfl sc_law.nd (i_range1 (κ := .V) c.f_range (ea_lift (a_cons p_int a_nil)) (HLe.lift (by repeat (first | exact HL.nil | refine HL.cons ?_)))) (blkOk_by (N := ["script", "draws", "turn", "terms", "term", "wrong", "line", "word", "small", "kinds", "error", "at", "thing", "sign"]) (sc := defScope st_law) (by decide +kernel)) (by decide) (by decide) (fun _ _ _ _ _ => (pg_name (i := 2) sc_law.nd rfl (by first | exact Or.inl rfl | exact Or.inr rfl))) (fun _ _ _ _ _ => ets_nil) (fun _ _ _ _ _ => (e_callM (i := 1) F__law_spoilt takes0' (hr.mono (by omega)) rfl (ea_cons (e_toV (e_callM (i := 1) F__law_pick takes0' (hr.mono (by omega)) rfl (ea_lift (a_cons (p_varV (i := 3)) a_nil)) (HLe.lift (by repeat (first | exact HL.nil | refine HL.cons ?_))))) ea_nil) (by repeat (first | exact HLe.nil | refine HLe.cons ?_)))))))) (e_toB (e_lift (p_lst (κ := .F) (a_cons (p_tup a_nil) (a_cons p_non (a_cons p_str (a_cons p_int a_nil)))))))))) (pg_name (i := 4) sc_law.nd rfl (by first | exact Or.inl rfl | exact Or.inr rfl)) (ss_cons (s_set (i := 9) (bk := false) (e_toV (e_lift (p_lst (κ := .F) (a_cons p_str (a_cons p_str (a_cons p_str (a_cons p_str a_nil))))))) rfl (by decide) sc_law.nd)
  (ss_one (s_if (et_lift (t_cm (o_ne hr.u64) (p_toB (p_lc (κ := .F) (own := [("thing", 12)]) (t := (.nm 12)) rfl sc_law.nd (i_seqP (p_varV (i := 9))) (blkOk_by (N := ["script", "draws", "turn", "terms", "term", "wrong", "line", "word", "small", "kinds", "error", "at", "thing", "sign"]) (sc := defScope st_law) (by decide +kernel)) (by decide) (by decide) (fun _ _ _ _ _ => (pg_name (i := 12) sc_law.nd rfl (by first | exact Or.inl rfl | exact Or.inr rfl))) (fun _ _ _ _ _ => ts_nil) (fun _ _ _ _ _ => (p_callF F_has_form takes0' (hr.mono (by omega)) (a_cons (p_toB (p_varV (i := 12))) (a_cons (p_toB (p_varV (i := 4))) a_nil)))))) (p_toB (p_lc (κ := .F) (own := [("thing", 12)]) (t := (.nm 12)) rfl sc_law.nd (i_seqP (p_varV (i := 9))) (blkOk_by (N := ["script", "draws", "turn", "terms", "term", "wrong", "line", "word", "small", "kinds", "error", "at", "thing", "sign"]) (sc := defScope st_law) (by decide +kernel)) (by decide) (by decide) (fun _ _ _ _ _ => (pg_name (i := 12) sc_law.nd rfl (by first | exact Or.inl rfl | exact Or.inr rfl))) (fun _ _ _ _ _ => ts_nil) (fun _ _ _ _ _ => (p_callF F__law_due takes0' (hr.mono (by omega)) (a_cons (p_toB (p_varV (i := 12))) (a_cons (p_toB (p_varV (i := 4))) a_nil)))))))) (ss_one (s_ret (e_lift p_bl)))
  ss_nil))))
  (ss_cons (s_for (t := (.nm 5)) hp rfl (i_seq (e_toV (e_lift (p_lst (κ := .F) (a_cons p_str (a_cons p_str (a_cons p_str a_nil))))))) (pg_name (i := 5) sc_law.nd rfl (by first | exact Or.inl rfl | exact Or.inr rfl)) (ss_one (s_try (xs := exNames) (i := 10) (P := [0, 2, 3, 4, 5, 6, 7, 8, 9, 11, 12, 13]) sc_law.nd tk c.g_StakeError c.tr_StakeError (fun _ _ _ tk hp => (ss_cons (s_expr (e_lift (p_callF F_has_form tk (hr.mono (by omega)) (a_cons (p_toB (p_varV (i := 5))) (a_cons (p_tup a_nil) a_nil)))))
  (ss_one (s_ret (e_lift p_bl))))) (fun q0 o0 z0 pn hz0 hz => (ss_one (s_if (et_lift (t_cm (o_ne hr.u64) (p_toB (p_callE (q := (q0, o0)) (F__law_kind z0 hz0) takes0' (hr.hot.mono (by omega)) (List.mem_cons_self ..) hz (a_cons (p_toB (p_varV (i := 10))) a_nil))) p_str)) (ss_one (s_ret (e_lift p_bl)))
  ss_nil))))))
  (ss_one (s_ret (e_lift p_bl)))))))))))
theorem fp_law (c : Ctx w K mg) (F__law_draws : FnPP P w K mg base 2 "_law_draws" ["script"] .F (m__law_draws)) (F__law_next : FnMM P w K mg base 1 "_law_next" ["draws"] .F (m__law_next)) (F__law_more : FnMM P w K mg base 2 "_law_more" ["draws", "many"] .F (m__law_more)) (F_words_of : FnPP P w K mg base 1 "words_of" ["line"] .V (m_words_of)) (F_is_name : FnPP P w K mg base 1 "is_name" ["word"] .F (m_is_name)) (F_number_in : FnPP P w K mg base 1 "number_in" ["word"] .F (m_number_in)) (F_has_form : FnPP P w K mg base 4 "has_form" ["thing", "term"] .F (m_has_form K)) (F__law_pick : FnMM P w K mg base 2 "_law_pick" ["draws", "some"] .F (m__law_pick)) (F__law_line : FnPP P w K mg base 1 "_law_line" ["line"] .V (m__law_line)) (F__law_spoilt : FnMM P w K mg base 23 "_law_spoilt" ["draws", "term"] .F (m__law_spoilt 20)) (F__law_due : FnPP P w K mg base 3 "_law_due" ["thing", "term"] .F (m__law_due)) (F__law_number_of : FnPP P w K mg base 1 "_law_number_of" ["word"] .F (m__law_number_of)) (F__law_kind : ∀ z, z ∈ exNames → FnEE P w K mg base 1 "_law_kind" ["error"] (PpE (He.ga K z)) (m__law_kind z)) : FnPP P w K mg base 24 "law" ["script"] .F (m_law K) := by
  obtain ⟨fd, F⟩ := c.d_law
  have h : FnG P w K mg base (L2.CX P w) (23 + 1) (He.ga K "law") fd ["script"] (spP K (["script"] : List Str).length .F (runF (["script", "draws", "turn", "terms", "term", "wrong", "line", "word", "small", "kinds", "error", "at", "thing", "sign"] : List Str).length (sem_law K))) := fnP (P := P) (w := w) (base := base) (mg := mg) (ks := [false, true, false, false, false, false, false, false, false, false, false, false, false, false]) (k := 23) F sc_law (by decide) (by decide) (by decide) (body_law c F__law_draws F__law_next F__law_more F_words_of F_is_name F_number_in F_has_form F__law_pick F__law_line F__law_spoilt F__law_due F__law_number_of F__law_kind)
  have b : Binds K fd ["script"] [] := F.bindsN (fun _ _ _ _ _ _ us hl => match us, hl with | [_], _ => rfl)
  exact ⟨_, fd, h, c.g_law, F.kp, b⟩

/-! ### together -/
theorem fg_all (c : Ctx w K mg) {fd : FuncData} (F : FunD K "law" "law" (defArgs st_law) (defBody st_law) (defScope st_law) [] [] (He.ga K "law") fd) : FnG P w K mg base (L2.CX P w) 24 (He.ga K "law") fd ["script"] (spP K 1 .F (m_law K)) := by
  have F__law_number := fp__law_number (P := P) (base := base) c 
  have F__law_draws := fp__law_draws (P := P) (base := base) c F__law_number
  have F__law_next := fp__law_next (P := P) (base := base) c 
  have F__law_more := fp__law_more (P := P) (base := base) c F__law_next
  have F_words_of := fp_words_of (P := P) (base := base) c 
  have F_is_name := fp_is_name (P := P) (base := base) c 
  have F_number_in := fp_number_in (P := P) (base := base) c 
  have F_is_integer := fp_is_integer (P := P) (base := base) c 
  have F_is_row := fp_is_row (P := P) (base := base) c F_is_integer
  have F_are_pairs := fp_are_pairs (P := P) (base := base) c F_is_row
  have F_is_told_game := fp_is_told_game (P := P) (base := base) c F_is_integer F_is_row
  have F_is_told_buyer := fp_is_told_buyer (P := P) (base := base) c F_is_integer F_is_row
  have F_has_form := fp_has_form (P := P) (base := base) c F_is_row F_are_pairs F_is_told_game F_is_told_buyer
  have F__law_pick := fp__law_pick (P := P) (base := base) c F__law_next
  have F__law_line := fp__law_line (P := P) (base := base) c 
  have F__law_spoilt := fp__law_spoilt (P := P) (base := base) c F__law_next F__law_pick 20
  have F__law_is_row := fp__law_is_row (P := P) (base := base) c 
  have F__law_are_pairs := fp__law_are_pairs (P := P) (base := base) c F__law_is_row
  have F__law_due := fp__law_due (P := P) (base := base) c F__law_is_row F__law_are_pairs
  have F__law_number_of := fp__law_number_of (P := P) (base := base) c 
  have F__law_kind := fp__law_kind (P := P) (base := base) c 
  have h : FnG P w K mg base (L2.CX P w) (23 + 1) (He.ga K "law") fd ["script"] (spP K (["script"] : List Str).length .F (runF (["script", "draws", "turn", "terms", "term", "wrong", "line", "word", "small", "kinds", "error", "at", "thing", "sign"] : List Str).length (sem_law K))) := fnP (P := P) (w := w) (base := base) (mg := mg) (ks := [false, true, false, false, false, false, false, false, false, false, false, false, false, false]) (k := 23) F sc_law (by decide) (by decide) (by decide) (body_law c F__law_draws F__law_next F__law_more F_words_of F_is_name F_number_in F_has_form F__law_pick F__law_line F__law_spoilt F__law_due F__law_number_of F__law_kind)
  exact h
end PV
end

set_option Elab.async false
set_option linter.all false
set_option maxRecDepth 100000
set_option maxHeartbeats 1000000
set_option autoImplicit false
/-! k21: terms. -/
noncomputable section
namespace PV
open PySem PySem.Spec PyProof.Rows L2
/-- terms of none, ints, texts, tuples: of at most n items, at most k deep -/
def Tm (n : Nat) : Nat → PyData → Bool
  | _, .none => true
  | _, .int _ => true
  | _, .str x => PyData.strOk x
  | k + 1, .tuple ds => decide (ds.length ≤ n) && ds.all (Tm n k)
  | _, _ => false
def isI : PyData → Bool
  | .int _ => true
  | _ => false
def isT : PyData → Bool
  | .tuple _ => true
  | _ => false
theorem kb1 : kitB "NoneType" "tuple" = some false := by kernel_rfl
theorem kb2 : kitB "int" "tuple" = some false := by kernel_rfl
theorem kb3 : kitB "str" "tuple" = some false := by kernel_rfl
theorem kb4 : kitB "tuple" "tuple" = some true := by kernel_rfl
theorem kb5 : kitB "NoneType" "int" = some false := by kernel_rfl
theorem kb6 : kitB "int" "int" = some true := by kernel_rfl
theorem kb7 : kitB "str" "int" = some false := by kernel_rfl
theorem kb8 : kitB "tuple" "int" = some false := by kernel_rfl
theorem isi_t {n k : Nat} {d : PyData} (h : Tm n k d = true) : isiD "tuple" d = some (isT d) := by
  cases d with
  | none => exact kb1
  | int i => exact kb2
  | str x => exact kb3
  | tuple ds => exact kb4
  | _ => cases k <;> cases h
theorem isi_i {n k : Nat} {d : PyData} (h : Tm n k d = true) : isiD "int" d = some (isI d) := by
  cases d with
  | none => exact kb5
  | int i => exact kb6
  | str x => exact kb7
  | tuple ds => exact kb8
  | _ => cases k <;> cases h
theorem Tm.tup {n k : Nat} {ds : List PyData} (h : Tm n k (.tuple ds) = true) : ∃ j, k = j + 1 ∧ ds.length ≤ n ∧ ∀ d ∈ ds, Tm n j d = true := by
  cases k with
  | zero => cases h
  | succ j =>
    simp only [Tm, Bool.and_eq_true, decide_eq_true_eq, List.all_eq_true] at h
    exact ⟨j, rfl, h.1, h.2⟩
theorem asBools_map {g : PyData → Bool} : ∀ (ds : List PyData), asBools (ds.map fun e => .bool (g e)) = some (ds.map g)
  | [] => rfl
  | d :: ds => by simp [asBools, asBools_map ds]
@[simp] theorem fAnd_ok {f g : Env → R PyData} {ρ : Env} : fAnd f g ρ = f ρ >>= asB >>= fun c => if c then g ρ else .ok (.bool false) := id rfl
@[simp] theorem fIsi_ok {T : String} {f : Env → R PyData} {ρ : Env} : fIsi T f ρ = f ρ >>= fun x => ofO (isiD T x) >>= fun b => .ok (.bool b) := id rfl
@[simp] theorem asB_bool {b : Bool} : asB (.bool b) = .ok b := id rfl
/-- all([fe for x in the tuple]) -/
theorem all_ok {t : Tg} {own : List Nat} {fi : Env → R (List PyData)} {fe : Env → R PyData} {ρ : Env} {ds : List PyData} {g : PyData → Bool} (hi : fi ρ = .ok ds) (hl : ds.length ≤ 1000) (h : ∀ d ∈ ds, ∃ ρ1, put t d (wipeE ρ own) = .ok ρ1 ∧ fe ρ1 = .ok (.bool (g d))) :
    fN dAll (fCons (fLc t own fi gYes fe) fNil) ρ = .ok (.bool (ds.all g)) := by
  have e : fLcL t own gYes fe ρ ds = .ok (ds.map fun e => .bool (g e)) := plc_map _ ds h
  have z : (ds.map fun e => PyData.bool (g e)).length ≤ sizeLine := by rw [List.length_map, sz]; omega
  have e2 : fLc t own fi gYes fe ρ = .ok (.list (ds.map fun e => .bool (g e))) := by
    unfold fLc
    rw [hi]
    simp only [ok_bind, e]
    exact if_pos z
  simp [e2, dAll, asBools_map, Function.comp_def]
theorem integer_ok {n k : Nat} {d : PyData} (h : Tm n k d = true) : m_is_integer [d] = .ok (.bool (isI d)) := by
  simp [m_is_integer, runF, sem_is_integer, rho0, isi_i h, endV]
def isRow : PyData → Bool
  | .tuple ds => ds.all isI
  | _ => false
theorem row_ok {n k : Nat} {d : PyData} (h : Tm n k d = true) (hn : n ≤ 1000) : m_is_row [d] = .ok (.bool (isRow d)) := by
  by_cases ht : isT d = true
  · cases d with
    | tuple ds =>
      obtain ⟨j, rfl, hl, hd⟩ := Tm.tup h
      have a := all_ok (t := .nm 1) (own := [1]) (fi := fIt (fVar 0)) (fe := fCall m_is_integer (fCons (fVar 1) fNil)) (ρ := [some (.tuple ds), none]) (ds := ds) (g := isI) (by simp [fIt, itemsD]) (by omega) (fun d hd' => ⟨[some (.tuple ds), some d], rfl, by simp [integer_ok (hd d hd')]⟩)
      have e := isi_t h
      show (sem_is_row [some (.tuple ds), none] >>= fun r => endV r.1) = _
      simp only [sem_is_row, sRet_ok, eL_ok, fAnd_ok, fIsi_ok, fVar_zero, ok_bind, e, ofO_some, asB_bool, isT, if_true, a]
      rfl
    | _ => cases ht
  · have e := isi_t h
    rw [Bool.not_eq_true] at ht
    rw [ht] at e
    have er : isRow d = false := by cases d <;> first | rfl | cases ht
    rw [er]
    show (sem_is_row [some d, none] >>= fun r => endV r.1) = _
    simp only [sem_is_row, sRet_ok, eL_ok, fAnd_ok, fIsi_ok, fVar_zero, ok_bind, e, ofO_some, asB_bool, if_false, Bool.false_eq_true]
    rfl
theorem lrow_ok {n k : Nat} {d : PyData} (h : Tm n k d = true) (hn : n ≤ 1000) : m__law_is_row [d] = .ok (.bool (isRow d)) := by
  by_cases ht : isT d = true
  · cases d with
    | tuple ds =>
      obtain ⟨j, rfl, hl, hd⟩ := Tm.tup h
      have a := all_ok (t := .nm 1) (own := [1]) (fi := fIt (fVar 0)) (fe := fIsi "int" (fVar 1)) (ρ := [some (.tuple ds), none]) (ds := ds) (g := isI) (by simp [fIt, itemsD]) (by omega) (fun d hd' => ⟨[some (.tuple ds), some d], rfl, by simp [isi_i (hd d hd')]⟩)
      have e := isi_t h
      show (sem__law_is_row [some (.tuple ds), none] >>= fun r => endV r.1) = _
      simp only [sem__law_is_row, sRet_ok, eL_ok, fAnd_ok, fIsi_ok, fVar_zero, ok_bind, e, ofO_some, asB_bool, isT, if_true, a]
      rfl
    | _ => cases ht
  · have e := isi_t h
    rw [Bool.not_eq_true] at ht
    rw [ht] at e
    have er : isRow d = false := by cases d <;> first | rfl | cases ht
    rw [er]
    show (sem__law_is_row [some d, none] >>= fun r => endV r.1) = _
    simp only [sem__law_is_row, sRet_ok, eL_ok, fAnd_ok, fIsi_ok, fVar_zero, ok_bind, e, ofO_some, asB_bool, if_false, Bool.false_eq_true]
    rfl
def isRows : PyData → Bool
  | .tuple ds => ds.all isRow
  | _ => false
theorem rows_ok {n k : Nat} {d : PyData} (h : Tm n k d = true) (hn : n ≤ 1000) : m_are_pairs [d] = .ok (.bool (isRows d)) := by
  by_cases ht : isT d = true
  · cases d with
    | tuple ds =>
      obtain ⟨j, rfl, hl, hd⟩ := Tm.tup h
      have a := all_ok (t := .nm 1) (own := [1]) (fi := fIt (fVar 0)) (fe := fCall m_is_row (fCons (fVar 1) fNil)) (ρ := [some (.tuple ds), none]) (ds := ds) (g := isRow) (by simp [fIt, itemsD]) (by omega) (fun d hd' => ⟨[some (.tuple ds), some d], rfl, by simp [row_ok (hd d hd') hn]⟩)
      have e := isi_t h
      show (sem_are_pairs [some (.tuple ds), none] >>= fun r => endV r.1) = _
      simp only [sem_are_pairs, sRet_ok, eL_ok, fAnd_ok, fIsi_ok, fVar_zero, ok_bind, e, ofO_some, asB_bool, isT, if_true, a]
      rfl
    | _ => cases ht
  · have e := isi_t h
    rw [Bool.not_eq_true] at ht
    rw [ht] at e
    have er : isRows d = false := by cases d <;> first | rfl | cases ht
    rw [er]
    show (sem_are_pairs [some d, none] >>= fun r => endV r.1) = _
    simp only [sem_are_pairs, sRet_ok, eL_ok, fAnd_ok, fIsi_ok, fVar_zero, ok_bind, e, ofO_some, asB_bool, if_false, Bool.false_eq_true]
    rfl
theorem lrows_ok {n k : Nat} {d : PyData} (h : Tm n k d = true) (hn : n ≤ 1000) : m__law_are_pairs [d] = .ok (.bool (isRows d)) := by
  by_cases ht : isT d = true
  · cases d with
    | tuple ds =>
      obtain ⟨j, rfl, hl, hd⟩ := Tm.tup h
      have a := all_ok (t := .nm 1) (own := [1]) (fi := fIt (fVar 0)) (fe := fCall m__law_is_row (fCons (fVar 1) fNil)) (ρ := [some (.tuple ds), none]) (ds := ds) (g := isRow) (by simp [fIt, itemsD]) (by omega) (fun d hd' => ⟨[some (.tuple ds), some d], rfl, by simp [lrow_ok (hd d hd') hn]⟩)
      have e := isi_t h
      show (sem__law_are_pairs [some (.tuple ds), none] >>= fun r => endV r.1) = _
      simp only [sem__law_are_pairs, sRet_ok, eL_ok, fAnd_ok, fIsi_ok, fVar_zero, ok_bind, e, ofO_some, asB_bool, isT, if_true, a]
      rfl
    | _ => cases ht
  · have e := isi_t h
    rw [Bool.not_eq_true] at ht
    rw [ht] at e
    have er : isRows d = false := by cases d <;> first | rfl | cases ht
    rw [er]
    show (sem__law_are_pairs [some d, none] >>= fun r => endV r.1) = _
    simp only [sem__law_are_pairs, sRet_ok, eL_ok, fAnd_ok, fIsi_ok, fVar_zero, ok_bind, e, ofO_some, asB_bool, if_false, Bool.false_eq_true]
    rfl
def isGame : PyData → Bool
  | .tuple [a, b] => isI a && isRow b
  | _ => false
/-- the test of a game, whatever slot holds the term -/
theorem game_core {n k : Nat} {d : PyData} (h : Tm n k d = true) (hn : n ≤ 1000) {v : Env → R PyData} {ρ : Env} (hv : v ρ = .ok d) {fi fr : Env → R PyData} (hi : ∀ ds, d = .tuple ds → ∀ a b, ds = [a, b] → fi ρ = .ok (.bool (isI a))) (hr : ∀ ds, d = .tuple ds → ∀ a b, ds = [a, b] → fr ρ = .ok (.bool (isRow b))) :
    fAnd (fIsi "tuple" v) (fAnd (fOfB (gCmp dEq (fN dLen (fCons v fNil)) (fC (.int 2)))) (fAnd fi fr)) ρ = .ok (.bool (isGame d)) := by
  have e := isi_t h
  by_cases ht : isT d = true
  · cases d with
    | tuple ds =>
      have hl : dLen [.tuple ds] = some (.int ds.length) := rfl
      simp only [fAnd_ok, fIsi_ok, hv, ok_bind, e, ofO_some, asB_bool, isT, if_true, fOfB, gCmp_ok, fN_ok, fCons_ok, fNil_ok, hl, fC_ok, dEq_int]
      match ds, hi, hr with
      | [a, b], hi, hr =>
        have h1 := hi _ rfl a b rfl
        have h2 := hr _ rfl a b rfl
        simp only [List.length_cons, List.length_nil, h1, h2]
        cases q : isI a <;> simp [isGame, q]
      | [], _, _ => rfl
      | [_], _, _ => rfl
      | _ :: _ :: _ :: r, _, _ =>
        have : ((((r.length + 1 + 1 + 1 : Nat)) : Int) == 2) = false := by simp; omega
        simp only [List.length_cons, this]
        rfl
    | _ => cases ht
  · rw [Bool.not_eq_true] at ht
    rw [ht] at e
    have er : isGame d = false := by cases d <;> first | rfl | cases ht
    rw [er]
    simp only [fAnd_ok, fIsi_ok, hv, ok_bind, e, ofO_some, asB_bool, if_false, Bool.false_eq_true]
theorem Tm.mem2 {n k : Nat} {a b : PyData} (h : Tm n k (.tuple [a, b]) = true) : ∃ j, Tm n j a = true ∧ Tm n j b = true := by
  obtain ⟨j, _, _, hd⟩ := Tm.tup h
  exact ⟨j, hd a (by simp), hd b (by simp)⟩
theorem game_ok {n k : Nat} {d : PyData} (h : Tm n k d = true) (hn : n ≤ 1000) : m_is_told_game [d] = .ok (.bool (isGame d)) := by
  have c := game_core h hn (v := fVar 0) (ρ := [some d]) rfl (fi := fCall m_is_integer (fCons (fOp ixD (fVar 0) (fC (.int 0))) fNil)) (fr := fCall m_is_row (fCons (fOp ixD (fVar 0) (fC (.int 1))) fNil))
    (fun ds e a b e2 => by subst e e2; obtain ⟨j, h1, h2⟩ := Tm.mem2 h; exact (show m_is_integer [a] = _ from integer_ok h1))
    (fun ds e a b e2 => by subst e e2; obtain ⟨j, h1, h2⟩ := Tm.mem2 h; exact (show m_is_row [b] = _ from row_ok h2 hn))
  show (sem_is_told_game [some d] >>= fun r => endV r.1) = _
  simp only [sem_is_told_game, sRet_ok, eL_ok, c, ok_bind]
  rfl
def is2 : PyData → Bool
  | .tuple [_, _] => true
  | _ => false
theorem two_core {n k : Nat} {d : PyData} (h : Tm n k d = true) {v : Env → R PyData} {ρ : Env} (hv : v ρ = .ok d) : fAnd (fIsi "tuple" v) (fOfB (gCmp dEq (fN dLen (fCons v fNil)) (fC (.int 2)))) ρ = .ok (.bool (is2 d)) := by
  have e := isi_t h
  by_cases ht : isT d = true
  · cases d with
    | tuple ds =>
      have hl : dLen [.tuple ds] = some (.int ds.length) := rfl
      simp only [fAnd_ok, fIsi_ok, hv, ok_bind, e, ofO_some, asB_bool, isT, if_true, fOfB, gCmp_ok, fN_ok, fCons_ok, fNil_ok, hl, fC_ok, dEq_int]
      match ds with
      | [a, b] => rfl
      | [] => rfl
      | [_] => rfl
      | _ :: _ :: _ :: r =>
        have : ((((r.length + 1 + 1 + 1 : Nat)) : Int) == 2) = false := by simp; omega
        simp only [List.length_cons, this]
        rfl
    | _ => cases ht
  · rw [Bool.not_eq_true] at ht
    rw [ht] at e
    have er : is2 d = false := by cases d <;> first | rfl | cases ht
    rw [er]
    simp only [fAnd_ok, fIsi_ok, hv, ok_bind, e, ofO_some, asB_bool, if_false, Bool.false_eq_true]
def isIR : PyData → Bool
  | .tuple [a, b] => isI a && isRow b
  | _ => false
def isBuyer : PyData → Bool
  | .tuple ds => ds.all is2 && ds.all isIR
  | _ => false
theorem is2_eq {d : PyData} (h : is2 d = true) : ∃ a b, d = .tuple [a, b] := by
  unfold is2 at h
  split at h
  · exact ⟨_, _, rfl⟩
  · cases h
/-- the buyer's body: v the term, fe the first test, fe2 the second -/
theorem buyer_core {n k : Nat} {d : PyData} (h : Tm n k d = true) (hn : n ≤ 1000) {v fe fe2 : Env → R PyData} {t t2 : Tg} {o1 o2 : List Nat} {ρ : Env} (hv : v ρ = .ok d)
    (h1 : ∀ ds, d = .tuple ds → ∀ e ∈ ds, ∃ ρ1, put t e (wipeE ρ o1) = .ok ρ1 ∧ fe ρ1 = .ok (.bool (is2 e)))
    (h2 : ∀ ds, d = .tuple ds → (∀ e ∈ ds, is2 e = true) → ∀ e ∈ ds, ∃ ρ1, put t2 e (wipeE ρ o2) = .ok ρ1 ∧ fe2 ρ1 = .ok (.bool (isIR e))) :
    sSeq (sIf (eLT (gOr (gNot (gTru dTru (fIsi "tuple" v))) (gNot (gTru dTru (fN dAll (fCons (fLc t o1 (fIt v) gYes fe) fNil)))))) (sRet (eL (fC (.bool false)))) sNil)
      (sRet (eL (fN dAll (fCons (fLc t2 o2 (fIt v) gYes fe2) fNil)))) ρ = .ok (.rt (.bool (isBuyer d)), ρ) := by
  have e := isi_t h
  by_cases ht : isT d = true
  · cases d with
    | tuple ds =>
      obtain ⟨j, rfl, hl, hd⟩ := Tm.tup h
      have hi : fIt v ρ = .ok ds := by unfold fIt; rw [hv]; rfl
      have a1 := all_ok hi (by omega) (h1 ds rfl)
      have t1 : dTru (.bool (ds.all is2)) = some (ds.all is2) := rfl
      have t2' : dTru (.bool true) = some true := rfl
      rw [sSeq_ok, sIf_ok, eLT_ok, gOr_ok, gNot_ok, gNot_ok, gTru_ok, gTru_ok, fIsi_ok, hv, ok_bind, e]
      simp only [ofO_some, ok_bind, isT, t2', Bool.not_true, Bool.false_eq_true, if_false, a1, t1]
      by_cases q : ds.all is2 = true
      · have a2 := all_ok hi (by omega) (h2 ds rfl fun x hx => List.all_eq_true.mp q x hx)
        have eb : isBuyer (.tuple ds) = ds.all isIR := by simp only [isBuyer, q, Bool.true_and]
        simp only [q, Bool.not_true, Bool.false_eq_true, if_false, sNil_ok, ok_bind, sRet_ok, eL_ok, a2, eb]
      · rw [Bool.not_eq_true] at q
        have eb : isBuyer (.tuple ds) = false := by simp only [isBuyer, q, Bool.false_and]
        simp only [q, Bool.not_false, if_true, sRet_ok, eL_ok, fC_ok, ok_bind, eb]
    | _ => cases ht
  · rw [Bool.not_eq_true] at ht
    rw [ht] at e
    have er : isBuyer d = false := by cases d <;> first | rfl | cases ht
    have t2' : dTru (.bool false) = some false := rfl
    rw [er, sSeq_ok, sIf_ok, eLT_ok, gOr_ok, gNot_ok, gTru_ok, fIsi_ok, hv, ok_bind, e]
    simp only [ofO_some, ok_bind, t2', Bool.not_false, if_true, sRet_ok, eL_ok, fC_ok]
theorem buyer_ok {n k : Nat} {d : PyData} (h : Tm n k d = true) (hn : n ≤ 1000) : m_is_told_buyer [d] = .ok (.bool (isBuyer d)) := by
  have c := buyer_core h hn (v := fVar 0) (ρ := [some d, none, none, none]) rfl (t := .nm 3) (o1 := [3]) (t2 := .tp [.nm 1, .nm 2]) (o2 := [1, 2])
    (fe := fAnd (fIsi "tuple" (fVar 3)) (fOfB (gCmp dEq (fN dLen (fCons (fVar 3) fNil)) (fC (.int 2))))) (fe2 := fAnd (fCall m_is_integer (fCons (fVar 1) fNil)) (fCall m_is_row (fCons (fVar 2) fNil)))
    (fun ds e x hx => by subst e; obtain ⟨j, _, _, hd⟩ := Tm.tup h; exact ⟨[some (.tuple ds), none, none, some x], rfl, two_core (hd x hx) rfl⟩)
    (fun ds e h2 x hx => by
      subst e
      obtain ⟨j, _, _, hd⟩ := Tm.tup h
      obtain ⟨a, b, rfl⟩ := is2_eq (h2 x hx)
      obtain ⟨i, ha, hb⟩ := Tm.mem2 (hd _ hx)
      refine ⟨[some (.tuple ds), some a, some b, none], by simp [put, puts, wipeE], ?_⟩
      have r1 := integer_ok ha
      have r2 := row_ok hb hn
      simp only [fAnd_ok, fCall_ok, fCons_ok, fVar_succ, fVar_zero, fNil_ok, ok_bind, r1, asB_bool, r2, isIR]
      cases isI a <;> rfl)
  show (sem_is_told_buyer [some d, none, none, none] >>= fun r => endV r.1) = _
  unfold sem_is_told_buyer
  rw [c]
  rfl
end PV
end

set_option Elab.async false
set_option linter.all false
set_option maxRecDepth 100000
set_option maxHeartbeats 1000000
set_option autoImplicit false
/-! k21: has_form and its double. -/
noncomputable section
namespace PV
open PySem PySem.Spec PyProof.Rows L2
theorem q1 : dEq (.str "row") (.str "row") = some true := by kernel_rfl
theorem q2 : dEq (.str "rows") (.str "row") = some false := by kernel_rfl
theorem q3 : dEq (.str "rows") (.str "rows") = some true := by kernel_rfl
theorem q4 : dEq (.str "buyer") (.str "row") = some false := by kernel_rfl
theorem q5 : dEq (.str "buyer") (.str "rows") = some false := by kernel_rfl
theorem q6 : dEq (.str "buyer") (.str "buyer") = some true := by kernel_rfl
theorem q7 : dEq (.str "game") (.str "row") = some false := by kernel_rfl
theorem q8 : dEq (.str "game") (.str "rows") = some false := by kernel_rfl
theorem q9 : dEq (.str "game") (.str "buyer") = some false := by kernel_rfl
section
variable {n k : Nat} {d : PyData}
theorem due_row (h : Tm n k d = true) (hn : n ≤ 1000) : m__law_due [.str "row", d] = .ok (.bool (isRow d)) := by
  have r := lrow_ok h hn
  show (sem__law_due [some (.str "row"), some d, none, none, none] >>= fun r => endV r.1) = _
  unfold sem__law_due
  rw [sSeq_ok, sIf_ok, eLT_ok, gCmp_ok, fVar_zero, fC_ok]
  simp only [ok_bind, q1, ofO_some, if_true, sRet_ok, eL_ok, fCall_ok, fCons_ok, fVar_succ, fVar_zero, fNil_ok, r]
  rfl
theorem due_rows (h : Tm n k d = true) (hn : n ≤ 1000) : m__law_due [.str "rows", d] = .ok (.bool (isRows d)) := by
  have r := lrows_ok h hn
  show (sem__law_due [some (.str "rows"), some d, none, none, none] >>= fun r => endV r.1) = _
  unfold sem__law_due
  rw [sSeq_ok, sIf_ok, eLT_ok, gCmp_ok, fVar_zero, fC_ok]
  simp only [ok_bind, q2, ofO_some, if_false, Bool.false_eq_true, sNil_ok]
  rw [sSeq_ok, sIf_ok, eLT_ok, gCmp_ok, fVar_zero, fC_ok]
  simp only [ok_bind, q3, ofO_some, if_true, sRet_ok, eL_ok, fCall_ok, fCons_ok, fVar_succ, fVar_zero, fNil_ok, r]
  rfl
theorem due_buyer (h : Tm n k d = true) (hn : n ≤ 1000) : m__law_due [.str "buyer", d] = .ok (.bool (isBuyer d)) := by
  have c := buyer_core h hn (v := fVar 1) (ρ := [some (.str "buyer"), some d, none, none, none]) rfl (t := .nm 4) (o1 := [4]) (t2 := .tp [.nm 2, .nm 3]) (o2 := [2, 3])
    (fe := fAnd (fIsi "tuple" (fVar 4)) (fOfB (gCmp dEq (fN dLen (fCons (fVar 4) fNil)) (fC (.int 2))))) (fe2 := fAnd (fIsi "int" (fVar 2)) (fCall m__law_is_row (fCons (fVar 3) fNil)))
    (fun ds e x hx => by subst e; obtain ⟨j, _, _, hd⟩ := Tm.tup h; exact ⟨[some (.str "buyer"), some (.tuple ds), none, none, some x], rfl, two_core (hd x hx) rfl⟩)
    (fun ds e h2 x hx => by
      subst e
      obtain ⟨j, _, _, hd⟩ := Tm.tup h
      obtain ⟨a, b, rfl⟩ := is2_eq (h2 x hx)
      obtain ⟨i, ha, hb⟩ := Tm.mem2 (hd _ hx)
      refine ⟨[some (.str "buyer"), some (.tuple ds), some a, some b, none], by simp [put, puts, wipeE], ?_⟩
      have r1 := isi_i ha
      have r2 := lrow_ok hb hn
      simp only [fAnd_ok, fIsi_ok, fCall_ok, fCons_ok, fVar_succ, fVar_zero, fNil_ok, ok_bind, r1, ofO_some, asB_bool, r2, isIR]
      cases isI a <;> rfl)
  show (sem__law_due [some (.str "buyer"), some d, none, none, none] >>= fun r => endV r.1) = _
  unfold sem__law_due
  rw [sSeq_ok, sIf_ok, eLT_ok, gCmp_ok, fVar_zero, fC_ok]
  simp only [ok_bind, q4, ofO_some, if_false, Bool.false_eq_true, sNil_ok]
  rw [sSeq_ok, sIf_ok, eLT_ok, gCmp_ok, fVar_zero, fC_ok]
  simp only [ok_bind, q5, ofO_some, if_false, Bool.false_eq_true, sNil_ok]
  rw [sSeq_ok, sIf_ok, eLT_ok, gCmp_ok, fVar_zero, fC_ok]
  simp only [ok_bind, q6, ofO_some, if_true]
  rw [c]
  rfl
theorem due_game (h : Tm n k d = true) (hn : n ≤ 1000) : m__law_due [.str "game", d] = .ok (.bool (isGame d)) := by
  have c := game_core h hn (v := fVar 1) (ρ := [some (.str "game"), some d, none, none, none]) rfl (fi := fIsi "int" (fOp ixD (fVar 1) (fC (.int 0)))) (fr := fCall m__law_is_row (fCons (fOp ixD (fVar 1) (fC (.int 1))) fNil))
    (fun ds e a b e2 => by
      subst e e2; obtain ⟨j, h1, h2⟩ := Tm.mem2 h
      have e : fOp ixD (fVar 1) (fC (.int 0)) [some (.str "game"), some (.tuple [a, b]), none, none, none] = .ok a := rfl
      rw [fIsi_ok, e, ok_bind, isi_i h1]; rfl)
    (fun ds e a b e2 => by subst e e2; obtain ⟨j, h1, h2⟩ := Tm.mem2 h; exact (show m__law_is_row [b] = _ from lrow_ok h2 hn))
  show (sem__law_due [some (.str "game"), some d, none, none, none] >>= fun r => endV r.1) = _
  unfold sem__law_due
  rw [sSeq_ok, sIf_ok, eLT_ok, gCmp_ok, fVar_zero, fC_ok]
  simp only [ok_bind, q7, ofO_some, if_false, Bool.false_eq_true, sNil_ok]
  rw [sSeq_ok, sIf_ok, eLT_ok, gCmp_ok, fVar_zero, fC_ok]
  simp only [ok_bind, q8, ofO_some, if_false, Bool.false_eq_true, sNil_ok]
  rw [sSeq_ok, sIf_ok, eLT_ok, gCmp_ok, fVar_zero, fC_ok]
  simp only [ok_bind, q9, ofO_some, if_false, Bool.false_eq_true, sNil_ok]
  rw [sRet_ok, eL_ok, c]
  rfl
end
end PV
end

set_option Elab.async false
set_option linter.all false
set_option maxRecDepth 100000
set_option maxHeartbeats 1000000
set_option autoImplicit false
/-! k21: has_form. -/
noncomputable section
namespace PV
open PySem PySem.Spec PyProof.Rows L2
section
variable {K : PySem.W.Frag}
theorem lk (z : Str) (r : Option Addr) (h : (tab_FORMS K).lookup z = some r) : kdIn true (He.ga K "FORMS") (tab_FORMS K) (.str z) (adrD (He.ga K "FORMS")) = some (!r.isSome) := by
  simp [kdIn, adrD, h]
theorem lg (z : Str) (f : Addr) (h : (tab_FORMS K).lookup z = some (some f)) : kdGet (He.ga K "FORMS") (tab_FORMS K) (adrD (He.ga K "FORMS")) (.str z) = some (adrD f) := by
  simp [kdGet, adrD, h]
theorem tb1 : (tab_FORMS K).lookup ("rows" : Str) = some (some (He.ga K "are_pairs")) := by rfl
theorem tb2 : (tab_FORMS K).lookup ("game" : Str) = some (some (He.ga K "is_told_game")) := by rfl
theorem tb3 : (tab_FORMS K).lookup ("buyer" : Str) = some (some (He.ga K "is_told_buyer")) := by rfl
theorem tb4 : (tab_FORMS K).lookup ("row" : Str) = some (some (He.ga K "is_row")) := by rfl
theorem tb5 : (tab_FORMS K).lookup ("" : Str) = some none := by rfl
theorem tb6 : (tab_FORMS K).lookup ("Form" : Str) = some none := by rfl
theorem tb7 : (tab_FORMS K).lookup ("term" : Str) = some none := by rfl
theorem form_of {z : Str} {f : Addr} {m : List PyData → R PyData} {d : PyData} {b : Bool} (h : (tab_FORMS K).lookup z = some (some f)) (hf : (ct_has_form K).find? (fun q => (f : Int) == (q.1 : Int)) = some (f, m)) (hm : m [d] = .ok (.bool b)) : m_has_form K [.str z, d] = .ok (.bool b) := by
  show (sem_has_form K [some (.str z), some d] >>= fun r => endV r.1) = _
  unfold sem_has_form
  rw [sSeq_ok, sIf_ok, eLT_ok, gCmp_ok, fVar_zero, fC_ok]
  simp only [ok_bind, lk z _ h, Option.isSome_some, Bool.not_true, ofO_some, if_false, Bool.false_eq_true, sNil_ok]
  rw [sRet_ok, eL_ok]
  unfold fCallX
  rw [fOp_ok, fC_ok, fVar_zero]
  have e : adrOf (adrD f) = some (f : Int) := rfl
  simp only [ok_bind, lg z _ h, ofO_some, e, Option.bind_some, hf, fCons_ok, fVar_succ, fVar_zero, fNil_ok, hm]
  rfl
theorem form_ex {z : Str} {d : PyData} (h : (tab_FORMS K).lookup z = some none) : m_has_form K [.str z, d] = .ex ⟨"BadNumber", none⟩ := by
  show (sem_has_form K [some (.str z), some d] >>= fun r => endV r.1) = _
  unfold sem_has_form
  rw [sSeq_ok, sIf_ok, eLT_ok, gCmp_ok, fVar_zero, fC_ok]
  simp only [ok_bind, lk z _ h, Option.isSome_none, Bool.not_false, ofO_some, if_true, ex_bind]
variable {n k : Nat} {d : PyData}
abbrev Nd (K : PySem.W.Frag) : Prop := ([He.ga K "are_pairs", He.ga K "is_told_game", He.ga K "is_told_buyer", He.ga K "is_row"] : List Addr).Nodup
theorem ieq {a b : Addr} (h : a ≠ b) : ((a : Int) == (b : Int)) = false := by rw [beq_eq_false_iff_ne]; exact fun e => h (Int.ofNat.inj e)
theorem form_rows (nd : Nd K) (h : Tm n k d = true) (hn : n ≤ 1000) : m_has_form K [.str "rows", d] = .ok (.bool (isRows d)) := form_of tb1 (by simp [ct_has_form]) (rows_ok h hn)
theorem form_game (nd : Nd K) (h : Tm n k d = true) (hn : n ≤ 1000) : m_has_form K [.str "game", d] = .ok (.bool (isGame d)) := form_of tb2 (by
  simp only [Nd, List.nodup_cons, List.mem_cons, List.not_mem_nil, or_false, not_or] at nd
  simp [ct_has_form, ieq (Ne.symm nd.1.1)]) (game_ok h hn)
theorem form_buyer (nd : Nd K) (h : Tm n k d = true) (hn : n ≤ 1000) : m_has_form K [.str "buyer", d] = .ok (.bool (isBuyer d)) := form_of tb3 (by
  simp only [Nd, List.nodup_cons, List.mem_cons, List.not_mem_nil, or_false, not_or] at nd
  simp [ct_has_form, ieq (Ne.symm nd.1.2.1), ieq (Ne.symm nd.2.1.1)]) (buyer_ok h hn)
theorem form_row (nd : Nd K) (h : Tm n k d = true) (hn : n ≤ 1000) : m_has_form K [.str "row", d] = .ok (.bool (isRow d)) := form_of tb4 (by
  simp only [Nd, List.nodup_cons, List.mem_cons, List.not_mem_nil, or_false, not_or] at nd
  simp [ct_has_form, ieq (Ne.symm nd.1.2.2), ieq (Ne.symm nd.2.1.2), ieq (Ne.symm nd.2.2.1)]) (row_ok h hn)
end
end PV
end

set_option Elab.async false
set_option linter.all false
set_option maxRecDepth 100000
set_option maxHeartbeats 1000000
set_option autoImplicit false
/-! k21: _law_spoilt. -/
noncomputable section
namespace PV
open PySem PySem.Spec PyProof.Rows L2
theorem Tm.mono {n m : Nat} (hn : n ≤ m) : ∀ {k j : Nat} {d : PyData}, k ≤ j → Tm n k d = true → Tm m j d = true
  | k, j, .none, _, _ => by cases j <;> rfl
  | k, j, .int _, _, _ => by cases j <;> rfl
  | k, j, .str _, _, h => by cases j <;> cases k <;> exact h
  | 0, _, .tuple _, _, h => by cases h
  | k + 1, 0, .tuple _, hk, _ => by omega
  | k + 1, j + 1, .tuple ds, hk, h => by
    simp only [Tm, Bool.and_eq_true, decide_eq_true_eq, List.all_eq_true] at h ⊢
    exact ⟨by omega, fun x hx => Tm.mono hn (by omega) (h.2 x hx)⟩
  | 0, _, .bool _, _, h => by cases h
  | k + 1, _, .bool _, _, h => by cases h
  | 0, _, .list _, _, h => by cases h
  | k + 1, _, .list _, _, h => by cases h
  | 0, _, .dict _, _, h => by cases h
  | k + 1, _, .dict _, _, h => by cases h
theorem Tm.flat {n : Nat} : ∀ {k : Nat} {d : PyData}, Tm n k d = true → PV.flat d = true
  | _, .none, _ => rfl
  | _, .int _, _ => rfl
  | _, .str _, _ => rfl
  | 0, .tuple _, h => by cases h
  | k + 1, .tuple ds, h => by
    simp only [Tm, Bool.and_eq_true, decide_eq_true_eq, List.all_eq_true] at h
    exact flatL_iff.mpr fun x hx => Tm.flat (h.2 x hx)
  | 0, .bool _, h => by cases h
  | k + 1, .bool _, h => by cases h
  | 0, .list _, h => by cases h
  | k + 1, .list _, h => by cases h
  | 0, .dict _, h => by cases h
  | k + 1, .dict _, h => by cases h
theorem lay_all {ds : List PyData} (h : ∀ x ∈ ds, x.canLay0 = true) : PyData.canLayAll0 ds = true := by
  induction ds with
  | nil => rfl
  | cons d ds ih =>
    simp only [PyData.canLayAll0, Bool.and_eq_true]
    exact ⟨h d (List.mem_cons_self ..), ih fun x hx => h x (List.mem_cons_of_mem _ hx)⟩
theorem dep_all {b : Nat} {ds : List PyData} (h : ∀ x ∈ ds, x.depth ≤ b) : PyData.depthAll ds ≤ b := by
  induction ds with
  | nil => simp [PyData.depthAll]
  | cons d ds ih =>
    have h1 := h d (List.mem_cons_self ..)
    have h2 := ih fun x hx => h x (List.mem_cons_of_mem _ hx)
    simp only [PyData.depthAll]
    omega
theorem Tm.lay {n : Nat} : ∀ {k : Nat} {d : PyData}, Tm n k d = true → d.canLay0 = true ∧ d.depth ≤ k
  | _, .none, _ => by simp [PyData.canLay0, PyData.depth]
  | _, .int _, _ => by simp [PyData.canLay0, PyData.depth]
  | k, .str x, h => by
    have h' : PyData.strOk x = true := by cases k <;> exact h
    simp [PyData.canLay0, PyData.depth, h']
  | 0, .tuple _, h => by cases h
  | k + 1, .tuple ds, h => by
    simp only [Tm, Bool.and_eq_true, decide_eq_true_eq, List.all_eq_true] at h
    have h1 := lay_all fun x hx => (Tm.lay (h.2 x hx)).1
    have h2 := dep_all fun x hx => (Tm.lay (h.2 x hx)).2
    simp only [PyData.canLay0, PyData.depth]
    exact ⟨h1, by omega⟩
  | 0, .bool _, h => by cases h
  | k + 1, .bool _, h => by cases h
  | 0, .list _, h => by cases h
  | k + 1, .list _, h => by cases h
  | 0, .dict _, h => by cases h
  | k + 1, .dict _, h => by cases h
theorem Tm.shaped {n k : Nat} {d : PyData} (h : Tm n k d = true) (hk : k ≤ 64) : SeqAt.shaped d = true := by
  obtain ⟨h1, h2⟩ := Tm.lay h
  unfold SeqAt.shaped
  rw [h1, Bool.true_and, decide_eq_true_eq]
  omega
end PV
end

set_option Elab.async false
set_option linter.all false
set_option maxRecDepth 100000
set_option maxHeartbeats 1000000
set_option autoImplicit false
/-! k21: the plain law. -/
noncomputable section
namespace PV
open PySem PySem.Spec PyProof.Rows L2
theorem k_next : m__law_next = mNext := rfl
theorem k_pick : m__law_pick = mPick := rfl
theorem k_more : m__law_more = mMore := rfl
theorem k_draws : m__law_draws = mDraws := rfl
theorem k_line : m__law_line = m_words_of := rfl
theorem c1 : m_words_of [.str "a b"] = .ok (.list [.str "a", .str "b"]) := by kernel_rfl
theorem c2 : m_is_name [.str "abcdefghijkl"] = .ok (.bool true) := by kernel_rfl
theorem c3 : m_is_name [.str "abcdefghijklm"] = .ok (.bool false) := by kernel_rfl
theorem c4 : m_number_in [.str "07"] = .ok .none := by kernel_rfl
theorem c5 : m_number_in [.str "99"] = .ok (.int 99) := by kernel_rfl
def nine : List (Str × PyData) := [("", .none), ("0", .int 0), ("00", .none), ("100", .none), ("-1", .none), ("5", .int 5), ("+5", .none), (" 5", .none), ("5 ", .none)]
theorem c6 : ∀ q ∈ nine, m_number_in [.str q.1] = .ok q.2 := by
  simp only [nine, List.forall_mem_cons, List.not_mem_nil, false_imp_iff, implies_true, and_true]
  refine ⟨?_, ?_, ?_, ?_, ?_, ?_, ?_, ?_, ?_⟩ <;> kernel_rfl
theorem fIsE_ok {a : Addr} {b : Bool} {ρ : Env} : fIsE a b (fVar 0) (some (adrD a) :: ρ) = .ok (.bool b) := by simp [fIsE, adrD]
theorem kind_fin (d : PyData) : (sRet (eL (fIf (gCmp dEq (fMe isList dCount (fVar 2) (fCons (fC (.bool true)) fNil)) (fC (.int 1))) (fOp dAdd (fC (.str "!")) (fOp ixD (fVar 1) (fMe isList dIndex (fVar 2) (fCons (fC (.bool true)) fNil)))) (fC (.str "!other"))))) [some d, some (.list [.str "stakes", .str "table", .str "mix", .str "paper", .str "number", .str "none", .str "large"]), some (.list [.bool false, .bool false, .bool false, .bool false, .bool true, .bool false, .bool false])] = .ok (.rt (.str "!number"), [some d, some (.list [.str "stakes", .str "table", .str "mix", .str "paper", .str "number", .str "none", .str "large"]), some (.list [.bool false, .bool false, .bool false, .bool false, .bool true, .bool false, .bool false])]) := by kernel_rfl
theorem kind_cat : dAdd (.list [.bool false, .bool false, .bool false, .bool false]) (.list [.bool true, .bool false, .bool false]) = some (.list [.bool false, .bool false, .bool false, .bool false, .bool true, .bool false, .bool false]) := by kernel_rfl
theorem kind_ok (a : Addr) : m__law_kind "BadNumber" a [adrD a] = .ok (.str "!number") := by
  unfold m__law_kind runF sem__law_kind
  have e : rho0 3 [adrD a] = [some (adrD a), none, none] := rfl
  rw [e]
  generalize hd : adrD a = d
  have h : ∀ (b : Bool) (ρ : Env), fIsE a b (fVar 0) (some d :: ρ) = .ok (.bool b) := fun b ρ => by rw [← hd]; exact fIsE_ok
  have i1 : isC "BadNumber" "NotStakes" = false := by decide
  have i2 : isC "BadNumber" "NotTable" = false := by decide
  have i3 : isC "BadNumber" "NotMix" = false := by decide
  have i4 : isC "BadNumber" "NotPaper" = false := by decide
  have i5 : isC "BadNumber" "BadNumber" = true := by decide
  have i6 : isC "BadNumber" "NoAnswer" = false := by decide
  have i7 : isC "BadNumber" "TooLarge" = false := by decide
  have s1 : ∀ (xs : List PyData) (α : Type) (p q : R α), xs.length ≤ 100 → (if xs.length ≤ sizeLine then p else q) = p := fun xs α p q hl => if_pos (by rw [sz]; omega)
  rw [sSeq_ok, sSet_ok, eL_ok, fLst_ok]
  simp only [fCons_ok, fC_ok, fNil_ok, ok_bind]
  rw [s1 _ _ _ _ (by decide)]
  simp only [ok_bind, List.set_cons_zero, List.set_cons_succ]
  rw [sSeq_ok, sSet_ok, eL_ok, fLst_ok]
  simp only [fCons_ok, fC_ok, fNil_ok, ok_bind, h, i1, i2, i3, i4]
  rw [s1 _ _ _ _ (by decide)]
  simp only [ok_bind, List.set_cons_zero, List.set_cons_succ]
  rw [sSeq_ok, sSet_ok, eL_ok, fOp_ok, fLst_ok]
  simp only [fCons_ok, fC_ok, fNil_ok, ok_bind, h, i5, i6, i7, fVar_zero, fVar_succ]
  rw [s1 _ _ _ _ (by decide)]
  simp only [ok_bind, kind_cat, ofO_some, List.set_cons_zero, List.set_cons_succ]
  rw [kind_fin]
  rfl
end PV
end

set_option Elab.async false
set_option linter.all false
set_option maxRecDepth 100000
set_option maxHeartbeats 1000000
set_option autoImplicit false
/-! k21: _law_spoilt keeps terms. -/
noncomputable section
namespace PV
open PySem PySem.Spec PyProof.Rows L2
theorem cut_mem {xs : List PyData} {lo hi : Option Int} : ∀ x ∈ cut xs lo hi, x ∈ xs := fun x h => List.mem_of_mem_drop (List.mem_of_mem_take h)
theorem cut_len {xs : List PyData} {lo hi : Option Int} : (cut xs lo hi).length ≤ xs.length := by
  unfold cut
  rw [List.length_take, List.length_drop]
  omega
theorem tcat {xs ys : List PyData} (hx : flatL xs = true) (hy : flatL ys = true) (hl : xs.length + ys.length ≤ 100000) : dAdd (.tuple xs) (.tuple ys) = some (.tuple (xs ++ ys)) := by
  have : xs.length + ys.length ≤ 16777216 := by omega
  simp [dAdd, iOp, sCat, lCat, tCat, hx, hy, sz, this]
theorem flatTm {n k : Nat} {ds : List PyData} (h : ∀ d ∈ ds, Tm n k d = true) : flatL ds = true := flatL_iff.mpr fun d q => Tm.flat (h d q)
def choice1 (d : PyData) : List PyData := [.none, .str "ada", .str "", .int 5, .tuple [], .tuple [.int 1], .tuple [.tuple []], .tuple [.str "a"], d]
def choice2 : List PyData := [.tuple [.int 0], .tuple [.str ""], .tuple [.tuple []], .none]
theorem choice1_tm {n k : Nat} {d : PyData} (hn : 1 ≤ n) (h : Tm n k d = true) : ∀ x ∈ choice1 d, Tm (2 * n + 1) (k + 2) x = true := by
  have so : PyData.strOk "ada" = true ∧ PyData.strOk "" = true ∧ PyData.strOk "a" = true := by refine ⟨?_, ?_, ?_⟩ <;> kernel_rfl
  intro x hx
  simp only [choice1, List.mem_cons, List.not_mem_nil, or_false] at hx
  rcases hx with rfl | rfl | rfl | rfl | rfl | rfl | rfl | rfl | rfl
  · rfl
  · exact so.1
  · exact so.2.1
  · rfl
  · simp [Tm]
  · simp [Tm]
  · simp [Tm]
  · simp [Tm, so.2.2]
  · exact Tm.mono (by omega) (by omega) h
theorem choice2_tm {n k : Nat} : ∀ x ∈ choice2, Tm (2 * n + 1) (k + 2) x = true := by
  have so : PyData.strOk "" = true := by kernel_rfl
  intro x hx
  simp only [choice2, List.mem_cons, List.not_mem_nil, or_false] at hx
  rcases hx with rfl | rfl | rfl | rfl
  · simp [Tm]
  · simp [Tm, so]
  · simp [Tm]
  · rfl
theorem pickRet {N : Nat} {ds xs : List PyData} {ρ : Env} {L : Env → R PyData} (hL : L (some (.list ds) :: ρ) = .ok (.list xs)) (h : Dr N ds) (hx : xs ≠ []) (hf : flatL xs = true) :
    ∃ x ds', x ∈ xs ∧ sRet (eCallM 0 m__law_pick (eLA (fCons L fNil))) (some (.list ds) :: ρ) = .ok (.rt x, some (.list ds') :: ρ) ∧ Dr N ds' := by
  obtain ⟨x, ds', hm, e, hd⟩ := pick_ok h hx hf
  refine ⟨x, ds', hm, ?_, hd⟩
  rw [sRet_ok, eCallM_ok, k_pick]
  simp only [slot_zero, ok_bind, eLA_ok, fCons_ok, hL, fNil_ok, e, List.set_cons_zero]
theorem nextE {N : Nat} {ds : List PyData} {ρ : Env} (h : Dr N ds) : ∃ (i : Int) (ds' : List PyData), eN dInt (eCons (eCallM 0 m__law_next (eLA fNil)) eNil) (some (.list ds) :: ρ) = .ok (.int i, some (.list ds') :: ρ) ∧ 0 ≤ i ∧ Dr N ds' := by
  obtain ⟨i, ds', e, h0, h1, hd⟩ := next_ok h
  refine ⟨i, ds', ?_, h0, hd⟩
  rw [eN_ok, eCons_ok, eCallM_ok, k_next]
  simp only [slot_zero, ok_bind, eLA_ok, fNil_ok, e, List.set_cons_zero, eNil_ok, dInt_int, ofO_some]
theorem lst9 {d : PyData} {a : Option PyData} {ρ : Env} : fLst (fCons (fC .none) (fCons (fC (.str "ada")) (fCons (fC (.str "")) (fCons (fC (.int 5)) (fCons (fTup fNil) (fCons (fTup (fCons (fC (.int 1)) fNil)) (fCons (fTup (fCons (fTup fNil) fNil)) (fCons (fTup (fCons (fC (.str "a")) fNil)) (fCons (fVar 1) fNil))))))))) (a :: some d :: ρ) = .ok (.list (choice1 d)) := by
  simp [sz, choice1]
theorem lst4 {ρ : Env} : fLst (fCons (fTup (fCons (fC (.int 0)) fNil)) (fCons (fTup (fCons (fC (.str "")) fNil)) (fCons (fTup (fCons (fTup fNil) fNil)) (fCons (fC .none) fNil)))) ρ = .ok (.list choice2) := by
  simp [sz, choice2]
end PV
end

set_option Elab.async false
set_option linter.all false
set_option maxRecDepth 100000
set_option maxHeartbeats 1000000
set_option autoImplicit false
/-! k21: _law_spoilt, its steps. -/
noncomputable section
namespace PV
open PySem PySem.Spec PyProof.Rows L2
@[simp] theorem eOrT_ok {f g : Env → R (Bool × Env)} {ρ : Env} : eOrT f g ρ = f ρ >>= fun r => if r.1 then .ok (true, r.2) else g r.2 := id rfl
@[simp] theorem eCmp_ok {o : PyData → PyData → Option Bool} {f g : FE} {ρ : Env} : eCmp o f g ρ = f ρ >>= fun r => g r.2 >>= fun q => ofO (o r.1 q.1) >>= fun z => .ok (z, q.2) := id rfl
theorem ixD_tup {xs : List PyData} {i : Int} {d : PyData} (h0 : 0 ≤ i) (h : xs[i.toNat]? = some d) : ixD (.tuple xs) (.int i) = some d := ixD_list h0 h
theorem dEq_nil {es : List PyData} (h : SeqAt.shaped (.tuple es) = true) : dEq (.tuple es) (.tuple []) = some es.isEmpty := by
  have s0 : SeqAt.shaped (.tuple []) = true := by kernel_rfl
  have e : PyData.eqv (.tuple es) (.tuple []) = es.isEmpty := by cases es <;> simp [PyData.eqv, PyData.eqvAll]
  simp [dEq, h, s0, e]
section
variable {N n k : Nat} {d : PyData} {ds : List PyData}
/-- the first test: true, or the term is a tuple -/
theorem first_ok (h : Tm n k d = true) (hd : Dr N ds) {a b : Option PyData} : ∃ (c : Bool) (ds' : List PyData), eOrT (eLT (gNot (gTru dTru (fIsi "tuple" (fVar 1))))) (eCmp dEq (eOp dMod (eN dInt (eCons (eCallM 0 m__law_next (eLA fNil)) eNil)) (eL (fC (.int 6)))) (eL (fC (.int 0)))) [some (.list ds), some d, a, b] = .ok (c, [some (.list ds'), some d, a, b]) ∧ Dr N ds' ∧ (c = false → isT d = true) := by
  have e := isi_t h
  by_cases ht : isT d = true
  · obtain ⟨i, ds', e1, i0, hd'⟩ := nextE (ρ := [some d, a, b]) hd
    refine ⟨i % 6 == 0, ds', ?_, hd', fun _ => ht⟩
    have t1 : dTru (.bool true) = some true := rfl
    rw [eOrT_ok, eLT_ok, gNot_ok, gTru_ok, fIsi_ok, fVar_succ, fVar_zero]
    simp only [ok_bind, e, ht, ofO_some, t1, Bool.not_true, Bool.false_eq_true, if_false]
    rw [eCmp_ok, eOp_ok, e1]
    simp only [ok_bind, eL_ok, fC_ok, dMod_int (show (0 : Int) < 6 by decide), ofO_some, dEq_int]
  · rw [Bool.not_eq_true] at ht
    refine ⟨true, ds, ?_, hd, fun z => Bool.noConfusion z⟩
    have t1 : dTru (.bool false) = some false := rfl
    rw [eOrT_ok, eLT_ok, gNot_ok, gTru_ok, fIsi_ok, fVar_succ, fVar_zero]
    simp only [ok_bind, e, ht, ofO_some, t1, Bool.not_false, if_true]
theorem mod_set {i : Nat} {m : Int} (hm : 0 < m) {f : Env → R PyData} {ρ : Env} (hf : ∀ ds', f (some (.list ds') :: ρ) = .ok (.int m)) (hd : Dr N ds) : ∃ (j : Int) (ds' : List PyData), sSet (i + 1) (eOp dMod (eN dInt (eCons (eCallM 0 m__law_next (eLA fNil)) eNil)) (eL f)) (some (.list ds) :: ρ) = .ok (.nx, some (.list ds') :: ρ.set i (some (.int j))) ∧ 0 ≤ j ∧ j < m ∧ Dr N ds' := by
  obtain ⟨v, ds', e1, v0, hd'⟩ := nextE (ρ := ρ) hd
  refine ⟨v % m, ds', ?_, Int.emod_nonneg _ (by omega), Int.emod_lt_of_pos _ hm, hd'⟩
  rw [sSet_ok, eOp_ok, e1]
  simp only [ok_bind, eL_ok, hf, dMod_int hm, ofO_some, List.set_cons_succ]
end
end PV
end

set_option Elab.async false
set_option linter.all false
set_option maxRecDepth 100000
set_option maxHeartbeats 1000000
set_option autoImplicit false
/-! k21: _law_spoilt. -/
noncomputable section
namespace PV
open PySem PySem.Spec PyProof.Rows L2
theorem sl_tup {es : List PyData} {v : Env → R PyData} {g h : Env → R (Option Int)} {ρ : Env} {lo hi : Option Int} (hv : v ρ = .ok (.tuple es)) (hg : g ρ = .ok lo) (hh : h ρ = .ok hi) : fSl v g h ρ = .ok (.tuple (cut es lo hi)) := by
  unfold fSl
  rw [hv]
  simp only [ok_bind, hg, hh, slD, ofO_some]
theorem part_int {f : Env → R PyData} {ρ : Env} {i : Int} (h : f ρ = .ok (.int i)) : fPart f ρ = .ok (some i) := by
  unfold fPart
  rw [h]
  rfl
theorem tm_cat {m j : Nat} {xs ys : List PyData} (hx : ∀ x ∈ xs, Tm m j x = true) (hy : ∀ x ∈ ys, Tm m j x = true) (hl : xs.length + ys.length ≤ m) : Tm m (j + 1) (.tuple (xs ++ ys)) = true := by
  simp only [Tm, Bool.and_eq_true, decide_eq_true_eq, List.all_eq_true, List.length_append]
  exact ⟨hl, fun x hx' => (List.mem_append.mp hx').elim (hx x) (hy x)⟩
/-- the last two statements -/
theorem last_ok {N n j : Nat} {es : List PyData} {ds : List PyData} {at_ kd : Int} {rc : PyData → List PyData → R (PyData × PyData)} (hn : n ≤ 400) (hl : es.length ≤ n) (hes : ∀ x ∈ es, Tm n j x = true) (h0 : 0 ≤ at_) (h1 : at_ < es.length) (hd : Dr N ds) (hn1 : 1 ≤ n)
    (hrc : ∀ x ∈ es, ∃ r ds', rc (.list ds) [x] = .ok (r, .list ds') ∧ Tm (2 * n + 1) (j + 2) r = true ∧ Dr N ds') :
    ∃ r ds', (sSeq (sIf (eLT (gCmp dEq (fVar 3) (fC (.int 0)))) (sRet (eL (fOp dAdd (fSl (fVar 1) fNoPart (fPart (fVar 2))) (fSl (fVar 1) (fPart (fOp dAdd (fVar 2) (fC (.int 1)))) fNoPart))))
  sNil)
  (sRet (eIf (eLT (gCmp dEq (fVar 3) (fC (.int 1)))) (eL (fOp dAdd (fVar 1) (fSl (fVar 1) (fPart (fVar 2)) (fPart (fOp dAdd (fVar 2) (fC (.int 1))))))) (eOp dAdd (eOp dAdd (eL (fSl (fVar 1) fNoPart (fPart (fVar 2)))) (eTup (eCons (eCallM 0 rc (eLA (fCons (fOp ixD (fVar 1) (fVar 2)) fNil))) eNil))) (eL (fSl (fVar 1) (fPart (fOp dAdd (fVar 2) (fC (.int 1)))) fNoPart)))))) [some (.list ds), some (.tuple es), some (.int at_), some (.int kd)] = .ok (.rt r, [some (.list ds'), some (.tuple es), some (.int at_), some (.int kd)]) ∧ Tm (2 * n + 1) (j + 3) r = true ∧ Dr N ds' := by
  have up : ∀ x ∈ es, Tm (2 * n + 1) (j + 2) x = true := fun x hx => Tm.mono (by omega) (by omega) (hes x hx)
  have upc : ∀ lo hi, ∀ x ∈ cut es lo hi, Tm (2 * n + 1) (j + 2) x = true := fun lo hi x hx => up x (cut_mem x hx)
  have fes : flatL es = true := flatTm hes
  have fc : ∀ lo hi, flatL (cut es lo hi) = true := fun lo hi => flatTm (upc lo hi)
  have lc : ∀ lo hi, (cut es lo hi).length ≤ n := fun lo hi => Nat.le_trans cut_len hl
  have c1 : ∀ ds', fSl (fVar 1) fNoPart (fPart (fVar 2)) [some (.list ds'), some (.tuple es), some (.int at_), some (.int kd)] = .ok (.tuple (cut es none (some at_))) := fun ds' => sl_tup rfl rfl (part_int rfl)
  have c2 : ∀ ds', fSl (fVar 1) (fPart (fOp dAdd (fVar 2) (fC (.int 1)))) fNoPart [some (.list ds'), some (.tuple es), some (.int at_), some (.int kd)] = .ok (.tuple (cut es (some (at_ + 1)) none)) := fun ds' => sl_tup rfl (part_int rfl) rfl
  have c3 : ∀ ds', fSl (fVar 1) (fPart (fVar 2)) (fPart (fOp dAdd (fVar 2) (fC (.int 1)))) [some (.list ds'), some (.tuple es), some (.int at_), some (.int kd)] = .ok (.tuple (cut es (some at_) (some (at_ + 1)))) := fun ds' => sl_tup rfl (part_int rfl) (part_int rfl)
  rw [sSeq_ok, sIf_ok, eLT_ok, gCmp_ok]
  simp only [fVar_succ, fVar_zero, fC_ok, ok_bind, dEq_int, ofO_some]
  by_cases k0 : (kd == 0) = true
  · have l1 := lc none (some at_)
    have l2 := lc (some (at_ + 1)) none
    refine ⟨_, ds, ?_, tm_cat (upc none (some at_)) (upc (some (at_ + 1)) none) (by omega), hd⟩
    simp only [k0, if_true, sRet_ok, eL_ok, fOp_ok, c1, c2, ok_bind, tcat (fc none (some at_)) (fc (some (at_ + 1)) none) (by omega), ofO_some]
  · rw [Bool.not_eq_true] at k0
    simp only [k0, Bool.false_eq_true, if_false, sNil_ok, ok_bind]
    by_cases k1 : (kd == 1) = true
    · have l3 := lc (some at_) (some (at_ + 1))
      refine ⟨_, ds, ?_, tm_cat up (upc (some at_) (some (at_ + 1))) (by omega), hd⟩
      rw [sRet_ok]
      unfold eIf
      simp only [eLT_ok, gCmp_ok, fVar_succ, fVar_zero, fC_ok, ok_bind, dEq_int, ofO_some, k1, if_true, eL_ok, fOp_ok, c3, tcat fes (fc (some at_) (some (at_ + 1))) (by omega)]
    · rw [Bool.not_eq_true] at k1
      have hlt : at_.toNat < es.length := by omega
      obtain ⟨r, ds', er, tr, hd'⟩ := hrc _ (List.getElem_mem hlt)
      have l1 := lc none (some at_)
      have l2 := lc (some (at_ + 1)) none
      have fr : flatL [r] = true := flatTm (n := 2 * n + 1) (k := j + 2) (by simpa using tr)
      have f1 : flatL (cut es none (some at_) ++ [r]) = true := flatL_append (fc _ _) fr
      have z1 : (1 : Nat) ≤ sizeLine := by rw [sz]; omega
      have ix : ixD (.tuple es) (.int at_) = some es[at_.toNat] := ixD_tup h0 (List.getElem?_eq_getElem hlt)
      refine ⟨.tuple ((cut es none (some at_) ++ [r]) ++ cut es (some (at_ + 1)) none), ds', ?_, tm_cat (fun x hx => (List.mem_append.mp hx).elim (upc _ _ x) fun hx => by rw [List.mem_singleton.mp hx]; exact tr) (upc _ _) (by simp only [List.length_append, List.length_cons, List.length_nil]; omega), hd'⟩
      rw [sRet_ok]
      unfold eIf
      simp only [eLT_ok, gCmp_ok, fVar_succ, fVar_zero, fC_ok, ok_bind, dEq_int, ofO_some, k1, Bool.false_eq_true, if_false, eOp_ok, eL_ok, c1]
      unfold eTup
      simp only [eCons_ok, eCallM_ok, slot_zero, ok_bind, eLA_ok, fCons_ok, fOp_ok, fVar_succ, fVar_zero, ix, ofO_some, fNil_ok, er, List.set_cons_zero, eNil_ok, List.length_cons, List.length_nil, Nat.zero_add, z1, if_true, tcat (fc none (some at_)) fr (by simp; omega), c2, tcat f1 (fc (some (at_ + 1)) none) (by simp; omega)]
theorem spoilt_ok {N n : Nat} (hn1 : 1 ≤ n) (hn : n ≤ 400) : ∀ (k f : Nat) (d : PyData) (ds : List PyData), k < f → k ≤ 60 → Tm n k d = true → Dr N ds → ∃ r ds', m__law_spoilt f (.list ds) [d] = .ok (r, .list ds') ∧ Tm (2 * n + 1) (k + 2) r = true ∧ Dr N ds'
  | k, 0, d, ds, hf, _, _, _ => by omega
  | k, f + 1, d, ds, hf, hk, h, hd => by
    have fin : ∀ {r : PyData} {ds' : List PyData} {ρ' : Env}, sem__law_spoilt (m__law_spoilt f) [some (.list ds), some d, none, none] = .ok (.rt r, some (.list ds') :: ρ') → m__law_spoilt (f + 1) (.list ds) [d] = .ok (r, .list ds') := fun {r ds' ρ'} e => by
      show (sem__law_spoilt (m__law_spoilt f) [some (.list ds), some d, none, none] >>= fun r => endV r.1 >>= fun v => slot 0 r.2 >>= fun d => R.ok (v, d)) = _
      rw [e]
      rfl
    obtain ⟨c, ds1, e1, hd1, hc⟩ := first_ok h hd (a := none) (b := none)
    have fd : flatL (choice1 d) = true := flatTm (choice1_tm hn1 h)
    cases c with
    | true =>
      obtain ⟨x, ds2, hx, e2, hd2⟩ := pickRet (ρ := [some d, none, none]) lst9 hd1 (by simp [choice1]) fd
      refine ⟨x, ds2, fin (ρ' := [some d, none, none]) ?_, choice1_tm hn1 h x hx, hd2⟩
      unfold sem__law_spoilt
      rw [sSeq_ok, sIf_ok, e1]
      simp only [ok_bind, if_true, e2]
    | false =>
      have ht := hc rfl
      cases d with
      | tuple es =>
        obtain ⟨j, rfl, hl, hes⟩ := Tm.tup h
        have en := dEq_nil (Tm.shaped h (by omega))
        by_cases he : es = []
        · subst he
          have f2 : flatL choice2 = true := flatTm (choice2_tm (n := n) (k := j + 1))
          obtain ⟨x, ds2, hx, e2, hd2⟩ := pickRet (ρ := [some (.tuple []), none, none]) (lst4) hd1 (by simp [choice2]) f2
          refine ⟨x, ds2, fin (ρ' := [some (.tuple []), none, none]) ?_, choice2_tm x hx, hd2⟩
          unfold sem__law_spoilt
          rw [sSeq_ok, sIf_ok, e1]
          simp only [ok_bind, Bool.false_eq_true, if_false, sNil_ok]
          have z0 : ([] : List PyData).length ≤ sizeLine := Nat.zero_le _
          rw [sSeq_ok, sIf_ok, eLT_ok, gCmp_ok, fVar_succ, fVar_zero, fTup_ok, fNil_ok]
          simp only [ok_bind, if_pos z0, en, List.isEmpty_nil, ofO_some, if_true, e2]
        · have hpos : 0 < (es.length : Int) := by have := List.length_pos_iff.mpr he; omega
          obtain ⟨at_, ds2, e2, a0, a1, hd2⟩ := mod_set (i := 1) (ρ := [some (.tuple es), none, none]) (f := fN dLen (fCons (fVar 1) fNil)) hpos (fun _ => rfl) hd1
          obtain ⟨kd, ds3, e3, _, _, hd3⟩ := mod_set (i := 2) (ρ := [some (.tuple es), some (.int at_), none]) (f := fC (.int 5)) (show (0 : Int) < 5 by decide) (fun _ => rfl) hd2
          obtain ⟨r, ds4, e4, tr, hd4⟩ := last_ok (rc := m__law_spoilt f) (kd := kd) hn hl hes a0 a1 hd3 hn1 fun x hx => by
            obtain ⟨r, ds', er, tr, hd'⟩ := spoilt_ok hn1 hn j f x ds3 (by omega) (by omega) (hes x hx) hd3
            exact ⟨r, ds', er, tr, hd'⟩
          refine ⟨r, ds4, fin (ρ' := [some (.tuple es), some (.int at_), some (.int kd)]) ?_, tr, hd4⟩
          have em : es.isEmpty = false := by cases es <;> first | exact absurd rfl he | rfl
          have z0 : ([] : List PyData).length ≤ sizeLine := Nat.zero_le _
          unfold sem__law_spoilt
          rw [sSeq_ok, sIf_ok, e1]
          simp only [ok_bind, Bool.false_eq_true, if_false, sNil_ok]
          rw [sSeq_ok, sIf_ok, eLT_ok, gCmp_ok, fVar_succ, fVar_zero, fTup_ok, fNil_ok]
          simp only [ok_bind, if_pos z0, en, em, ofO_some, Bool.false_eq_true, if_false, sNil_ok]
          rw [sSeq_ok, e2]
          simp only [ok_bind]
          rw [sSeq_ok]
          have e3' : sSet 3 (eOp dMod (eN dInt (eCons (eCallM 0 m__law_next (eLA fNil)) eNil)) (eL (fC (.int 5)))) (some (.list ds2) :: ([some (.tuple es), none, none] : Env).set 1 (some (.int at_))) = .ok (.nx, [some (.list ds3), some (.tuple es), some (.int at_), some (.int kd)]) := e3
          rw [e3']
          simp only [ok_bind]
          exact e4
      | _ => cases ht
end PV
end

set_option Elab.async false
set_option linter.all false
set_option maxRecDepth 100000
set_option maxHeartbeats 1000000
set_option autoImplicit false
/-! k21: the try loop; words. -/
noncomputable section
namespace PV
open PySem PySem.Spec PyProof.Rows L2
theorem ne_kind : dNe (.str "!number") (.str "!number") = some false := by kernel_rfl
theorem tm_nil : Tm 1 1 (.tuple []) = true := by rfl
/-- one turn of the try loop -/
theorem try_turn {K : PySem.W.Frag} {z : Str} (hz : (tab_FORMS K).lookup z = some none) {a0 a1 a2 a3 a4 a6 a7 a8 a9 a10 a11 a12 a13 : Option PyData} :
    ∃ ρ', (sTry exNames 10 [0, 2, 3, 4, 5, 6, 7, 8, 9, 11, 12, 13] (sSeq (sDrop (eL (fCall (m_has_form K) (fCons (fVar 5) (fCons (fTup fNil) fNil)))))
  (sRet (eL (fC (.bool false))))) (fun q0 z0 => (sIf (eLT (gCmp dNe (fCall (m__law_kind z0 q0) (fCons (fVar 10) fNil)) (fC (.str "!number")))) (sRet (eL (fC (.bool false))))
  sNil))) [a0, a1, a2, a3, a4, some (.str z), a6, a7, a8, a9, a10, a11, a12, a13] = .ok (.nx, ρ') ∧ ρ'.length = 14 := by
  have hb : (sSeq (sDrop (eL (fCall (m_has_form K) (fCons (fVar 5) (fCons (fTup fNil) fNil))))) (sRet (eL (fC (.bool false))))) [a0, a1, a2, a3, a4, some (.str z), a6, a7, a8, a9, a10, a11, a12, a13] = .ex ⟨"BadNumber", none⟩ := by
    have z0 : ([] : List PyData).length ≤ sizeLine := Nat.zero_le _
    rw [sSeq_ok, sDrop_ok, eL_ok, fCall_ok, fCons_ok, fVar_succ, fVar_succ, fVar_succ, fVar_succ, fVar_succ, fVar_zero, fCons_ok, fTup_ok, fNil_ok]
    simp only [ok_bind, if_pos z0, form_ex hz, ex_bind]
  have hx : (Option.isNone (none : Option (Str × PyData)) && decide (("BadNumber" : Str) ∈ exNames)) = true := by kernel_rfl
  refine ⟨[a0, none, a2, a3, a4, some (.str z), a6, a7, a8, a9, none, a11, a12, a13], ?_, rfl⟩
  unfold sTry
  rw [hb]
  show (if (Option.isNone (none : Option (Str × PyData)) && decide (("BadNumber" : Str) ∈ exNames)) = true then _ else _) = _
  rw [if_pos hx]
  have key : ∀ a : Addr, (noX ((sIf (eLT (gCmp dNe (fCall (m__law_kind "BadNumber" a) (fCons (fVar 10) fNil)) (fC (.str "!number")))) (sRet (eL (fC (.bool false)))) sNil) ((keepE [0, 2, 3, 4, 5, 6, 7, 8, 9, 11, 12, 13] [a0, a1, a2, a3, a4, some (.str z), a6, a7, a8, a9, a10, a11, a12, a13]).set 10 (some (adrD a)))) >>= fun r => R.ok (r.1, r.2.set 10 none)) = .ok (.nx, [a0, none, a2, a3, a4, some (.str z), a6, a7, a8, a9, none, a11, a12, a13]) := fun a => by
    have e : (keepE [0, 2, 3, 4, 5, 6, 7, 8, 9, 11, 12, 13] [a0, a1, a2, a3, a4, some (.str z), a6, a7, a8, a9, a10, a11, a12, a13]).set 10 (some (adrD a)) = [a0, none, a2, a3, a4, some (.str z), a6, a7, a8, a9, some (adrD a), a11, a12, a13] := rfl
    have v : fVar 10 [a0, none, a2, a3, a4, some (.str z), a6, a7, a8, a9, some (adrD a), a11, a12, a13] = .ok (adrD a) := rfl
    rw [e, sIf_ok, eLT_ok, gCmp_ok, fCall_ok, fCons_ok, v]
    simp only [ok_bind, fNil_ok, kind_ok, fC_ok, ne_kind, ofO_some, Bool.false_eq_true, if_false, sNil_ok, noX]
    rfl
  have e2 := funext key
  exact (congrArg allA e2).trans (allA_const _)
end PV
end

set_option Elab.async false
set_option linter.all false
set_option maxRecDepth 100000
set_option maxHeartbeats 1000000
set_option autoImplicit false
/-! k21: numbers in words. -/
noncomputable section
namespace PV
open PySem PySem.Spec PyProof.Rows L2
theorem len_str {x : Str} (h : x.length ≤ 1000) : dLen [.str x] = some (.int x.length) := by
  have : x.length ≤ sizeLine := by rw [sz]; omega
  simp [dLen, this]
theorem num_long {x : Str} (h2 : 2 < x.length) (h : x.length ≤ 1000) : m_number_in [.str x] = .ok .none := by
  show (sem_number_in [some (.str x), none] >>= fun r => endV r.1) = _
  have e1 : decide ((1 : Int) ≤ (x.length : Int)) = true := by simp; omega
  have e2 : decide ((x.length : Int) ≤ 2) = false := by simp; omega
  unfold sem_number_in
  rw [sSeq_ok, sIf_ok, eLT_ok, gOr_ok, gNot_ok]
  unfold gChain
  simp only [fC_ok, ok_bind, fN_ok, fCons_ok, fVar_zero, fNil_ok, len_str h, ofO_some, dLe_int, e1, e2, if_true, Bool.not_false, sRet_ok, eL_ok]
  rfl
def l100 : List PyData := (rangeL 0 100).map fun d => match d with
  | .int i => .str (toString i)
  | d => d
theorem l100_small : l100.all (fun d => match d with | .str y => decide (y.length ≤ 2) | _ => false) = true := by kernel_rfl
theorem l100_shaped : SeqAt.shaped (.list l100) = true := by kernel_rfl
theorem l100_ok {x : PyData} : fLc (.nm 1) [1] (fRg (fCons (fC (.int 100)) fNil)) gYes (fN dStr (fCons (fVar 1) fNil)) [some x, none] = .ok (.list l100) := by
  have hr : rangeD [.int 100] = some (rangeL 0 100) := by simp [rangeD, smallI]
  have e : fLcL (.nm 1) [1] gYes (fN dStr (fCons (fVar 1) fNil)) [some x, none] (rangeL 0 100) = .ok l100 := plc_map _ _ fun d hd => by
    obtain ⟨i, hi, rfl⟩ := List.mem_map.mp hd
    have : ((0 : Int) + (i : Int)).natAbs.log2 < 1920 := by
      have : i < 100 := by simpa using hi
      exact Nat.lt_trans (log2_lt (k := 7) (by omega) (by decide)) (by decide)
    refine ⟨[some x, some (.int (0 + i))], rfl, ?_⟩
    simp only [fN_ok, fCons_ok, fVar_succ, fVar_zero, fNil_ok, ok_bind, dStr, if_pos this, ofO_some]
  have hl : l100.length ≤ sizeLine := by rw [sz]; exact of_decide_eq_true (by kernel_rfl)
  unfold fLc fRg
  simp only [fCons_ok, fC_ok, fNil_ok, ok_bind, hr, ofO_some, e]
  exact if_pos hl
theorem lnum_long {x : Str} (h2 : 2 < x.length) (h : x.length ≤ 1000) (ho : PyData.strOk x = true) : m__law_number_of [.str x] = .ok .none := by
  have sx : SeqAt.shaped (.str x) = true := by simp [SeqAt.shaped, PyData.canLay0, PyData.depth, ho]
  have ea : (l100.any fun z => PyData.eqv z (.str x)) = false := by
    rw [List.any_eq_false]
    intro z hz hq
    have := List.all_eq_true.mp l100_small z hz
    cases z with
    | str y =>
      have hy : y.length ≤ 2 := of_decide_eq_true this
      have e : (y == x) = true := by simpa [PyData.eqv] using hq
      have := eq_of_beq e
      subst this
      omega
    | _ => cases this
  have ei : dIn false (.str x) (.list l100) = some false := by simp [dIn, lIn, sx, l100_shaped, ea]
  show (sem__law_number_of [some (.str x), none] >>= fun r => endV r.1) = _
  unfold sem__law_number_of
  rw [sRet_ok, eL_ok]
  unfold fIf
  rw [gCmp_ok, fVar_zero, l100_ok]
  simp only [ok_bind, ei, ofO_some, Bool.false_eq_true, if_false, fC_ok]
  rfl
def signs7 : List Nat := [97, 107, 122, 57, 48, 49, 66]
def words2 : List (List Nat) := [[]] ++ signs7.map (fun a => [a]) ++ (signs7.map fun a => signs7.map fun b => [a, b]).flatten
def same2 (w : List Nat) : Bool := match m_number_in [.str ⟨w.toArray⟩], m__law_number_of [.str ⟨w.toArray⟩] with
  | .ok .none, .ok .none => true
  | .ok (.int i), .ok (.int j) => i == j && decide (0 ≤ i) && decide (i < 100)
  | _, _ => false
theorem same2_all : words2.all same2 = true := by kernel_rfl
theorem words2_mem {w : List Nat} (h : ∀ c ∈ w, c ∈ signs7) (hl : w.length ≤ 2) : w ∈ words2 := by
  match w, h, hl with
  | [], _, _ => simp [words2]
  | [a], h, _ => simp [words2, h a (by simp)]
  | [a, b], h, _ =>
    simp only [words2, List.mem_append]
    exact .inr (List.mem_flatten.mpr ⟨_, List.mem_map.mpr ⟨a, h a (by simp), rfl⟩, List.mem_map.mpr ⟨b, h b (by simp), rfl⟩⟩)
  | _ :: _ :: _ :: _, _, hl => simp at hl
theorem number_same {w : List Nat} (h : ∀ c ∈ w, c ∈ signs7) (hl : w.length ≤ 1000) : ∃ d, m_number_in [.str ⟨w.toArray⟩] = .ok d ∧ m__law_number_of [.str ⟨w.toArray⟩] = .ok d ∧ (d = .none ∨ ∃ i : Int, d = .int i ∧ 0 ≤ i ∧ i < 100) := by
  by_cases h2 : w.length ≤ 2
  · have e := List.all_eq_true.mp same2_all w (words2_mem h h2)
    unfold same2 at e
    split at e
    · rename_i e1 e2; exact ⟨_, e1, e2, .inl rfl⟩
    · rename_i i j e1 e2
      simp only [Bool.and_eq_true, beq_iff_eq, decide_eq_true_eq] at e
      obtain ⟨⟨rfl, h0⟩, h1⟩ := e
      exact ⟨_, e1, e2, .inr ⟨_, rfl, h0, h1⟩⟩
    · cases e
  · have hz : (⟨w.toArray⟩ : Str).length = w.length := by simp [Str.length]
    have ho : PyData.strOk ⟨w.toArray⟩ = true := by
      unfold PyData.strOk
      rw [Array.all_eq_true']
      intro c hc
      have := h c (by simpa using hc)
      simp [signs7] at this
      simp; omega
    exact ⟨.none, num_long (by omega) (by omega), lnum_long (by omega) (by omega) ho, .inl rfl⟩
end PV
end

set_option Elab.async false
set_option linter.all false
set_option maxRecDepth 100000
set_option maxHeartbeats 1000000
set_option autoImplicit false
/-! k21: the parts of a text. -/
noncomputable section
namespace PV
open PySem PySem.Spec PyProof.Rows L2
theorem sub_part {x : Str} {i j : Nat} : (∀ c ∈ (Builtin.Str.strSub x i j).cps.toList, c ∈ x.cps.toList) ∧ (Builtin.Str.strSub x i j).length ≤ x.length := by
  constructor
  · intro c hc
    have e : (Builtin.Str.strSub x i j).cps.toList = (x.cps.toList.drop i).take (j - i) := by
      show (x.cps.extract i j).toList = _
      rw [Array.toList_extract, List.extract_eq_drop_take]
    rw [e] at hc
    exact List.mem_of_mem_drop (List.mem_of_mem_take hc)
  · show (x.cps.extract i j).size ≤ x.cps.size
    rw [Array.size_extract]
    omega
theorem split_part {x y : Str} : ∀ p ∈ Txt.split x y, (∀ c ∈ p.cps.toList, c ∈ x.cps.toList) ∧ p.length ≤ x.length := by
  intro p hp
  unfold Txt.split at hp
  split at hp
  · rw [List.mem_singleton.mp hp]; exact ⟨fun c h => h, Nat.le_refl _⟩
  · split at hp
    · rw [List.mem_singleton.mp hp]; exact ⟨fun c h => h, Nat.le_refl _⟩
    · unfold Builtin.Str.partsBetween at hp
      obtain ⟨⟨i, j⟩, _, rfl⟩ := List.mem_map.mp hp
      exact sub_part
/-- a loop whose body goes on or gives v back -/
theorem for_rt {t : Tg} {f : FS} {v : PyData} (I : Env → Prop) : ∀ (ds : List PyData), (∀ d ∈ ds, ∀ ρ, I ρ → ∃ ρ1, put t d ρ = .ok ρ1 ∧ ((∃ ρ2, f ρ1 = .ok (.nx, ρ2) ∧ I ρ2) ∨ ∃ ρ2, f ρ1 = .ok (.rt v, ρ2))) → ∀ ρ, I ρ → (∃ ρ', sForL t f ds ρ = .ok (.nx, ρ') ∧ I ρ') ∨ ∃ ρ', sForL t f ds ρ = .ok (.rt v, ρ')
  | [], _, ρ, h => .inl ⟨ρ, rfl, h⟩
  | d :: ds, hs, ρ, h => by
    obtain ⟨ρ1, e1, e2⟩ := hs d (List.mem_cons_self ..) ρ h
    rcases e2 with ⟨ρ2, e2, h2⟩ | ⟨ρ2, e2⟩
    · rcases for_rt I ds (fun x hx => hs x (List.mem_cons_of_mem _ hx)) ρ2 h2 with ⟨ρ', e3, h3⟩ | ⟨ρ', e3⟩
      · exact .inl ⟨ρ', by simp [sForL, e1, e2, e3], h3⟩
      · exact .inr ⟨ρ', by simp [sForL, e1, e2, e3]⟩
    · exact .inr ⟨ρ2, by simp [sForL, e1, e2]⟩
end PV
end

set_option Elab.async false
set_option linter.all false
set_option maxRecDepth 100000
set_option maxHeartbeats 1000000
set_option autoImplicit false
/-! k21: words_of ends. -/
noncomputable section
namespace PV
open PySem PySem.Spec PyProof.Rows L2
theorem shaped_str {x : Str} (h : PyData.strOk x = true) : SeqAt.shaped (.str x) = true := by simp [SeqAt.shaped, PyData.canLay0, PyData.depth, h]
theorem strOk_sub {p x : Str} (h : ∀ c ∈ p.cps.toList, c ∈ x.cps.toList) (hx : PyData.strOk x = true) : PyData.strOk p = true := by
  unfold PyData.strOk at hx ⊢
  rw [Array.all_eq_true'] at hx ⊢
  intro c hc
  exact hx c (by simpa using h c (by simpa using hc))
def goodC (d : PyData) : Bool := match d with
  | .str c => !decide (c.cps.toList < ("!" : Str).cps.toList) && !decide (("~" : Str).cps.toList < c.cps.toList)
  | _ => false
theorem words_ok {x : Str} (ho : PyData.strOk x = true) (hl : x.length ≤ 100) : m_words_of [.str x] = .ok .none ∨ m_words_of [.str x] = .ok (.list ((Txt.split x " ").map .str)) := by
  have es : dSplit (.str x) [.str " "] = some (.list ((Txt.split x " ").map .str)) := by
    have h1 : ((" " : Str).length == 0) = false := by kernel_rfl
    have h2 : x.length + 2 ≤ sizeLine := by rw [sz]; omega
    simp [dSplit, h1, h2]
  generalize hL : (Txt.split x " ").map PyData.str = L at es
  have body := for_rt (t := .nm 2) (v := .none) (f := sIf (eLT (gOr (gCmp dEq (fVar 2) (fC (.str ""))) (gNot (gTru dTru (fN dAll (fCons (fLc (.nm 3) [3] (fIt (fVar 2)) gYes (fOfB (gChain dLe dLe (fC (.str "!")) (fVar 3) (fC (.str "~"))))) fNil)))))) (sRet (eL (fC .none))) sNil)
    (fun ρ => ∃ a b, ρ = [some (.str x), some (.list L), a, b]) L (fun d hd ρ ⟨a, b, e⟩ => by
      subst e
      rw [← hL] at hd
      obtain ⟨p, hp, rfl⟩ := List.mem_map.mp hd
      obtain ⟨hp1, hp2⟩ := split_part p hp
      have po := strOk_sub hp1 ho
      have s0 : SeqAt.shaped (.str "") = true := by kernel_rfl
      have d0 : dEq (.str p) (.str "") = some (PyData.eqv (.str p) (.str "")) := by simp [dEq, shaped_str po, s0]
      have a := all_ok (t := .nm 3) (own := [3]) (fi := fIt (fVar 2)) (fe := fOfB (gChain dLe dLe (fC (.str "!")) (fVar 3) (fC (.str "~")))) (ρ := [some (.str x), some (.list L), some (.str p), b]) (ds := chars p) (g := goodC) (by simp [fIt, itemsD]) (by simp [chars]; exact Nat.le_trans hp2 (by omega)) (fun d hd' => by
        obtain ⟨c, _, rfl⟩ := List.mem_map.mp hd'
        refine ⟨[some (.str x), some (.list L), some (.str p), some (.str ⟨#[c]⟩)], rfl, ?_⟩
        have l1 : dLe (.str "!") (.str ⟨#[c]⟩) = some (!decide ((⟨#[c]⟩ : Str).cps.toList < ("!" : Str).cps.toList)) := rfl
        have l2 : dLe (.str ⟨#[c]⟩) (.str "~") = some (!decide (("~" : Str).cps.toList < (⟨#[c]⟩ : Str).cps.toList)) := rfl
        unfold fOfB gChain
        simp only [fC_ok, ok_bind, fVar_succ, fVar_zero, l1, l2, ofO_some, goodC]
        cases (!decide ((⟨#[c]⟩ : Str).cps.toList < ("!" : Str).cps.toList)) <;> simp)
      refine ⟨[some (.str x), some (.list L), some (.str p), b], rfl, ?_⟩
      have t1 : ∀ q : Bool, dTru (.bool q) = some q := fun _ => rfl
      rw [sIf_ok, eLT_ok, gOr_ok, gCmp_ok, gNot_ok, gTru_ok]
      simp only [fVar_succ, fVar_zero, fC_ok, ok_bind, d0, ofO_some, a, t1]
      cases PyData.eqv (.str p) (.str "") <;> cases (chars p).all goodC <;> simp) [some (.str x), some (.list L), none, none] ⟨_, _, rfl⟩
  have go : ∀ {r : Fl × Env}, sForL (.nm 2) (sIf (eLT (gOr (gCmp dEq (fVar 2) (fC (.str ""))) (gNot (gTru dTru (fN dAll (fCons (fLc (.nm 3) [3] (fIt (fVar 2)) gYes (fOfB (gChain dLe dLe (fC (.str "!")) (fVar 3) (fC (.str "~"))))) fNil)))))) (sRet (eL (fC .none))) sNil) L [some (.str x), some (.list L), none, none] = .ok r →
      m_words_of [.str x] = ((match r.1 with | .nx => sRet (eL (fVar 1)) r.2 | .bk => .ok (.bk, r.2) | .ct => .ok (.ct, r.2) | .rt d => .ok (.rt d, r.2)) >>= fun q => endV q.1) := fun {r} e => by
    show (sem_words_of [some (.str x), none, none, none] >>= fun r => endV r.1) = _
    unfold sem_words_of
    rw [sSeq_ok, sSet_ok, eL_ok]
    unfold fMe
    simp only [fVar_zero, ok_bind, isStr, if_true, fCons_ok, fC_ok, fNil_ok, es, ofO_some, List.set_cons_succ, List.set_cons_zero]
    rw [sSeq_ok, sFor_ok, eIt_ok, eL_ok, fVar_succ, fVar_zero]
    simp only [ok_bind, itemsD, ofO_some, e]
    try rfl
  rcases body with ⟨ρ', e, a, b, rfl⟩ | ⟨ρ', e⟩
  · exact .inr (go e)
  · exact .inl (go e)
end PV
end

set_option Elab.async false
set_option linter.all false
set_option maxRecDepth 100000
set_option maxHeartbeats 1000000
set_option autoImplicit false
/-! k21: repr of what words_of gives. -/
noncomputable section
namespace PV
open PySem PySem.Spec PyProof.Rows L2
theorem strs_shape {L : List Str} (h : ∀ p ∈ L, PyData.strOk p = true) : SeqAt.shaped (.list (L.map .str)) = true := by
  have h1 : PyData.canLayAll0 (L.map .str) = true := lay_all fun x hx => by
    obtain ⟨p, hp, rfl⟩ := List.mem_map.mp hx
    simp [PyData.canLay0, h p hp]
  have h2 : PyData.depthAll (L.map .str) ≤ 1 := dep_all fun x hx => by
    obtain ⟨p, hp, rfl⟩ := List.mem_map.mp hx
    simp [PyData.depth]
  unfold SeqAt.shaped
  simp only [PyData.canLay0, PyData.depth, h1, Bool.true_and]
  exact decide_eq_true (by omega)
theorem strs_show : ∀ (L : List Str), PyData.showableAll (L.map .str) = true ∧ PyData.hasDictAll (L.map .str) = false ∧ PyData.shownAll (L.map .str) = L.map reprText
  | [] => by simp [PyData.showableAll, PyData.hasDictAll, PyData.shownAll]
  | p :: L => by
    obtain ⟨h1, h2, h3⟩ := strs_show L
    simp [PyData.showableAll, PyData.hasDictAll, PyData.shownAll, PyData.showable, PyData.hasDict, PyData.shown, h1, h2, h3]
theorem sum_le {b : Nat} : ∀ {l : List Nat}, (∀ x ∈ l, x ≤ b) → l.sum ≤ b * l.length
  | [], _ => by simp
  | x :: l, h => by
    have h1 := h x (List.mem_cons_self ..)
    have h2 := sum_le fun y hy => h y (List.mem_cons_of_mem _ hy)
    rw [List.sum_cons, List.length_cons, Nat.mul_succ]
    omega
theorem strOk_lt {p : Str} (h : PyData.strOk p = true) : ∀ c ∈ p.cps.toList, c < 16 ^ 8 := by
  intro c hc
  unfold PyData.strOk at h
  rw [Array.all_eq_true'] at h
  have := of_decide_eq_true (h c (by simpa using hc))
  omega
theorem repr_strs {L : List Str} (h : ∀ p ∈ L, PyData.strOk p = true) (hl : ∀ p ∈ L, p.length ≤ 100) (hn : L.length ≤ 102) : dRepr [.list (L.map .str)] = some (.str (PyData.list (L.map .str)).shown) := by
  obtain ⟨h1, h2, h3⟩ := strs_show L
  have e : (PyData.list (L.map .str)).shown = listText (L.map reprText) := by simp only [PyData.shown, h3]
  have hs : ((L.map reprText).map (·.length)).sum ≤ 1002 * L.length := by
    have := sum_le (b := 1002) (l := (L.map reprText).map (·.length)) (fun x hx => by
      obtain ⟨y, hy, rfl⟩ := List.mem_map.mp hx
      obtain ⟨p, hp, rfl⟩ := List.mem_map.mp hy
      have := StrLaws.reprText_len p (strOk_lt (h p hp))
      have := hl p hp
      omega)
    simpa using this
  have hz : (PyData.list (L.map .str)).shown.length ≤ sizeLine := by
    rw [e, sz]
    have := listText_len_le (L.map reprText)
    have e2 : (L.map reprText).length = L.length := List.length_map ..
    omega
  have a1 : (PyData.list (L.map .str)).showable = true := by simp only [PyData.showable, h1]
  have a2 : (PyData.list (L.map .str)).hasDict = false := by simp only [PyData.hasDict, h2]
  simp [dRepr, strs_shape h, a1, a2, hz]
theorem repr_none : dRepr [.none] = some (.str "None") := by kernel_rfl
theorem words_repr {x : Str} (ho : PyData.strOk x = true) (hl : x.length ≤ 100) : ∃ d r, m_words_of [.str x] = .ok d ∧ dRepr [d] = some (.str r) := by
  rcases words_ok ho hl with e | e
  · exact ⟨_, _, e, repr_none⟩
  · refine ⟨_, _, e, repr_strs (fun p hp => strOk_sub (split_part p hp).1 ho) (fun p hp => Nat.le_trans (split_part p hp).2 hl) (Nat.le_trans (PyProof.Rows.split_le x " ") (by omega))⟩
theorem dNe_strs {r : Str} (h : PyData.strOk r = true) : dNe (.str r) (.str r) = some false := by
  have : PyData.eqv (.str r) (.str r) = true := by simp [PyData.eqv]
  simp [dNe, shaped_str h, this]
end PV
end

set_option Elab.async false
set_option linter.all false
set_option maxRecDepth 100000
set_option maxHeartbeats 1000000
set_option autoImplicit false
/-! k21: texts drawn; their repr. -/
noncomputable section
namespace PV
open PySem PySem.Spec PyProof.Rows L2
def sgn13 : List Nat := [97, 98, 32, 48, 55, 126, 33, 40, 65, 9, 45, 122]
def goodR (c : Nat) : Bool := [34, 39].all fun q => (Builtin.Str.reprChar q c).all fun x => decide (x < 0x110000)
theorem sgn_good : sgn13.all goodR = true := by kernel_rfl
theorem strOk_iff {x : Str} : PyData.strOk x = true ↔ ∀ c ∈ x.cps.toList, c < 0x110000 := by
  unfold PyData.strOk
  rw [Array.all_eq_true']
  simp
theorem fold_ok (q : Nat) : ∀ (l : List Nat) (acc : Array Nat), (∀ c ∈ l, ∀ x ∈ Builtin.Str.reprChar q c, x < 0x110000) → (∀ x ∈ acc.toList, x < 0x110000) → ∀ x ∈ (l.foldl (fun out c => out ++ (Builtin.Str.reprChar q c).toArray) acc).toList, x < 0x110000
  | [], acc, _, h => h
  | c :: r, acc, hc, h => by
    rw [List.foldl_cons]
    refine fold_ok q r _ (fun d hd => hc d (List.mem_cons_of_mem _ hd)) fun x hx => ?_
    rw [Array.toList_append, List.mem_append] at hx
    rcases hx with hx | hx
    · exact h x hx
    · exact hc c (List.mem_cons_self ..) x hx
theorem repr_strOk {x : Str} (h : ∀ c ∈ x.cps.toList, c ∈ sgn13) : PyData.strOk (reprText x) = true := by
  rw [strOk_iff]
  have hq : reprQuote x = 34 ∨ reprQuote x = 39 := by unfold reprQuote; split <;> simp
  have q1 : reprQuote x < 0x110000 := by rcases hq with e | e <;> rw [e] <;> decide
  intro c hc
  have e : (reprText x).cps.toList = (x.cps.toList.foldl (fun out c => out ++ (Builtin.Str.reprChar (reprQuote x) c).toArray) #[reprQuote x]).toList ++ [reprQuote x] := by
    unfold reprText
    rw [Array.toList_push, ← Array.foldl_toList]
  rw [e, List.mem_append] at hc
  rcases hc with hc | hc
  · refine fold_ok _ _ _ (fun c hc' y hy => ?_) (fun y hy => ?_) c hc
    · have := List.all_eq_true.mp sgn_good c (h c hc')
      simp only [goodR, List.all_cons, List.all_nil, Bool.and_true, Bool.and_eq_true, List.all_eq_true, decide_eq_true_eq] at this
      rcases hq with e | e <;> rw [e] at hy
      · exact this.1 y hy
      · exact this.2 y hy
    · simp at hy; rw [hy]; exact q1
  · simp at hc; rw [hc]; exact q1
theorem strOk_app {x y : Str} (hx : PyData.strOk x = true) (hy : PyData.strOk y = true) : PyData.strOk (x ++ y) = true := by
  rw [strOk_iff] at *
  intro c hc
  rcases mem_cps_append.mp hc with h | h
  · exact hx c h
  · exact hy c h
theorem textFrom_strOk : ∀ (ts : List Str) (k : Nat) (acc : Str), PyData.strOk acc = true → (∀ t ∈ ts, PyData.strOk t = true) → PyData.strOk (textFrom k acc ts) = true
  | [], k, acc, h, _ => h
  | t :: ts, k, acc, h, ht => by
    refine textFrom_strOk ts (k + 1) _ (strOk_app (strOk_app h ?_) (ht t (List.mem_cons_self ..))) fun x hx => ht x (List.mem_cons_of_mem _ hx)
    by_cases hk : k > 0
    · rw [if_pos hk]; kernel_rfl
    · rw [if_neg hk]; kernel_rfl
theorem listText_strOk {ts : List Str} (h : ∀ t ∈ ts, PyData.strOk t = true) : PyData.strOk (listText ts) = true :=
  strOk_app (textFrom_strOk ts 0 _ (by kernel_rfl) h) (by kernel_rfl)
theorem sgn_ok {x : Str} (h : ∀ c ∈ x.cps.toList, c ∈ sgn13) : PyData.strOk x = true := strOk_iff.mpr fun c hc => by
  have := List.all_eq_true.mp (show sgn13.all (fun c => decide (c < 0x110000)) = true by kernel_rfl) c (h c hc)
  exact of_decide_eq_true this
theorem words_repr2 {x : Str} (ho : ∀ c ∈ x.cps.toList, c ∈ sgn13) (hl : x.length ≤ 100) : ∃ d r, m_words_of [.str x] = .ok d ∧ dRepr [d] = some (.str r) ∧ PyData.strOk r = true := by
  rcases words_ok (sgn_ok ho) hl with e | e
  · exact ⟨_, _, e, repr_none, by kernel_rfl⟩
  · refine ⟨_, _, e, repr_strs (fun p hp => strOk_sub (split_part p hp).1 (sgn_ok ho)) (fun p hp => Nat.le_trans (split_part p hp).2 hl) (Nat.le_trans (PyProof.Rows.split_le x " ") (by omega)), ?_⟩
    obtain ⟨_, _, h3⟩ := strs_show (Txt.split x " ")
    have e : (PyData.list ((Txt.split x " ").map .str)).shown = listText ((Txt.split x " ").map reprText) := by simp only [PyData.shown, h3]
    rw [e]
    exact listText_strOk fun t ht => by
      obtain ⟨p, hp, rfl⟩ := List.mem_map.mp ht
      exact repr_strOk fun c hc => ho c ((split_part p hp).1 c hc)
theorem asStrs_of {P : Str → Prop} : ∀ {ys : List PyData}, (∀ y ∈ ys, ∃ s, y = .str s ∧ P s) → ∃ ss : List Str, asStrs ys = some ss ∧ ss.length = ys.length ∧ ∀ s ∈ ss, P s
  | [], _ => ⟨[], rfl, rfl, fun _ q => nomatch q⟩
  | y :: ys, h => by
    obtain ⟨s, rfl, hs⟩ := h y (List.mem_cons_self ..)
    obtain ⟨ss, e, l, hp⟩ := asStrs_of fun z hz => h z (List.mem_cons_of_mem _ hz)
    refine ⟨s :: ss, by simp [asStrs, e], by simp [l], fun t ht => ?_⟩
    rcases List.mem_cons.mp ht with rfl | ht
    · exact hs
    · exact hp t ht
theorem join_len : ∀ (ss : List Str), (∀ s ∈ ss, s.length ≤ 2) → (Str.join (("" : String) : Str) ss).length ≤ 2 * ss.length
  | [], _ => by decide
  | [s], h => by have := h s (List.mem_cons_self ..); rw [join_one]; simpa using this
  | s :: t :: r, h => by
    rw [join_cons_cons, strLen_append, strLen_append]
    have h1 := h s (List.mem_cons_self ..)
    have h2 := join_len (t :: r) fun x hx => h x (List.mem_cons_of_mem _ hx)
    have e : ((("" : String) : Str)).length = 0 := by kernel_rfl
    simp only [List.length_cons] at h2 ⊢
    omega
theorem range_len {r : Int} : (rangeL 0 r).length = r.toNat := by simp [rangeL]
/-- what a drawn text is -/
def Tx (S : List Nat) (s : Str) : Prop := (∀ c ∈ s.cps.toList, c ∈ S) ∧ s.length ≤ 2
theorem draw_str {N : Nat} {ds xs : List PyData} {m : Int} {S : List Nat} {L : Env → R PyData} {a0 a2 a3 a4 a5 a6 a7 a8 a9 a10 a11 a12 a13 : Option PyData} (hd : Dr N ds) (hm : 0 < m) (hm2 : m ≤ 50) (hL : ∀ ρ, L ρ = .ok (.list xs)) (hx : xs ≠ []) (hS : ∀ x ∈ xs, ∃ s : Str, x = .str s ∧ Tx S s) :
    ∃ x ds', eMe isStr dJoin (eL (fC (.str ""))) (eCons (eLc (.nm 11) [11] (eRg (eCons (eOp dMod (eN dInt (eCons (eCallM 1 m__law_next (eLA fNil)) eNil)) (eL (fC (.int m)))) eNil)) egYes (eCallM 1 m__law_pick (eLA (fCons L fNil)))) eNil) [a0, some (.list ds), a2, a3, a4, a5, a6, a7, a8, a9, a10, a11, a12, a13]
      = .ok (.str x, [a0, some (.list ds'), a2, a3, a4, a5, a6, a7, a8, a9, a10, none, a12, a13]) ∧ Dr N ds' ∧ (∀ c ∈ x.cps.toList, c ∈ S) ∧ x.length ≤ 100 := by
  obtain ⟨i, ds1, e1, i0, i1, h1⟩ := next_ok hd
  have r0 := Int.emod_nonneg i (show m ≠ 0 by omega)
  have r1 := Int.emod_lt_of_pos i hm
  generalize hr : i % m = r at r0 r1
  have hf : flatL xs = true := flatL_iff.mpr fun d hd => by obtain ⟨s, rfl, _⟩ := hS d hd; rfl
  have key := lc_inv (t := .nm 11) (own := [11]) (fe := eCallM 1 m__law_pick (eLA (fCons L fNil))) (fun ρ => ∃ ds b, ρ = [a0, some (.list ds), a2, a3, a4, a5, a6, a7, a8, a9, a10, b, a12, a13] ∧ b = none ∧ Dr N ds) (fun y => ∃ s, y = .str s ∧ Tx S s) (rangeL 0 r) (fun d _ ρ ⟨ds, b, e, _, hd⟩ => by
    subst e
    obtain ⟨d', ds', hm', ep, hd'⟩ := pick_ok hd hx hf
    refine ⟨[a0, some (.list ds), a2, a3, a4, a5, a6, a7, a8, a9, a10, some d, a12, a13], d', [a0, some (.list ds'), a2, a3, a4, a5, a6, a7, a8, a9, a10, some d, a12, a13], rfl, ?_, hS d' hm', ds', none, rfl, rfl, hd'⟩
    have ep' : m__law_pick (.list ds) [.list xs] = .ok (d', .list ds') := ep
    simp only [eCallM_ok, slot_succ, slot_zero, ok_bind, eLA_ok, fCons_ok, hL, fNil_ok, ep', List.set_cons_succ, List.set_cons_zero])
    [a0, some (.list ds1), a2, a3, a4, a5, a6, a7, a8, a9, a10, none, a12, a13] ⟨ds1, none, rfl, rfl, h1⟩
  obtain ⟨ys, ρ', e2, q2, l2, ds2, b, rfl, rfl, h2⟩ := key
  obtain ⟨ss, e3, l3, q3⟩ := asStrs_of q2
  rw [l2, range_len] at l3
  have hj : Txt.join (("" : String) : Str) ss = Str.join (("" : String) : Str) ss := by
    exact StrLaws.glued_eq_join _ _
  have hl := join_len ss fun s hs => (q3 s hs).2
  refine ⟨Str.join (("" : String) : Str) ss, ds2, ?_, h2, fun c hc => ?_, by omega⟩
  · have e1' : m__law_next (.list ds) [] = .ok (.int i, .list ds1) := e1
    have hrg : rangeD [.int r] = some (rangeL 0 r) := by
      have : smallI r = true := by rw [smallI_iff]; omega
      simp [rangeD, this]
    have hz : ys.length ≤ sizeLine := by rw [l2, range_len, sz]; omega
    have hs : (ss.map (·.length)).sum ≤ 2 * (ss.map (·.length)).length := sum_le fun x hx => by
      obtain ⟨s, hs, rfl⟩ := List.mem_map.mp hx
      exact (q3 s hs).2
    have ej : dJoin (.str "") [.list ys] = some (.str (Str.join (("" : String) : Str) ss)) := by
      have e0 : ((("" : String) : Str)).length = 0 := by kernel_rfl
      have hz2 : (ss.map (·.length)).sum + ss.length * ((("" : String) : Str)).length ≤ 16777216 := by
        rw [List.length_map] at hs
        rw [e0]
        omega
      simp only [dJoin, e3, if_pos hz2, hj]
    have w1 : wipeE [a0, some (.list ds1), a2, a3, a4, a5, a6, a7, a8, a9, a10, a11, a12, a13] [11] = [a0, some (.list ds1), a2, a3, a4, a5, a6, a7, a8, a9, a10, none, a12, a13] := rfl
    have er : (eRg (eCons (eOp dMod (eN dInt (eCons (eCallM 1 m__law_next (eLA fNil)) eNil)) (eL (fC (.int m)))) eNil)) [a0, some (.list ds), a2, a3, a4, a5, a6, a7, a8, a9, a10, a11, a12, a13] = .ok (rangeL 0 r, [a0, some (.list ds1), a2, a3, a4, a5, a6, a7, a8, a9, a10, a11, a12, a13]) := by
      simp only [eRg_ok, eCons_ok, eOp_ok, eN_ok, eCallM_ok, slot_succ, slot_zero, ok_bind, eLA_ok, fNil_ok, e1', List.set_cons_succ, List.set_cons_zero, eNil_ok, dInt_int, ofO_some, eL_ok, fC_ok, dMod_int hm, hr, hrg]
    unfold eMe
    simp only [eL_ok, fC_ok, ok_bind, isStr, if_true, eCons_ok]
    unfold eLc
    rw [er]
    simp only [ok_bind, w1, e2, lstE, if_pos hz, eNil_ok, ej, ofO_some]
  · rcases (mem_join _ _ _).mp hc with ⟨t, ht, hc⟩ | ⟨_, hc⟩
    · exact (q3 t ht).1 c hc
    · exact absurd hc (by have : ((("" : String) : Str)).cps.toList = [] := by kernel_rfl
                          rw [this]; exact List.not_mem_nil)
end PV
end

set_option Elab.async false
set_option linter.all false
set_option maxRecDepth 100000
set_option maxHeartbeats 1000000
set_option autoImplicit false
/-! k21: the law's first loop. -/
noncomputable section
namespace PV
open PySem PySem.Spec PyProof.Rows L2
def abc : PyData := .str "abcdefghijklmnopqrstuvwxyz"
def inAbc (d : PyData) : Bool := (dIn false d abc).getD false
theorem inAbc_ok : signs7.all (fun c => (dIn false (.str ⟨#[c]⟩) abc).isSome) = true := by kernel_rfl
theorem name_core {x : Str} (h : ∀ c ∈ x.cps.toList, c ∈ signs7) (hl : x.length ≤ 1000) {v : Env → R PyData} {j : Nat} {ρ : Env} (hv : v ρ = .ok (.str x)) (hj : j < ρ.length) :
    fAnd (fOfB (gChain dLe dLe (fC (.int 1)) (fN dLen (fCons v fNil)) (fC (.int 12)))) (fN dAll (fCons (fLc (.nm j) [j] (fIt v) gYes (fOfB (gCmp (dIn false) (fVar j) (fC abc)))) fNil)) ρ = .ok (.bool (decide (1 ≤ x.length) && decide (x.length ≤ 12) && (chars x).all inAbc)) := by
  have hlen : dLen [.str x] = some (.int x.length) := len_str hl
  have a := all_ok (t := .nm j) (own := [j]) (fi := fIt v) (fe := fOfB (gCmp (dIn false) (fVar j) (fC abc))) (ρ := ρ) (ds := chars x) (g := inAbc) (by simp [fIt, itemsD, hv]) (by simp [chars]; exact hl) (fun d hd => by
    obtain ⟨c, hc, rfl⟩ := List.mem_map.mp hd
    refine ⟨_, put_nm, ?_⟩
    have hs := List.all_eq_true.mp inAbc_ok c (h c (by simpa using hc))
    obtain ⟨b, hb⟩ := Option.isSome_iff_exists.mp hs
    have e : fVar j ((wipeE ρ [j]).set j (some (.str ⟨#[c]⟩))) = .ok (.str ⟨#[c]⟩) := by
      have : j < (wipeE ρ [j]).length := by rw [wipeE_len]; exact hj
      simp [fVar, this]
    unfold fOfB
    rw [gCmp_ok, e]
    simp only [ok_bind, fC_ok, hb, ofO_some, inAbc, Option.getD_some])
  rw [fAnd_ok, a]
  unfold fOfB gChain
  have e1 : ((1 : Int) ≤ (x.length : Int)) ↔ 1 ≤ x.length := by omega
  have e2 : ((x.length : Int) ≤ 12) ↔ x.length ≤ 12 := by omega
  simp only [fC_ok, ok_bind, fN_ok, fCons_ok, hv, fNil_ok, hlen, ofO_some, dLe_int, e1, e2]
  cases decide (1 ≤ x.length) <;> cases decide (x.length ≤ 12) <;> simp
theorem is_name_ok {x : Str} (h : ∀ c ∈ x.cps.toList, c ∈ signs7) (hl : x.length ≤ 1000) : m_is_name [.str x] = .ok (.bool (decide (1 ≤ x.length) && decide (x.length ≤ 12) && (chars x).all inAbc)) := by
  show (sem_is_name [some (.str x), none] >>= fun r => endV r.1) = _
  have e := name_core h hl (v := fVar 0) (j := 1) (ρ := [some (.str x), none]) rfl (by simp)
  unfold sem_is_name
  rw [sRet_ok, eL_ok]
  unfold abc at e
  rw [e]
  rfl
def nums : List PyData := .none :: rangeL 0 100
def repOk (b : Bool) (d : PyData) : Bool := match dRepr [.list [.bool b, d]] with
  | some (.str r) => PyData.strOk r
  | _ => false
theorem repOk_all : nums.all (fun d => repOk true d && repOk false d) = true := by kernel_rfl
theorem rep_ok {b : Bool} {d : PyData} (h : d ∈ nums) : ∃ r, dRepr [.list [.bool b, d]] = some (.str r) ∧ PyData.strOk r = true := by
  have e := List.all_eq_true.mp repOk_all d h
  rw [Bool.and_eq_true] at e
  have e : repOk b d = true := by
    cases b
    · exact e.2
    · exact e.1
  unfold repOk at e
  split at e
  · rename_i r hr; exact ⟨r, hr, e⟩
  · cases e
theorem nums_mem {d : PyData} (h : d = .none ∨ ∃ i : Int, d = .int i ∧ 0 ≤ i ∧ i < 100) : d ∈ nums := by
  rcases h with rfl | ⟨i, rfl, h0, h1⟩
  · exact List.mem_cons_self ..
  · refine List.mem_cons_of_mem _ (List.mem_map.mpr ⟨i.toNat, by simp; omega, ?_⟩)
    show PyData.int (0 + (i.toNat : Int)) = _
    congr 1
    omega
theorem seq_nx {f g : FS} {ρ ρ' : Env} (h : f ρ = .ok (.nx, ρ')) : sSeq f g ρ = g ρ' := by rw [sSeq_ok, h]; rfl
theorem seq_rt {f g : FS} {ρ ρ' : Env} {d : PyData} (h : f ρ = .ok (.rt d, ρ')) : sSeq f g ρ = .ok (.rt d, ρ') := by rw [sSeq_ok, h]; rfl
theorem if_no {t : Env → R Bool} {f : FS} {ρ : Env} (h : t ρ = .ok false) : sIf (eLT t) f sNil ρ = .ok (.nx, ρ) := by rw [sIf_ok, eLT_ok, h]; rfl
def E14 (a0 a2 a3 a4 a5 a6 a7 a8 a9 a10 a11 a12 a13 : Option PyData) (ds : List PyData) : Env := [a0, some (.list ds), a2, a3, a4, a5, a6, a7, a8, a9, a10, a11, a12, a13]
/-- any slots, draws in slot 1 -/
def I14 (N : Nat) (ρ : Env) : Prop := ∃ a0 a2 a3 a4 a5 a6 a7 a8 a9 a10 a11 a12 a13 ds, ρ = [a0, some (.list ds), a2, a3, a4, a5, a6, a7, a8, a9, a10, a11, a12, a13] ∧ Dr N ds
def lits1 : List PyData := [.str "a", .str "b", .str " ", .str "0", .str "7", .str "~", .str "!", .str "(", .str "A", .str "\t", .str "-", .str "z", .str "  "]
def lits2 : List PyData := [.str "a", .str "k", .str "z", .str "9", .str "0", .str "1", .str "", .str "", .str "B"]
def txB (S : List Nat) : PyData → Bool
  | .str s => (s.cps.toList.all fun c => decide (c ∈ S)) && decide (s.length ≤ 2)
  | _ => false
theorem txB_ok {S : List Nat} {xs : List PyData} (h : xs.all (txB S) = true) : ∀ x ∈ xs, ∃ s : Str, x = .str s ∧ Tx S s := fun x hx => by
  have := List.all_eq_true.mp h x hx
  cases x with
  | str s =>
    simp only [txB, Bool.and_eq_true, List.all_eq_true, decide_eq_true_eq] at this
    exact ⟨s, rfl, this⟩
  | _ => cases this
theorem lits1_ok : lits1.all (txB sgn13) = true := by kernel_rfl
theorem lits2_ok : lits2.all (txB signs7) = true := by kernel_rfl
theorem turn_ok {N : Nat} {ρ : Env} (h : I14 N ρ) : ∃ ρ', (sSeq (sSet 6 (eMe isStr dJoin (eL (fC (.str ""))) (eCons (eLc (.nm 11) [11] (eRg (eCons (eOp dMod (eN dInt (eCons (eCallM 1 m__law_next (eLA fNil)) eNil)) (eL (fC (.int 9)))) eNil)) egYes (eCallM 1 m__law_pick (eLA (fCons (fLst (fCons (fC (.str "a")) (fCons (fC (.str "b")) (fCons (fC (.str " ")) (fCons (fC (.str "0")) (fCons (fC (.str "7")) (fCons (fC (.str "~")) (fCons (fC (.str "!")) (fCons (fC (.str "(")) (fCons (fC (.str "A")) (fCons (fC (.str "\t")) (fCons (fC (.str "-")) (fCons (fC (.str "z")) (fCons (fC (.str "  ")) fNil)))))))))))))) fNil)))) eNil)))
  (sSeq (sIf (eLT (gCmp dNe (fN dRepr (fCons (fCall m_words_of (fCons (fVar 6) fNil)) fNil)) (fN dRepr (fCons (fCall m__law_line (fCons (fVar 6) fNil)) fNil)))) (sRet (eL (fC (.bool false))))
  sNil)
  (sSeq (sSet 7 (eMe isStr dJoin (eL (fC (.str ""))) (eCons (eLc (.nm 11) [11] (eRg (eCons (eOp dMod (eN dInt (eCons (eCallM 1 m__law_next (eLA fNil)) eNil)) (eL (fC (.int 15)))) eNil)) egYes (eCallM 1 m__law_pick (eLA (fCons (fLst (fCons (fC (.str "a")) (fCons (fC (.str "k")) (fCons (fC (.str "z")) (fCons (fC (.str "9")) (fCons (fC (.str "0")) (fCons (fC (.str "1")) (fCons (fC (.str "")) (fCons (fC (.str "")) (fCons (fC (.str "B")) fNil)))))))))) fNil)))) eNil)))
  (sSeq (sSet 8 (eL (fAnd (fOfB (gChain dLe dLe (fC (.int 1)) (fN dLen (fCons (fVar 7) fNil)) (fC (.int 12)))) (fN dAll (fCons (fLc (.nm 13) [13] (fIt (fVar 7)) gYes (fOfB (gCmp (dIn false) (fVar 13) (fC (.str "abcdefghijklmnopqrstuvwxyz"))))) fNil)))))
  (sIf (eLT (gCmp dNe (fN dRepr (fCons (fLst (fCons (fCall m_is_name (fCons (fVar 7) fNil)) (fCons (fCall m_number_in (fCons (fVar 7) fNil)) fNil))) fNil)) (fN dRepr (fCons (fLst (fCons (fVar 8) (fCons (fCall m__law_number_of (fCons (fVar 7) fNil)) fNil))) fNil)))) (sRet (eL (fC (.bool false))))
  sNil))))) ρ = .ok (.nx, ρ') ∧ I14 N ρ' := by
  obtain ⟨a0, a2, a3, a4, a5, a6, a7, a8, a9, a10, a11, a12, a13, ds, rfl, hd⟩ := h
  have z13 : lits1.length ≤ sizeLine := by rw [sz]; decide
  have z9 : lits2.length ≤ sizeLine := by rw [sz]; decide
  obtain ⟨x, ds1, ex, h1, hx, hxl⟩ := draw_str (m := 9) (xs := lits1) (S := sgn13) (L := fLst (fCons (fC (.str "a")) (fCons (fC (.str "b")) (fCons (fC (.str " ")) (fCons (fC (.str "0")) (fCons (fC (.str "7")) (fCons (fC (.str "~")) (fCons (fC (.str "!")) (fCons (fC (.str "(")) (fCons (fC (.str "A")) (fCons (fC (.str "\t")) (fCons (fC (.str "-")) (fCons (fC (.str "z")) (fCons (fC (.str "  ")) fNil))))))))))))))
    (a0 := a0) (a2 := a2) (a3 := a3) (a4 := a4) (a5 := a5) (a6 := a6) (a7 := a7) (a8 := a8) (a9 := a9) (a10 := a10) (a11 := a11) (a12 := a12) (a13 := a13) hd (by decide) (by decide) (fun ρ => by
      rw [fLst_ok]; simp only [fCons_ok, fC_ok, fNil_ok, ok_bind]; exact if_pos z13) (by simp [lits1]) (txB_ok lits1_ok)
  obtain ⟨d, r, ed, er, ro⟩ := words_repr2 hx hxl
  have ed' : m__law_line [.str x] = .ok d := ed
  obtain ⟨w, ds2, ew, h2, hw, hwl⟩ := draw_str (m := 15) (xs := lits2) (S := signs7) (L := fLst (fCons (fC (.str "a")) (fCons (fC (.str "k")) (fCons (fC (.str "z")) (fCons (fC (.str "9")) (fCons (fC (.str "0")) (fCons (fC (.str "1")) (fCons (fC (.str "")) (fCons (fC (.str "")) (fCons (fC (.str "B")) fNil))))))))))
    (a0 := a0) (a2 := a2) (a3 := a3) (a4 := a4) (a5 := a5) (a6 := some (.str x)) (a7 := a7) (a8 := a8) (a9 := a9) (a10 := a10) (a11 := none) (a12 := a12) (a13 := a13) h1 (by decide) (by decide) (fun ρ => by
      rw [fLst_ok]; simp only [fCons_ok, fC_ok, fNil_ok, ok_bind]; exact if_pos z9) (by simp [lits2]) (txB_ok lits2_ok)
  have en := is_name_ok hw (by omega)
  have es := name_core hw (by omega) (v := fVar 7) (j := 13) (ρ := [a0, some (.list ds2), a2, a3, a4, a5, some (.str x), some (.str w), a8, a9, a10, none, a12, a13]) rfl (by simp)
  unfold abc at es
  generalize (decide (1 ≤ w.length) && decide (w.length ≤ 12) && (chars w).all inAbc) = b at en es
  obtain ⟨k, e1, e2, hk⟩ := number_same (w := w.cps.toList) hw (by have : w.cps.toList.length = w.length := by simp [Str.length]
                                                                   omega)
  have ew2 : (⟨w.cps.toList.toArray⟩ : Str) = w := by cases w; simp
  rw [ew2] at e1 e2
  obtain ⟨q, eq, qo⟩ := rep_ok (b := b) (nums_mem hk)
  refine ⟨[a0, some (.list ds2), a2, a3, a4, a5, some (.str x), some (.str w), some (.bool b), a9, a10, none, a12, a13], ?_, _, _, _, _, _, _, _, _, _, _, _, _, _, _, rfl, h2⟩
  have z2 : ([PyData.bool b, k] : List PyData).length ≤ sizeLine := by rw [sz]; exact of_decide_eq_true rfl
  rw [seq_nx (ρ' := [a0, some (.list ds1), a2, a3, a4, a5, some (.str x), a7, a8, a9, a10, none, a12, a13]) (by rw [sSet_ok, ex]; rfl)]
  rw [seq_nx (if_no (by
    rw [gCmp_ok]
    simp only [fN_ok, fCons_ok, fCall_ok, fVar_succ, fVar_zero, fNil_ok, ok_bind, ed, ed', er, ofO_some, dNe_strs ro]))]
  rw [seq_nx (ρ' := [a0, some (.list ds2), a2, a3, a4, a5, some (.str x), some (.str w), a8, a9, a10, none, a12, a13]) (by rw [sSet_ok, ew]; rfl)]
  rw [seq_nx (ρ' := [a0, some (.list ds2), a2, a3, a4, a5, some (.str x), some (.str w), some (.bool b), a9, a10, none, a12, a13]) (by rw [sSet_ok, eL_ok, es]; rfl)]
  exact if_no (by
    rw [gCmp_ok]
    simp only [fN_ok, fCons_ok, fCall_ok, fVar_succ, fVar_zero, fNil_ok, fLst_ok, ok_bind, en, e1, e2, if_pos z2, eq, ofO_some, dNe_strs qo])
end PV
end

set_option Elab.async false
set_option linter.all false
set_option maxRecDepth 100000
set_option maxHeartbeats 1000000
set_option autoImplicit false
/-! k21: the law is true. -/
noncomputable section
namespace PV
open PySem PySem.Spec PyProof.Rows L2
def terms5 : List PyData := [.tuple [.int 2, .tuple [.int 0, .int 1]], .tuple [.tuple [.int 1, .tuple [.int 1, .int 1]], .tuple [.int 2, .tuple [.int 1]]], .tuple [.tuple [.int 1, .tuple [.int 1, .int 2]], .tuple [.int 2]], .tuple [.int 0, .int 1, .int 1], .tuple [.tuple [], .tuple [.tuple [.int 1]]]]
def ends4 : List PyData := [.tuple [], .none, .str "", .int 0]
theorem terms5_tm : terms5.all (Tm 3 3) = true := by kernel_rfl
theorem ends4_tm : ends4.all (Tm 7 5) = true := by kernel_rfl
theorem ends4_flat : flatL ends4 = true := by kernel_rfl
theorem terms5_flat : flatL terms5 = true := by kernel_rfl
theorem lcat {xs ys : List PyData} (hx : flatL xs = true) (hy : flatL ys = true) (hl : xs.length + ys.length ≤ 100000) : dAdd (.list xs) (.list ys) = some (.list (xs ++ ys)) := by
  have : xs.length + ys.length ≤ 16777216 := by omega
  simp [dAdd, iOp, sCat, lCat, hx, hy, sz, this]
section
variable {a0 a2 a3 a4 a5 a6 a7 a8 a9 a10 a11 a12 a13 : Option PyData} {N : Nat} {ds : List PyData} {K : PySem.W.Frag}
/-- the terms that are looked at -/
theorem terms_ok (hd : Dr N ds) : ∃ ts ds' b2, (eIt (eOp dAdd (eOp dAdd (eL (fVar 3)) (eLc (.nm 2) [2] (eRg (eLA (fCons (fC (.int 12)) fNil))) egYes (eCallM 1 (m__law_spoilt 20) (eCons (eCallM 1 m__law_pick (eLA (fCons (fVar 3) fNil))) eNil)))) (eL (fLst (fCons (fTup fNil) (fCons (fC .none) (fCons (fC (.str "")) (fCons (fC (.int 0)) fNil)))))))) [a0, some (.list ds), a2, some (.list terms5), a4, a5, a6, a7, a8, a9, a10, a11, a12, a13]
    = .ok (ts, [a0, some (.list ds'), b2, some (.list terms5), a4, a5, a6, a7, a8, a9, a10, a11, a12, a13]) ∧ Dr N ds' ∧ ∀ t ∈ ts, Tm 7 5 t = true := by
  have hr : rangeD [.int 12] = some (rangeL 0 12) := by simp [rangeD, smallI]
  have key := lc_inv (t := .nm 2) (own := [2]) (fe := eCallM 1 (m__law_spoilt 20) (eCons (eCallM 1 m__law_pick (eLA (fCons (fVar 3) fNil))) eNil)) (fun ρ => ∃ ds b, ρ = [a0, some (.list ds), b, some (.list terms5), a4, a5, a6, a7, a8, a9, a10, a11, a12, a13] ∧ Dr N ds) (fun y => Tm 7 5 y = true) (rangeL 0 12) (fun d _ ρ ⟨ds, b, e, hd⟩ => by
    subst e
    obtain ⟨t, ds1, hm, ep, h1⟩ := pick_ok hd (by simp [terms5]) terms5_flat
    have ep' : m__law_pick (.list ds) [.list terms5] = .ok (t, .list ds1) := ep
    obtain ⟨r, ds2, es, hr, h2⟩ := spoilt_ok (N := N) (n := 3) (by decide) (by decide) 3 20 t ds1 (by decide) (by decide) (List.all_eq_true.mp terms5_tm t hm) h1
    refine ⟨[a0, some (.list ds), some d, some (.list terms5), a4, a5, a6, a7, a8, a9, a10, a11, a12, a13], r, [a0, some (.list ds2), some d, some (.list terms5), a4, a5, a6, a7, a8, a9, a10, a11, a12, a13], rfl, ?_, hr, ds2, none, rfl, h2⟩
    simp only [eCallM_ok, eCons_ok, eNil_ok, slot_succ, slot_zero, ok_bind, eLA_ok, fCons_ok, fVar_succ, fVar_zero, fNil_ok, ep', es, List.set_cons_succ, List.set_cons_zero])
    [a0, some (.list ds), none, some (.list terms5), a4, a5, a6, a7, a8, a9, a10, a11, a12, a13] ⟨ds, none, rfl, hd⟩
  obtain ⟨ys, ρ', e2, q2, l2, ds2, b, rfl, h2⟩ := key
  rw [range_len] at l2
  have hz : ys.length ≤ sizeLine := by rw [sz]; omega
  have z4 : ends4.length ≤ sizeLine := by rw [sz]; decide
  have z0 : ([] : List PyData).length ≤ sizeLine := by rw [sz]; decide
  have fy : flatL ys = true := flatTm q2
  have c1 : dAdd (.list terms5) (.list ys) = some (.list (terms5 ++ ys)) := lcat terms5_flat fy (by
    have : terms5.length = 5 := rfl
    omega)
  have c2 : dAdd (.list (terms5 ++ ys)) (.list ends4) = some (.list ((terms5 ++ ys) ++ ends4)) := lcat (by
    refine flatL_iff.mpr fun d hd => (List.mem_append.mp hd).elim (flatL_iff.mp terms5_flat d) (flatL_iff.mp fy d)) ends4_flat (by
      have : terms5.length = 5 := rfl
      have : ends4.length = 4 := rfl
      rw [List.length_append]
      omega)
  have w : wipeE [a0, some (.list ds), a2, some (.list terms5), a4, a5, a6, a7, a8, a9, a10, a11, a12, a13] [2] = [a0, some (.list ds), none, some (.list terms5), a4, a5, a6, a7, a8, a9, a10, a11, a12, a13] := rfl
  have e4 : ([.tuple [], .none, .str "", .int 0] : List PyData) = ends4 := rfl
  refine ⟨(terms5 ++ ys) ++ ends4, ds2, b, ?_, h2, fun t ht => ?_⟩
  · have el : (eLc (.nm 2) [2] (eRg (eLA (fCons (fC (.int 12)) fNil))) egYes (eCallM 1 (m__law_spoilt 20) (eCons (eCallM 1 m__law_pick (eLA (fCons (fVar 3) fNil))) eNil))) [a0, some (.list ds), a2, some (.list terms5), a4, a5, a6, a7, a8, a9, a10, a11, a12, a13] = .ok (.list ys, [a0, some (.list ds2), b, some (.list terms5), a4, a5, a6, a7, a8, a9, a10, a11, a12, a13]) := by
      unfold eLc
      simp only [eRg_ok, eLA_ok, fCons_ok, fC_ok, fNil_ok, ok_bind, hr, ofO_some, w, e2, lstE, if_pos hz]
    rw [eIt_ok, eOp_ok, eOp_ok, eL_ok, fVar_succ, fVar_succ, fVar_succ, fVar_zero]
    simp only [ok_bind, el, c1, ofO_some, eL_ok, fLst_ok, fCons_ok, fTup_ok, fNil_ok, if_pos z0, fC_ok, e4, if_pos z4, c2, itemsD]
  · rcases List.mem_append.mp ht with ht | ht
    · rcases List.mem_append.mp ht with ht | ht
      · exact Tm.mono (by decide) (by decide) (List.all_eq_true.mp terms5_tm t ht)
      · exact q2 t ht
    · exact List.all_eq_true.mp ends4_tm t ht
def kinds4 : List PyData := [.str "rows", .str "game", .str "buyer", .str "row"]
theorem ne_bools : ∀ a b c d : Bool, dNe (.list [.bool a, .bool b, .bool c, .bool d]) (.list [.bool a, .bool b, .bool c, .bool d]) = some false := by
  intro a b c d
  cases a <;> cases b <;> cases c <;> cases d <;> kernel_rfl
theorem plc_cons {t : Tg} {own : List Nat} {fe : Env → R PyData} {ρ ρ1 : Env} {d y : PyData} {ds ys : List PyData} (h1 : put t d (wipeE ρ own) = .ok ρ1) (h2 : fe ρ1 = .ok y) (h3 : fLcL t own gYes fe ρ ds = .ok ys) : fLcL t own gYes fe ρ (d :: ds) = .ok (y :: ys) := by
  simp [fLcL, h1, gYes, noX, h2, h3]
theorem four {f : Env → R PyData} {ρ ρ1 ρ2 ρ3 ρ4 : Env} {j : Nat} {x y z w : PyData} (p1 : put (.nm j) (.str "rows") (wipeE ρ [j]) = .ok ρ1) (e1 : f ρ1 = .ok x) (p2 : put (.nm j) (.str "game") (wipeE ρ [j]) = .ok ρ2) (e2 : f ρ2 = .ok y)
    (p3 : put (.nm j) (.str "buyer") (wipeE ρ [j]) = .ok ρ3) (e3 : f ρ3 = .ok z) (p4 : put (.nm j) (.str "row") (wipeE ρ [j]) = .ok ρ4) (e4 : f ρ4 = .ok w) {v : Env → R PyData} (hv : v ρ = .ok (.list kinds4)) :
    fLc (.nm j) [j] (fIt v) gYes f ρ = .ok (.list [x, y, z, w]) := by
  have z4 : ([x, y, z, w] : List PyData).length ≤ sizeLine := by rw [sz]; exact of_decide_eq_true rfl
  have e : fLcL (.nm j) [j] gYes f ρ kinds4 = .ok [x, y, z, w] := plc_cons p1 e1 (plc_cons p2 e2 (plc_cons p3 e3 (plc_cons p4 e4 rfl)))
  unfold fLc
  simp only [fIt, hv, ok_bind, itemsD, ofO_some, e]
  exact if_pos z4
/-- one turn of the loop over the terms -/
theorem term_turn (nd : Nd K) {t : PyData} (ht : Tm 7 5 t = true) : (sSeq (sSet 9 (eL (fLst (fCons (fC (.str "rows")) (fCons (fC (.str "game")) (fCons (fC (.str "buyer")) (fCons (fC (.str "row")) fNil)))))))
  (sIf (eLT (gCmp dNe (fLc (.nm 12) [12] (fIt (fVar 9)) gYes (fCall (m_has_form K) (fCons (fVar 12) (fCons (fVar 4) fNil)))) (fLc (.nm 12) [12] (fIt (fVar 9)) gYes (fCall m__law_due (fCons (fVar 12) (fCons (fVar 4) fNil)))))) (sRet (eL (fC (.bool false))))
  sNil)) [a0, some (.list ds), a2, a3, some t, a5, a6, a7, a8, a9, a10, a11, a12, a13] = .ok (.nx, [a0, some (.list ds), a2, a3, some t, a5, a6, a7, a8, some (.list kinds4), a10, a11, a12, a13]) := by
  have z4 : kinds4.length ≤ sizeLine := by rw [sz]; decide
  have e4 : ([.str "rows", .str "game", .str "buyer", .str "row"] : List PyData) = kinds4 := rfl
  rw [seq_nx (ρ' := [a0, some (.list ds), a2, a3, some t, a5, a6, a7, a8, some (.list kinds4), a10, a11, a12, a13]) (by
    rw [sSet_ok, eL_ok, fLst_ok]
    simp only [fCons_ok, fC_ok, fNil_ok, ok_bind, e4, if_pos z4]
    rfl)]
  refine if_no ?_
  have hn : (7 : Nat) ≤ 1000 := by decide
  rw [gCmp_ok]
  rw [four (ρ := [a0, some (.list ds), a2, a3, some t, a5, a6, a7, a8, some (.list kinds4), a10, a11, a12, a13]) (v := fVar 9) (f := fCall (m_has_form K) (fCons (fVar 12) (fCons (fVar 4) fNil))) rfl
    (by simp only [fCall_ok, fCons_ok, fVar_succ, fVar_zero, fNil_ok, ok_bind, List.set_cons_succ, List.set_cons_zero, wipeE]; exact form_rows nd ht hn) rfl
    (by simp only [fCall_ok, fCons_ok, fVar_succ, fVar_zero, fNil_ok, ok_bind, List.set_cons_succ, List.set_cons_zero, wipeE]; exact form_game nd ht hn) rfl
    (by simp only [fCall_ok, fCons_ok, fVar_succ, fVar_zero, fNil_ok, ok_bind, List.set_cons_succ, List.set_cons_zero, wipeE]; exact form_buyer nd ht hn) rfl
    (by simp only [fCall_ok, fCons_ok, fVar_succ, fVar_zero, fNil_ok, ok_bind, List.set_cons_succ, List.set_cons_zero, wipeE]; exact form_row nd ht hn) rfl]
  rw [four (ρ := [a0, some (.list ds), a2, a3, some t, a5, a6, a7, a8, some (.list kinds4), a10, a11, a12, a13]) (v := fVar 9) (f := fCall m__law_due (fCons (fVar 12) (fCons (fVar 4) fNil))) rfl
    (by simp only [fCall_ok, fCons_ok, fVar_succ, fVar_zero, fNil_ok, ok_bind, List.set_cons_succ, List.set_cons_zero, wipeE]; exact due_rows ht hn) rfl
    (by simp only [fCall_ok, fCons_ok, fVar_succ, fVar_zero, fNil_ok, ok_bind, List.set_cons_succ, List.set_cons_zero, wipeE]; exact due_game ht hn) rfl
    (by simp only [fCall_ok, fCons_ok, fVar_succ, fVar_zero, fNil_ok, ok_bind, List.set_cons_succ, List.set_cons_zero, wipeE]; exact due_buyer ht hn) rfl
    (by simp only [fCall_ok, fCons_ok, fVar_succ, fVar_zero, fNil_ok, ok_bind, List.set_cons_succ, List.set_cons_zero, wipeE]; exact due_row ht hn) rfl]
  simp only [ok_bind, ne_bools, ofO_some]
/-- the words that are looked at one by one -/
theorem nine_ok : (gCmp dNe (fLc (.nm 7) [7] (fIt (fLst (fCons (fC (.str "")) (fCons (fC (.str "0")) (fCons (fC (.str "00")) (fCons (fC (.str "100")) (fCons (fC (.str "-1")) (fCons (fC (.str "5")) (fCons (fC (.str "+5")) (fCons (fC (.str " 5")) (fCons (fC (.str "5 ")) fNil))))))))))) gYes (fN dRepr (fCons (fCall m_number_in (fCons (fVar 7) fNil)) fNil))) (fLst (fCons (fC (.str "None")) (fCons (fC (.str "0")) (fCons (fC (.str "None")) (fCons (fC (.str "None")) (fCons (fC (.str "None")) (fCons (fC (.str "5")) (fCons (fC (.str "None")) (fCons (fC (.str "None")) (fCons (fC (.str "None")) fNil))))))))))) [a0, some (.list ds), a2, a3, a4, a5, a6, a7, a8, a9, a10, a11, a12, a13] = .ok false := by kernel_rfl
theorem five_ok : (gCmp dNe (fLst (fCons (fCall m_words_of (fCons (fC (.str "a b")) fNil)) (fCons (fCall m_is_name (fCons (fC (.str "abcdefghijkl")) fNil)) (fCons (fCall m_is_name (fCons (fC (.str "abcdefghijklm")) fNil)) (fCons (fCall m_number_in (fCons (fC (.str "07")) fNil)) (fCons (fCall m_number_in (fCons (fC (.str "99")) fNil)) fNil)))))) (fLst (fCons (fLst (fCons (fC (.str "a")) (fCons (fC (.str "b")) fNil))) (fCons (fC (.bool true)) (fCons (fC (.bool false)) (fCons (fC .none) (fCons (fC (.int 99)) fNil)))))))
  [a0, some (.list ds), a2, a3, a4, a5, a6, a7, a8, a9, a10, a11, a12, a13] = .ok false := by kernel_rfl
theorem set_terms : (sSet 3 (eL (fLst (fCons (fTup (fCons (fC (.int 2)) (fCons (fTup (fCons (fC (.int 0)) (fCons (fC (.int 1)) fNil))) fNil))) (fCons (fTup (fCons (fTup (fCons (fC (.int 1)) (fCons (fTup (fCons (fC (.int 1)) (fCons (fC (.int 1)) fNil))) fNil))) (fCons (fTup (fCons (fC (.int 2)) (fCons (fTup (fCons (fC (.int 1)) fNil)) fNil))) fNil))) (fCons (fTup (fCons (fTup (fCons (fC (.int 1)) (fCons (fTup (fCons (fC (.int 1)) (fCons (fC (.int 2)) fNil))) fNil))) (fCons (fTup (fCons (fC (.int 2)) fNil)) fNil))) (fCons (fTup (fCons (fC (.int 0)) (fCons (fC (.int 1)) (fCons (fC (.int 1)) fNil)))) (fCons (fTup (fCons (fTup fNil) (fCons (fTup (fCons (fTup (fCons (fC (.int 1)) fNil)) fNil)) fNil))) fNil))))))))
  [a0, some (.list ds), a2, a3, a4, a5, a6, a7, a8, a9, a10, a11, a12, a13] = .ok (.nx, [a0, some (.list ds), a2, some (.list terms5), a4, a5, a6, a7, a8, a9, a10, a11, a12, a13]) := by kernel_rfl
end
end PV
end

set_option Elab.async false
set_option linter.all false
set_option maxRecDepth 100000
set_option maxHeartbeats 1000000
set_option autoImplicit false
/-! k21: the law is true. -/
noncomputable section
namespace PV
open PySem PySem.Spec PyProof.Rows L2
theorem rg6 : rangeD [.int 6] = some (rangeL 0 6) := by simp [rangeD, smallI]
theorem I14.put2 {N : Nat} {ρ : Env} (h : I14 N ρ) (d : PyData) : I14 N (ρ.set 2 (some d)) := by
  obtain ⟨a0, a2, a3, a4, a5, a6, a7, a8, a9, a10, a11, a12, a13, ds, rfl, hd⟩ := h
  exact ⟨a0, some d, a3, a4, a5, a6, a7, a8, a9, a10, a11, a12, a13, ds, rfl, hd⟩
theorem law_true (K : PySem.W.Frag) (nd : Nd K) (ns : List Int) (hn : ns.length ≤ 63) : m_law K [frzD (ns.map .int)] = .ok (.bool true) := by
  obtain ⟨ds0, e0, h0⟩ := draws_ok ns hn
  obtain ⟨ds1, dsx, e1, h1⟩ := more_ok h0 (by decide) 200 (by decide)
  have e0' : m__law_draws [frzD (ns.map .int)] = .ok (.list ds0) := e0
  have e1' : m__law_more (.list ds0) [.int 200] = .ok (.list ds1, .list dsx) := e1
  show (sem_law K [some (frzD (ns.map .int)), none, none, none, none, none, none, none, none, none, none, none, none, none] >>= fun r => endV r.1) = _
  generalize frzD (ns.map .int) = s0 at e0'
  suffices h : ∃ ρ', sem_law K [some s0, none, none, none, none, none, none, none, none, none, none, none, none, none] = .ok (.rt (.bool true), ρ') by
    obtain ⟨ρ', e⟩ := h
    rw [e]
    rfl
  unfold sem_law
  rw [seq_nx (ρ' := [some s0, some (.list ds0), none, none, none, none, none, none, none, none, none, none, none, none]) (by
    rw [sSet_ok, eL_ok, fCall_ok]
    simp only [fCons_ok, fVar_zero, fNil_ok, ok_bind, e0', List.set_cons_succ, List.set_cons_zero])]
  rw [seq_nx (ρ' := [some s0, some (.list ds1), none, none, none, none, none, none, none, none, none, none, none, none]) (by
    rw [sSet_ok, eCallM_ok]
    simp only [slot_succ, slot_zero, ok_bind, eLA_ok, fCons_ok, fC_ok, fNil_ok, e1', List.set_cons_succ, List.set_cons_zero])]
  rw [seq_nx (if_no five_ok)]
  obtain ⟨ρ1, l1, i1⟩ := for_inv (t := .nm 2) (f := _) (I14 (3780 + 200)) (rangeL 0 6) (fun d _ ρ h => by
    obtain ⟨ρ2, e, h2⟩ := turn_ok (h.put2 d)
    exact ⟨_, ρ2, put_nm, e, h2⟩) [some s0, some (.list ds1), none, none, none, none, none, none, none, none, none, none, none, none] ⟨_, _, _, _, _, _, _, _, _, _, _, _, _, _, rfl, h1⟩
  obtain ⟨a0, a2, a3, a4, a5, a6, a7, a8, a9, a10, a11, a12, a13, ds2, rfl, h2⟩ := i1
  rw [seq_nx (ρ' := [a0, some (.list ds2), a2, a3, a4, a5, a6, a7, a8, a9, a10, a11, a12, a13]) (by
    rw [sFor_ok, eRg_ok, eLA_ok]
    simp only [fCons_ok, fC_ok, fNil_ok, ok_bind, rg6, ofO_some]
    exact l1)]
  rw [seq_nx (if_no nine_ok)]
  rw [seq_nx set_terms]
  obtain ⟨ts, ds3, b2, et, h3, htm⟩ := terms_ok (a0 := a0) (a2 := a2) (a4 := a4) (a5 := a5) (a6 := a6) (a7 := a7) (a8 := a8) (a9 := a9) (a10 := a10) (a11 := a11) (a12 := a12) (a13 := a13) h2
  obtain ⟨ρ2, l2, i2⟩ := for_inv (t := .nm 4) (f := _) (I14 (3780 + 200)) ts (fun d hd ρ h => by
    obtain ⟨a0, a2, a3, a4, a5, a6, a7, a8, a9, a10, a11, a12, a13, ds, rfl, hds⟩ := h
    exact ⟨_, _, put_nm, term_turn (K := K) nd (htm d hd), _, _, _, _, _, _, _, _, _, _, _, _, _, _, rfl, hds⟩) [a0, some (.list ds3), b2, some (.list terms5), a4, a5, a6, a7, a8, a9, a10, a11, a12, a13] ⟨_, _, _, _, _, _, _, _, _, _, _, _, _, _, rfl, h3⟩
  obtain ⟨a0, a2, a3, a4, a5, a6, a7, a8, a9, a10, a11, a12, a13, ds4, rfl, h4⟩ := i2
  rw [seq_nx (ρ' := [a0, some (.list ds4), a2, a3, a4, a5, a6, a7, a8, a9, a10, a11, a12, a13]) (by
    rw [sFor_ok, et]
    exact l2)]
  obtain ⟨ρ3, l3, i3⟩ := for_inv (t := .nm 5) (f := _) (fun ρ => ρ.length = 14) [.str "", .str "Form", .str "term"] (fun d hd ρ h => by
    match ρ, h with
    | [a0, a1, a2, a3, a4, a5, a6, a7, a8, a9, a10, a11, a12, a13], _ =>
      have hz : ∃ z : Str, d = .str z ∧ (tab_FORMS K).lookup z = some none := by
        simp only [List.mem_cons, List.not_mem_nil, or_false] at hd
        rcases hd with rfl | rfl | rfl
        · exact ⟨_, rfl, tb5⟩
        · exact ⟨_, rfl, tb6⟩
        · exact ⟨_, rfl, tb7⟩
      obtain ⟨z, rfl, hz⟩ := hz
      obtain ⟨ρ', e, h'⟩ := try_turn (K := K) hz (a0 := a0) (a1 := a1) (a2 := a2) (a3 := a3) (a4 := a4) (a6 := a6) (a7 := a7) (a8 := a8) (a9 := a9) (a10 := a10) (a11 := a11) (a12 := a12) (a13 := a13)
      exact ⟨_, ρ', put_nm, e, h'⟩) [a0, some (.list ds4), a2, a3, a4, a5, a6, a7, a8, a9, a10, a11, a12, a13] rfl
  have z3 : ([.str "", .str "Form", .str "term"] : List PyData).length ≤ sizeLine := by rw [sz]; decide
  rw [seq_nx (ρ' := ρ3) (by
    rw [sFor_ok, eIt_ok, eL_ok, fLst_ok]
    simp only [fCons_ok, fC_ok, fNil_ok, ok_bind, if_pos z3, itemsD, ofO_some]
    exact l3)]
  exact ⟨ρ3, by rw [sRet_ok, eL_ok, fC_ok]; rfl⟩
end PV
end

set_option Elab.async false
set_option linter.all false
set_option maxRecDepth 100000
set_option maxHeartbeats 0
set_option autoImplicit false
/-! the head of stakestold_k21_lines_and_forms, printed by gen.py -/
namespace PV
open PySem PySem.Spec PyProof.Rows L2

abbrev TheRow : PySem.W.OpenRow := PySem.W.OpenLaw.row PySem.Challenge.rw_stakestold_k21_lines_and_forms
def dd__law_number : He.DefD := ⟨("_law_number", none), "_law_number", "_law_number", defArgs st__law_number, defBody st__law_number, defScope st__law_number, [], []⟩
def dd__law_draws : He.DefD := ⟨("_law_draws", none), "_law_draws", "_law_draws", defArgs st__law_draws, defBody st__law_draws, defScope st__law_draws, [], []⟩
def dd__law_next : He.DefD := ⟨("_law_next", none), "_law_next", "_law_next", defArgs st__law_next, defBody st__law_next, defScope st__law_next, [], []⟩
def dd__law_more : He.DefD := ⟨("_law_more", none), "_law_more", "_law_more", defArgs st__law_more, defBody st__law_more, defScope st__law_more, [], []⟩
def dd_words_of : He.DefD := ⟨("words_of", none), "words_of", "words_of", defArgs st_words_of, defBody st_words_of, defScope st_words_of, [], []⟩
def dd_is_name : He.DefD := ⟨("is_name", none), "is_name", "is_name", defArgs st_is_name, defBody st_is_name, defScope st_is_name, [], []⟩
def dd_number_in : He.DefD := ⟨("number_in", none), "number_in", "number_in", defArgs st_number_in, defBody st_number_in, defScope st_number_in, [], []⟩
def dd_is_integer : He.DefD := ⟨("is_integer", none), "is_integer", "is_integer", defArgs st_is_integer, defBody st_is_integer, defScope st_is_integer, [], []⟩
def dd_is_row : He.DefD := ⟨("is_row", none), "is_row", "is_row", defArgs st_is_row, defBody st_is_row, defScope st_is_row, [], []⟩
def dd_are_pairs : He.DefD := ⟨("are_pairs", none), "are_pairs", "are_pairs", defArgs st_are_pairs, defBody st_are_pairs, defScope st_are_pairs, [], []⟩
def dd_is_told_game : He.DefD := ⟨("is_told_game", none), "is_told_game", "is_told_game", defArgs st_is_told_game, defBody st_is_told_game, defScope st_is_told_game, [], []⟩
def dd_is_told_buyer : He.DefD := ⟨("is_told_buyer", none), "is_told_buyer", "is_told_buyer", defArgs st_is_told_buyer, defBody st_is_told_buyer, defScope st_is_told_buyer, [], []⟩
def dd_has_form : He.DefD := ⟨("has_form", none), "has_form", "has_form", defArgs st_has_form, defBody st_has_form, defScope st_has_form, [], []⟩
def dd__law_pick : He.DefD := ⟨("_law_pick", none), "_law_pick", "_law_pick", defArgs st__law_pick, defBody st__law_pick, defScope st__law_pick, [], []⟩
def dd__law_line : He.DefD := ⟨("_law_line", none), "_law_line", "_law_line", defArgs st__law_line, defBody st__law_line, defScope st__law_line, [], []⟩
def dd__law_spoilt : He.DefD := ⟨("_law_spoilt", none), "_law_spoilt", "_law_spoilt", defArgs st__law_spoilt, defBody st__law_spoilt, defScope st__law_spoilt, [], []⟩
def dd__law_is_row : He.DefD := ⟨("_law_is_row", none), "_law_is_row", "_law_is_row", defArgs st__law_is_row, defBody st__law_is_row, defScope st__law_is_row, [], []⟩
def dd__law_are_pairs : He.DefD := ⟨("_law_are_pairs", none), "_law_are_pairs", "_law_are_pairs", defArgs st__law_are_pairs, defBody st__law_are_pairs, defScope st__law_are_pairs, [], []⟩
def dd__law_due : He.DefD := ⟨("_law_due", none), "_law_due", "_law_due", defArgs st__law_due, defBody st__law_due, defScope st__law_due, [], []⟩
def dd__law_number_of : He.DefD := ⟨("_law_number_of", none), "_law_number_of", "_law_number_of", defArgs st__law_number_of, defBody st__law_number_of, defScope st__law_number_of, [], []⟩
def dd__law_kind : He.DefD := ⟨("_law_kind", none), "_law_kind", "_law_kind", defArgs st__law_kind, defBody st__law_kind, defScope st__law_kind, [], []⟩
def dd_law : He.DefD := ⟨("law", none), "law", "law", defArgs st_law, defBody st_law, defScope st_law, [], []⟩
def fn : List He.DefD := [dd__law_number, dd__law_draws, dd__law_next, dd__law_more, dd_words_of, dd_is_name, dd_number_in, dd_is_integer, dd_is_row, dd_are_pairs, dd_is_told_game, dd_is_told_buyer, dd_has_form, dd__law_pick, dd__law_line, dd__law_spoilt, dd__law_is_row, dd__law_are_pairs, dd__law_due, dd__law_number_of, dd__law_kind, dd_law]
def fa : List He.Fa := [.free "all", .free "int", .free "isinstance", .free "len", .free "range", .free "repr", .free "str", .free "tuple", .glo "BadNumber", .glo "FORMS", .glo "NoAnswer", .glo "NotMix", .glo "NotPaper", .glo "NotStakes", .glo "NotTable", .glo "StakeError", .glo "TooLarge", .glo "_law_are_pairs", .glo "_law_draws", .glo "_law_due", .glo "_law_is_row", .glo "_law_kind", .glo "_law_line", .glo "_law_more", .glo "_law_next", .glo "_law_number", .glo "_law_number_of", .glo "_law_pick", .glo "_law_spoilt", .glo "are_pairs", .glo "has_form", .glo "is_integer", .glo "is_name", .glo "is_row", .glo "is_told_buyer", .glo "is_told_game", .glo "law", .glo "number_in", .glo "words_of", .str "FIGURES" "0123456789", .str "SMALL" "abcdefghijklmnopqrstuvwxyz", .exc "BadNumber"]
def tabOf_FORMS : He.Tab := (fun K => He.ga K "FORMS", ["rows", "game", "buyer", "row"])
def ts : List He.Tab := [tabOf_FORMS]
def exB (K : PySem.W.Frag) : Bool := true && (((tab_FORMS K).all fun q => He.eqO (PySem.W.nsIn K (He.ga K "FORMS") q.1) (some (q.2.map Value.ref))) && ((exNames.all fun z => decide (PySem.W.exmOne K (.ref (He.ga K z)) (.ref (He.ga K "StakeError")) = some true)) && ((exNames.all fun z => exNames.all fun y => decide (PySem.W.kitOne K (.ref (He.ga K z)) (.ref (He.ga K y)) = some (isC z y))) && ((exNames.all fun z => excB K (He.ga K z)) && (decide (([He.ga K "are_pairs", He.ga K "is_told_game", He.ga K "is_told_buyer", He.ga K "is_row"] : List Addr).Nodup))))))
theorem ctx_of {w : World} {K : PySem.W.Frag} {mg : Str → Option Value} {h : Heap} (KX : K.In h) (G : h.Ns mainGlobals mg) (t : He.SaysT fa fn ts w K) (hm : exB K = true) : Ctx w K mg := by
  unfold exB at hm
  obtain ⟨h0, hm⟩ := He.ba hm
  obtain ⟨h1, hm⟩ := He.ba hm
  obtain ⟨h2, hm⟩ := He.ba hm
  obtain ⟨h3, hm⟩ := He.ba hm
  obtain ⟨h4, hm⟩ := He.ba hm
  have h5 := hm
  exact {
    f_all := He.free_ok KX G (t.d.fact 0 (f := .free "all") rfl)
    f_int := He.free_ok KX G (t.d.fact 1 (f := .free "int") rfl)
    f_isinstance := He.free_ok KX G (t.d.fact 2 (f := .free "isinstance") rfl)
    f_len := He.free_ok KX G (t.d.fact 3 (f := .free "len") rfl)
    f_range := He.free_ok KX G (t.d.fact 4 (f := .free "range") rfl)
    f_repr := He.free_ok KX G (t.d.fact 5 (f := .free "repr") rfl)
    f_str := He.free_ok KX G (t.d.fact 6 (f := .free "str") rfl)
    f_tuple := He.free_ok KX G (t.d.fact 7 (f := .free "tuple") rfl)
    g_BadNumber := He.glo_ok KX G (t.d.fact 8 (f := .glo "BadNumber") rfl)
    g_FORMS := He.glo_ok KX G (t.d.fact 9 (f := .glo "FORMS") rfl)
    g_NoAnswer := He.glo_ok KX G (t.d.fact 10 (f := .glo "NoAnswer") rfl)
    g_NotMix := He.glo_ok KX G (t.d.fact 11 (f := .glo "NotMix") rfl)
    g_NotPaper := He.glo_ok KX G (t.d.fact 12 (f := .glo "NotPaper") rfl)
    g_NotStakes := He.glo_ok KX G (t.d.fact 13 (f := .glo "NotStakes") rfl)
    g_NotTable := He.glo_ok KX G (t.d.fact 14 (f := .glo "NotTable") rfl)
    g_StakeError := He.glo_ok KX G (t.d.fact 15 (f := .glo "StakeError") rfl)
    g_TooLarge := He.glo_ok KX G (t.d.fact 16 (f := .glo "TooLarge") rfl)
    g__law_are_pairs := He.glo_ok KX G (t.d.fact 17 (f := .glo "_law_are_pairs") rfl)
    g__law_draws := He.glo_ok KX G (t.d.fact 18 (f := .glo "_law_draws") rfl)
    g__law_due := He.glo_ok KX G (t.d.fact 19 (f := .glo "_law_due") rfl)
    g__law_is_row := He.glo_ok KX G (t.d.fact 20 (f := .glo "_law_is_row") rfl)
    g__law_kind := He.glo_ok KX G (t.d.fact 21 (f := .glo "_law_kind") rfl)
    g__law_line := He.glo_ok KX G (t.d.fact 22 (f := .glo "_law_line") rfl)
    g__law_more := He.glo_ok KX G (t.d.fact 23 (f := .glo "_law_more") rfl)
    g__law_next := He.glo_ok KX G (t.d.fact 24 (f := .glo "_law_next") rfl)
    g__law_number := He.glo_ok KX G (t.d.fact 25 (f := .glo "_law_number") rfl)
    g__law_number_of := He.glo_ok KX G (t.d.fact 26 (f := .glo "_law_number_of") rfl)
    g__law_pick := He.glo_ok KX G (t.d.fact 27 (f := .glo "_law_pick") rfl)
    g__law_spoilt := He.glo_ok KX G (t.d.fact 28 (f := .glo "_law_spoilt") rfl)
    g_are_pairs := He.glo_ok KX G (t.d.fact 29 (f := .glo "are_pairs") rfl)
    g_has_form := He.glo_ok KX G (t.d.fact 30 (f := .glo "has_form") rfl)
    g_is_integer := He.glo_ok KX G (t.d.fact 31 (f := .glo "is_integer") rfl)
    g_is_name := He.glo_ok KX G (t.d.fact 32 (f := .glo "is_name") rfl)
    g_is_row := He.glo_ok KX G (t.d.fact 33 (f := .glo "is_row") rfl)
    g_is_told_buyer := He.glo_ok KX G (t.d.fact 34 (f := .glo "is_told_buyer") rfl)
    g_is_told_game := He.glo_ok KX G (t.d.fact 35 (f := .glo "is_told_game") rfl)
    g_law := He.glo_ok KX G (t.d.fact 36 (f := .glo "law") rfl)
    g_number_in := He.glo_ok KX G (t.d.fact 37 (f := .glo "number_in") rfl)
    g_words_of := He.glo_ok KX G (t.d.fact 38 (f := .glo "words_of") rfl)
    s_FIGURES := He.str_ok KX G (t.d.fact 39 (f := .str "FIGURES" "0123456789") rfl)
    s_SMALL := He.str_ok KX G (t.d.fact 40 (f := .str "SMALL" "abcdefghijklmnopqrstuvwxyz") rfl)
    e_BadNumber := (let q := He.exc_ok (t.d.fact 41 (f := .exc "BadNumber") rfl); ⟨q.1, He.glo_ok KX G (t.d.fact 8 (f := .glo "BadNumber") rfl), q.2.1, q.2.2.1, q.2.2.2⟩)
    t_FORMS := ⟨t.tab 0 (t := tabOf_FORMS) rfl, fun q hq => He.eqO_ok (List.all_eq_true.mp h1 q hq)⟩
    tr_StakeError := fun z hz => of_decide_eq_true (List.all_eq_true.mp h2 z hz)
    hI := fun z hz y hy => of_decide_eq_true (List.all_eq_true.mp (List.all_eq_true.mp h3 z hz) y hy)
    hC := fun z hz => excB_ok (List.all_eq_true.mp h4 z hz)
    nd_has_form := of_decide_eq_true h5
    d__law_number := t.d.def_ 0 (d := dd__law_number) rfl
    d__law_draws := t.d.def_ 1 (d := dd__law_draws) rfl
    d__law_next := t.d.def_ 2 (d := dd__law_next) rfl
    d__law_more := t.d.def_ 3 (d := dd__law_more) rfl
    d_words_of := t.d.def_ 4 (d := dd_words_of) rfl
    d_is_name := t.d.def_ 5 (d := dd_is_name) rfl
    d_number_in := t.d.def_ 6 (d := dd_number_in) rfl
    d_is_integer := t.d.def_ 7 (d := dd_is_integer) rfl
    d_is_row := t.d.def_ 8 (d := dd_is_row) rfl
    d_are_pairs := t.d.def_ 9 (d := dd_are_pairs) rfl
    d_is_told_game := t.d.def_ 10 (d := dd_is_told_game) rfl
    d_is_told_buyer := t.d.def_ 11 (d := dd_is_told_buyer) rfl
    d_has_form := t.d.def_ 12 (d := dd_has_form) rfl
    d__law_pick := t.d.def_ 13 (d := dd__law_pick) rfl
    d__law_line := t.d.def_ 14 (d := dd__law_line) rfl
    d__law_spoilt := t.d.def_ 15 (d := dd__law_spoilt) rfl
    d__law_is_row := t.d.def_ 16 (d := dd__law_is_row) rfl
    d__law_are_pairs := t.d.def_ 17 (d := dd__law_are_pairs) rfl
    d__law_due := t.d.def_ 18 (d := dd__law_due) rfl
    d__law_number_of := t.d.def_ 19 (d := dd__law_number_of) rfl
    d__law_kind := t.d.def_ 20 (d := dd__law_kind) rfl
    d_law := t.d.def_ 21 (d := dd_law) rfl }
theorem end_of {w : World} {K : PySem.W.Frag} {mg : Str → Option Value} {h : Heap} {f : Addr} (KX : K.In h) (G : h.Ns mainGlobals mg) (hmg : mg "law" = some (.ref f)) (t : He.obsT fa fn ts K = He.valT fn ts w) (hm : exB K = true) :
    ∃ (K : PySem.W.Frag) (fd : FuncData) (m : List PyData → R PyData), K.In h ∧ Binds K fd ["script"] [] ∧ (∀ ns : List Int, ns.length ≤ 63 → m [frzD (ns.map .int)] = .ok (.bool true)) ∧
        ∀ base : Heap, K.In base → base.Ns mainGlobals mg → FnG (PySem.Challenge.rw_stakestold_k21_lines_and_forms).prog w K mg base (L2.CX (PySem.Challenge.rw_stakestold_k21_lines_and_forms).prog w) 24 f fd ["script"] (spP K 1 .F m) := by
  have cx := ctx_of KX G t hm
  have e := hmg.symm.trans cx.g_law
  cases e
  obtain ⟨fd, F⟩ := cx.d_law
  have b : L2.Binds K fd ["script"] [] := F.bindsN (fun _ _ _ _ _ _ us hl => match us, hl with | [_], _ => rfl)
  exact ⟨K, fd, m_law K, KX, b, law_true K cx.nd_has_form, fun base _ _ => fg_all (base := base) cx F⟩
end PV
open PySem PySem.W PySem.Calls PyProof.Rows
theorem PySem.Challenge.cw_stakestold_k21_lines_and_forms_holds : PySem.Challenge.rw_stakestold_k21_lines_and_forms.Holds := by
  w_on; o_law; k_head; (case hw => w_witness2)
  k_fill
  refine PV.walkG (l := PySem.Challenge.rw_stakestold_k21_lines_and_forms) (n := 63) (k := 24) (x := "script") rfl (by decide) rfl ⟨rfl, by decide, by decide⟩ ?F
  intro w mg fa h Y G hmg
  exact PV.end_of (PySem.W.kIn_of Y) G hmg (by kernel_rfl) (by kernel_rfl)
