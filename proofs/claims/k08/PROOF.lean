import PyProof.Rows.All
import Wide.All
import OpenK.AllK
import Wide.FinOn
import HandS.ForMost
import HandS.Exc
import HandS.TryOnly
import HandS.ExcOwn
import HandS.WordsExc
import HandS.TupAny
import HandS.Codes
import HandS.EndBits
import HandS.Conv
import HandS.StrMore
import HandS.IsInst
import HandS.More
import HandS.Small
import HandS.Style
import HandS.DictComp
import HandS.SetFor
import PyProof.Rows.SortShellAny
import HandS.Iter
import KE.GoesMore
import KE.KRevSl
import HandS.ExcIs
import PySem.Challenge.RW_turngrow_k08_refusals_apart
set_option Elab.async false
set_option linter.all false
set_option maxRecDepth 100000
/-! ShA: what a def computes, as a function over plain data and a store of lists and dicts; the relation to the heap. -/
namespace Sh
open PySem PySem.Spec PyProof.Rows L2

/-- plain data: a tuple is its items; a list or dict is a place in the store -/
inductive D where
  | non | bl (b : Bool) | int (i : Int) | str (s : Str) | tup (xs : List D) | loc (l : Nat) | ty (n : String)
/-- what stands in the store: a list; a list that is only read; a dict by ints and texts; a dict by tuples of such -/
inductive O where
  | lst (xs : List D)
  | rol (xs : List D)
  | dic (kvs : List (Key × D))
  | dit (kvs : List (List Key × D))
  | err (c : Str)
abbrev Sto := List O
inductive R (α : Type) where
  | ok (a : α) (st : Sto)
  | exc (c : Str) (st : Sto)
  | bad
abbrev M (α : Type) := Sto → R α
def ret {α : Type} (a : α) : M α := fun st => .ok a st
def badM {α : Type} : M α := fun _ => .bad
def bnd {α β : Type} (m : M α) (f : α → M β) : M β := fun st => match m st with
  | .ok a st' => f a st'
  | .exc c st' => .exc c st'
  | .bad => .bad
def lft (o : Sto → Option (D × Sto)) : M D := fun st => match o st with
  | some (d, st') => .ok d st'
  | none => .bad
abbrev Ev := List (Option D)
abbrev EM := Ev → M D
abbrev BM := Ev → M Bool
abbrev AM := Ev → M (List D)

section
variable (ρ : List Addr) (H : Hp)
mutual
inductive Rep : D → V → Prop
  | non : Rep .non .non
  | bl (b : Bool) : Rep (.bl b) (.bl b)
  | int (i : Int) : Rep (.int i) (.int i)
  | str (s : Str) : Rep (.str s) (.str s)
  | tup {a : Addr} {ds : List D} {xs : List V} : H a = some (.tup xs) → RepL ds xs → Rep (.tup ds) (.ref a)
  | loc {l : Nat} {a : Addr} : ρ[l]? = some a → Rep (.loc l) (.ref a)
  | ty (n : String) : Rep (.ty n) (.ty n)
inductive RepL : List D → List V → Prop
  | nil : RepL [] []
  | cons {d : D} {ds : List D} {x : V} {xs : List V} : Rep d x → RepL ds xs → RepL (d :: ds) (x :: xs)
end
end
section
variable {ρ ρ' ρ'' : List Addr} {H H' H'' : Hp}
structure Le (ρ : List Addr) (H : Hp) (ρ' : List Addr) (H' : Hp) : Prop where
  pre : ρ <+: ρ'
  tup : ∀ a xs, H a = some (.tup xs) → H' a = some (.tup xs)
theorem Le.refl : Le ρ H ρ H := ⟨List.prefix_refl _, fun _ _ h => h⟩
theorem Le.trans (a : Le ρ H ρ' H') (b : Le ρ' H' ρ'' H'') : Le ρ H ρ'' H'' := ⟨a.pre.trans b.pre, fun x y h => b.tup x y (a.tup x y h)⟩
theorem pre_get {l : Nat} {a : Addr} (p : ρ <+: ρ') (h : ρ[l]? = some a) : ρ'[l]? = some a := by
  obtain ⟨t, rfl⟩ := p
  rw [List.getElem?_append_left (List.getElem?_eq_some_iff.mp h).1]
  exact h
mutual
theorem Rep.mono (e : Le ρ H ρ' H') : ∀ {d : D} {x : V}, Rep ρ H d x → Rep ρ' H' d x
  | _, _, .non => .non
  | _, _, .bl b => .bl b
  | _, _, .int i => .int i
  | _, _, .str s => .str s
  | _, _, .tup h r => .tup (e.tup _ _ h) (RepL.mono e r)
  | _, _, .loc h => .loc (pre_get e.pre h)
  | _, _, .ty n => .ty n
theorem RepL.mono (e : Le ρ H ρ' H') : ∀ {ds : List D} {xs : List V}, RepL ρ H ds xs → RepL ρ' H' ds xs
  | _, _, .nil => .nil
  | _, _, .cons h r => .cons (Rep.mono e h) (RepL.mono e r)
end
theorem RepL.length : ∀ {ds : List D} {xs : List V}, RepL ρ H ds xs → ds.length = xs.length
  | _, _, .nil => rfl
  | _, _, .cons _ r => by rw [List.length_cons, List.length_cons, r.length]
theorem RepL.get : ∀ {ds : List D} {xs : List V} {i : Nat} {d : D}, RepL ρ H ds xs → ds[i]? = some d → ∃ x, xs[i]? = some x ∧ Rep ρ H d x
  | _, _, _, _, .nil, e => by simp at e
  | _, _, 0, _, .cons h _, e => by simp at e; subst e; exact ⟨_, rfl, h⟩
  | _, _, i + 1, d, .cons _ r, e => by
    obtain ⟨x, h1, h2⟩ := RepL.get (i := i) (d := d) r (by simpa using e)
    exact ⟨x, by simpa using h1, h2⟩
theorem RepL.get' : ∀ {ds : List D} {xs : List V} {i : Nat} {x : V}, RepL ρ H ds xs → xs[i]? = some x → ∃ d, ds[i]? = some d ∧ Rep ρ H d x
  | _, _, _, _, .nil, e => by simp at e
  | _, _, 0, _, .cons h _, e => by simp at e; subst e; exact ⟨_, rfl, h⟩
  | _, _, i + 1, d, .cons _ r, e => by
    obtain ⟨x, h1, h2⟩ := RepL.get' (i := i) (x := d) r (by simpa using e)
    exact ⟨x, by simpa using h1, h2⟩
theorem RepL.append : ∀ {ds es : List D} {xs ys : List V}, RepL ρ H ds xs → RepL ρ H es ys → RepL ρ H (ds ++ es) (xs ++ ys)
  | _, _, _, _, .nil, s => s
  | _, _, _, _, .cons h r, s => .cons h (RepL.append r s)
theorem RepL.take : ∀ {ds : List D} {xs : List V} (n : Nat), RepL ρ H ds xs → RepL ρ H (ds.take n) (xs.take n)
  | _, _, 0, _ => .nil
  | _, _, _ + 1, .nil => .nil
  | _, _, n + 1, .cons h r => .cons h (RepL.take n r)
theorem RepL.drop : ∀ {ds : List D} {xs : List V} (n : Nat), RepL ρ H ds xs → RepL ρ H (ds.drop n) (xs.drop n)
  | _, _, 0, r => r
  | _, _, _ + 1, .nil => .nil
  | _, _, n + 1, .cons _ r => RepL.drop n r
theorem RepL.set {d : D} {x : V} (h : Rep ρ H d x) : ∀ {ds : List D} {xs : List V} (i : Nat), RepL ρ H ds xs → RepL ρ H (ds.set i d) (xs.set i x)
  | _, _, _, .nil => .nil
  | _, _, 0, .cons _ r => .cons h r
  | _, _, i + 1, .cons q r => .cons q (RepL.set h i r)
theorem RepL.erase : ∀ {ds : List D} {xs : List V} (i : Nat), RepL ρ H ds xs → RepL ρ H (ds.eraseIdx i) (xs.eraseIdx i)
  | _, _, _, .nil => .nil
  | _, _, 0, .cons _ r => r
  | _, _, i + 1, .cons q r => .cons q (RepL.erase i r)
theorem RepL.strs : ∀ {ds : List Str} {xs : List V}, RepL ρ H (ds.map D.str) xs → xs = ds.map V.str
  | [], _, .nil => rfl
  | s :: r, _, .cons h t => by
    cases h
    rw [RepL.strs t]
    rfl
theorem RepL.ints : ∀ {ds : List Int} {xs : List V}, RepL ρ H (ds.map D.int) xs → xs = ds.map V.int
  | [], _, .nil => rfl
  | s :: r, _, .cons h t => by
    cases h
    rw [RepL.ints t]
    rfl
theorem RepL.bls : ∀ {ds : List Bool} {xs : List V}, RepL ρ H (ds.map D.bl) xs → xs = ds.map V.bl
  | [], _, .nil => rfl
  | s :: r, _, .cons h t => by
    cases h
    rw [RepL.bls t]
    rfl
theorem RepL.of_strs : ∀ (ss : List Str), RepL ρ H (ss.map D.str) (ss.map V.str)
  | [] => .nil
  | s :: r => .cons (.str s) (RepL.of_strs r)
theorem RepL.of_ints : ∀ (ss : List Int), RepL ρ H (ss.map D.int) (ss.map V.int)
  | [] => .nil
  | s :: r => .cons (.int s) (RepL.of_ints r)
end

/-- a dict's pairs -/
def RepK {κ : Type} (ρ : List Addr) (H : Hp) (kvs : List (κ × D)) (us : List (κ × V)) : Prop := kvs.map (·.1) = us.map (·.1) ∧ RepL ρ H (kvs.map (·.2)) (us.map (·.2))
/-- a list that is only read: locked, or a constant of the module -/
def RolAt (K : PySem.W.Frag) (H : Hp) (a : Addr) (xs : List V) : Prop :=
  (∃ o, H a = some (.frz o (.lst xs))) ∨
    ∃ (o : Obj) (its : Array Value) (n : Nat), K.lookup a = some o ∧ o.cls = .type "list" ∧ o.dict = none ∧ o.data = .seq its n ∧ its.size ≤ sizeLine ∧ Vals xs its.toList
/-- an error that was caught, of the class cls -/
def ErrO (cls : Value) (a : Addr) : HO := .ext fun h => ∃ oe vs, h.get? a = some oe ∧ Zc cls none oe ∧ oe.data = .fields vs
/-- what stands at a place of the store -/
def ORep (K : PySem.W.Frag) (ρ : List Addr) (H : Hp) (a : Addr) : O → Prop
  | .lst ds => ∃ xs, H a = some (.lst xs) ∧ RepL ρ H ds xs
  | .rol ds => ∃ xs, RolAt K H a xs ∧ RepL ρ H ds xs
  | .dic kvs => ∃ us, H a = some (.dK us) ∧ RepK ρ H kvs us
  | .dit kvs => ∃ us, H a = some (.dT us) ∧ RepK ρ H kvs us
  | .err c => ∃ C, PySem.W.nsIn K mainGlobals c = some (some (.ref C)) ∧ H a = some (ErrO (.ref C) a)
def mutO : Option O → Bool
  | some (.lst _) => true
  | some (.dic _) => true
  | some (.dit _) => true
  | _ => false
structure StR (K : PySem.W.Frag) (ρ : List Addr) (H : Hp) (st : Sto) : Prop where
  len : ρ.length = st.length
  nd : ∀ (l m : Nat) (a : Addr), ρ[l]? = some a → ρ[m]? = some a → mutO st[l]? = true → mutO st[m]? = true → l = m
  ob : ∀ (l : Nat) (o : O) (a : Addr), st[l]? = some o → ρ[l]? = some a → ORep K ρ H a o
structure EnR (ρ : List Addr) (H : Hp) (en : Ev) (σ : L2.St) : Prop where
  len : en.length = σ.length
  at_ : ∀ (i : Nat) (d : D), en[i]? = some (some d) → ∃ v, σ[i]? = some (some v) ∧ Rep ρ H d v
section
variable {K : PySem.W.Frag} {ρ ρ' : List Addr} {H H' : Hp} {st : Sto} {en : Ev} {σ : L2.St}
theorem EnR.mono (e : Le ρ H ρ' H') (r : EnR ρ H en σ) : EnR ρ' H' en σ := ⟨r.len, fun i d h => by
  obtain ⟨v, h1, h2⟩ := r.at_ i d h
  exact ⟨v, h1, h2.mono e⟩⟩
theorem EnR.set {d : D} {v : V} (h : Rep ρ H d v) (i : Nat) (r : EnR ρ H en σ) : EnR ρ H (en.set i (some d)) (σ.set i (some v)) := by
  refine ⟨by rw [List.length_set, List.length_set]; exact r.len, fun j e hj => ?_⟩
  by_cases hij : i = j
  · subst hij
    have hi : i < en.length := by
      have := (List.getElem?_eq_some_iff.mp hj).1
      rwa [List.length_set] at this
    rw [List.getElem?_set_self hi] at hj
    cases hj
    exact ⟨v, List.getElem?_set_self (by rw [← r.len]; exact hi), h⟩
  · rw [List.getElem?_set_ne hij] at hj ⊢
    exact r.at_ j e hj
theorem StR.get (s : StR K ρ H st) {l : Nat} {o : O} {a : Addr} (h : st[l]? = some o) (e : ρ[l]? = some a) : ORep K ρ H a o := s.ob l o a h e
theorem StR.addr (s : StR K ρ H st) {l : Nat} {o : O} (h : st[l]? = some o) : ∃ a, ρ[l]? = some a := by
  have : l < ρ.length := by rw [s.len]; exact (List.getElem?_eq_some_iff.mp h).1
  exact ⟨_, List.getElem?_eq_getElem this⟩
theorem ORep.there {a : Addr} {o : O} (h : ORep K ρ H a o) (m : mutO (some o) = true) : ∃ u, H a = some u := by
  cases o with
  | lst ds => obtain ⟨xs, e, _⟩ := h; exact ⟨_, e⟩
  | rol ds => cases m
  | err c => cases m
  | dic ds => obtain ⟨xs, e, _⟩ := h; exact ⟨_, e⟩
  | dit ds => obtain ⟨xs, e, _⟩ := h; exact ⟨_, e⟩
theorem ORep.noTup {a : Addr} {o : O} (h : ORep K ρ H a o) (m : mutO (some o) = true) : ∀ xs, H a ≠ some (.tup xs) ∧ ∀ ob, H a ≠ some (.frz ob (.lst xs)) := by
  intro ys
  cases o with
  | lst ds => obtain ⟨xs, e, _⟩ := h; rw [e]; exact ⟨fun z => (by cases z), fun _ z => (by cases z)⟩
  | rol ds => cases m
  | err c => cases m
  | dic ds => obtain ⟨xs, e, _⟩ := h; rw [e]; exact ⟨fun z => (by cases z), fun _ z => (by cases z)⟩
  | dit ds => obtain ⟨xs, e, _⟩ := h; rw [e]; exact ⟨fun z => (by cases z), fun _ z => (by cases z)⟩
theorem ORep.noErr {a : Addr} {o : O} (h : ORep K ρ H a o) (m : mutO (some o) = true) : ∀ φ, H a ≠ some (.ext φ) := by
  intro ys
  cases o with
  | lst ds => obtain ⟨xs, e, _⟩ := h; rw [e]; exact fun z => (by cases z)
  | rol ds => cases m
  | err c => cases m
  | dic ds => obtain ⟨xs, e, _⟩ := h; rw [e]; exact fun z => (by cases z)
  | dit ds => obtain ⟨xs, e, _⟩ := h; rw [e]; exact fun z => (by cases z)
/-- a new object is laid -/
theorem Le.laid (p : Addr) (o : HO) (h : H p = none) : Le ρ H ρ (upd H p o) := by
  exact ⟨List.prefix_refl _, fun a k q => by rw [upd_ne (ne_of_none q h)]; exact q⟩
theorem RolAt.keep {a : Addr} {xs : List V} (k : ∀ o ys, H a = some (.frz o (.lst ys)) → H' a = some (.frz o (.lst ys))) (h : RolAt K H a xs) : RolAt K H' a xs := by
  rcases h with ⟨o, h⟩ | h
  · exact .inl ⟨o, k _ _ h⟩
  · exact .inr h
theorem ORep.keep {a : Addr} {o : O} (e : Le ρ H ρ' H') (k : ∀ u, H a = some u → H' a = some u) (h : ORep K ρ H a o) : ORep K ρ' H' a o := by
  cases o with
  | lst ds => obtain ⟨xs, q, r⟩ := h; exact ⟨xs, k _ q, r.mono e⟩
  | rol ds => obtain ⟨xs, q, r⟩ := h; exact ⟨xs, q.keep fun o ys z => k _ z, r.mono e⟩
  | dic ds => obtain ⟨xs, q, r⟩ := h; exact ⟨xs, k _ q, r.1, r.2.mono e⟩
  | dit ds => obtain ⟨xs, q, r⟩ := h; exact ⟨xs, k _ q, r.1, r.2.mono e⟩
  | err c => obtain ⟨C, q, r⟩ := h; exact ⟨C, q, k _ r⟩
/-- a new tuple (or what is not of the store) -/
theorem StR.laid (s : StR K ρ H st) {p : Addr} {o : HO} (h : H p = none) : StR K ρ (upd H p o) st := ⟨s.len, s.nd, fun l u a e1 e2 => (s.ob l u a e1 e2).keep (Le.laid p o h) fun v q => by rw [upd_ne (ne_of_none q h)]; exact q⟩
/-- a new list or dict -/
theorem StR.alloc (s : StR K ρ H st) {p : Addr} {o : HO} {u : O} (h : H p = none) (hu : ORep K (ρ ++ [p]) (upd H p o) p u) : StR K (ρ ++ [p]) (upd H p o) (st ++ [u]) ∧ Le ρ H (ρ ++ [p]) (upd H p o) ∧ (ρ ++ [p])[st.length]? = some p := by
  have e0 : Le ρ H (ρ ++ [p]) (upd H p o) := ⟨List.prefix_append _ _, (Le.laid (ρ := ρ) p o h).tup⟩
  have hp : (ρ ++ [p])[st.length]? = some p := by rw [← s.len, List.getElem?_append_right (Nat.le_refl _), Nat.sub_self]; rfl
  have old : ∀ (l : Nat) (a : Addr), l < st.length → (ρ ++ [p])[l]? = some a → ρ[l]? = some a := fun l a hl e => by
    rw [List.getElem?_append_left (by rw [s.len]; exact hl)] at e
    exact e
  have oldS : ∀ (l : Nat), l < st.length → (st ++ [u])[l]? = st[l]? := fun l hl => List.getElem?_append_left hl
  have out : ∀ (l : Nat) (a : Addr), (ρ ++ [p])[l]? = some a → ¬ l < st.length → l = st.length ∧ a = p := fun l a e hl => by
    have h1 := (List.getElem?_eq_some_iff.mp e).1
    rw [List.length_append, List.length_singleton, s.len] at h1
    have h2 : l = st.length := by omega
    subst h2
    rw [hp] at e
    exact ⟨rfl, (Option.some.inj e).symm⟩
  have apart : ∀ (l : Nat), l < st.length → ρ[l]? = some p → mutO st[l]? = true → False := fun l hl e m => by
    have e1 : st[l]? = some st[l] := List.getElem?_eq_getElem hl
    rw [e1] at m
    obtain ⟨v, hv⟩ := (s.ob l _ p e1 e).there m
    rw [h] at hv
    cases hv
  refine ⟨⟨by rw [List.length_append, List.length_append, s.len]; rfl, fun l m a e1 e2 m1 m2 => ?_, fun l u' a e1 e2 => ?_⟩, e0, hp⟩
  · by_cases hl : l < st.length
    · by_cases hm : m < st.length
      · rw [oldS l hl] at m1
        rw [oldS m hm] at m2
        exact s.nd l m a (old l a hl e1) (old m a hm e2) m1 m2
      · obtain ⟨_, rfl⟩ := out m a e2 hm
        rw [oldS l hl] at m1
        exact (apart l hl (old l _ hl e1) m1).elim
    · obtain ⟨rfl, rfl⟩ := out l a e1 hl
      by_cases hm : m < st.length
      · rw [oldS m hm] at m2
        exact (apart m hm (old m _ hm e2) m2).elim
      · exact (out m _ e2 hm).1.symm
  · by_cases hl : l < st.length
    · rw [oldS l hl] at e1
      exact (s.ob l u' a e1 (old l a hl e2)).keep e0 fun v q => by rw [upd_ne (ne_of_none q h)]; exact q
    · obtain ⟨rfl, rfl⟩ := out l a e2 hl
      rw [List.getElem?_append_right (Nat.le_refl _), Nat.sub_self] at e1
      cases e1
      exact hu
/-- a list or dict of the store is changed -/
theorem StR.put (s : StR K ρ H st) {l : Nat} {a : Addr} {u0 u : O} {o : HO} (h0 : st[l]? = some u0) (m0 : mutO (some u0) = true) (m1 : mutO (some u) = true) (ha : ρ[l]? = some a) (hu : ∀ H', H' = upd H a o → Le ρ H ρ H' → ORep K ρ H' a u) : StR K ρ (upd H a o) (st.set l u) ∧ Le ρ H ρ (upd H a o) := by
  have nt := (s.ob l u0 a h0 ha).noTup m0
  have e0 : Le ρ H ρ (upd H a o) := by
    refine ⟨List.prefix_refl _, fun b k q => ?_⟩
    have hb : b ≠ a := fun z => by subst z; exact (nt _).1 q
    rw [upd_ne hb]; exact q
  have hl : l < st.length := (List.getElem?_eq_some_iff.mp h0).1
  have mm : ∀ j, mutO (st.set l u)[j]? = true → mutO st[j]? = true := fun j m => by
    by_cases hj : l = j
    · subst hj
      rw [h0]
      exact m0
    · rw [List.getElem?_set_ne hj] at m
      exact m
  refine ⟨⟨by rw [List.length_set]; exact s.len, fun i j b e1 e2 n1 n2 => s.nd i j b e1 e2 (mm i n1) (mm j n2), fun j u' b e1 e2 => ?_⟩, e0⟩
  by_cases hj : l = j
  · subst hj
    rw [List.getElem?_set_self hl] at e1
    cases e1
    rw [ha] at e2
    cases e2
    exact hu _ rfl e0
  · rw [List.getElem?_set_ne hj] at e1
    have old := s.ob j u' b e1 e2
    by_cases hb : b = a
    · subst hb
      cases hm : mutO (some u') with
      | true =>
        exact absurd (s.nd l j b ha e2 (by rw [h0]; exact m0) (by rw [e1]; exact hm)) hj
      | false =>
        cases u' with
        | lst _ => cases hm
        | dic _ => cases hm
        | dit _ => cases hm
        | err c =>
          obtain ⟨C, q, r⟩ := old
          exact absurd r ((s.ob l u0 b h0 ha).noErr m0 _)
        | rol ds =>
          obtain ⟨xs, q, r⟩ := old
          exact ⟨xs, q.keep fun o ys z => absurd z ((nt ys).2 o), r.mono e0⟩
    · exact old.keep e0 fun v q => by rw [upd_ne hb]; exact q
end

/-! ### what is wanted behind a computation -/
abbrev Mg := Str → Option Value
abbrev G (α : Type) := List Addr → Hp → Sto → α → Prop
def Aft {α : Type} (K : PySem.W.Frag) (mg : Mg) (E : XK) (ρ : List Addr) (H : Hp) (r : R α) (g : G α) : Prop := match r with
  | .ok a st' => ∀ ρ' H', Le ρ H ρ' H' → StR K ρ' H' st' → g ρ' H' st' a
  | .exc c st' => ∀ ρ' H' C, Le ρ H ρ' H' → StR K ρ' H' st' → mg c = some (.ref C) → E (.ref C) none H'
  | .bad => False
section
variable {K : PySem.W.Frag} {mg : Mg} {E : XK} {α β : Type} {ρ ρ' : List Addr} {H H' : Hp}
theorem Aft.le {r : R α} {g : G α} (e : Le ρ H ρ' H') (h : Aft K mg E ρ H r g) : Aft K mg E ρ' H' r g := by
  cases r with
  | ok a st => exact fun ρ2 H2 e2 s => h ρ2 H2 (e.trans e2) s
  | exc c st => exact fun ρ2 H2 C e2 s m => h ρ2 H2 C (e.trans e2) s m
  | bad => exact h
theorem Aft.imp {r : R α} {g g' : G α} (k : ∀ ρ' H' st' a, Le ρ H ρ' H' → StR K ρ' H' st' → g ρ' H' st' a → g' ρ' H' st' a) (h : Aft K mg E ρ H r g) : Aft K mg E ρ H r g' := by
  cases r with
  | ok a st => exact fun ρ2 H2 e2 s => k _ _ _ _ e2 s (h ρ2 H2 e2 s)
  | exc c st => exact h
  | bad => exact h
theorem aft_bnd {m : M α} {f : α → M β} {st : Sto} {g : G β} (h : Aft K mg E ρ H (bnd m f st) g) : Aft K mg E ρ H (m st) fun ρ' H' st' a => Aft K mg E ρ' H' (f a st') g := by
  unfold bnd at h
  cases e : m st with
  | ok a st' =>
    rw [e] at h
    exact fun ρ2 H2 e2 s => Aft.le (r := f a st') e2 h
  | exc c st' =>
    rw [e] at h
    exact h
  | bad =>
    rw [e] at h
    exact h
theorem aft_ret {a : α} {st : Sto} {g : G α} (s : StR K ρ H st) (h : Aft K mg E ρ H (ret a st) g) : g ρ H st a := h ρ H Le.refl s
theorem aft_lft {o : Sto → Option (D × Sto)} {st : Sto} {g : G D} (h : Aft K mg E ρ H (lft o st) g) : ∃ a st', o st = some (a, st') ∧ ∀ ρ' H', Le ρ H ρ' H' → StR K ρ' H' st' → g ρ' H' st' a := by
  unfold lft at h
  cases e : o st with
  | none => rw [e] at h; exact h.elim
  | some p =>
    rw [e] at h
    exact ⟨p.1, p.2, rfl, h⟩
end
abbrev gE (Q : VK) : G D := fun ρ' H' _ d => ∀ v, Rep ρ' H' d v → Q v H'
abbrev gB (Q : Bool → Hp → Prop) : G Bool := fun _ H' _ b => Q b H'
abbrev gA (Q : List V → Hp → Prop) : G (List D) := fun ρ' H' _ ds => ∀ vs, RepL ρ' H' ds vs → Q vs H'
/-- the state of the run that stands for σ, H -/
def Wh {α : Type} (K : PySem.W.Frag) (mg : Mg) (E : XK) (σ : L2.St) (H : Hp) (m : Ev → M α) (g : G α) : Prop := ∃ ρ en st, EnR ρ H en σ ∧ StR K ρ H st ∧ Aft K mg E ρ H (m en st) g
def rdE (K : PySem.W.Frag) (mg : Mg) (W : WX) (m : EM) : TE := fun σ H Q => Wh K mg (WE W σ) σ H m (gE Q)
def rdB (K : PySem.W.Frag) (mg : Mg) (W : WX) (m : BM) : TT := fun σ H Q => Wh K mg (WE W σ) σ H m (gB Q)
def rdA (K : PySem.W.Frag) (mg : Mg) (W : WX) (m : AM) : TA := fun σ H Q => Wh K mg (WE W σ) σ H m (gA Q)
abbrev JE (X : Cx) (W : WX) (e : Expr) (m : EM) : Prop := PE X e (rdE X.K X.mg W m)
abbrev JT (X : Cx) (W : WX) (e : Expr) (m : BM) : Prop := PT X e (rdB X.K X.mg W m)
abbrev JW (X : Cx) (W : WX) (e : Expr) (m : BM) : Prop := PW X e (rdB X.K X.mg W m)
abbrev JA (X : Cx) (W : WX) (es : List Expr) (m : AM) : Prop := PA X es (rdA X.K X.mg W m)
section
variable {X : Cx}
theorem pe_imp {e : Expr} {t t' : TE} (h : PE X e t) (k : ∀ σ H Q, t' σ H Q → t σ H Q) : PE X e t' := ⟨fun pins s σ H Q I q => h.run pins s σ H Q I (k σ H Q q)⟩
theorem pt_imp {e : Expr} {t t' : TT} (h : PT X e t) (k : ∀ σ H Q, t' σ H Q → t σ H Q) : PT X e t' := ⟨fun pins s σ H Q I q => h.run pins s σ H Q I (k σ H Q q)⟩
theorem pw_imp {e : Expr} {t t' : TT} (h : PW X e t) (k : ∀ σ H Q, t' σ H Q → t σ H Q) : PW X e t' := ⟨fun wh pins s σ H Q I q => h.run wh pins s σ H Q I (k σ H Q q)⟩
theorem pa_imp {e : List Expr} {t t' : TA} (h : PA X e t) (k : ∀ σ H Q, t' σ H Q → t σ H Q) : PA X e t' := ⟨fun pos pins s σ H Q I q => h.run pos pins s σ H Q I (k σ H Q q)⟩
end
section
variable {K : PySem.W.Frag} {mg : Mg} {E : XK} {α β : Type} {σ : L2.St} {H : Hp}
/-- one computation behind another -/
theorem Wh.bnd {m : Ev → M α} {f : Ev → α → M β} {g : G β} (h : Wh K mg E σ H (fun en => Sh.bnd (m en) (f en)) g) :
    Wh K mg E σ H m fun ρ' H' st' a => ∃ en, EnR ρ' H' en σ ∧ StR K ρ' H' st' ∧ Aft K mg E ρ' H' (f en a st') g := by
  obtain ⟨ρ, en, st, he, hs, h⟩ := h
  exact ⟨ρ, en, st, he, hs, (aft_bnd h).imp fun ρ' H' st' a le s q => ⟨en, he.mono le, s, q⟩⟩
theorem Wh.imp {m : Ev → M α} {g g' : G α} (h : Wh K mg E σ H m g) (k : ∀ ρ' H' st' a, StR K ρ' H' st' → g ρ' H' st' a → g' ρ' H' st' a) : Wh K mg E σ H m g' := by
  obtain ⟨ρ, en, st, he, hs, h⟩ := h
  exact ⟨ρ, en, st, he, hs, h.imp fun ρ' H' st' a _ s q => k ρ' H' st' a s q⟩
end
end Sh

set_option maxHeartbeats 1000000
/-! ShB: expressions. -/
namespace Sh
open PySem PySem.Spec PyProof.Rows L2

theorem retE {K : PySem.W.Frag} {mg : Mg} {E : XK} {ρ : List Addr} {H : Hp} {st : Sto} {d : D} {v : V} {Q : VK} (s : StR K ρ H st) (h : Aft K mg E ρ H (ret d st) (gE Q)) (r : Rep ρ H d v) : Q v H := h ρ H Le.refl s v r
theorem retA {K : PySem.W.Frag} {mg : Mg} {E : XK} {ρ : List Addr} {H : Hp} {st : Sto} {d : List D} {v : List V} {Q : List V → Hp → Prop} (s : StR K ρ H st) (h : Aft K mg E ρ H (ret d st) (gA Q)) (r : RepL ρ H d v) : Q v H := h ρ H Le.refl s v r
/-! ### leaves -/
def eVar (i : Nat) : EM := fun en st => match en[i]? with
  | some (some d) => .ok d st
  | _ => .bad
def eC (d : D) : EM := fun _ => ret d
section
variable {X : Cx} {W : WX}
theorem je_var {i : Nat} {x : Str} {pos : Pos} (hN : X.N[i]? = some x) (hv : Vis X.env.scope x) (hd : (x == ("__debug__" : Str)) = false) (hcd : (x == ("__classdict__" : Str)) = false) : JE X W (.Name x pos) (eVar i) :=
  pe_imp (pe_var hN hv hd hcd) fun σ H Q ⟨ρ, en, st, he, hs, h⟩ => by
    unfold eVar at h
    cases e : en[i]? with
    | none => rw [e] at h; exact h.elim
    | some o =>
      rw [e] at h
      cases o with
      | none => exact h.elim
      | some d =>
        obtain ⟨v, h1, h2⟩ := he.at_ i d e
        exact ⟨v, h1, h ρ H Le.refl hs v h2⟩
/-- short: the name in slot i -/
theorem jv (i : Nat) {x : Str} {pos : Pos} (hN : X.N[i]? = some x := by rfl) (hv : Vis X.env.scope x := by first | exact Or.inl rfl | exact Or.inr (Or.inl rfl) | exact Or.inr (Or.inr rfl)) (hd : (x == ("__debug__" : Str)) = false := by decide)
    (hcd : (x == ("__classdict__" : Str)) = false := by decide) : JE X W (.Name x pos) (eVar i) := je_var hN hv hd hcd
theorem leaf {e : Expr} {v : V} {d : D} (h : PE X e (tC v)) (r : ∀ ρ H, Rep ρ H d v) : JE X W e (eC d) :=
  pe_imp h fun σ H Q ⟨ρ, en, st, he, hs, h⟩ => h ρ H Le.refl hs v (r ρ H)
theorem je_int {i : Int} {j : Nat} {pos : Pos} : JE X W (.Constant (.int i) j pos) (eC (.int i)) := leaf pe_int fun _ _ => .int i
theorem je_str {i : Str} {j : Nat} {pos : Pos} : JE X W (.Constant (.str i) j pos) (eC (.str i)) := leaf pe_str fun _ _ => .str i
theorem je_bl {i : Bool} {j : Nat} {pos : Pos} : JE X W (.Constant (.bool i) j pos) (eC (.bl i)) := leaf pe_bl fun _ _ => .bl i
theorem je_non {j : Nat} {pos : Pos} : JE X W (.Constant .none j pos) (eC .non) := leaf pe_non fun _ _ => .non
/-- a constant of the module: an int, a text -/
theorem je_gint {x : Str} {i : Int} {pos : Pos} (hg : Gl X x) (hm : ∃ t, X.mg x = some (.int i t)) (hd : (x == ("__debug__" : Str)) = false := by decide) : JE X W (.Name x pos) (eC (.int i)) := by
  obtain ⟨t, hm⟩ := hm
  exact leaf (pe_glob (v := .int i) hg hm ⟨t, rfl⟩ hd) fun _ _ => .int i
theorem je_gstr {x : Str} {i : Str} {pos : Pos} (hg : Gl X x) (hm : ∃ t, X.mg x = some (.str i t)) (hd : (x == ("__debug__" : Str)) = false := by decide) : JE X W (.Name x pos) (eC (.str i)) := by
  obtain ⟨t, hm⟩ := hm
  exact leaf (pe_glob (v := .str i) hg hm ⟨t, rfl⟩ hd) fun _ _ => .str i
theorem je_ty {x : Str} {n : String} {pos : Pos} (hg : Gl X x) (hm : X.mg x = none) (hv : bootBuiltins x = some (.type n)) (hn : x ≠ "__name__" := by decide) (hd : (x == ("__debug__" : Str)) = false := by decide) : JE X W (.Name x pos) (eC (.ty n)) :=
  leaf (pe_bltn (v := .ty n) hg hm hv rfl hn hd) fun _ _ => .ty n
end

/-! ### operators -/
abbrev O2 := D → D → Sto → Option (D × Sto)
def rB (K : PySem.W.Frag) (g : O2) : R2 := fun x y H Q => ∃ ρ st d e a st', StR K ρ H st ∧ Rep ρ H d x ∧ Rep ρ H e y ∧ g d e st = some (a, st') ∧ ∀ ρ' H' v, Le ρ H ρ' H' → StR K ρ' H' st' → Rep ρ' H' a v → Q v H'
def eOp (g : O2) (a b : EM) : EM := fun en => bnd (a en) fun x => bnd (b en) fun y => lft (g x y)
section
variable {X : Cx} {W : WX} {a b c : Expr} {ma mb mc : EM} {pos : Pos} {mg : Mg} {K : PySem.W.Frag}
theorem op_rd {g : O2} {σ : L2.St} {H : Hp} {Q : VK} (h : rdE K mg W (eOp g ma mb) σ H Q) : tOp (rB K g) (rdE K mg W ma) (rdE K mg W mb) σ H Q :=
  (Wh.bnd (f := fun en x => bnd (mb en) fun y => lft (g x y)) h).imp fun ρ1 H1 st1 d _ ⟨en, he, hs, q⟩ v rv =>
    ⟨ρ1, en, st1, he, hs, (aft_bnd q).imp fun ρ2 H2 st2 e le s q2 y ry => by
      obtain ⟨r, st', e1, k⟩ := aft_lft q2
      exact ⟨ρ2, st2, d, e, r, st', s, rv.mono le, ry, e1, fun ρ' H' v le s r => k ρ' H' le s v r⟩⟩
theorem je_op {op : Operator} {g : O2} (ho : OpR X (binaryOp op) (rB X.K g)) (ha : JE X W a ma) (hb : JE X W b mb) : JE X W (.BinOp a op b pos) (eOp g ma mb) := pe_imp (pe_op ho ha hb) fun _ _ _ h => op_rd h
theorem je_cmp {op : CmpOp} {g : O2} (ho : OpR X (compareOp op) (rB X.K g)) (ha : JE X W a ma) (hb : JE X W b mb) (hm : behindInMarks op b = false) : JE X W (.Compare a [op] [b] pos) (eOp g ma mb) := pe_imp (pe_cmpR ho ha hb hm) fun _ _ _ h => op_rd h
/-- a value as a test -/
def asB : D → M Bool
  | .bl b => ret b
  | _ => badM
def bOf (m : EM) : BM := fun en => bnd (m en) asB
theorem asB_aft {E : XK} {ρ : List Addr} {H : Hp} {st : Sto} {d : D} {x : V} {Q : Bool → Hp → Prop} (s : StR K ρ H st) (r : Rep ρ H d x) (h : Aft K mg E ρ H (asB d st) (gB Q)) : ∃ c, x = .bl c ∧ Q c H := by
  cases r with
  | bl b => exact ⟨b, rfl, h ρ H Le.refl s⟩
  | non => exact h.elim
  | int _ => exact h.elim
  | str _ => exact h.elim
  | tup _ _ => exact h.elim
  | loc _ => exact h.elim
  | ty _ => exact h.elim
theorem b_rd {m : EM} {σ : L2.St} {H : Hp} {Q : Bool → Hp → Prop} (h : rdB K mg W (bOf m) σ H Q) : rdE K mg W m σ H fun x H1 => ∃ k, x = .bl k ∧ Q k H1 :=
  (Wh.bnd (f := fun _ => asB) h).imp fun ρ1 H1 st1 d _ ⟨en, he, hs, q⟩ v rv => asB_aft hs rv q
theorem jt_cmp {op : CmpOp} {g : O2} (ho : OpR X (compareOp op) (rB X.K g)) (ha : JE X W a ma) (hb : JE X W b mb) (hm : behindInMarks op b = false) : JT X W (.Compare a [op] [b] pos) (bOf (eOp g ma mb)) :=
  pt_imp (pt_cmpR ho ha hb hm) fun _ _ _ h => op_rd (b_rd h)
theorem jt_val {e : Expr} {m : EM} (h : JE X W e m) (he : ∀ whole, isTrue e X.env whole = (do let v ← whole; standAt e.pos; holding [v] (truthy v)) := by intro _; rfl) : JT X W e (bOf m) := pt_imp (pt_val h he) fun _ _ _ h => b_rd h
/-- a op b op' c -/
def eChain (g g' : O2) (a b c : EM) : EM := fun en => bnd (a en) fun x => bnd (b en) fun y => bnd (lft (g x y)) fun z => bnd (asB z) fun k => if k = true then bnd (c en) fun w => lft (g' y w) else ret (.bl false)
theorem chain_rd {g g' : O2} {σ : L2.St} {H : Hp} {Q : VK} (h : rdE K mg W (eChain g g' ma mb mc) σ H Q) : tChain (rB K g) (rB K g') (rdE K mg W ma) (rdE K mg W mb) (rdE K mg W mc) σ H Q := by
  refine (Wh.bnd (f := fun en x => bnd (mb en) fun y => bnd (lft (g x y)) fun z => bnd (asB z) fun k => if k = true then bnd (mc en) fun w => lft (g' y w) else ret (.bl false)) h).imp fun ρ1 H1 st1 d _ ⟨en, he, hs, q⟩ v rv => ?_
  refine ⟨ρ1, en, st1, he, hs, (aft_bnd q).imp fun ρ2 H2 st2 e le s q2 y ry => ?_⟩
  obtain ⟨z, st3, e1, k⟩ := aft_lft (aft_bnd q2)
  refine ⟨ρ2, st2, d, e, z, st3, s, rv.mono le, ry, e1, fun ρ3 H3 u le3 s3 r3 => ?_⟩
  have q3 := aft_bnd (k ρ3 H3 le3 s3)
  obtain ⟨kk, e2, q4⟩ := asB_aft (Q := fun kk H4 => if kk = true then rdE K mg W mc σ H4 (fun w' H5 => rB K g' y w' H5 Q) else Q (.bl false) H4) s3 r3 (q3.imp fun ρ4 H4 st4 kk le4 s4 q4 => by
    cases kk with
    | true =>
      refine (if_pos rfl).mpr ?_
      rw [if_pos rfl] at q4
      refine ⟨ρ4, en, st4, he.mono ((le.trans le3).trans le4), s4, (aft_bnd q4).imp fun ρ5 H5 st5 w le5 s5 q5 w' rw' => ?_⟩
      obtain ⟨r, st6, e6, k6⟩ := aft_lft q5
      exact ⟨ρ5, st5, e, w, r, st6, s5, ry.mono ((le3.trans le4).trans le5), rw', e6, fun ρ' H' v le s r => k6 ρ' H' le s v r⟩
    | false =>
      refine (if_neg Bool.false_ne_true).mpr ?_
      rw [if_neg Bool.false_ne_true] at q4
      exact aft_ret s4 q4 _ (.bl false))
  exact ⟨kk, e2, q4⟩
theorem je_chain {op op' : CmpOp} {g g' : O2} (ho : OpR X (compareOp op) (rB X.K g)) (ho' : OpR X (compareOp op') (rB X.K g')) (ha : JE X W a ma) (hb : JE X W b mb) (hc : JE X W c mc) (hm : lastMarks [op, op'] [b, c] = false := by rfl) : JE X W (.Compare a [op, op'] [b, c] pos) (eChain g g' ma mb mc) :=
  pe_imp (pe_chain ho ho' ha hb hc hm) fun _ _ _ h => chain_rd h
theorem jt_chain {op op' : CmpOp} {g g' : O2} (ho : OpR X (compareOp op) (rB X.K g)) (ho' : OpR X (compareOp op') (rB X.K g')) (ha : JE X W a ma) (hb : JE X W b mb) (hc : JE X W c mc) (hm : lastMarks [op, op'] [b, c] = false := by rfl) : JT X W (.Compare a [op, op'] [b, c] pos) (bOf (eChain g g' ma mb mc)) :=
  pt_imp (pt_chain ho ho' ha hb hc hm) fun _ _ _ h => chain_rd (b_rd h)
/-! ### and, or, not, if -/
def bAnd (t u : BM) : BM := fun en => bnd (t en) fun c => if c = true then u en else ret false
def bOr (t u : BM) : BM := fun en => bnd (t en) fun c => if c = true then ret true else u en
def bNot (t : BM) : BM := fun en => bnd (t en) fun c => ret (!c)
variable {ta tb : BM} {rest : List Expr}
theorem jt_not (ha : JT X W a ta) : JT X W (.UnaryOp .Not a pos) (bNot ta) := pt_imp (pt_not ha) fun σ H Q h =>
  (Wh.bnd (f := fun _ c => ret (!c)) h).imp fun ρ1 H1 st1 d _ ⟨en, he, hs, q⟩ => aft_ret (mg := X.mg) (E := WE W σ) hs q
theorem jw_and1 (ha : JT X W a ta) : JW X W (.BoolOp .And [a] pos) ta := pw_and1 ha
theorem jw_or1 (ha : JT X W a ta) : JW X W (.BoolOp .Or [a] pos) ta := pw_or1 ha
theorem jw_and (ha : JT X W a ta) (hb : JW X W (.BoolOp .And (b :: rest) pos) tb) : JW X W (.BoolOp .And (a :: b :: rest) pos) (bAnd ta tb) := pw_imp (pw_and ha hb) fun σ H Q h =>
  (Wh.bnd (f := fun en c => if c = true then tb en else ret false) h).imp fun ρ1 H1 st1 d _ ⟨en, he, hs, q⟩ => by
    cases d with
    | true =>
      rw [if_pos rfl] at q
      exact (if_pos rfl).mpr ⟨ρ1, en, st1, he, hs, q⟩
    | false =>
      rw [if_neg Bool.false_ne_true] at q
      exact (if_neg Bool.false_ne_true).mpr (aft_ret (mg := X.mg) (E := WE W σ) hs q)
theorem jw_or (ha : JT X W a ta) (hb : JW X W (.BoolOp .Or (b :: rest) pos) tb) : JW X W (.BoolOp .Or (a :: b :: rest) pos) (bOr ta tb) := pw_imp (pw_or ha hb) fun σ H Q h =>
  (Wh.bnd (f := fun en c => if c = true then ret true else tb en) h).imp fun ρ1 H1 st1 d _ ⟨en, he, hs, q⟩ => by
    cases d with
    | true =>
      rw [if_pos rfl] at q
      exact (if_pos rfl).mpr (aft_ret (mg := X.mg) (E := WE W σ) hs q)
    | false =>
      rw [if_neg Bool.false_ne_true] at q
      exact (if_neg Bool.false_ne_true).mpr ⟨ρ1, en, st1, he, hs, q⟩
theorem jw_pt {e : Expr} {t : BM} (h : JW X W e t) : JT X W e t := h.pt
def eAnd (a b : EM) : EM := fun en => bnd (bOf a en) fun c => if c = true then b en else ret (.bl false)
def eOr (a b : EM) : EM := fun en => bnd (bOf a en) fun c => if c = true then ret (.bl true) else b en
def eNot (a : EM) : EM := fun en => bnd (bOf a en) fun c => ret (D.bl (!c))
def eIf (t : BM) (a b : EM) : EM := fun en => bnd (t en) fun c => if c = true then a en else b en
theorem je_one {op : BoolOp} (ha : JE X W a ma) : JE X W (.BoolOp op [a] pos) ma := pe_one ha
theorem je_and (ha : JE X W a ma) (hb : JE X W (.BoolOp .And (b :: rest) pos) mb) : JE X W (.BoolOp .And (a :: b :: rest) pos) (eAnd ma mb) := pe_imp (pe_and ha hb) fun σ H Q h => by
  refine b_rd (Q := fun c H1 => if c = true then rdE X.K X.mg W mb σ H1 Q else Q (.bl false) H1) ((Wh.bnd (m := bOf ma) (f := fun en c => if c = true then mb en else ret (.bl false)) h).imp fun ρ1 H1 st1 d _ ⟨en, he, hs, q⟩ => ?_)
  cases d with
  | true =>
    rw [if_pos rfl] at q
    exact (if_pos rfl).mpr ⟨ρ1, en, st1, he, hs, q⟩
  | false =>
    rw [if_neg Bool.false_ne_true] at q
    exact (if_neg Bool.false_ne_true).mpr (retE (mg := X.mg) (E := WE W σ) hs q (.bl false))
theorem je_or (ha : JE X W a ma) (hb : JE X W (.BoolOp .Or (b :: rest) pos) mb) : JE X W (.BoolOp .Or (a :: b :: rest) pos) (eOr ma mb) := pe_imp (pe_or ha hb) fun σ H Q h => by
  refine b_rd (Q := fun c H1 => if c = true then Q (.bl true) H1 else rdE X.K X.mg W mb σ H1 Q) ((Wh.bnd (m := bOf ma) (f := fun en c => if c = true then ret (D.bl true) else mb en) h).imp fun ρ1 H1 st1 d _ ⟨en, he, hs, q⟩ => ?_)
  cases d with
  | true =>
    rw [if_pos rfl] at q
    exact (if_pos rfl).mpr (retE (mg := X.mg) (E := WE W σ) hs q (.bl true))
  | false =>
    rw [if_neg Bool.false_ne_true] at q
    exact (if_neg Bool.false_ne_true).mpr ⟨ρ1, en, st1, he, hs, q⟩
theorem je_not (ha : JE X W a ma) : JE X W (.UnaryOp .Not a pos) (eNot ma) := pe_imp (pe_not ha) fun σ H Q h =>
  b_rd (Q := fun c H1 => Q (.bl (!c)) H1) ((Wh.bnd (m := bOf ma) (f := fun en c => ret (D.bl (!c))) h).imp fun ρ1 H1 st1 d _ ⟨en, he, hs, q⟩ => retE (mg := X.mg) (E := WE W σ) hs q (.bl _))
theorem je_ifExp (hc : JT X W c ta) (ha : JE X W a ma) (hb : JE X W b mb) : JE X W (.IfExp c a b pos) (eIf ta ma mb) := pe_imp (pe_ifExp hc ha hb) fun σ H Q h =>
  (Wh.bnd (m := ta) (f := fun en c => if c = true then ma en else mb en) h).imp fun ρ1 H1 st1 d _ ⟨en, he, hs, q⟩ => by
    cases d with
    | true =>
      rw [if_pos rfl] at q
      exact (if_pos rfl).mpr ⟨ρ1, en, st1, he, hs, q⟩
    | false =>
      rw [if_neg Bool.false_ne_true] at q
      exact (if_neg Bool.false_ne_true).mpr ⟨ρ1, en, st1, he, hs, q⟩
/-! ### argument lists, displays -/
def aNil : AM := fun _ => ret []
def aCons (a : EM) (as : AM) : AM := fun en => bnd (a en) fun x => bnd (as en) fun xs => ret (x :: xs)
variable {e : Expr} {es : List Expr} {me : EM} {mas : AM}
theorem ja_nil : JA X W [] aNil := pa_imp pa_nil fun σ H Q ⟨ρ, en, st, he, hs, h⟩ => retA (mg := X.mg) (E := WE W σ) hs h .nil
theorem ja_cons (ha : JE X W e me) (hr : JA X W es mas) (hs : starEach (e :: es) X.env = (false, eval e X.env) :: starEach es X.env := by rfl) : JA X W (e :: es) (aCons me mas) := pa_imp (pa_cons ha hr hs) fun σ H Q h =>
  (Wh.bnd (m := me) (f := fun en x => bnd (mas en) fun xs => ret (x :: xs)) h).imp fun ρ1 H1 st1 d _ ⟨en, he, hs, q⟩ v rv =>
    ⟨ρ1, en, st1, he, hs, (aft_bnd q).imp fun ρ2 H2 st2 ds le s q2 vs rvs => retA (mg := X.mg) (E := WE W σ) s q2 (.cons (rv.mono le) rvs)⟩
def eTup (as : AM) : EM := fun en => bnd (as en) fun ds => if ds.length ≤ sizeLine then ret (D.tup ds) else badM
def newO (o : O) : M D := fun st => .ok (.loc st.length) (st ++ [o])
def eLst (as : AM) : EM := fun en => bnd (as en) fun ds => if ds.length ≤ sizeLine then newO (O.lst ds) else badM
theorem newO_aft {E : XK} {ρ : List Addr} {H : Hp} {st : Sto} {o : O} {ho : HO} {Q : VK} (s : StR K ρ H st) (hu : ∀ ρ' H' p, Le ρ H ρ' H' → H' p = some ho → ORep K ρ' H' p o) (h : Aft K mg E ρ H (newO o st) (gE Q)) : ∀ p, H p = none → Q (.ref p) (upd H p ho) := by
  intro p hp
  have e0 : Le ρ H (ρ ++ [p]) (upd H p ho) := ⟨List.prefix_append _ _, (Le.laid (ρ := ρ) p ho hp).tup⟩
  obtain ⟨s1, l1, g1⟩ := s.alloc (o := ho) hp (hu _ _ p e0 upd_same)
  exact h _ _ l1 s1 _ (.loc g1)
theorem newL_aft {E : XK} {ρ : List Addr} {H : Hp} {st : Sto} {ds : List D} {xs : List V} {Q : VK} (s : StR K ρ H st) (r : RepL ρ H ds xs) (h : Aft K mg E ρ H (newO (O.lst ds) st) (gE Q)) : ∀ p, H p = none → Q (.ref p) (upd H p (.lst xs)) :=
  newO_aft (o := .lst ds) (ho := .lst xs) s (fun ρ' H' p le e => ⟨xs, e, r.mono le⟩) h
theorem newT_aft {E : XK} {ρ : List Addr} {H : Hp} {st : Sto} {ds : List D} {xs : List V} {Q : VK} (s : StR K ρ H st) (r : RepL ρ H ds xs) (h : Aft K mg E ρ H (ret (D.tup ds) st) (gE Q)) : ∀ p, H p = none → Q (.ref p) (upd H p (.tup xs)) := fun p hp =>
  h ρ _ (Le.laid p _ hp) (s.laid hp) _ (.tup upd_same (r.mono (Le.laid p _ hp)))
theorem je_tup {k : Nat} (h : JA X W es mas) : JE X W (.Tuple es k pos) (eTup mas) := pe_imp (pe_tup h) fun σ H Q h =>
  (Wh.bnd (m := mas) (f := fun en ds => if ds.length ≤ sizeLine then ret (D.tup ds) else badM) h).imp fun ρ1 H1 st1 ds _ ⟨en, he, hs, q⟩ vs rv => by
    by_cases hl : ds.length ≤ sizeLine
    · rw [if_pos hl] at q
      exact ⟨by rw [← rv.length]; exact hl, newT_aft hs rv q⟩
    · rw [if_neg hl] at q
      exact q.elim
theorem je_lst (h : JA X W es mas) : JE X W (.List es pos) (eLst mas) := pe_imp (pe_lst h) fun σ H Q h =>
  (Wh.bnd (m := mas) (f := fun en ds => if ds.length ≤ sizeLine then newO (O.lst ds) else badM) h).imp fun ρ1 H1 st1 ds _ ⟨en, he, hs, q⟩ vs rv => by
    by_cases hl : ds.length ≤ sizeLine
    · rw [if_pos hl] at q
      exact ⟨by rw [← rv.length]; exact hl, newL_aft hs rv q⟩
    · rw [if_neg hl] at q
      exact q.elim
/-! ### calls -/
abbrev Fn := List D → M D
def eCall (n : Nat) (f : Fn) (as : AM) : EM := fun en => bnd (as en) fun ds => if ds.length = n then f ds else badM
/-- what a def promises -/
def spF (K : PySem.W.Frag) (mg : Mg) (n : Nat) (f : Fn) : Sp := fun vs H Q E => vs.length = n ∧ ∃ ρ st ds, StR K ρ H st ∧ RepL ρ H ds vs ∧ Aft K mg E ρ H (f ds st) (gE Q)
/-- as FnOk, where no repr is under way -/
structure FnG (P : Program) (w : World) (K : PySem.W.Frag) (mg : Mg) (base : Heap) (CX : CXT) (k : Nat) (f : Addr) (fd : FuncData) (ps : List Str) (sp : Sp) : Prop where
  len : ∀ vs H Q E, sp vs H Q E → vs.length = ps.length
  run : ∀ (A : Around) (outer : List Env) (s : Shared) (H : Hp) (args : Args) (us : List Value) (vs : List V) (Q : VK) (E : XK), Room k A ∧ A.guards = some [] → Env0 P w K mg base A outer s H → BindsTo s fd args (ps.zip us) → Vals vs us → sp vs H Q E → codeAny (model P w) A (.call (.ref f) args) (CR CX outer P w H s Q E) s
abbrev FnS (P : Program) (w : World) (K : PySem.W.Frag) (mg : Mg) (base : Heap) (k : Nat) (f : Addr) (fd : FuncData) (ps : List Str) (F : Fn) : Prop := FnG P w K mg base (L2.CX P w) k f fd ps (spF K mg ps.length F)
theorem FnG.imp {P : Program} {w : World} {K : PySem.W.Frag} {mg : Mg} {base : Heap} {CX : CXT} {k : Nat} {f : Addr} {fd : FuncData} {ps : List Str} {sp sp' : Sp} (F : FnG P w K mg base CX k f fd ps sp) (h : ∀ vs H Q E, sp' vs H Q E → sp vs H Q E) : FnG P w K mg base CX k f fd ps sp' :=
  ⟨fun vs H Q E q => F.len vs H Q E (h _ _ _ _ q), fun A outer s H args us vs Q E hr he hb hv hs => F.run A outer s H args us vs Q E hr he hb hv (h _ _ _ _ hs)⟩
theorem run_fnG {X : Cx} {CX : CXT} {k : Nat} {f : Addr} {fd : FuncData} {ps : List Str} {sp : Sp} {E : L2.St → XK} {pins : List (Addr × Obj)} {σ : L2.St} {H : Hp} {s : Shared} {Q : VK} {us : List Value} {vs : List V} (F : FnG X.prog X.w X.K X.mg X.base CX k f fd ps sp) (hr : Room k X.A) (hgd : X.A.guards = some []) (hb : Binds X.K fd ps []) (hx : PassesAt CX X σ (E σ))
    (I : Inv X pins σ H s) (r : Vals vs us) (h : sp vs H Q (E σ)) : wpAny (model X.prog X.w) X.A (PySem.call (.ref f) us) (EP X pins σ Q) X.xe s := by
  have b := hb s us I.kIn (by rw [List.append_nil, ← r.length]; exact F.len _ _ _ _ h)
  rw [List.append_nil] at b
  refine wpAny_call (codeAny_mono (F.run X.A X.stack s H ⟨us, []⟩ us vs Q (E σ) ⟨hr, hgd⟩ I.env0 b r h) fun r s' hq => ?_)
  cases r with
  | error e => exact hx pins H s e s' I hq
  | ok fl =>
    cases fl with
    | ret u => exact I.after hq
    | _ => exact False.elim hq
theorem pe_callG {X : Cx} {CX : CXT} {k : Nat} {f : Addr} {fd : FuncData} {ps : List Str} {sp : Sp} {E : L2.St → XK} {x : Str} {p pos : Pos} {e : Expr} {es : List Expr} {t : TA} (F : FnG X.prog X.w X.K X.mg X.base CX k f fd ps sp) (hr : Room k X.A) (hgd : X.A.guards = some []) (hg : Gl X x) (hm : X.mg x = some (.ref f)) (hk : PySem.W.keepIn X.K (.ref f) = true)
    (hb : Binds X.K fd ps []) (hx : ∀ σ, PassesAt CX X σ (E σ)) (ha : PA X (e :: es) t) (hdb : (x == ("__debug__" : Str)) = false := by decide) (he : starEach (e :: es) X.env = (false, eval e X.env) :: starEach es X.env := by rfl) (hpl : (backTo pos (starEach es X.env)).any (·.1) = false := by rfl) :
    PE X (.Call (.Name x p) (e :: es) [] pos) (tCallS sp E t) := by
  refine ⟨fun pins s σ H Q I h => wpAny_Call_Name_kw (ld_glob I hg hm ?_ hdb)⟩
  exact PySem.W.callWith_K (h₀ := X.base) I.ok.mod.kin hk (thn (ha.run pos pins s σ H _ I h) fun us s1 ⟨vs, H1, I1, r, q⟩ => ⟨I1.kIn, run_fnG F hr hgd hb (hx σ) I1 r q⟩) he hpl
theorem je_call {k : Nat} {f : Addr} {fd : FuncData} {ps : List Str} {x : Str} {p : Pos} {fn : Fn} (tk : Takes X W) (F : FnS X.prog X.w X.K X.mg X.base k f fd ps fn) (hr : Room k X.A) (hgd : X.A.guards = some []) (hg : Gl X x) (hm : X.mg x = some (.ref f)) (hk : PySem.W.keepIn X.K (.ref f) = true) (hb : Binds X.K fd ps [])
    (ha : JA X W (e :: es) mas) (hdb : (x == ("__debug__" : Str)) = false := by decide) (he : starEach (e :: es) X.env = (false, eval e X.env) :: starEach es X.env := by rfl) (hpl : (backTo pos (starEach es X.env)).any (·.1) = false := by rfl) :
    JE X W (.Call (.Name x p) (e :: es) [] pos) (eCall ps.length fn mas) := pe_imp (pe_callG F hr hgd hg hm hk hb (fun σ => passAt tk σ) ha hdb he hpl) fun σ H Q h =>
  (Wh.bnd (m := mas) (f := fun en ds => if ds.length = ps.length then fn ds else badM) h).imp fun ρ1 H1 st1 ds _ ⟨en, he, hs, q⟩ vs rvs => by
    by_cases hl : ds.length = ps.length
    · rw [if_pos hl] at q
      exact ⟨by rw [← rvs.length]; exact hl, ρ1, st1, ds, hs, rvs, q⟩
    · rw [if_neg hl] at q
      exact q.elim
abbrev OC := List D → Sto → Option (D × Sto)
def rC (K : PySem.W.Frag) (g : OC) : List V → Hp → VK → Prop := fun vs H Q => ∃ ρ st ds a st', StR K ρ H st ∧ RepL ρ H ds vs ∧ g ds st = some (a, st') ∧ ∀ ρ' H' v, Le ρ H ρ' H' → StR K ρ' H' st' → Rep ρ' H' a v → Q v H'
def eCB (g : OC) (as : AM) : EM := fun en => bnd (as en) fun ds => lft (g ds)
theorem cb_rd {g : OC} {σ : L2.St} {H : Hp} {Q : VK} (h : rdE K mg W (eCB g mas) σ H Q) : tCB (rC K g) (rdA K mg W mas) σ H Q :=
  (Wh.bnd (m := mas) (f := fun en ds => lft (g ds)) h).imp fun ρ1 H1 st1 ds _ ⟨en, he, hs, q⟩ vs rvs => by
    obtain ⟨r, st', e1, k⟩ := aft_lft q
    exact ⟨ρ1, st1, ds, r, st', hs, rvs, e1, fun ρ' H' v le s r => k ρ' H' le s v r⟩
theorem je_callB {id : String} {g : OC} {x : Str} {p : Pos} (hc : CallR X (.builtin id) (rC X.K g)) (hg : Gl X x) (hm : X.mg x = none) (hv : bootBuiltins x = some (.builtin id)) (ha : JA X W (e :: es) mas) (hn : x ≠ "__name__" := by decide) (hdb : (x == ("__debug__" : Str)) = false := by decide)
    (hs : starEach (e :: es) X.env = (false, eval e X.env) :: starEach es X.env := by rfl) (hpl : (backTo pos (starEach es X.env)).any (·.1) = false := by rfl) : JE X W (.Call (.Name x p) (e :: es) [] pos) (eCB g mas) :=
  pe_imp (pe_callB hc hg hm hv ha hn hdb hs hpl) fun _ _ _ h => cb_rd h
theorem je_callTy {T : String} {g : OC} {x : Str} {p : Pos} (hc : CallR X (.type T) (rC X.K g)) (hg : Gl X x) (hm : X.mg x = none) (hv : bootBuiltins x = some (.type T)) (ha : JA X W (e :: es) mas) (hn : x ≠ "__name__" := by decide) (hdb : (x == ("__debug__" : Str)) = false := by decide)
    (hs : starEach (e :: es) X.env = (false, eval e X.env) :: starEach es X.env := by rfl) (hpl : (backTo pos (starEach es X.env)).any (·.1) = false := by rfl) : JE X W (.Call (.Name x p) (e :: es) [] pos) (eCB g mas) :=
  pe_imp (pe_callTy hc hg hm hv ha hn hdb hs hpl) fun _ _ _ h => cb_rd h
end
end Sh

set_option maxHeartbeats 1000000
/-! ShC: the operators, subscripts, slices, builtins by values. -/
namespace Sh
open PySem PySem.Spec PyProof.Rows L2

section
variable {K : PySem.W.Frag} {ρ : List Addr} {H : Hp} {st : Sto}
theorem Rep.locA {l : Nat} {v : V} (h : Rep ρ H (.loc l) v) : ∃ a, v = .ref a ∧ ρ[l]? = some a := by
  cases h with
  | loc e => exact ⟨_, rfl, e⟩
theorem Rep.tupA {ds : List D} {v : V} (h : Rep ρ H (.tup ds) v) : ∃ a xs, v = .ref a ∧ H a = some (.tup xs) ∧ RepL ρ H ds xs := by
  cases h with
  | tup e r => exact ⟨_, _, rfl, e, r⟩
/-- the list at a place, its own or only read -/
def lstAt (st : Sto) (l : Nat) : Option (List D) := match st[l]? with
  | some (.lst ds) => some ds
  | some (.rol ds) => some ds
  | _ => none
theorem lstAt_seq (s : StR K ρ H st) {l : Nat} {ds : List D} {v : V} (h : lstAt st l = some ds) (r : Rep ρ H (.loc l) v) : ∃ a xs, v = .ref a ∧ SqL K H a xs ∧ RepL ρ H ds xs := by
  obtain ⟨a, rfl, ha⟩ := r.locA
  unfold lstAt at h
  split at h
  · rename_i ds' e
    cases h
    obtain ⟨xs, q, r⟩ := s.ob l _ a e ha
    exact ⟨a, xs, rfl, .inl (.inl q), r⟩
  · rename_i ds' e
    cases h
    obtain ⟨xs, q, r⟩ := s.ob l _ a e ha
    refine ⟨a, xs, rfl, ?_, r⟩
    rcases q with ⟨o, q⟩ | q
    · exact .inl (.inr ⟨o, q⟩)
    · exact .inr q
  · cases h
theorem lst_own (s : StR K ρ H st) {l : Nat} {ds : List D} {v : V} (h : st[l]? = some (.lst ds)) (r : Rep ρ H (.loc l) v) : ∃ a xs, v = .ref a ∧ ρ[l]? = some a ∧ H a = some (.lst xs) ∧ RepL ρ H ds xs := by
  obtain ⟨a, rfl, ha⟩ := r.locA
  obtain ⟨xs, q, r⟩ := s.ob l _ a h ha
  exact ⟨a, xs, rfl, ha, q, r⟩
end

/-! ### arithmetic -/
def oAdd : O2
  | .int i, .int j, st => some (.int (i + j), st)
  | .str a, .str b, st => if a.length + b.length ≤ sizeLine then some (.str (a ++ b), st) else none
  | .tup xs, .tup ys, st => if xs.length + ys.length ≤ sizeLine then some (.tup (xs ++ ys), st) else none
  | .loc l, .loc m, st => match st[l]?, st[m]? with
    | some (.lst xs), some (.lst ys) => if xs.length + ys.length ≤ sizeLine then some (.loc st.length, st ++ [.lst (xs ++ ys)]) else none
    | _, _ => none
  | _, _, _ => none
section
variable {X : Cx}
theorem ob_add : OpR X (binaryOp .Add) (rB X.K oAdd) := by
  intro pins s σ H x y v u Q I rx ry ⟨ρ, st, d, e, a, st', hs, rd, re, h, k⟩
  unfold oAdd at h
  split at h
  · cases h; cases rd; cases re
    exact op_add pins s σ H _ _ v u Q I rx ry ⟨_, _, rfl, rfl, k ρ H _ Le.refl hs (.int _)⟩
  · split at h
    · rename_i hl
      cases h; cases rd; cases re
      exact op_add_str pins s σ H _ _ v u Q I rx ry ⟨_, _, rfl, rfl, hl, k ρ H _ Le.refl hs (.str _)⟩
    · cases h
  · split at h
    · rename_i hl
      cases h
      obtain ⟨p, xs, rfl, hx, r1⟩ := rd.tupA
      obtain ⟨q, ys, rfl, hy, r2⟩ := re.tupA
      refine op_catA pins s σ H _ _ v u Q I rx ry ⟨p, q, xs, ys, rfl, rfl, SqT.of hx, SqT.of hy, by rw [← r1.length, ← r2.length]; exact hl, fun z => ?_, fun z1 z2 => ?_, fun z1 z2 p' hp => ?_⟩
      · subst z
        cases r1
        exact k ρ H _ Le.refl hs re
      · subst z2
        cases r2
        rw [List.append_nil] at k
        exact k ρ H _ Le.refl hs rd
      · have le := Le.laid (ρ := ρ) p' (.tup (xs ++ ys)) hp
        exact k ρ _ _ le (hs.laid hp) (.tup upd_same ((r1.append r2).mono le))
    · cases h
  · split at h
    · rename_i xs ys e1 e2
      split at h
      · rename_i hl
        cases h
        obtain ⟨p, us, rfl, hp, hx, r1⟩ := lst_own hs e1 rd
        obtain ⟨q, ws, rfl, hq, hy, r2⟩ := lst_own hs e2 re
        refine op_cat pins s σ H _ _ v u Q I rx ry ⟨p, q, us, ws, rfl, rfl, hx, hy, by rw [← r1.length, ← r2.length]; exact hl, fun n hn => ?_⟩
        have le : Le ρ H (ρ ++ [n]) (upd H n (.lst (us ++ ws))) := ⟨List.prefix_append _ _, (Le.laid (ρ := ρ) n _ hn).tup⟩
        obtain ⟨s1, l1, g1⟩ := hs.alloc (u := .lst (xs ++ ys)) hn ⟨_, upd_same, (r1.append r2).mono le⟩
        exact k _ _ _ l1 s1 (.loc g1)
      · cases h
    · cases h
  · cases h
def oSub : O2
  | .int i, .int j, st => some (.int (i - j), st)
  | _, _, _ => none
theorem ob_sub : OpR X (binaryOp .Sub) (rB X.K oSub) := by
  intro pins s σ H x y v u Q I rx ry ⟨ρ, st, d, e, a, st', hs, rd, re, h, k⟩
  unfold oSub at h
  split at h
  · cases h; cases rd; cases re
    exact op_sub pins s σ H _ _ v u Q I rx ry ⟨_, _, rfl, rfl, k ρ H _ Le.refl hs (.int _)⟩
  · cases h
def oMul : O2
  | .int i, .int j, st => if (-(2 ^ 64) < i ∧ i < 2 ^ 64) ∨ (-(2 ^ 64) < j ∧ j < 2 ^ 64) then some (.int (i * j), st) else none
  | _, _, _ => none
theorem ob_mul : OpR X (binaryOp .Mult) (rB X.K oMul) := by
  intro pins s σ H x y v u Q I rx ry ⟨ρ, st, d, e, a, st', hs, rd, re, h, k⟩
  unfold oMul at h
  split at h
  · split at h
    · rename_i hc
      cases h; cases rd; cases re
      exact op_mul pins s σ H _ _ v u Q I rx ry ⟨_, _, rfl, rfl, hc, k ρ H _ Le.refl hs (.int _)⟩
    · cases h
  · cases h
def oDiv : O2
  | .int i, .int j, st => if 0 < j ∧ j < 1073741824 then some (.int (i / j), st) else none
  | _, _, _ => none
theorem ob_div : OpR X (binaryOp .FloorDiv) (rB X.K oDiv) := by
  intro pins s σ H x y v u Q I rx ry ⟨ρ, st, d, e, a, st', hs, rd, re, h, k⟩
  unfold oDiv at h
  split at h
  · split at h
    · rename_i hc
      cases h; cases rd; cases re
      exact op_fdiv pins s σ H _ _ v u Q I rx ry ⟨_, _, rfl, rfl, hc, k ρ H _ Le.refl hs (.int _)⟩
    · cases h
  · cases h
def oMod : O2
  | .int i, .int j, st => if 0 < j then some (.int (i % j), st) else none
  | _, _, _ => none
theorem ob_mod : OpR X (binaryOp .Mod) (rB X.K oMod) := by
  intro pins s σ H x y v u Q I rx ry ⟨ρ, st, d, e, a, st', hs, rd, re, h, k⟩
  unfold oMod at h
  split at h
  · split at h
    · rename_i hc
      cases h; cases rd; cases re
      exact op_mod pins s σ H _ _ v u Q I rx ry ⟨_, _, rfl, rfl, hc, k ρ H _ Le.refl hs (.int _)⟩
    · cases h
  · cases h

/-! ### comparisons -/
def oLtI (f : Int → Int → Bool) : O2
  | .int i, .int j, st => some (.bl (f i j), st)
  | _, _, _ => none
theorem ob_ltI {op : CmpOp} {f : Int → Int → Bool} (h0 : OpR X (compareOp op) (rI0 fun i j => .bl (f i j))) : OpR X (compareOp op) (rB X.K (oLtI f)) := by
  intro pins s σ H x y v u Q I rx ry ⟨ρ, st, d, e, a, st', hs, rd, re, h, k⟩
  unfold oLtI at h
  split at h
  · cases h; cases rd; cases re
    exact h0 pins s σ H _ _ v u Q I rx ry ⟨_, _, rfl, rfl, k ρ H _ Le.refl hs (.bl _)⟩
  · cases h
abbrev oLt : O2 := oLtI fun i j => decide (i < j)
abbrev oLe : O2 := oLtI fun i j => decide (i ≤ j)
abbrev oGt : O2 := oLtI fun i j => decide (j < i)
abbrev oGe : O2 := oLtI fun i j => decide (j ≤ i)
theorem ob_lt : OpR X (compareOp .Lt) (rB X.K oLt) := ob_ltI op_lt
theorem ob_le : OpR X (compareOp .LtE) (rB X.K oLe) := ob_ltI op_le
theorem ob_gt : OpR X (compareOp .Gt) (rB X.K oGt) := ob_ltI op_gt
theorem ob_ge : OpR X (compareOp .GtE) (rB X.K oGe) := ob_ltI op_ge
end

/-! data as == sees it -/
mutual
def toPyW (res : Nat → Option PyData) : D → Option PyData
  | .non => some .none
  | .bl b => some (.bool b)
  | .int i => some (.int i)
  | .str s => some (.str s)
  | .tup ds => (toPyWL res ds).map .tuple
  | .loc l => res l
  | .ty _ => none
def toPyWL (res : Nat → Option PyData) : List D → Option (List PyData)
  | [] => some []
  | d :: ds => match toPyW res d, toPyWL res ds with
    | some p, some ps => some (p :: ps)
    | _, _ => none
end
def toPy (st : Sto) : Nat → D → Option PyData
  | 0 => toPyW fun _ => none
  | n + 1 => toPyW fun l => match lstAt st l with
    | some ds => (toPyWL (fun m => toPy st n (.loc m)) ds).map .list
    | none => none
/-- text and depth within what the rules of == ask -/
def shX (d : PyData) : Bool := d.canLay0 && decide (d.depth ≤ 180)
theorem shX_lay {d : PyData} (h : shX d = true) : d.canLay0 = true := (Bool.and_eq_true_iff.mp h).1
theorem shX_dep {d : PyData} (h : shX d = true) : d.depth ≤ 180 := of_decide_eq_true (Bool.and_eq_true_iff.mp h).2
theorem hu190 {k : Nat} {A : Around} (r : Room k A) : A.units + 190 < cLine := by have := r.un; omega
def deepEq (d e : D) (st : Sto) : Option Bool := match toPy st 2 d, toPy st 2 e with
  | some a, some b => if (shX a && shX b) = true then some (PyData.eqv a b) else none
  | _, _ => none
/-- == of two pieces of data -/
def eqDat (d e : D) (st : Sto) : Option Bool := match d, e with
  | .int i, .int j => some (decide (i = j))
  | .str i, .str j => some (decide (i = j))
  | .bl i, .bl j => some (decide (i = j))
  | .non, .non => some true
  | d, e => deepEq d e st
section
variable {ρ : List Addr} {H : Hp} {st : Sto} {K : PySem.W.Frag} {res : Nat → Option PyData}
mutual
theorem toPyW_dp (hres : ∀ l v p, res l = some p → Rep ρ H (.loc l) v → Dp K H v p) : ∀ {d : D} {v : V} {p : PyData}, Rep ρ H d v → toPyW res d = some p → Dp K H v p
  | _, _, _, .non, h => by unfold toPyW at h; cases h; exact .non
  | _, _, _, .bl b, h => by unfold toPyW at h; cases h; exact .bl b
  | _, _, _, .int b, h => by unfold toPyW at h; cases h; exact .int b
  | _, _, _, .str b, h => by unfold toPyW at h; cases h; exact .str b
  | _, _, _, .tup (ds := ds) e r, h => by
    unfold toPyW at h
    cases q : toPyWL res ds with
    | none => rw [q] at h; cases h
    | some ps =>
      rw [q] at h
      cases h
      exact .tup (SqT.of e) (toPyWL_dp hres r q)
  | _, _, _, .loc e, h => by unfold toPyW at h; exact hres _ _ _ h (.loc e)
  | _, _, _, .ty _, h => by unfold toPyW at h; cases h
theorem toPyWL_dp (hres : ∀ l v p, res l = some p → Rep ρ H (.loc l) v → Dp K H v p) : ∀ {ds : List D} {vs : List V} {ps : List PyData}, RepL ρ H ds vs → toPyWL res ds = some ps → DpAll K H vs ps
  | _, _, _, .nil, h => by unfold toPyWL at h; cases h; exact .nil
  | _, _, _, .cons (d := d) (ds := ds) e r, h => by
    unfold toPyWL at h
    cases q : toPyW res d with
    | none => rw [q] at h; cases h
    | some p =>
      cases q2 : toPyWL res ds with
      | none => rw [q, q2] at h; cases h
      | some ps =>
        rw [q, q2] at h
        cases h
        exact .cons (toPyW_dp hres e q) (toPyWL_dp hres r q2)
end
theorem toPy_dp (s : StR K ρ H st) : ∀ (n : Nat) {d : D} {v : V} {p : PyData}, Rep ρ H d v → toPy st n d = some p → Dp K H v p
  | 0, _, _, _, r, h => toPyW_dp (res := fun _ => none) (fun _ _ _ z => by cases z) r h
  | n + 1, _, _, _, r, h => by
    unfold toPy at h
    refine toPyW_dp (fun l v p hp rl => ?_) r h
    cases q : lstAt st l with
    | none => rw [q] at hp; cases hp
    | some ds =>
      rw [q] at hp
      dsimp only at hp
      obtain ⟨a, xs, rfl, hx, rx⟩ := lstAt_seq s q rl
      cases q2 : toPyWL (fun m => toPy st n (.loc m)) ds with
      | none => rw [q2] at hp; cases hp
      | some ps =>
        rw [q2] at hp
        cases hp
        exact .lst hx (toPyWL_dp (fun l' v' p' h' r' => toPy_dp s n r' h') rx q2)
end
def oEq : O2 := fun d e st => match eqDat d e st with
  | some b => some (.bl b, st)
  | none => none
def oNe : O2 := fun d e st => match eqDat d e st with
  | some b => some (.bl (!b), st)
  | none => none
section
variable {X : Cx}
theorem deep_q {K : PySem.W.Frag} {ρ : List Addr} {H : Hp} {st : Sto} {d e : D} {x y : V} {b : Bool} (hs : StR K ρ H st) (rd : Rep ρ H d x) (re : Rep ρ H e y) (h : deepEq d e st = some b) :
    ∃ p q, Dp K H x p ∧ Dp K H y q ∧ shX p = true ∧ shX q = true ∧ PyData.eqv p q = b := by
  unfold deepEq at h
  split at h
  · rename_i p q e1 e2
    split at h
    · rename_i hc
      cases h
      obtain ⟨c1, c2⟩ := Bool.and_eq_true_iff.mp hc
      exact ⟨p, q, toPy_dp hs 2 rd e1, toPy_dp hs 2 re e2, c1, c2, rfl⟩
    · cases h
  · cases h
theorem eq_q {K : PySem.W.Frag} {ρ : List Addr} {H : Hp} {st : Sto} {d e : D} {x y : V} {b : Bool} (hs : StR K ρ H st) (rd : Rep ρ H d x) (re : Rep ρ H e y) (h : eqDat d e st = some b) :
    (scal x y = true ∧ decide (x = y) = b) ∨ ∃ p q, Dp K H x p ∧ Dp K H y q ∧ shX p = true ∧ shX q = true ∧ PyData.eqv p q = b := by
  unfold eqDat at h
  split at h
  · cases h; cases rd; cases re
    exact .inl ⟨rfl, by simp⟩
  · cases h; cases rd; cases re
    exact .inl ⟨rfl, by simp⟩
  · cases h; cases rd; cases re
    exact .inl ⟨rfl, by simp⟩
  · cases h; cases rd; cases re
    exact .inl ⟨rfl, by simp⟩
  · exact .inr (deep_q hs rd re h)
theorem eqX (hu : X.A.units + 190 < cLine) : OpR X (compareOp .Eq) (fun x y H Q => ∃ d e, Dp X.K H x d ∧ Dp X.K H y e ∧ shX d = true ∧ shX e = true ∧ Q (.bl (PyData.eqv d e)) H) := by
  intro pins s σ H x y v u Q I rx ry ⟨d, e, hd, he, sd, se, q⟩
  obtain ⟨as, r1⟩ := Dp.reads I d x v hd rx
  obtain ⟨bs, r2⟩ := Dp.reads I e y u he ry
  exact SeqAt.compareEq_reads r1 r2 (shX_lay sd) (shX_lay se) (by have := shX_dep sd; omega) ⟨.bl _, H, I, rfl, q⟩
theorem neX (hu : X.A.units + 190 < cLine) : OpR X (compareOp .NotEq) (fun x y H Q => ∃ d e, Dp X.K H x d ∧ Dp X.K H y e ∧ shX d = true ∧ shX e = true ∧ Q (.bl (!PyData.eqv d e)) H) := by
  intro pins s σ H x y v u Q I rx ry ⟨d, e, hd, he, sd, se, q⟩
  obtain ⟨as, r1⟩ := Dp.reads I d x v hd rx
  obtain ⟨bs, r2⟩ := Dp.reads I e y u he ry
  exact SeqAt.compareNe_reads r1 r2 (shX_lay sd) (shX_lay se) (by have := shX_dep sd; omega) ⟨.bl _, H, I, rfl, q⟩
theorem ob_eq (hu : X.A.units + 190 < cLine) : OpR X (compareOp .Eq) (rB X.K oEq) := by
  intro pins s σ H x y v u Q I rx ry ⟨ρ, st, d, e, a, st', hs, rd, re, h, k⟩
  unfold oEq at h
  split at h
  · rename_i b hb
    cases h
    rcases eq_q (K := X.K) hs rd re hb with ⟨h1, h2⟩ | ⟨p, q, h1, h2, h3, h4, h5⟩
    · exact op_eq pins s σ H _ _ v u Q I rx ry ⟨h1, by rw [h2]; exact k ρ H _ Le.refl hs (.bl _)⟩
    · exact eqX hu pins s σ H _ _ v u Q I rx ry ⟨p, q, h1, h2, h3, h4, by rw [h5]; exact k ρ H _ Le.refl hs (.bl _)⟩
  · cases h
theorem ob_ne (hu : X.A.units + 190 < cLine) : OpR X (compareOp .NotEq) (rB X.K oNe) := by
  intro pins s σ H x y v u Q I rx ry ⟨ρ, st, d, e, a, st', hs, rd, re, h, k⟩
  unfold oNe at h
  split at h
  · rename_i b hb
    cases h
    rcases eq_q (K := X.K) hs rd re hb with ⟨h1, h2⟩ | ⟨p, q, h1, h2, h3, h4, h5⟩
    · exact op_ne pins s σ H _ _ v u Q I rx ry ⟨h1, by rw [h2]; exact k ρ H _ Le.refl hs (.bl _)⟩
    · exact neX hu pins s σ H _ _ v u Q I rx ry ⟨p, q, h1, h2, h3, h4, by rw [h5]; exact k ρ H _ Le.refl hs (.bl _)⟩
  · cases h
end
/-! ### in -/
def flatD : D → Bool
  | .non => true
  | .bl _ => true
  | .int _ => true
  | .str _ => true
  | _ => false
def eqD : D → D → Bool
  | .non, .non => true
  | .bl a, .bl b => a == b
  | .bl a, .int b => (if a then 1 else 0) == b
  | .int a, .bl b => a == (if b then 1 else 0)
  | .int a, .int b => a == b
  | .str a, .str b => a == b
  | _, _ => false
def inD (x : D) (xs : List D) : Bool := xs.any fun y => eqD y x
section
variable {ρ : List Addr} {H : Hp} {st : Sto}
theorem flat_rep {d : D} {v : V} (r : Rep ρ H d v) : flatV v = flatD d := by cases r <;> rfl
theorem flat_repL : ∀ {ds : List D} {vs : List V}, RepL ρ H ds vs → vs.all flatV = ds.all flatD
  | _, _, .nil => rfl
  | _, _, .cons h r => by rw [List.all_cons, List.all_cons, flat_rep h, flat_repL r]
theorem eq_rep {d e : D} {x y : V} (r : Rep ρ H d x) (r' : Rep ρ H e y) : eqV x y = eqD d e := by cases r <;> cases r' <;> rfl
theorem in_rep {d : D} {x : V} (r : Rep ρ H d x) : ∀ {ds : List D} {vs : List V}, RepL ρ H ds vs → inV x vs = inD d ds
  | _, _, .nil => rfl
  | _, _, .cons h t => by
    unfold inV inD
    rw [List.any_cons, List.any_cons, eq_rep h r]
    exact congrArg _ (in_rep r t)
end
def strIn (j i : Str) : Bool := !(Builtin.Str.occurrences j i 0 j.length 1).isEmpty
theorem strIn_one (z : Str) (c : Nat) : strIn z ⟨#[c]⟩ = decide (c ∈ z.cps.toList) := PySem.StrLaws.found_one z c
def keyOf : D → Option Key
  | .int i => some (.inl i)
  | .str s => some (.inr s)
  | _ => none
def isIn (d e : D) (st : Sto) : Option Bool := match e with
  | .str j => match d with
    | .str i => some (strIn j i)
    | _ => none
  | .tup ds => if (flatD d && ds.all flatD) = true then some (inD d ds) else none
  | .loc l => match lstAt st l with
    | some ds => if (flatD d && ds.all flatD) = true then some (inD d ds) else none
    | none => none
  | _ => none
def oIn : O2 := fun d e st => match isIn d e st with
  | some b => some (.bl b, st)
  | none => none
def oNotIn : O2 := fun d e st => match isIn d e st with
  | some b => some (.bl (!b), st)
  | none => none
section
variable {X : Cx}
theorem in_q {K : PySem.W.Frag} {ρ : List Addr} {H : Hp} {st : Sto} {d e : D} {x y : V} {b : Bool} (hs : StR K ρ H st) (rd : Rep ρ H d x) (re : Rep ρ H e y) (h : isIn d e st = some b) :
    (∃ i j, x = .str i ∧ y = .str j ∧ strIn j i = b) ∨ (∃ p xs, y = .ref p ∧ (SqL K H p xs ∨ SqT K H p xs) ∧ flatV x = true ∧ xs.all flatV = true ∧ inV x xs = b) := by
  unfold isIn at h
  split at h
  · split at h
    · cases h; cases rd; cases re
      exact .inl ⟨_, _, rfl, rfl, rfl⟩
    · cases h
  · split at h
    · rename_i hc
      cases h
      obtain ⟨c1, c2⟩ := Bool.and_eq_true_iff.mp hc
      obtain ⟨p, xs, rfl, hx, r⟩ := re.tupA
      exact .inr ⟨p, xs, rfl, .inr (SqT.of hx), by rw [flat_rep rd]; exact c1, by rw [flat_repL r]; exact c2, in_rep rd r⟩
    · cases h
  · split at h
    · rename_i ds hl
      split at h
      · rename_i hc
        cases h
        obtain ⟨c1, c2⟩ := Bool.and_eq_true_iff.mp hc
        obtain ⟨p, xs, rfl, hx, r⟩ := lstAt_seq hs hl re
        exact .inr ⟨p, xs, rfl, .inl hx, by rw [flat_rep rd]; exact c1, by rw [flat_repL r]; exact c2, in_rep rd r⟩
      · cases h
    · cases h
  · cases h
theorem ob_in : OpR X (compareOp .In) (rB X.K oIn) := by
  intro pins s σ H x y v u Q I rx ry ⟨ρ, st, d, e, a, st', hs, rd, re, h, k⟩
  unfold oIn at h
  split at h
  · rename_i b hb
    cases h
    have kq := k ρ H _ Le.refl hs (.bl b)
    rcases in_q (K := X.K) hs rd re hb with ⟨i, j, rfl, rfl, e1⟩ | ⟨p, xs, rfl, h1, h2, h3, h4⟩
    · exact op_in_str pins s σ H _ _ v u Q I rx ry ⟨_, _, rfl, rfl, by unfold strIn at e1; rw [e1]; exact kq⟩
    · exact op_in_seq pins s σ H _ _ v u Q I rx ry ⟨p, xs, rfl, h1, h2, h3, by rw [h4]; exact kq⟩
  · cases h
theorem ob_notIn : OpR X (compareOp .NotIn) (rB X.K oNotIn) := by
  intro pins s σ H x y v u Q I rx ry ⟨ρ, st, d, e, a, st', hs, rd, re, h, k⟩
  unfold oNotIn at h
  split at h
  · rename_i b hb
    cases h
    have kq := k ρ H _ Le.refl hs (.bl (!b))
    rcases in_q (K := X.K) hs rd re hb with ⟨i, j, rfl, rfl, e1⟩ | ⟨p, xs, rfl, h1, h2, h3, h4⟩
    · exact op_notin_str pins s σ H _ _ v u Q I rx ry ⟨_, _, rfl, rfl, by unfold strIn at e1; rw [e1]; exact kq⟩
    · exact op_notIn_seq pins s σ H _ _ v u Q I rx ry ⟨p, xs, rfl, h1, h2, h3, by rw [h4]; exact kq⟩
  · cases h
/-- x in a constant tuple of texts of the module -/
def eInC (neg : Bool) (ws : List Str) (a : EM) : EM := fun en => bnd (a en) fun x => if flatD x = true then ret (.bl (if neg then !inD x (ws.map D.str) else inD x (ws.map D.str))) else badM
theorem inC_str (s : Str) (ws : List Str) : inD (.str s) (ws.map D.str) = decide (s ∈ ws) := by
  induction ws with
  | nil => rfl
  | cons w r ih =>
    unfold inD at ih ⊢
    rw [List.map_cons, List.any_cons, ih]
    by_cases e : w = s
    · subst e
      rw [decide_eq_true (show w ∈ w :: r from List.mem_cons_self)]
      show (w == w || _) = true
      rw [beq_self_eq_true, Bool.true_or]
    · have e1 : (eqD (.str w) (.str s)) = false := beq_eq_false_iff_ne.mpr e
      rw [e1, Bool.false_or]
      by_cases e2 : s ∈ r
      · rw [decide_eq_true e2, decide_eq_true (List.mem_cons_of_mem _ e2)]
      · rw [decide_eq_false e2, decide_eq_false (fun z => by
          rcases List.mem_cons.mp z with q | q
          · exact e q.symm
          · exact e2 q)]
variable {W : WX} {a b : Expr} {ma : EM} {pos : Pos}
theorem inC_rd {f : Value → Value → Sem Value} {neg : Bool} {ws : List Str} {C : Addr} {K : PySem.W.Frag} {mg : Mg} (hC : ∀ H, SqT K H C (ws.map V.str)) {σ : L2.St} {H : Hp} {Q : VK} (h : rdE K mg W (eInC neg ws ma) σ H Q) : tOp (rIn K neg) (rdE K mg W ma) (tC (.ref C)) σ H Q :=
  (Wh.bnd (m := ma) (f := fun en x => if flatD x = true then ret (D.bl (if neg then !inD x (ws.map D.str) else inD x (ws.map D.str))) else badM) h).imp fun ρ1 H1 st1 d _ ⟨en, he, hs, q⟩ v rv => by
    by_cases hf : flatD d = true
    · rw [if_pos hf] at q
      have kq := retE (Q := Q) hs q (.bl _)
      refine ⟨C, ws.map V.str, rfl, .inr (hC H1), by rw [flat_rep rv]; exact hf, ?_, ?_⟩
      · rw [flat_repL (ρ := ρ1) (H := H1) (RepL.of_strs ws)]
        simp [flatD]
      · rw [in_rep rv (RepL.of_strs ws)]
        exact kq
    · rw [if_neg hf] at q
      exact q.elim
theorem je_inC {ws : List Str} {C : Addr} {x : Str} {p : Pos} (hC : ∀ H, SqT X.K H C (ws.map V.str)) (hg : Gl X x) (hm : X.mg x = some (.ref C)) (ha : JE X W a ma) (hd : (x == ("__debug__" : Str)) = false := by decide) : JE X W (.Compare a [.In] [.Name x p] pos) (eInC false ws ma) :=
  pe_imp (pe_cmpR op_in_seq ha (pe_glob (v := .ref C) hg hm rfl hd) rfl) fun _ _ _ h => inC_rd (f := compareOp .In) hC h
theorem je_notInC {ws : List Str} {C : Addr} {x : Str} {p : Pos} (hC : ∀ H, SqT X.K H C (ws.map V.str)) (hg : Gl X x) (hm : X.mg x = some (.ref C)) (ha : JE X W a ma) (hd : (x == ("__debug__" : Str)) = false := by decide) : JE X W (.Compare a [.NotIn] [.Name x p] pos) (eInC true ws ma) :=
  pe_imp (pe_cmpR op_notIn_seq ha (pe_glob (v := .ref C) hg hm rfl hd) rfl) fun _ _ _ h => inC_rd (f := compareOp .NotIn) hC h
theorem jt_inC {ws : List Str} {C : Addr} {x : Str} {p : Pos} (hC : ∀ H, SqT X.K H C (ws.map V.str)) (hg : Gl X x) (hm : X.mg x = some (.ref C)) (ha : JE X W a ma) (hd : (x == ("__debug__" : Str)) = false := by decide) : JT X W (.Compare a [.In] [.Name x p] pos) (bOf (eInC false ws ma)) :=
  pt_imp (pt_cmpR op_in_seq ha (pe_glob (v := .ref C) hg hm rfl hd) rfl) fun _ _ _ h => inC_rd (f := compareOp .In) hC (b_rd h)
theorem jt_notInC {ws : List Str} {C : Addr} {x : Str} {p : Pos} (hC : ∀ H, SqT X.K H C (ws.map V.str)) (hg : Gl X x) (hm : X.mg x = some (.ref C)) (ha : JE X W a ma) (hd : (x == ("__debug__" : Str)) = false := by decide) : JT X W (.Compare a [.NotIn] [.Name x p] pos) (bOf (eInC true ws ma)) :=
  pt_imp (pt_cmpR op_notIn_seq ha (pe_glob (v := .ref C) hg hm rfl hd) rfl) fun _ _ _ h => inC_rd (f := compareOp .NotIn) hC (b_rd h)
end
/-! ### subscripts, slices -/
theorem atI_map {α β : Type} (f : α → β) (xs : List α) (i : Int) : atI (xs.map f) i = (atI xs i).map f := by
  unfold atI
  rw [List.length_map]
  cases ixN xs.length i with
  | none => rfl
  | some j => simp
theorem atI_rep {ρ : List Addr} {H : Hp} {ds : List D} {xs : List V} {i : Int} {d : D} (r : RepL ρ H ds xs) (h : atI ds i = some d) : ∃ x, atI xs i = some x ∧ Rep ρ H d x := by
  unfold atI at h ⊢
  rw [← r.length]
  cases q : ixN ds.length i with
  | none => rw [q] at h; cases h
  | some j =>
    rw [q] at h
    exact r.get h
def dkAt (st : Sto) (l : Nat) : Option (List (Key × D)) := match st[l]? with
  | some (.dic kvs) => some kvs
  | _ => none
def lookK {κ : Type} [DecidableEq κ] (kvs : List (κ × D)) (k : κ) : Option D := (kvs.find? fun kv => decide (kv.1 = k)).map (·.2)
theorem lookK_rep {κ : Type} [DecidableEq κ] {ρ : List Addr} {H : Hp} : ∀ {kvs : List (κ × D)} {us : List (κ × V)} (k : κ), RepK ρ H kvs us →
    (lookK kvs k = none ∧ valV us k = none) ∨ ∃ d v, lookK kvs k = some d ∧ valV us k = some v ∧ Rep ρ H d v
  | [], [], _, _ => .inl ⟨rfl, rfl⟩
  | [], _ :: _, _, ⟨h, _⟩ => by simp at h
  | _ :: _, [], _, ⟨h, _⟩ => by simp at h
  | (a, d) :: r, (b, v) :: t, k, ⟨h1, h2⟩ => by
    simp only [List.map_cons, List.cons.injEq] at h1
    obtain ⟨e1, e2⟩ := h1
    subst e1
    rw [List.map_cons, List.map_cons] at h2
    cases h2 with
    | cons q1 q2 =>
      by_cases hk : a = k
      · refine .inr ⟨d, v, ?_, valV_pos (p := (a, v)) hk, q1⟩
        simp [lookK, List.find?_cons, hk]
      · have e3 : lookK ((a, d) :: r) k = lookK r k := by simp [lookK, List.find?_cons, hk]
        rw [e3, valV_neg (p := (a, v)) hk]
        exact lookK_rep k ⟨e2, q2⟩
def ixD (d e : D) (st : Sto) : Option D := match d with
  | .tup ds => match e with
    | .int i => atI ds i
    | _ => none
  | .str z => match e with
    | .int i => if z.length ≤ sizeLine then (atI z.cps.toList i).map fun c => .str ⟨#[c]⟩ else none
    | _ => none
  | .loc l => match lstAt st l with
    | some ds => match e with
      | .int i => atI ds i
      | _ => none
    | none => match dkAt st l, keyOf e with
      | some kvs, some k => lookK kvs k
      | _, _ => none
  | _ => none
def oIx : O2 := fun d e st => match ixD d e st with
  | some r => some (r, st)
  | none => none
theorem keyOf_rep {ρ : List Addr} {H : Hp} {e : D} {y : V} {k : Key} (h : keyOf e = some k) (r : Rep ρ H e y) : y = kV k := by
  cases r <;> first | (cases h; rfl) | cases h
section
variable {X : Cx}
theorem ox_ix (hu : X.A.units + 1 < cLine) : IxR X (rB X.K oIx) := by
  intro value slice pins s σ H x y v u Q I rx ry ⟨ρ, st, d, e, a, st', hs, rd, re, h, k⟩ hsub
  unfold oIx at h
  split at h
  · rename_i r hr
    cases h
    have kq := fun w (rw : Rep ρ H a w) => k ρ H w Le.refl hs rw
    unfold ixD at hr
    split at hr
    · split at hr
      · obtain ⟨p, xs, rfl, hx, r1⟩ := rd.tupA
        obtain ⟨z, hz, rz⟩ := atI_rep r1 hr
        cases re
        exact ix_tup value slice pins s σ H _ _ v u Q I rx ry ⟨p, xs, _, z, rfl, rfl, SqT.of hx, hz, kq z rz⟩ hsub
      · cases hr
    · split at hr
      · split at hr
        · rename_i z _ i hl
          cases rd with
          | str _ =>
            cases re with
            | int _ =>
              cases q : atI z.cps.toList i with
              | none => rw [q] at hr; cases hr
              | some c =>
                rw [q] at hr
                cases hr
                exact ix_str value slice pins s σ H _ _ v u Q I rx ry ⟨z, i, c, rfl, rfl, hl, q, kq _ (.str _)⟩ hsub
        · cases hr
      · cases hr
    · split at hr
      · rename_i ds hl
        split at hr
        · obtain ⟨p, xs, rfl, hx, r1⟩ := lstAt_seq hs hl rd
          obtain ⟨z, hz, rz⟩ := atI_rep r1 hr
          cases re
          exact ix_list value slice pins s σ H _ _ v u Q I rx ry ⟨p, xs, _, z, rfl, rfl, hx, hz, kq z rz⟩ hsub
        · cases hr
      · split at hr
        · rename_i kvs kk hd hk
          obtain ⟨p, rfl, hp⟩ := rd.locA
          unfold dkAt at hd
          split at hd
          · rename_i kvs' hd'
            cases hd
            obtain ⟨us, e1, r1⟩ := hs.ob _ _ p hd' hp
            rcases lookK_rep kk r1 with ⟨z, _⟩ | ⟨d', w, z1, z2, z3⟩
            · rw [z] at hr; cases hr
            · rw [hr] at z1
              cases z1
              have ey := keyOf_rep hk re
              subst ey
              have g : DGet H p (kV kk) (some w) := by
                rw [← z2]
                exact DGet.k e1
              cases rx
              exact tail_any (dict_typeIs I g) PySem.F.slot_dict_getitem.lookup (d_getItem hu I g ry fun w' s3 I3 rw' => ⟨w, H, I3, rw', kq w z3⟩) hsub
          · cases hd
        · cases hr
    · cases hr
  · cases h
variable {W : WX} {a b : Expr} {ma mb : EM} {pos : Pos}
theorem je_ix (hu : X.A.units + 1 < cLine) (ha : JE X W a ma) (hb : JE X W b mb) (hs : PlainIx b := by intro _ _; rfl) : JE X W (.Subscript a b pos) (eOp oIx ma mb) := pe_imp (pe_ix (ox_ix hu) ha hb hs) fun _ _ _ h => op_rd h
end
end Sh

set_option maxHeartbeats 1000000
/-! ShD: statements, loops, defs. -/
namespace Sh
open PySem PySem.Spec PyProof.Rows L2

inductive SR where
  | nx (en : Ev) (st : Sto)
  | rt (d : D) (st : Sto)
  | bk (en : Ev) (st : Sto)
  | ct (en : Ev) (st : Sto)
  | exc (c : Str) (en : Ev) (st : Sto)
  | bad
abbrev SM := Ev → Sto → SR
def AftS (K : PySem.W.Frag) (mg : Mg) (W : WX) (ρ : List Addr) (H : Hp) (r : SR) (E : Ends) : Prop := match r with
  | .nx en st => ∀ ρ' H' σ', Le ρ H ρ' H' → StR K ρ' H' st → EnR ρ' H' en σ' → E.nx σ' H'
  | .rt d st => ∀ ρ' H' v, Le ρ H ρ' H' → StR K ρ' H' st → Rep ρ' H' d v → E.rt v H'
  | .bk en st => ∀ ρ' H' σ', Le ρ H ρ' H' → StR K ρ' H' st → EnR ρ' H' en σ' → E.bk σ' H'
  | .ct en st => ∀ ρ' H' σ', Le ρ H ρ' H' → StR K ρ' H' st → EnR ρ' H' en σ' → E.ct σ' H'
  | .exc c en st => ∀ ρ' H' σ' C, Le ρ H ρ' H' → StR K ρ' H' st → EnR ρ' H' en σ' → mg c = some (.ref C) → W (.ref C) none σ' H'
  | .bad => False
def rdS (K : PySem.W.Frag) (mg : Mg) (W : WX) (m : SM) : TS := fun E σ H => ∃ ρ en st, EnR ρ H en σ ∧ StR K ρ H st ∧ AftS K mg W ρ H (m en st) E
abbrev JS (X : Cx) (W : WX) (st : Stmt) (m : SM) : Prop := PS X st (rdS X.K X.mg W m)
abbrev JSs (X : Cx) (W : WX) (sts : List Stmt) (m : SM) : Prop := PSs X sts (rdS X.K X.mg W m)
section
variable {K : PySem.W.Frag} {mg : Mg} {W : WX} {ρ ρ' : List Addr} {H H' : Hp} {E E' : Ends}
theorem AftS.le {r : SR} (e : Le ρ H ρ' H') (h : AftS K mg W ρ H r E) : AftS K mg W ρ' H' r E := by
  cases r with
  | nx en st => exact fun ρ2 H2 σ2 e2 s q => h ρ2 H2 σ2 (e.trans e2) s q
  | rt d st => exact fun ρ2 H2 v e2 s q => h ρ2 H2 v (e.trans e2) s q
  | bk en st => exact fun ρ2 H2 σ2 e2 s q => h ρ2 H2 σ2 (e.trans e2) s q
  | ct en st => exact fun ρ2 H2 σ2 e2 s q => h ρ2 H2 σ2 (e.trans e2) s q
  | exc c en st => exact fun ρ2 H2 σ2 C e2 s q m => h ρ2 H2 σ2 C (e.trans e2) s q m
  | bad => exact h
theorem ps_imp {X : Cx} {s : Stmt} {t t' : TS} (h : PS X s t) (k : ∀ E σ H, t' E σ H → t E σ H) : PS X s t' := ⟨fun pins s σ H E I q => h.run pins s σ H E I (k E σ H q)⟩
theorem pss_imp {X : Cx} {s : List Stmt} {t t' : TS} (h : PSs X s t) (k : ∀ E σ H, t' E σ H → t E σ H) : PSs X s t' := ⟨fun pins s σ H E I q => h.run pins s σ H E I (k E σ H q)⟩

/-! ### blocks -/
def sNil : SM := fun en st => .nx en st
def sSeq (a b : SM) : SM := fun en st => match a en st with
  | .nx en' st' => b en' st'
  | r => r
def sB {α : Type} (m : Ev → M α) (k : α → SM) : SM := fun en st => match m en st with
  | .ok d st' => k d en st'
  | .exc c st' => .exc c en st'
  | .bad => .bad
theorem sB_rd {α : Type} {m : Ev → M α} {k : α → SM} {en : Ev} {st : Sto} {σ : L2.St} (he : EnR ρ H en σ) (h : AftS K mg W ρ H (sB m k en st) E) :
    Aft K mg (WE W σ) ρ H (m en st) fun ρ' H' st' a => EnR ρ' H' en σ ∧ AftS K mg W ρ' H' (k a en st') E := by
  unfold sB at h
  cases e : m en st with
  | ok a st' =>
    rw [e] at h
    exact fun ρ2 H2 le s => ⟨he.mono le, AftS.le (r := k a en st') le h⟩
  | exc c st' =>
    rw [e] at h
    exact fun ρ2 H2 C le s m => h ρ2 H2 σ C le s (he.mono le) m
  | bad =>
    rw [e] at h
    exact h
end
section
variable {X : Cx} {W : WX} {pos : Pos} {e : Expr} {me : EM} {s : Stmt} {rest : List Stmt} {ma mb : SM}
theorem jss_nil : JSs X W [] sNil := pss_imp pss_nil fun E σ H ⟨ρ, en, st, he, hs, h⟩ => h ρ H σ Le.refl hs he
theorem jss_cons (h1 : JS X W s ma) (h2 : JSs X W rest mb) : JSs X W (s :: rest) (sSeq ma mb) := pss_imp (pss_cons h1 h2) fun E σ H ⟨ρ, en, st, he, hs, h⟩ => by
  refine ⟨ρ, en, st, he, hs, ?_⟩
  unfold sSeq at h
  cases q : ma en st with
  | nx en' st' =>
    rw [q] at h
    exact fun ρ2 H2 σ2 le s r => ⟨ρ2, en', st', r, s, AftS.le (r := mb en' st') le h⟩
  | rt d st' => rw [q] at h; exact h
  | bk _ _ => rw [q] at h; exact h
  | ct _ _ => rw [q] at h; exact h
  | exc _ _ _ => rw [q] at h; exact h
  | bad => rw [q] at h; exact h
theorem jss_one (h1 : JS X W s ma) : JSs X W [s] ma := pss_one h1
def sPass : SM := sNil
theorem js_pass : JS X W (.Pass pos) sPass := ps_imp ps_pass fun E σ H ⟨ρ, en, st, he, hs, h⟩ => h ρ H σ Le.refl hs he
theorem js_break : JS X W (.Break pos) (fun en st => .bk en st) := ps_imp ps_break fun E σ H ⟨ρ, en, st, he, hs, h⟩ => h ρ H σ Le.refl hs he
theorem js_continue : JS X W (.Continue pos) (fun en st => .ct en st) := ps_imp ps_continue fun E σ H ⟨ρ, en, st, he, hs, h⟩ => h ρ H σ Le.refl hs he
def sSet (i : Nat) (m : EM) : SM := sB m fun d en st => .nx (en.set i (some d)) st
theorem set_rd {K : PySem.W.Frag} {mg : Mg} {i : Nat} {m : EM} {E : Ends} {σ : L2.St} {H : Hp} (h : rdS K mg W (sSet i m) E σ H) : tAsg (rdE K mg W m) (gName i) E σ H := by
  obtain ⟨ρ, en, st, he, hs, h⟩ := h
  exact ⟨ρ, en, st, he, hs, (sB_rd he h).imp fun ρ' H' st' d le s ⟨er, q⟩ v rv => q ρ' H' _ Le.refl s (er.set rv i)⟩
theorem js_set {i : Nat} {x : Str} {pos' : Pos} (hN : X.N.Nodup) (hi : X.N[i]? = some x) (hx : Loc X.env.scope x) (he : JE X W e me) (hs : swapsWith e (some (.Name x pos')) pos.line X.env = pure false := by rfl)
    (hf : X.fn x = true ∨ X.env.scope.names.lookup x = some .local := by first | exact .inl rfl | exact .inr rfl | assumption) : JS X W (.Assign [.Name x pos'] e pos) (sSet i me) :=
  ps_imp (ps_set hN hi hx he hs hf) fun _ _ _ h => set_rd h
def sRet (m : EM) : SM := sB m fun d _ st => .rt d st
theorem js_ret (he : JE X W e me) : JS X W (.Return (some e) pos) (sRet me) := ps_imp (ps_ret he) fun E σ H ⟨ρ, en, st, her, hs, h⟩ =>
  ⟨ρ, en, st, her, hs, (sB_rd her h).imp fun ρ' H' st' d le s ⟨er, q⟩ v rv => q ρ' H' v Le.refl s rv⟩
def sRetN : SM := fun _ st => .rt .non st
theorem js_retN : JS X W (.Return none pos) sRetN := ps_imp ps_retN fun E σ H ⟨ρ, en, st, he, hs, h⟩ => h ρ H _ Le.refl hs .non
def sExp (m : EM) : SM := sB m fun _ en st => .nx en st
theorem js_expr (he : JE X W e me) (hs : swapsWith e none pos.line X.env = pure false := by rfl) : JS X W (.Expr e pos) (sExp me) := ps_imp (ps_expr he hs) fun E σ H ⟨ρ, en, st, her, hs, h⟩ =>
  ⟨ρ, en, st, her, hs, (sB_rd her h).imp fun ρ' H' st' d le s ⟨er, q⟩ v rv => q ρ' H' σ Le.refl s er⟩
def sIf (t : BM) (a b : SM) : SM := sB t fun c => if c = true then a else b
theorem js_if {c : Expr} {sa sb : List Stmt} {mc : BM} (hc : JT X W c mc) (ha : JSs X W sa ma) (hb : JSs X W sb mb) : JS X W (.If c sa sb pos) (sIf mc ma mb) := ps_imp (ps_if hc ha hb) fun E σ H ⟨ρ, en, st, her, hs, h⟩ =>
  ⟨ρ, en, st, her, hs, (sB_rd her h).imp fun ρ' H' st' d le s ⟨er, q⟩ => by
    cases d with
    | true => exact (if_pos rfl).mpr ⟨ρ', en, st', er, s, by rw [if_pos rfl] at q; exact q⟩
    | false => exact (if_neg Bool.false_ne_true).mpr ⟨ρ', en, st', er, s, by rw [if_neg Bool.false_ne_true] at q; exact q⟩⟩

/-! ### targets -/
/-- σ' is σ but at the slots is -/
def But (is : List Nat) (σ σ' : L2.St) : Prop := σ'.length = σ.length ∧ ∀ j, j ∉ is → σ'[j]? = σ[j]?
theorem But.refl {is : List Nat} {σ : L2.St} : But is σ σ := ⟨rfl, fun _ _ => rfl⟩
theorem But.set {is : List Nat} {i : Nat} (h : i ∈ is) {σ : L2.St} {v : Option V} : But is σ (σ.set i v) := ⟨List.length_set, fun j hj => List.getElem?_set_ne (fun z => hj (by rw [← z]; exact h))⟩
theorem But.trans {is : List Nat} {σ σ' σ'' : L2.St} (a : But is σ σ') (b : But is σ' σ'') : But is σ σ'' := ⟨b.1.trans a.1, fun j hj => (b.2 j hj).trans (a.2 j hj)⟩
theorem But.mono {is js : List Nat} (k : ∀ i ∈ is, i ∈ js) {σ σ' : L2.St} (a : But is σ σ') : But js σ σ' := ⟨a.1, fun j hj => a.2 j fun z => hj (k j z)⟩
def rdG (is : List Nat) (t : D → Ev → Option Ev) : TG := fun v σ H Q => ∃ ρ en d en', EnR ρ H en σ ∧ Rep ρ H d v ∧ t d en = some en' ∧ ∀ σ', But is σ σ' → EnR ρ H en' σ' → Q σ' H
abbrev JG (X : Cx) (is : List Nat) (tg : Expr) (t : D → Ev → Option Ev) : Prop := PG X tg (rdG is t)
def gN (i : Nat) : D → Ev → Option Ev := fun d en => some (en.set i (some d))
theorem pg_imp {tg : Expr} {t t' : TG} (h : PG X tg t) (k : ∀ v σ H Q, t' v σ H Q → t v σ H Q) : PG X tg t' := ⟨fun pins s σ H v u Q I r q => h.run pins s σ H v u Q I r (k v σ H Q q)⟩
theorem jg_name {i : Nat} {x : Str} (hN : X.N.Nodup) (hi : X.N[i]? = some x) (hx : Loc X.env.scope x) (hf : X.fn x = true ∨ X.env.scope.names.lookup x = some .local := by first | exact .inl rfl | exact .inr rfl | assumption) : JG X [i] (.Name x pos) (gN i) :=
  pg_imp (pg_name hN hi hx hf) fun v σ H Q ⟨ρ, en, d, en', he, r, e1, k⟩ => by
    cases e1
    exact k _ (But.set List.mem_cons_self) (he.set r i)
/-- several names: a tuple of that length -/
def gNs : List (D → Ev → Option Ev) → List D → Ev → Option Ev
  | [], [], en => some en
  | t :: ts, d :: ds, en => match t d en with
    | some en' => gNs ts ds en'
    | none => none
  | _, _, _ => none
def gT (ts : List (D → Ev → Option Ev)) : D → Ev → Option Ev := fun d en => match d with
  | .tup ds => gNs ts ds en
  | _ => none
def rdGs (is : List Nat) (ts : List (D → Ev → Option Ev)) : TGs := fun vs σ H Q => ∃ ρ en ds en', EnR ρ H en σ ∧ RepL ρ H ds vs ∧ gNs ts ds en = some en' ∧ ∀ σ', But is σ σ' → EnR ρ H en' σ' → Q σ' H
abbrev JGs (X : Cx) (is : List Nat) (es : List Expr) (ts : List (D → Ev → Option Ev)) : Prop := PGs X es (rdGs is ts)
theorem pgs_imp {es : List Expr} {t t' : TGs} (h : PGs X es t) (k : ∀ v σ H Q, t' v σ H Q → t v σ H Q) : PGs X es t' := ⟨fun pins s σ H vs us Q I r q => h.run pins s σ H vs us Q I r (k vs σ H Q q)⟩
theorem jgs_nil : JGs X [] [] [] := pgs_imp pgs_nil fun vs σ H Q ⟨ρ, en, ds, en', he, r, e1, k⟩ => by
  cases r with
  | nil =>
    cases e1
    exact ⟨rfl, k _ But.refl he⟩
  | cons _ _ => cases e1
theorem jgs_cons {is js : List Nat} {es : List Expr} {t : D → Ev → Option Ev} {ts : List (D → Ev → Option Ev)} (h1 : JG X is e t) (h2 : JGs X js es ts) (hs : (assignEach (e :: es) X.env).map (·.2) = assign e X.env :: (assignEach es X.env).map (·.2) := by rfl) : JGs X (is ++ js) (e :: es) (t :: ts) :=
  pgs_imp (pgs_cons h1 h2 hs) fun vs σ H Q ⟨ρ, en, ds, en', he, r, e1, k⟩ => by
    cases r with
    | nil => cases e1
    | @cons d ds x xs r rr =>
      unfold gNs at e1
      cases q : t d en with
      | none => rw [q] at e1; cases e1
      | some en1 =>
        rw [q] at e1
        exact ⟨x, xs, rfl, ρ, en, d, en1, he, r, q, fun σ1 b1 he1 => ⟨ρ, en1, ds, en', he1, rr, e1, fun σ2 b2 he2 => k σ2 ((b1.mono fun i hi => List.mem_append_left _ hi).trans (b2.mono fun i hi => List.mem_append_right _ hi)) he2⟩⟩
theorem gNs_len : ∀ {ts : List (D → Ev → Option Ev)} {ds : List D} {en en' : Ev}, gNs ts ds en = some en' → ds.length = ts.length
  | [], [], _, _, _ => rfl
  | [], _ :: _, _, _, h => by cases h
  | _ :: _, [], _, _, h => by cases h
  | t :: ts, d :: ds, en, en', h => by
    unfold gNs at h
    cases q : t d en with
    | none => rw [q] at h; cases h
    | some en1 =>
      rw [q] at h
      rw [List.length_cons, List.length_cons, gNs_len h]
theorem jg_tup {is : List Nat} {es : List Expr} {k : Nat} {ts : List (D → Ev → Option Ev)} (hc : X.calm = true) (h : JGs X is es ts) (hn : (assignEach es X.env).length = ts.length := by rfl) (hst : (assignEach es X.env).findIdx? (·.1) = none := by rfl) : JG X is (.Tuple es k pos) (gT ts) :=
  pg_imp (pg_tup (n := ts.length) hc h hn hst) fun v σ H Q ⟨ρ, en, d, en', he, r, e1, k⟩ => by
    unfold gT at e1
    split at e1
    · rename_i ds
      obtain ⟨a, xs, rfl, hx, rr⟩ := r.tupA
      exact ⟨a, xs, rfl, SqT.of hx, by rw [← rr.length]; exact gNs_len e1, ρ, en, ds, en', he, rr, e1, k⟩
    · cases e1
def sAsg (m : EM) (t : D → Ev → Option Ev) : SM := sB m fun d en st => match t d en with
  | some en' => .nx en' st
  | none => .bad
theorem js_asg {is : List Nat} {tg : Expr} {t : D → Ev → Option Ev} (he : JE X W e me) (hg : JG X is tg t) (hs : swapsWithSole [tg] e pos.line X.env = pure false := by rfl) (hw : swappedStores [tg] e X.env = pure none := by rfl)
    (h1 : (assignEach [tg] X.env).map (·.2) = [assign tg X.env] := by rfl) : JS X W (.Assign [tg] e pos) (sAsg me t) := ps_imp (ps_asg he hg hs hw h1) fun E σ H ⟨ρ, en, st, her, hs, h⟩ =>
  ⟨ρ, en, st, her, hs, (sB_rd her h).imp fun ρ' H' st' d le s ⟨er, q⟩ v rv => by
    cases q1 : t d en with
    | none =>
      rw [q1] at q
      exact q.elim
    | some en' =>
      rw [q1] at q
      exact ⟨ρ', en, d, en', er, rv, q1, fun σ' _ e' => q ρ' H' σ' Le.refl s e'⟩⟩
/-- a, b = x, y by plain locals; three -/
def sPar2 (i j : Nat) (as : AM) : SM := sB as fun ds en st => match ds with
  | [d, d'] => .nx ((en.set i (some d)).set j (some d')) st
  | _ => .bad
theorem js_par2 {i j : Nat} {x y : Str} {a b : Expr} {ta : AM} {px py pt : Pos} {kt k2 pt2} (hc : X.calm = true) (hN : X.N.Nodup) (hi : X.N[i]? = some x) (hj : X.N[j]? = some y) (hij : i ≠ j)
    (hx : X.env.scope.names.lookup x = some .local) (hy : X.env.scope.names.lookup y = some .local) (ha : JA X W [a, b] ta)
    (hw : swappedStores [.Tuple [.Name x px, .Name y py] kt pt] (.Tuple [a, b] k2 pt2) X.env = pure (some [x, y]))
    (hs : swapsWithSole [.Tuple [.Name x px, .Name y py] kt pt] (.Tuple [a, b] k2 pt2) pos.line X.env = pure false := by rfl) :
    JS X W (.Assign [.Tuple [.Name x px, .Name y py] kt pt] (.Tuple [a, b] k2 pt2) pos) (sPar2 i j ta) := ps_imp (ps_par hc hN hi hj hij hx hy ha hw hs) fun E σ H ⟨ρ, en, st, her, hs, h⟩ =>
  ⟨ρ, en, st, her, hs, (sB_rd her h).imp fun ρ' H' st' ds le s ⟨er, q⟩ vs rvs => by
    split at q
    · cases rvs with
      | cons r1 t1 =>
        cases t1 with
        | cons r2 t2 =>
          cases t2
          exact ⟨_, _, rfl, q ρ' H' _ Le.refl s ((er.set r1 i).set r2 j)⟩
    · exact q.elim⟩
/-! ### op= -/
abbrev P2 := O2
theorem js_aug {i : Nat} {x : Str} {op : Operator} {g : O2} {pos' : Pos} (hN : X.N.Nodup) (hi : X.N[i]? = some x) (hx : Loc X.env.scope x) (he : JE X W e me) (ho : OpR X (inplaceOp op) (rB X.K g)) (hf : X.fn x = true ∨ X.env.scope.names.lookup x = some .local := by first | exact .inl rfl | exact .inr rfl | assumption) :
    JS X W (.AugAssign (.Name x pos') op e pos) (sB (eVar i) fun d0 => sB (fun en => bnd (me en) fun d => lft (g d0 d)) fun d en st => .nx (en.set i (some d)) st) :=
  ps_imp (ps_aug (ti := rB X.K g) hN hi hx he (fun pins s σ H x y v u Q I rx ry q => ho pins s σ H x y v u Q I rx ry q) hf) fun E σ H ⟨ρ, en, st, her, hs, h⟩ => by
    unfold sB at h
    cases q : eVar i en st with
    | exc _ _ => unfold eVar at q; split at q <;> cases q
    | bad => rw [q] at h; exact h.elim
    | ok d0 st0 =>
      rw [q] at h
      have hq : en[i]? = some (some d0) ∧ st0 = st := by
        unfold eVar at q
        split at q
        · rename_i d e1
          cases q
          exact ⟨e1, rfl⟩
        · cases q
      obtain ⟨e1, rfl⟩ := hq
      obtain ⟨v0, hv, r0⟩ := her.at_ i d0 e1
      refine ⟨v0, hv, ρ, en, st0, her, hs, ?_⟩
      have h2 := sB_rd (m := fun en => bnd (me en) fun d => lft (g d0 d)) (k := fun d en st => SR.nx (en.set i (some d)) st) her h
      refine (aft_bnd h2).imp fun ρ1 H1 st1 d le1 s1 q1 y ry => ?_
      obtain ⟨a, st', e2, k⟩ := aft_lft q1
      exact ⟨ρ1, st1, d0, d, a, st', s1, r0.mono le1, ry, e2, fun ρ' H' v le s r => by
        obtain ⟨er, q⟩ := k ρ' H' le s
        exact q ρ' H' _ Le.refl s (er.set r i)⟩
def sAug (i : Nat) (g : O2) (m : EM) : SM := sB (eVar i) fun d0 => sB (fun en => bnd (m en) fun d => lft (g d0 d)) fun d en st => .nx (en.set i (some d)) st
/-! ### o[i] = v -/
abbrev O3 := D → D → D → Sto → Option Sto
def rS3 (K : PySem.W.Frag) (g : O3) : TSet := fun o i v H Q => ∃ ρ st d e f st', StR K ρ H st ∧ Rep ρ H d o ∧ Rep ρ H e i ∧ Rep ρ H f v ∧ g d e f st = some st' ∧ ∀ ρ' H', Le ρ H ρ' H' → StR K ρ' H' st' → Q H'
def putD {κ : Type} [DecidableEq κ] (kvs : List (κ × D)) (k : κ) (v : D) : List (κ × D) :=
  if (kvs.any fun kv => decide (kv.1 = k)) = true then kvs.map (fun kv => if kv.1 = k then (kv.1, v) else kv) else kvs ++ [(k, v)]
theorem RepK.any {κ : Type} [DecidableEq κ] {ρ : List Addr} {H : Hp} (k : κ) : ∀ {kvs : List (κ × D)} {us : List (κ × V)}, RepK ρ H kvs us → (kvs.any fun kv => decide (kv.1 = k)) = (us.any fun kv => decide (kv.1 = k))
  | [], [], _ => rfl
  | [], _ :: _, ⟨h, _⟩ => by simp at h
  | _ :: _, [], ⟨h, _⟩ => by simp at h
  | (a, d) :: r, (b, v) :: t, ⟨h1, h2⟩ => by
    simp only [List.map_cons, List.cons.injEq] at h1
    obtain ⟨e1, e2⟩ := h1
    rw [List.map_cons, List.map_cons] at h2
    cases h2 with
    | cons q1 q2 =>
      rw [List.any_cons, List.any_cons, RepK.any k ⟨e2, q2⟩]
      show (decide (a = k) || _) = (decide (b = k) || _)
      rw [e1]
theorem RepK.mapPut {κ : Type} [DecidableEq κ] {ρ : List Addr} {H : Hp} {f : D} {w : V} (k : κ) (rf : Rep ρ H f w) : ∀ {kvs : List (κ × D)} {us : List (κ × V)}, RepK ρ H kvs us →
    RepK ρ H (kvs.map fun kv => if kv.1 = k then (kv.1, f) else kv) (us.map fun kv => if kv.1 = k then (kv.1, w) else kv)
  | [], [], _ => ⟨rfl, .nil⟩
  | [], _ :: _, ⟨h, _⟩ => by simp at h
  | _ :: _, [], ⟨h, _⟩ => by simp at h
  | (a, d) :: r, (b, v) :: t, ⟨h1, h2⟩ => by
    simp only [List.map_cons, List.cons.injEq] at h1
    obtain ⟨e1, e2⟩ := h1
    rw [List.map_cons, List.map_cons] at h2
    cases h2 with
    | cons q1 q2 =>
      obtain ⟨p1, p2⟩ := RepK.mapPut k rf ⟨e2, q2⟩
      subst e1
      by_cases hk : a = k
      · simp only [List.map_cons, hk, if_true]
        exact ⟨by simp only [List.map_cons, p1], by simp only [List.map_cons]; exact .cons rf p2⟩
      · simp only [List.map_cons, hk, if_false]
        exact ⟨by simp only [List.map_cons, p1], by simp only [List.map_cons]; exact .cons q1 p2⟩
theorem RepK.put {κ : Type} [DecidableEq κ] {ρ : List Addr} {H : Hp} {f : D} {w : V} {kvs : List (κ × D)} {us : List (κ × V)} (k : κ) (rf : Rep ρ H f w) (r : RepK ρ H kvs us) : RepK ρ H (putD kvs k f) (putK us k w) := by
  unfold putD putK
  rw [r.any k]
  by_cases hc : (us.any fun kv => decide (kv.1 = k)) = true
  · rw [if_pos hc, if_pos hc]
    exact RepK.mapPut k rf r
  · rw [if_neg hc, if_neg hc]
    exact ⟨by rw [List.map_append, List.map_append, r.1]; rfl, by rw [List.map_append, List.map_append]; exact r.2.append (.cons rf .nil)⟩
theorem RepK.mono {κ : Type} {ρ ρ' : List Addr} {H H' : Hp} {kvs : List (κ × D)} {us : List (κ × V)} (e : Le ρ H ρ' H') (r : RepK ρ H kvs us) : RepK ρ' H' kvs us := ⟨r.1, r.2.mono e⟩
theorem RepK.length {κ : Type} {ρ : List Addr} {H : Hp} {kvs : List (κ × D)} {us : List (κ × V)} (r : RepK ρ H kvs us) : kvs.length = us.length := by
  have := congrArg List.length r.1
  simpa using this
def setO : O3 := fun d e f st => match d with
  | .loc l => match st[l]? with
    | some (.lst ds) => match e with
      | .int i => match ixN ds.length i with
        | some j => some (st.set l (.lst (ds.set j f)))
        | none => none
      | _ => none
    | some (.dic kvs) => match keyOf e with
      | some k => if kvs.length < sizeLine then some (st.set l (.dic (putD kvs k f))) else none
      | none => none
    | _ => none
  | _ => none
theorem os_set (hu : X.A.units + 1 < cLine) : PSet X (rS3 X.K setO) := by
  intro pins s σ H o i v ov iv u Q I ro ri rv ⟨ρ, st, d, e, f, st', hs, rd, re, rf, h, k⟩
  unfold setO at h
  split at h
  · rename_i l
    obtain ⟨a, rfl, ha⟩ := rd.locA
    split at h
    · rename_i ds hl
      split at h
      · rename_i i
        split at h
        · rename_i j hj
          cases h
          cases re
          obtain ⟨xs, hx, r⟩ := hs.ob l _ a hl ha
          refine set_list pins s σ H _ _ v ov iv u Q I ro ri rv ⟨a, xs, i, j, rfl, rfl, hx, by rw [← r.length]; exact hj, ?_⟩
          obtain ⟨s1, l1⟩ := hs.put (o := .lst (xs.set j v)) (u := .lst (ds.set j f)) hl rfl rfl ha fun H' e' le => ⟨_, by rw [e']; exact upd_same, (r.set rf j).mono le⟩
          exact k ρ _ l1 s1
        · cases h
      · cases h
    · rename_i kvs hl
      split at h
      · rename_i kk hk
        split at h
        · rename_i hz
          cases h
          obtain ⟨us, hx, r⟩ := hs.ob l _ a hl ha
          have ey := keyOf_rep hk re
          subst ey
          have g : DPut H a (kV kk) v (upd H a (.dK (putK us kk v))) := DPut.k hx (by rw [← r.length]; exact hz)
          cases ro
          refine d_setItem hu I g ri rv fun s' I' => ⟨_, I', ?_⟩
          obtain ⟨s1, l1⟩ := hs.put (o := .dK (putK us kk v)) (u := .dic (putD kvs kk f)) hl rfl rfl ha fun H' e' le => ⟨_, by rw [e']; exact upd_same, (RepK.put kk rf r).mono le⟩
          exact k ρ _ l1 s1
        · cases h
      · cases h
    · cases h
  · cases h
def sPut (mv mo mi : EM) : SM := sB (fun en => bnd (mv en) fun v => bnd (mo en) fun o => bnd (mi en) fun i => fun st => match setO o i v st with
  | some st' => R.ok () st'
  | none => R.bad) fun _ en st => .nx en st
theorem js_put {o i : Expr} {mo mi : EM} {pos' : Pos} (hu : X.A.units + 1 < cLine) (he : JE X W e me) (ho : JE X W o mo) (hi : JE X W i mi)
    (ha : ∀ v, assign (.Subscript o i pos') X.env v = (do
      let ov ← holding [v] (eval o X.env)
      let iv ← holding [v, ov] (eval i X.env)
      standAt pos'
      holding [v, ov, iv] (setItem ov iv v)
      release [v, ov, iv] []) := by intro _; rfl) (hs : swapsWithSole [.Subscript o i pos'] e pos.line X.env = pure false := by rfl) (hw : swappedStores [.Subscript o i pos'] e X.env = pure none := by rfl)
    (h1 : (assignEach [.Subscript o i pos'] X.env).map (·.2) = [assign (.Subscript o i pos') X.env] := by rfl) : JS X W (.Assign [.Subscript o i pos'] e pos) (sPut me mo mi) :=
  ps_imp (ps_asg he (pg_sub ho hi (os_set hu) ha) hs hw h1) fun E σ H ⟨ρ, en, st, her, hs, h⟩ => by
    refine ⟨ρ, en, st, her, hs, (aft_bnd (sB_rd her h)).imp fun ρ1 H1 st1 f le1 s1 q1 v rv => ?_⟩
    refine ⟨ρ1, en, st1, her.mono le1, s1, (aft_bnd q1).imp fun ρ2 H2 st2 d le2 s2 q2 ov ro => ?_⟩
    refine ⟨ρ2, en, st2, her.mono (le1.trans le2), s2, (aft_bnd q2).imp fun ρ3 H3 st3 i le3 s3 q3 iv ri => ?_⟩
    cases q4 : setO d i f st3 with
    | none => rw [q4] at q3; exact q3.elim
    | some st4 =>
      rw [q4] at q3
      refine ⟨ρ3, st3, d, i, f, st4, s3, ro.mono le3, ri, rv.mono (le2.trans le3), q4, fun ρ' H' le s => ?_⟩
      obtain ⟨er, q⟩ := q3 ρ' H' le s
      exact q ρ' H' σ Le.refl s er
/-! ### while -/
def sWhile (t : BM) (b : SM) : Nat → SM
  | 0 => fun _ _ => .bad
  | n + 1 => sB t fun c => if c = true then fun en st => match b en st with
      | .nx en' st' => sWhile t b n en' st'
      | .ct en' st' => sWhile t b n en' st'
      | .bk en' st' => .nx en' st'
      | r => r
    else sNil
theorem js_while {c : Expr} {body : List Stmt} {mc : BM} (n : Nat) (hp : PassesOwn (model X.prog X.w) X.A X.env X.xe) (hc : JT X W c mc) (hb : JSs X W body mb) : JS X W (.While c body [] pos) (sWhile mc mb n) :=
  ps_imp (ps_while hp hc hb) fun E σ H h0 => by
    refine ⟨fun m σ H => rdS X.K X.mg W (sWhile mc mb m) E σ H, ⟨n, h0⟩, fun m σ H hW => ?_⟩
    obtain ⟨ρ, en, st, her, hs, h⟩ := hW
    cases m with
    | zero => exact h.elim
    | succ m =>
      refine ⟨ρ, en, st, her, hs, (sB_rd her h).imp fun ρ1 H1 st1 d le s ⟨er, q⟩ => ?_⟩
      cases d with
      | true =>
        rw [if_pos rfl] at q
        refine (if_pos rfl).mpr ⟨fun σ' H' => rdS X.K X.mg W (sWhile mc mb m) E σ' H', fun σ' H' w => ⟨m, Nat.lt_succ_self m, w⟩, ρ1, en, st1, er, s, ?_⟩
        cases q1 : mb en st1 with
        | nx en' st' =>
          rw [q1] at q
          exact fun ρ2 H2 σ2 le s r => ⟨ρ2, en', st', r, s, AftS.le (r := sWhile mc mb m en' st') le q⟩
        | ct en' st' =>
          rw [q1] at q
          exact fun ρ2 H2 σ2 le s r => ⟨ρ2, en', st', r, s, AftS.le (r := sWhile mc mb m en' st') le q⟩
        | bk en' st' => rw [q1] at q; exact q
        | rt _ _ => rw [q1] at q; exact q
        | exc _ _ _ => rw [q1] at q; exact q
        | bad => rw [q1] at q; exact q
      | false =>
        rw [if_neg Bool.false_ne_true] at q
        exact (if_neg Bool.false_ne_true).mpr (q ρ1 H1 σ Le.refl s er)
/-! ### what is walked -/
abbrev Src := Sto → Nat → Option (Option D)
def ItOk (K : PySem.W.Frag) (ρ : List Addr) (H : Hp) (src : Src) (J : It) : Prop := ∀ i ρ2 H2 st2, Le ρ H ρ2 H2 → StR K ρ2 H2 st2 →
  (∀ d, src st2 i = some (some d) → J.go i H2 ∧ ∀ x H3, J.yld i H2 x H3 → Le ρ2 H2 ρ2 H3 ∧ StR K ρ2 H3 st2 ∧ Rep ρ2 H3 d x) ∧ (src st2 i = some none → J.stop i H2)
def rdI (K : PySem.W.Frag) (mg : Mg) (W : WX) (m : Ev → M (Nat × Src)) : TI := fun σ H Rr => Wh K mg (WE W σ) σ H m fun ρ' H' _ p => ∀ J, ItOk K ρ' H' p.2 J → Rr J H'
abbrev JI (X : Cx) (W : WX) (tg iter : Expr) (m : Ev → M (Nat × Src)) : Prop := PI X tg iter (rdI X.K X.mg W m)
def srcIts (ds : List D) : Src := fun _ i => some ds[i]?
def srcAt (l : Nat) : Src := fun st i => match lstAt st l with
  | some ds => some ds[i]?
  | none => none
def sFor (b : SM) (tg : D → Ev → Option Ev) (src : Src) : Nat → Nat → SM
  | n, i => fun en st => match src st i with
    | some none => .nx en st
    | some (some d) => match n with
      | 0 => .bad
      | n + 1 => match tg d en with
        | none => .bad
        | some en1 => match b en1 st with
          | .nx en' st' => sFor b tg src n (i + 1) en' st'
          | .ct en' st' => sFor b tg src n (i + 1) en' st'
          | .bk en' st' => .nx en' st'
          | r => r
    | none => .bad
def sForI (m : Ev → M (Nat × Src)) (tg : D → Ev → Option Ev) (b : SM) : SM := sB m fun p => sFor b tg p.2 p.1 0
theorem js_for {is : List Nat} {tg iter : Expr} {body : List Stmt} {mi : Ev → M (Nat × Src)} {t : D → Ev → Option Ev} (hp : PassesOwn (model X.prog X.w) X.A X.env X.xe) (hc : X.calm = true) (hi : JI X W tg iter mi) (hg : JG X is tg t) (hb : JSs X W body mb)
    (hs : ∀ x, foldedSetIterable iter X.env x = pure x := by intro _; rfl) : JS X W (.For tg iter body [] pos) (sForI mi t mb) :=
  ps_imp (ps_for hp hc hi hg hb hs) fun E σ H ⟨ρ, en, st, her, hs, h⟩ => by
    refine ⟨ρ, en, st, her, hs, (sB_rd her h).imp fun ρ1 H1 st1 p le1 s1 ⟨er, q⟩ J hJ => ?_⟩
    obtain ⟨n, src⟩ := p
    refine ⟨fun i m σ' H' => ∃ ρ2 en2 st2, Le ρ1 H1 ρ2 H' ∧ EnR ρ2 H' en2 σ' ∧ StR X.K ρ2 H' st2 ∧ AftS X.K X.mg W ρ2 H' (sFor mb t src m i en2 st2) E, ⟨n, ρ1, en, st1, Le.refl, er, s1, q⟩, fun i m σ' H' hW => ?_⟩
    obtain ⟨ρ2, en2, st2, le2, er2, s2, q2⟩ := hW
    obtain ⟨hgo, hstop⟩ := hJ i ρ2 H' st2 le2 s2
    cases e1 : src st2 i with
    | none =>
      unfold sFor at q2
      rw [e1] at q2
      exact q2.elim
    | some o =>
      cases o with
      | none =>
        unfold sFor at q2
        rw [e1] at q2
        exact .inl ⟨hstop e1, q2 ρ2 H' σ' Le.refl s2 er2⟩
      | some d =>
        obtain ⟨h1, h2⟩ := hgo d e1
        cases m with
        | zero =>
          unfold sFor at q2
          rw [e1] at q2
          exact q2.elim
        | succ m =>
          unfold sFor at q2
          rw [e1] at q2
          dsimp only at q2
          cases e2 : t d en2 with
          | none =>
            rw [e2] at q2
            exact q2.elim
          | some en3 =>
            rw [e2] at q2
            dsimp only at q2
            refine .inr ⟨h1, fun σ3 H3 => ∃ ρ3 en3 st3, Le ρ1 H1 ρ3 H3 ∧ EnR ρ3 H3 en3 σ3 ∧ StR X.K ρ3 H3 st3 ∧ AftS X.K X.mg W ρ3 H3 (sFor mb t src m (i + 1) en3 st3) E, fun σ3 H3 w => ⟨m, Nat.lt_succ_self m, w⟩, fun x H3 y => ?_⟩
            obtain ⟨le3, s3, r3⟩ := h2 x H3 y
            refine ⟨ρ2, en2, d, en3, er2.mono le3, r3, e2, fun σ3 _ er3 => ⟨ρ2, en3, st2, er3, s3, ?_⟩⟩
            cases e3 : mb en3 st2 with
            | nx en' st' =>
              rw [e3] at q2
              exact fun ρ4 H4 σ4 le4 s4 r4 => ⟨ρ4, en', st', (le2.trans le3).trans le4, r4, s4, AftS.le (r := sFor mb t src m (i + 1) en' st') (le3.trans le4) q2⟩
            | ct en' st' =>
              rw [e3] at q2
              exact fun ρ4 H4 σ4 le4 s4 r4 => ⟨ρ4, en', st', (le2.trans le3).trans le4, r4, s4, AftS.le (r := sFor mb t src m (i + 1) en' st') (le3.trans le4) q2⟩
            | bk en' st' => rw [e3] at q2; exact AftS.le (r := .nx en' st') le3 q2
            | rt d' st' => rw [e3] at q2; exact AftS.le (r := .rt d' st') le3 q2
            | exc c en' st' => rw [e3] at q2; exact AftS.le (r := .exc c en' st') le3 q2
            | bad => rw [e3] at q2; exact q2
/-- a list, a tuple -/
def signsD (s : Str) : List D := s.cps.toList.map fun c => D.str ⟨#[c]⟩
def iSeq (m : EM) : Ev → M (Nat × Src) := fun en => bnd (m en) fun d st => match d with
  | .tup ds => .ok (ds.length, srcIts ds) st
  | .str s => .ok (s.length, srcIts (signsD s)) st
  | .loc l => match lstAt st l with
    | some ds => .ok (ds.length, srcAt l) st
    | none => .bad
  | _ => .bad
theorem pi_imp {tg iter : Expr} {t t' : TI} (h : PI X tg iter t) (k : ∀ σ H Rr, t' σ H Rr → t σ H Rr) : PI X tg iter t' := ⟨fun pins s σ H Rr I q => h.run pins s σ H Rr I (k σ H Rr q)⟩
theorem itok_tup {K : PySem.W.Frag} {ρ : List Addr} {H : Hp} {ds : List D} {a : Addr} {xs : List V} (hx : H a = some (.tup xs)) (r : RepL ρ H ds xs) : ItOk K ρ H (srcIts ds) (Itt K a) := by
  intro i ρ2 H2 st2 le s
  have hx2 := SqT.of (K := K) (le.tup _ _ hx)
  refine ⟨fun d e => ?_, fun e => ?_⟩
  · have e' : ds[i]? = some d := Option.some.inj e
    obtain ⟨x, h1, h2⟩ := r.get e'
    refine ⟨⟨xs, x, hx2, h1⟩, fun y H3 ⟨e3, q⟩ => ?_⟩
    subst e3
    have h3 := q xs hx2
    rw [h1] at h3
    cases h3
    exact ⟨Le.refl, s, h2.mono le⟩
  · have e' : ds[i]? = none := Option.some.inj e
    exact ⟨xs, hx2, by rw [← r.length]; exact List.getElem?_eq_none_iff.mp e'⟩
theorem itok_lst {K : PySem.W.Frag} {ρ : List Addr} {H : Hp} {l : Nat} {a : Addr} (ha : ρ[l]? = some a) : ItOk K ρ H (srcAt l) (Itl K a) := by
  intro i ρ2 H2 st2 le s
  have key : ∀ ds, lstAt st2 l = some ds → ∃ xs, SqL K H2 a xs ∧ RepL ρ2 H2 ds xs := fun ds e => by
    obtain ⟨b, xs, eb, h1, h2⟩ := lstAt_seq (K := K) s e (.loc (pre_get le.pre ha))
    cases eb
    exact ⟨xs, h1, h2⟩
  refine ⟨fun d e => ?_, fun e => ?_⟩
  · unfold srcAt at e
    cases q : lstAt st2 l with
    | none => rw [q] at e; cases e
    | some ds =>
      rw [q] at e
      have e' : ds[i]? = some d := Option.some.inj e
      obtain ⟨xs, hx, r⟩ := key ds q
      obtain ⟨x, h1, h2⟩ := r.get e'
      refine ⟨⟨xs, x, hx, h1⟩, fun y H3 ⟨e3, q⟩ => ?_⟩
      subst e3
      have h3 := q xs hx
      rw [h1] at h3
      cases h3
      exact ⟨Le.refl, s, h2⟩
  · unfold srcAt at e
    cases q : lstAt st2 l with
    | none => rw [q] at e; cases e
    | some ds =>
      rw [q] at e
      have e' : ds[i]? = none := Option.some.inj e
      obtain ⟨xs, hx, r⟩ := key ds q
      exact ⟨xs, hx, by rw [← r.length]; exact List.getElem?_eq_none_iff.mp e'⟩
theorem itok_str {K : PySem.W.Frag} {ρ : List Addr} {H : Hp} {z : Str} : ItOk K ρ H (srcIts (signsD z)) (Its z) := by
  intro i ρ2 H2 st2 le s
  have e0 : (signsD z)[i]? = (z.cps[i]?).map fun c => D.str ⟨#[c]⟩ := by
    unfold signsD
    rw [List.getElem?_map]
    simp
  refine ⟨fun d e => ?_, fun e => ?_⟩
  · have e' : (signsD z)[i]? = some d := Option.some.inj e
    rw [e0] at e'
    cases q : z.cps[i]? with
    | none => rw [q] at e'; cases e'
    | some c =>
      rw [q] at e'
      cases e'
      obtain ⟨h1, h2⟩ := Array.getElem?_eq_some_iff.mp q
      refine ⟨h1, fun x H3 ⟨e1, c', e2, e3⟩ => ?_⟩
      subst e1
      rw [q] at e2
      cases e2
      subst e3
      exact ⟨Le.refl, s, .str _⟩
  · have e' : (signsD z)[i]? = none := Option.some.inj e
    rw [e0] at e'
    cases q : z.cps[i]? with
    | some c => rw [q] at e'; cases e'
    | none => exact Array.getElem?_eq_none_iff.mp q
theorem ji_seq {tg iter : Expr} (he : JE X W iter me) : JI X W tg iter (iSeq me) := by
  refine ⟨fun pins s σ H Rr I h => ?_⟩
  have h1 := Wh.bnd (m := me) (f := fun _ d st => match d with
    | .tup ds => R.ok (ds.length, srcIts ds) st
    | .str s => R.ok (s.length, srcIts (signsD s)) st
    | .loc l => match lstAt st l with
      | some ds => R.ok (ds.length, srcAt l) st
      | none => R.bad
    | _ => R.bad) h
  refine thn (he.run pins s σ H (fun x H1 => (∃ z, x = .str z ∧ Rr (Its z) H1) ∨ ∃ a, x = .ref a ∧ ((∃ xs, H1 a = some (.tup xs) ∧ Rr (Itt X.K a) H1) ∨ ((∃ xs, SqL X.K H1 a xs) ∧ Rr (Itl X.K a) H1))) I (h1.imp fun ρ1 H1 st1 d _ ⟨en, er, s1, q⟩ v rv => ?_)) fun v s1 ⟨x, H1, I1, r1, q1⟩ => ?_
  · cases d with
    | tup ds =>
      obtain ⟨a, xs, rfl, hx, r⟩ := rv.tupA
      exact .inr ⟨a, rfl, .inl ⟨xs, hx, q ρ1 H1 Le.refl s1 _ (itok_tup hx r)⟩⟩
    | loc l =>
      dsimp only at q
      cases q2 : lstAt st1 l with
      | none => rw [q2] at q; exact q.elim
      | some ds =>
        rw [q2] at q
        obtain ⟨a, xs, rfl, hx, r⟩ := lstAt_seq (K := X.K) s1 q2 rv
        obtain ⟨b, eb, hb⟩ := rv.locA
        cases eb
        exact .inr ⟨a, rfl, .inr ⟨⟨xs, hx⟩, q ρ1 H1 Le.refl s1 _ (itok_lst hb)⟩⟩
    | non => exact q.elim
    | bl _ => exact q.elim
    | int _ => exact q.elim
    | str z =>
      cases rv
      exact .inl ⟨z, rfl, q ρ1 H1 Le.refl s1 _ itok_str⟩
    | ty _ => exact q.elim
  · obtain ⟨z, rfl, q⟩ | ⟨a, rfl, ⟨xs, hx, q⟩ | ⟨⟨xs, hx⟩, q⟩⟩ := q1
    · obtain ⟨t, rfl⟩ := r1
      cases ha : z.cps.all (· < 128)
      · exact wpAny_pyIter_wide ha (pi_one (tk := s1.toks) I1 _ (turn_str _ z t "str_iterator" (.inr rfl)) ⟨_, Heap.get?_push_size _ rfl, rfl, rfl⟩ q)
      · exact wpAny_pyIter_ascii ha (pi_one (tk := s1.toks) I1 _ (turn_str _ z t "str_ascii_iterator" (.inl rfl)) ⟨_, Heap.get?_push_size _ rfl, rfl, rfl⟩ q)
    · cases r1
      obtain ⟨its, rv, p, hz⟩ := I1.tuple (SqT.of hx)
      refine wpAny_pyIter_tuple (show s1.heap.IsTuple a its.toArray from p) ?_
      refine ⟨s1.heap.objs.size, [s1.heap.objs.size], _, _, H1, rfl, I1.kept (t' := s1.toks) fun b o e => Heap.get?_push_of_some _ e, turn_tuple a _, ⟨_, Heap.get?_push_size _ rfl, rfl, rfl⟩, fun b hb => ?_, q⟩
      have e : b = s1.heap.objs.size := by simpa using hb
      subst e
      exact I1.fpOk (Nat.le_refl _) (I1.hok.fresh (Nat.le_refl _))
    · cases r1
      obtain ⟨its, rv, p, hz⟩ := I1.list hx
      refine wpAny_pyIter_list p.isList ?_
      refine ⟨s1.heap.objs.size, [s1.heap.objs.size], _, _, H1, rfl, I1.kept (t' := s1.toks) fun b o e => Heap.get?_push_of_some _ e, turn_list a _, ⟨_, Heap.get?_push_size _ rfl, rfl, rfl⟩, fun b hb => ?_, q⟩
      have e : b = s1.heap.objs.size := by simpa using hb
      subst e
      exact I1.fpOk (Nat.le_refl _) (I1.hok.fresh (Nat.le_refl _))
/-- a range -/
def iRange1 (as : AM) : Ev → M (Nat × Src) := fun en => bnd (as en) fun ds st => match ds with
  | [.int j] => if -(2 ^ 62) ≤ j ∧ j < 2 ^ 62 then .ok (j.toNat, srcIts ((List.range j.toNat).map fun (k : Nat) => D.int (k : Int))) st else .bad
  | _ => .bad
def iRange2 (as : AM) : Ev → M (Nat × Src) := fun en => bnd (as en) fun ds st => match ds with
  | [.int i, .int j] => if -(2 ^ 62) ≤ i ∧ i < 2 ^ 62 ∧ -(2 ^ 62) ≤ j ∧ j < 2 ^ 62 then .ok ((j - i).toNat, srcIts ((List.range (j - i).toNat).map fun (k : Nat) => D.int (i + (k : Int)))) st else .bad
  | _ => .bad
theorem itok_rng {K : PySem.W.Frag} {ρ : List Addr} {H : Hp} {lo : Int} {n : Nat} : ItOk K ρ H (srcIts ((List.range n).map fun (k : Nat) => D.int (lo + (k : Int)))) (Itr lo n) := by
  intro i ρ2 H2 st2 le s
  refine ⟨fun d e => ?_, fun e => ?_⟩
  · have e' : ((List.range n).map fun (k : Nat) => D.int (lo + (k : Int)))[i]? = some d := Option.some.inj e
    rw [List.getElem?_map] at e'
    cases q : (List.range n)[i]? with
    | none => rw [q] at e'; cases e'
    | some k =>
      rw [q] at e'
      cases e'
      obtain ⟨h1, h2⟩ := List.getElem?_eq_some_iff.mp q
      rw [List.getElem_range] at h2
      subst h2
      rw [List.length_range] at h1
      exact ⟨h1, fun x H3 ⟨e1, e2⟩ => by subst e1; subst e2; exact ⟨Le.refl, s, .int _⟩⟩
  · have e' : ((List.range n).map fun (k : Nat) => D.int (lo + (k : Int)))[i]? = none := Option.some.inj e
    have := List.getElem?_eq_none_iff.mp e'
    rw [List.length_map, List.length_range] at this
    exact this
theorem ji_range1 {tg a : Expr} {mas : AM} {p : Pos} (hg : Gl X "range") (hm : X.mg "range" = none) (ha : JA X W [a] mas) (hs : starEach [a] X.env = [(false, eval a X.env)] := by rfl) : JI X W tg (.Call (.Name "range" p) [a] [] pos) (iRange1 mas) :=
  pi_imp (pi_range1 hg hm ha hs) fun σ H Rr h => (Wh.bnd (m := mas) (f := fun _ ds st => match ds with
    | [.int j] => if -(2 ^ 62) ≤ j ∧ j < 2 ^ 62 then R.ok (j.toNat, srcIts ((List.range j.toNat).map fun (k : Nat) => D.int (k : Int))) st else .bad
    | _ => R.bad) h).imp fun ρ1 H1 st1 ds _ ⟨en, er, s1, q⟩ vs rvs => by
    split at q
    · split at q
      · rename_i j _ hc
        cases rvs with
        | cons r t =>
          cases t
          cases r
          have e0 : ((List.range j.toNat).map fun (k : Nat) => D.int (k : Int)) = ((List.range j.toNat).map fun (k : Nat) => D.int (0 + (k : Int))) := List.map_congr_left fun k _ => by rw [Int.zero_add]
          refine ⟨j, rfl, hc.1, hc.2, q ρ1 H1 Le.refl s1 _ ?_⟩
          dsimp only
          rw [e0]
          exact itok_rng
      · exact q.elim
    · exact q.elim
theorem ji_range2 {tg a b : Expr} {mas : AM} {p : Pos} (hg : Gl X "range") (hm : X.mg "range" = none) (ha : JA X W [a, b] mas) (hs : starEach [a, b] X.env = [(false, eval a X.env), (false, eval b X.env)] := by rfl) (hs2 : starEach [b] X.env = [(false, eval b X.env)] := by rfl) : JI X W tg (.Call (.Name "range" p) [a, b] [] pos) (iRange2 mas) :=
  pi_imp (pi_range2 hg hm ha hs hs2) fun σ H Rr h => (Wh.bnd (m := mas) (f := fun _ ds st => match ds with
    | [.int i, .int j] => if -(2 ^ 62) ≤ i ∧ i < 2 ^ 62 ∧ -(2 ^ 62) ≤ j ∧ j < 2 ^ 62 then R.ok ((j - i).toNat, srcIts ((List.range (j - i).toNat).map fun (k : Nat) => D.int (i + (k : Int)))) st else .bad
    | _ => R.bad) h).imp fun ρ1 H1 st1 ds _ ⟨en, er, s1, q⟩ vs rvs => by
    split at q
    · split at q
      · rename_i i j _ hc
        cases rvs with
        | cons r t =>
          cases t with
          | cons r2 t2 =>
            cases t2
            cases r
            cases r2
            exact ⟨i, j, rfl, hc, q ρ1 H1 Le.refl s1 _ itok_rng⟩
      · exact q.elim
    · exact q.elim
end
/-! ### defs -/
def startD (n : Nat) (ds : List D) : Ev := ds.map some ++ List.replicate (n - ds.length) none
def runDef (n : Nat) (b : SM) : Fn := fun ds st => match b (startD n ds) st with
  | .nx _ st' => .ok .non st'
  | .rt d st' => .ok d st'
  | .exc c _ st' => .exc c st'
  | _ => .bad
theorem start_rep {ρ : List Addr} {H : Hp} {N : List Str} : ∀ {ds : List D} {vs : List V}, RepL ρ H ds vs → EnR ρ H (startD N.length ds) (L2.start N vs) := fun {ds vs} r => by
  refine ⟨by unfold startD L2.start; rw [List.length_append, List.length_append, List.length_map, List.length_map, List.length_replicate, List.length_replicate, r.length], fun i d h => ?_⟩
  unfold startD at h
  unfold L2.start
  by_cases hi : i < ds.length
  · rw [List.getElem?_append_left (by rw [List.length_map]; exact hi), List.getElem?_map] at h
    cases q : ds[i]? with
    | none => rw [q] at h; cases h
    | some e =>
      rw [q] at h
      cases h
      obtain ⟨v, h1, h2⟩ := r.get q
      refine ⟨v, ?_, h2⟩
      rw [List.getElem?_append_left (by rw [List.length_map, ← r.length]; exact hi), List.getElem?_map, h1]
      rfl
  · rw [List.getElem?_append_right (by rw [List.length_map]; omega)] at h
    have := List.mem_of_getElem? h
    have := List.eq_of_mem_replicate this
    cases this
section
variable {P : Program} {w : World} {K : PySem.W.Frag} {mg : Mg} {base : Heap}
theorem fnG_of {CX : CXT} {k : Nat} {f : Addr} {name qual : Str} {params : Arguments} {body : List Stmt} {scope : Scope} {dV kV doc pm cdv ct oc : Value} {an od : Option Addr} {osl : Array (Option Value)} {N ps : List Str} {sp : Sp} (lk : K.lookup f = some ⟨oc, od, .func (PySem.W.fnOf name qual params body scope dV kV doc pm an cdv ct), osl⟩) (hcd : PySem.W.codeIn K cdv qual = true) (S : FnScope N ps scope)
    (len : ∀ vs H Q E, sp vs H Q E → vs.length = ps.length)
    (hbody : ∀ (A : Around) (outer : List Env) (s : Shared) (H : Hp) (vs : List V) (Q : VK) (E : XK), Room k (A.deeper (envOfC qual scope s.heap.objs.size f cdv)) → (A.deeper (envOfC qual scope s.heap.objs.size f cdv)).guards = some [] → sp vs H Q E →
      ∃ t, PSs (cxOf CX P w K mg base N qual scope f cdv A outer s H E) body t ∧ t { nx := fun _ H' => Q .non H', rt := Q } (L2.start N vs) H) :
    FnG P w K mg base CX (k + 1) f (PySem.W.fnOf name qual params body scope dV kV doc pm an cdv ct) ps sp := by
  refine ⟨len, fun A outer s H args us vs Q E ⟨hr, hgd⟩ e0 hb r hsp => ?_⟩
  have KX : K.In s.heap := e0.mod.kin.keeps fun b o e => (e0.bs b o e).1
  have kinds : ∀ y ∈ ps.zip us, scope.names.lookup y.1 = some .local ∨ (scope.names.lookup y.1 = some .cell ∧ ((cellsFrom (s.heap.objs.size + 1) scope.names []).lookup y.1).isSome = true) := fun y hy => (S.par y.1 (List.of_mem_zip hy).1).imp id fun q => ⟨q, PySem.W.cellsFrom_some _ _ _ (.inl q)⟩
  refine codeAny_call_function hr.depth (KX _ _ lk) rfl S.co S.gen rfl (PySem.W.codeRec_of KX hcd) (hb _ _ _ _ (wpAny_newFunctionEnv_cells S.kind kinds fun env he s1 x => ?_))
  subst he
  refine ⟨(e0.mod.nolimit.keeps fun b o e => (e0.bs b o e).1).keeps x.toInCall.keep, codeAny_func ?_⟩
  obtain ⟨t, ht, hq⟩ := hbody A outer s H vs Q E (hr.deeper _) hgd hsp
  have I : Inv (cxOf CX P w K mg base N qual scope f cdv A outer s H E) [] (L2.start N vs) H s1 := inv_start S hr.hd e0 (len _ _ _ _ hsp) r x
  refine wpAny_mono (ht.run [] s1 (L2.start N vs) H _ I hq) (fun fl s' hs => ?_) fun e s' hs => hs
  cases fl with
  | ret u =>
    obtain ⟨v, σ', H', J, rv, q⟩ := hs
    exact ⟨v, H', J.os, J.bare, J.base, J.hok, rv, q⟩
  | next =>
    obtain ⟨σ', H', J, q⟩ := hs
    exact ⟨V.non, H', J.os, J.bare, J.base, J.hok, rfl, q⟩
  | _ =>
    obtain ⟨_, _, _, q⟩ := hs
    exact False.elim q
/-- THE RULE: a def by its body -/
theorem def_ok {x qual : Str} {st : Stmt} {f : Addr} {fd : FuncData} {N ps : List Str} {k : Nat} {m : SM} (F : L2.Fun K x qual st f fd) (S : FnScope N ps (defScope st))
    (hb : ∀ (cdv : Value) (A : Around) (outer : List Env) (s : Shared) (H : Hp) (E : XK), Room k (A.deeper (envOfC qual (defScope st) s.heap.objs.size f cdv)) → (A.deeper (envOfC qual (defScope st) s.heap.objs.size f cdv)).guards = some [] →
      JSs (cxOf (L2.CX P w) P w K mg base N qual (defScope st) f cdv A outer s H E) (fun cls d _ H => E cls d H) (defBody st) m) : FnS P w K mg base (k + 1) f fd ps (runDef N.length m) := by
  obtain ⟨oc, od, kV, doc, pm, an, cdv, ct, osl, rfl, lk, hcd⟩ := F.ex
  refine fnG_of lk hcd S (fun vs H Q E h => h.1) (fun A outer s H vs Q E hr hgd h => ?_)
  obtain ⟨_, ρ, st0, ds, hs, r, q⟩ := h
  refine ⟨_, hb cdv A outer s H E hr hgd, ρ, startD N.length ds, st0, start_rep r, hs, ?_⟩
  unfold runDef at q
  cases e : m (startD N.length ds) st0 with
  | nx en' st' =>
    rw [e] at q
    exact fun ρ' H' σ' le s er => q ρ' H' le s _ .non
  | rt d st' =>
    rw [e] at q
    exact fun ρ' H' v le s rv => q ρ' H' le s v rv
  | exc c en' st' =>
    rw [e] at q
    exact fun ρ' H' σ' C le s er mc => q ρ' H' C le s mc
  | bk _ _ => rw [e] at q; exact q.elim
  | ct _ _ => rw [e] at q; exact q.elim
  | bad => rw [e] at q; exact q.elim
theorem def_zero {f : Addr} {fd : FuncData} {ps : List Str} : FnS P w K mg base 0 f fd ps (fun _ => badM) := ⟨fun vs H Q E h => h.1, fun A outer s H args us vs Q E _ _ _ _ ⟨_, _, _, _, _, _, q⟩ => q.elim⟩
end
/-! ### the law -/
theorem law_callG {P : Program} {w : World} {K : PySem.W.Frag} {mg mb : Str → Option Value} {CX : CXT} {k : Nat} {fa a : Addr} {fd : FuncData} {x : Str} {sp : Sp} {s₁ : Shared} {vs : List Value} {ns : List Int} (KX : K.In s₁.heap) (hns : s₁.heap.Ns mainGlobals mg) (hb : s₁.heap.Ns builtinsNs mb) (hbb : ∀ x : Str, x ≠ "__name__" → mb x = bootBuiltins x)
    (hlim : s₁.heap.NoLimit) (hg : s₁.gens = #[]) (ha : s₁.heap.get? a = some { cls := .type "list", data := .seq vs.toArray }) (hi : IntsAre vs ns) (hl : ns.length ≤ sizeLine) (hr : Room k callerA)
    (F : ∀ base : Heap, K.In base → base.Ns mainGlobals mg → FnG P w K mg base CX k fa fd [x] sp) (hbind : ∀ (s : Shared) (u : Value), BindsTo s fd ⟨[u], []⟩ [(x, u)]) (hsp : ∀ H : Hp, Only H → SqL K H a (ns.map V.int) → sp [.ref a] H (fun v _ => v = .bl true) fun _ _ _ => False)
    (hCX : ∀ H e s', CX [] H s₁ (fun _ _ _ => False) e s' → False) : codeAny (model P w) callerA (.call (.ref fa) ⟨[.ref a], []⟩) (fun r s' => r = .ok (.ret (.bool true)) ∧ OldK s₁.heap s'.heap ∧ s'.os = s₁.os ∧ AllBare s'.gens) s₁ := by
  have rv := vals_ints hi
  have lenV := hi.length
  have core : ∀ H : Hp, Only H → SqL K H a (ns.map V.int) → HOk P w H s₁.heap → (∀ b, H b ≠ none → b = a) → (H a ≠ none → K.lookup a = none) → codeAny (model P w) callerA (.call (.ref fa) ⟨[.ref a], []⟩) (fun r s' => r = .ok (.ret (.bool true)) ∧ OldK s₁.heap s'.heap ∧ s'.os = s₁.os ∧ AllBare s'.gens) s₁ := by
    intro H hO hS hok hA hK
    have isA : ∀ {b : Addr} {u : HO}, H b = some u → b = a := fun {b u} q => hA b (by rw [q]; simp)
    have noA : ∀ {b : Addr} {o : Obj} {es : Array DictEntry} {ep : Nat}, s₁.heap.get? b = some o → o.data = .dict es ep → H b = none := fun {b o es ep} e d => by
      cases q : H b with
      | none => rfl
      | some u =>
        have e' := isA q
        subst e'
        rw [ha] at e; cases e
        have d' : Data.seq vs.toArray _ = Data.dict es ep := d
        cases d'
    have nsK : ∀ {b : Addr} {m : Str → Option Value}, s₁.heap.Ns b m → (hidT s₁.heap H).Ns b m := fun {b m} ⟨o, es, ep, e, d, r⟩ => ⟨o, es, ep, hidT_get e (noA e d), d, r⟩
    have hKb : K.In (hidT s₁.heap H) := fun b o e => hidT_get (KX b o e) (by
      cases q : H b with
      | none => rfl
      | some u =>
        have e' := isA q
        subst e'
        rw [hK (by rw [q]; simp)] at e; cases e)
    have hM : Mod K mg (hidT s₁.heap H) := ⟨hKb, nsK hns, ⟨mb, nsK hb, hbb⟩, let ⟨mc, h1, h2⟩ := hlim; ⟨mc, nsK h1, h2⟩⟩
    have e0 : Env0 P w K mg (hidT s₁.heap H) callerA [] s₁ H := ⟨rfl, hM, fun b o e => of_hidT e, Nat.le_of_eq (hidT_size _ _), trivial, fun b hb => absurd (show b ∈ ([] : List Addr) from hb) (by simp), hok, .of_eq hg⟩
    refine codeAny_mono ((F _ hKb (nsK hns)).run callerA [] s₁ H ⟨[.ref a], []⟩ [.ref a] [.ref a] _ _ ⟨hr, rfl⟩ e0 (hbind s₁ (.ref a)) (.cons rfl .nil) (hsp H hO hS)) fun r s' h => ?_
    cases r with
    | error e => exact (hCX H e s' h).elim
    | ok fl =>
      cases fl with
      | ret u =>
        obtain ⟨v, H', os, bare, un, hok', r', q⟩ := h
        have q' : v = .bl true := q
        subst q'
        obtain rfl : u = Value.bool true := r'
        refine ⟨rfl, OldK.of_keep fun b o e => ?_, os, bare⟩
        cases q : H b with
        | none => exact un.keep b o e q (by intro z; exact absurd (show b ∈ ([] : List Addr) from z) (by simp)) (by simp)
        | some u =>
          rcases hO b with z | ⟨ob, xs, z⟩
          · rw [q] at z; cases z
          · obtain ⟨e1, _⟩ := hok b _ z
            obtain ⟨e2, _⟩ := hok' b _ (un.frzs b ob _ z)
            rw [e] at e1; cases e1
            exact e2
      | _ => exact False.elim h
  cases hk : K.lookup a with
  | some o =>
    have e := KX a o hk
    rw [ha] at e
    cases e
    refine core (fun _ => none) (fun _ => .inl rfl) (.inr ⟨_, vs.toArray, _, hk, rfl, rfl, rfl, by rw [List.size_toArray, lenV]; exact hl, by simpa using rv⟩) (fun b u z => by have z' : (none : Option HO) = some u := z; cases z') (fun b z => absurd rfl z) fun z => absurd rfl z
  | none =>
    refine core (fun b => if b = a then some (.frz { cls := .type "list", data := .seq vs.toArray } (.lst (ns.map V.int))) else none) (fun b => ?_) (.inl (.inr ⟨{ cls := .type "list", data := .seq vs.toArray }, if_pos rfl⟩)) (fun b u z => ?_) (fun b z => ?_) fun _ => hk
    · by_cases hb : b = a
      · exact .inr ⟨_, _, if_pos hb⟩
      · exact .inl (if_neg hb)
    · by_cases hb : b = a
      · cases (if_pos hb).symm.trans z
        subst hb
        exact ⟨ha, by rw [List.length_map]; exact hl, vs, _, rv, ha⟩
      · cases (if_neg hb).symm.trans z
    · by_cases hb : b = a
      · exact hb
      · exact absurd (if_neg hb) z
theorem walk_ofG {l : PySem.W.OpenLaw} {n k : Nat} {q : Program} {loose : List Str} {XP : (Str → Option Value) → Heap → Prop} {YP : World → Heap → Prop} {d : DefRec} {K : Params → PySem.W.Frag} {CX : World → CXT} {sp : World → Sp} {x : Str} (hn : l.most = some n) (hn2 : n ≤ sizeLine) (hdf : d.params.defaults = []) (hr : Room k callerA)
    (hY : ∀ (w : World) (h : Heap), YP w h → (K w.params).In h)
    (F : ∀ (w : World) (mg : Str → Option Value) (fa : Addr) (h : Heap), (K w.params).In h → h.Ns mainGlobals mg → mg d.name = some (.ref fa) → ∃ fd : FuncData, (∀ (s : Shared) (u : Value), BindsTo s fd ⟨[u], []⟩ [(x, u)]) ∧ ∀ base : Heap, (K w.params).In base → base.Ns mainGlobals mg → FnG l.prog w (K w.params) mg base (CX w) k fa fd [x] (sp w))
    (hsp : ∀ (w : World) (H : Hp) (a : Addr) (ns : List Int), ns.length ≤ n → (∀ z ∈ ns, Builtin.Int.intBits z ≤ 1048576) → Only H → SqL (K w.params) H a (ns.map V.int) → sp w [.ref a] H (fun v _ => v = .bl true) fun _ _ _ => False)
    (hCX : ∀ (w : World) (H : Hp) (s : Shared) (e : Value) (s' : Shared), CX w [] H s (fun _ _ _ => False) e s' → False) : PySem.W.WalkO q loose XP YP l.row.toRowW d [] (fun f vs => PySem.call f vs) := by
  refine Att.attach_callB hn hdf fun w s₀ s₁ mg mb fa o pm cd doc a vs ns G Y ho hd hcd hmg hobj hints hlen hbits hg => ?_
  obtain ⟨fd, hb, hF⟩ := F w mg fa _ (hY w _ Y) G.T.g hmg
  exact law_callG (hY w _ Y) G.T.g G.T.b G.T.builtins G.T.nolimit hg hobj hints (Nat.le_trans hlen hn2) hr hF hb (fun H hO hS => hsp w H a ns hlen hbits hO hS) fun H e s' => hCX w H s₁ e s'
theorem law_ok {l : PySem.W.OpenLaw} {n k : Nat} {q : Program} {loose : List Str} {XP : (Str → Option Value) → Heap → Prop} {YP : World → Heap → Prop} {d : DefRec} {KK : Params → PySem.W.Frag} {x : Str} (hn : l.most = some n) (hn2 : n ≤ sizeLine) (hdf : d.params.defaults = []) (hr : Room k callerA)
    (hY : ∀ (w : World) (h : Heap), YP w h → (KK w.params).In h) (F : Fn)
    (hF : ∀ (w : World) (mg : Str → Option Value) (fa : Addr) (h : Heap), (KK w.params).In h → h.Ns mainGlobals mg → mg d.name = some (.ref fa) →
      ∃ fd : FuncData, (∀ (s : Shared) (u : Value), BindsTo s fd ⟨[u], []⟩ [(x, u)]) ∧
        ∀ base : Heap, (KK w.params).In base → base.Ns mainGlobals mg → ∃ mg', FnG l.prog w (KK w.params) mg base (L2.CX l.prog w) k fa fd [x] (spF (KK w.params) mg' 1 F))
    (hT : ∀ ns : List Int, ns.length ≤ n → (∀ z ∈ ns, Builtin.Int.intBits z ≤ 1048576) → ∃ st', F [.loc 0] [.rol (ns.map D.int)] = .ok (.bl true) st') :
    PySem.W.WalkO q loose XP YP l.row.toRowW d [] (fun f vs => PySem.call f vs) := by
  refine walk_ofG (n := n) (k := k) (x := x) (CX := fun w => L2.CX l.prog w) (sp := fun w vs H Q E => ∃ (a : Addr) (ns : List Int), vs = [.ref a] ∧ ns.length ≤ n ∧ (∀ z ∈ ns, Builtin.Int.intBits z ≤ 1048576) ∧ Only H ∧ SqL (KK w.params) H a (ns.map V.int) ∧ ∀ H', Q (.bl true) H') hn hn2 hdf hr hY (fun w mg fa h KX G hmg => ?_)
    (fun w H a ns hl hb hO hS => ⟨a, ns, rfl, hl, hb, hO, hS, fun _ => rfl⟩) (fun w H s e s' h => ?_)
  · obtain ⟨fd, h1, h2⟩ := hF w mg fa h KX G hmg
    refine ⟨fd, h1, fun base hb hns => ?_⟩
    obtain ⟨mg', h3⟩ := h2 base hb hns
    refine h3.imp fun vs H Q E hsp => ?_
    obtain ⟨a, ns, rfl, hl, hbits, hO, hS, hq⟩ := hsp
    refine ⟨rfl, [a], [.rol (ns.map D.int)], [.loc 0], ⟨rfl, fun l m b e1 e2 m1 m2 => ?_, fun l o b e1 e2 => ?_⟩, .cons (.loc rfl) .nil, ?_⟩
    · cases l with
      | zero => cases m1
      | succ l => cases e1
    · cases l with
      | zero =>
        cases e1
        cases e2
        refine ⟨ns.map V.int, ?_, RepL.of_ints ns⟩
        rcases hS with (h | ⟨o, h⟩) | h
        · rcases hO a with z | ⟨o, xs, z⟩
          · rw [z] at h; cases h
          · rw [z] at h; cases h
        · exact .inl ⟨o, h⟩
        · exact .inr h
      | succ l => cases e1
    · obtain ⟨st', e⟩ := hT ns hl hbits
      rw [e]
      intro ρ' H' le s v rv
      cases rv
      exact hq H'
  · obtain ⟨_, _, _, _, _, _, _, _, _, _, _, _, z⟩ := h
    exact z.elim
end Sh

set_option maxHeartbeats 1000000
/-! ShE: built-ins, methods, slices, comprehensions, dict displays, raise. -/
namespace Sh
open PySem PySem.Spec PyProof.Rows L2

def asStrs : List D → Option (List Str)
  | [] => some []
  | .str s :: r => match asStrs r with
    | some ss => some (s :: ss)
    | none => none
  | _ => none
def asBls : List D → Option (List Bool)
  | [] => some []
  | .bl s :: r => match asBls r with
    | some ss => some (s :: ss)
    | none => none
  | _ => none
def asInts : List D → Option (List Int)
  | [] => some []
  | .int s :: r => match asInts r with
    | some ss => some (s :: ss)
    | none => none
  | _ => none
theorem asStrs_eq : ∀ {ds : List D} {ss : List Str}, asStrs ds = some ss → ds = ss.map D.str
  | [], _, h => by cases h; rfl
  | .str s :: r, _, h => by
    unfold asStrs at h
    cases q : asStrs r with
    | none => rw [q] at h; cases h
    | some ss => rw [q] at h; cases h; rw [asStrs_eq q]; rfl
  | .non :: _, _, h => by cases h
  | .bl _ :: _, _, h => by cases h
  | .int _ :: _, _, h => by cases h
  | .tup _ :: _, _, h => by cases h
  | .loc _ :: _, _, h => by cases h
  | .ty _ :: _, _, h => by cases h
theorem asBls_eq : ∀ {ds : List D} {ss : List Bool}, asBls ds = some ss → ds = ss.map D.bl
  | [], _, h => by cases h; rfl
  | .bl s :: r, _, h => by
    unfold asBls at h
    cases q : asBls r with
    | none => rw [q] at h; cases h
    | some ss => rw [q] at h; cases h; rw [asBls_eq q]; rfl
  | .non :: _, _, h => by cases h
  | .str _ :: _, _, h => by cases h
  | .int _ :: _, _, h => by cases h
  | .tup _ :: _, _, h => by cases h
  | .loc _ :: _, _, h => by cases h
  | .ty _ :: _, _, h => by cases h
theorem asInts_eq : ∀ {ds : List D} {ss : List Int}, asInts ds = some ss → ds = ss.map D.int
  | [], _, h => by cases h; rfl
  | .int s :: r, _, h => by
    unfold asInts at h
    cases q : asInts r with
    | none => rw [q] at h; cases h
    | some ss => rw [q] at h; cases h; rw [asInts_eq q]; rfl
  | .non :: _, _, h => by cases h
  | .str _ :: _, _, h => by cases h
  | .bl _ :: _, _, h => by cases h
  | .tup _ :: _, _, h => by cases h
  | .loc _ :: _, _, h => by cases h
  | .ty _ :: _, _, h => by cases h
theorem asStrs_map (ss : List Str) : asStrs (ss.map D.str) = some ss := by
  induction ss with
  | nil => rfl
  | cons s r ih => unfold asStrs; rw [List.map_cons]; dsimp only; rw [ih]
theorem asBls_map (ss : List Bool) : asBls (ss.map D.bl) = some ss := by
  induction ss with
  | nil => rfl
  | cons s r ih => unfold asBls; rw [List.map_cons]; dsimp only; rw [ih]
theorem asInts_map (ss : List Int) : asInts (ss.map D.int) = some ss := by
  induction ss with
  | nil => rfl
  | cons s r ih => unfold asInts; rw [List.map_cons]; dsimp only; rw [ih]

/-! ### built-ins -/
def lenD (d : D) (st : Sto) : Option Int := match d with
  | .str s => if s.length ≤ sizeLine then some (s.length : Int) else none
  | .tup ds => some (ds.length : Int)
  | .loc l => match st[l]? with
    | some (.lst ds) => some (ds.length : Int)
    | some (.rol ds) => some (ds.length : Int)
    | some (.dic kvs) => some (kvs.length : Int)
    | _ => none
  | _ => none
def oLen : OC := fun ds st => match ds with
  | [d] => match lenD d st with
    | some n => some (.int n, st)
    | none => none
  | _ => none
def oAbs : OC := fun ds st => match ds with
  | [.int i] => some (.int (if i < 0 then -i else i), st)
  | _ => none
def oInt : OC := fun ds st => match ds with
  | [.int i] => some (.int i, st)
  | [.bl b] => some (.int (if b then 1 else 0), st)
  | _ => none
def oStrI : OC := fun ds st => match ds with
  | [.int i] => if i.natAbs.log2 < 1920 then some (.str (toString i), st) else none
  | _ => none
/-- the items of a list or tuple -/
def itemsD (d : D) (st : Sto) : Option (List D) := match d with
  | .tup ds => some ds
  | .loc l => lstAt st l
  | _ => none
def oList : OC := fun ds st => match ds with
  | [d] => match itemsD d st with
    | some es => some (.loc st.length, st ++ [.lst es])
    | none => none
  | _ => none
def oTuple : OC := fun ds st => match ds with
  | [d] => match itemsD d st with
    | some es => some (.tup es, st)
    | none => none
  | _ => none
def oAll : OC := fun ds st => match ds with
  | [.loc l] => match lstAt st l with
    | some es => match asBls es with
      | some bs => some (.bl (bs.all id), st)
      | none => none
    | none => none
  | _ => none
def oAny : OC := fun ds st => match ds with
  | [.loc l] => match lstAt st l with
    | some es => match asBls es with
      | some bs => some (.bl (bs.any id), st)
      | none => none
    | none => none
  | _ => none
def oSum : OC := fun ds st => match ds with
  | [.loc l] => match lstAt st l with
    | some es => match asInts es with
      | some bs => some (.int bs.sum, st)
      | none => none
    | none => none
  | _ => none
def tyName (d : D) (st : Sto) : Option String := match d with
  | .non => some "NoneType"
  | .bl _ => some "bool"
  | .int _ => some "int"
  | .str _ => some "str"
  | .tup _ => some "tuple"
  | .loc l => match st[l]? with
    | some (.lst _) => some "list"
    | some (.dic _) => some "dict"
    | some (.dit _) => some "dict"
    | _ => none
  | .ty _ => none
def oIsi : OC := fun ds st => match ds with
  | [d, .ty n] => match tyName d st with
    | some t => match kitB t n with
      | some b => some (.bl b, st)
      | none => none
    | none => none
  | _ => none
theorem kit_str_str : kitB "str" "str" = some true := by decide +kernel
theorem kit_str_int : kitB "str" "int" = some false := by decide +kernel
theorem kit_str_bool : kitB "str" "bool" = some false := by decide +kernel
theorem kit_str_tuple : kitB "str" "tuple" = some false := by decide +kernel
theorem kit_str_list : kitB "str" "list" = some false := by decide +kernel
theorem kit_str_dict : kitB "str" "dict" = some false := by decide +kernel
theorem kit_int_str : kitB "int" "str" = some false := by decide +kernel
theorem kit_int_int : kitB "int" "int" = some true := by decide +kernel
theorem kit_int_bool : kitB "int" "bool" = some false := by decide +kernel
theorem kit_int_tuple : kitB "int" "tuple" = some false := by decide +kernel
theorem kit_int_list : kitB "int" "list" = some false := by decide +kernel
theorem kit_int_dict : kitB "int" "dict" = some false := by decide +kernel
theorem kit_bool_str : kitB "bool" "str" = some false := by decide +kernel
theorem kit_bool_int : kitB "bool" "int" = some true := by decide +kernel
theorem kit_bool_bool : kitB "bool" "bool" = some true := by decide +kernel
theorem kit_bool_tuple : kitB "bool" "tuple" = some false := by decide +kernel
theorem kit_bool_list : kitB "bool" "list" = some false := by decide +kernel
theorem kit_bool_dict : kitB "bool" "dict" = some false := by decide +kernel
theorem kit_non_str : kitB "NoneType" "str" = some false := by decide +kernel
theorem kit_non_int : kitB "NoneType" "int" = some false := by decide +kernel
theorem kit_non_bool : kitB "NoneType" "bool" = some false := by decide +kernel
theorem kit_non_tuple : kitB "NoneType" "tuple" = some false := by decide +kernel
theorem kit_non_list : kitB "NoneType" "list" = some false := by decide +kernel
theorem kit_non_dict : kitB "NoneType" "dict" = some false := by decide +kernel
theorem kit_tuple_str : kitB "tuple" "str" = some false := by decide +kernel
theorem kit_tuple_int : kitB "tuple" "int" = some false := by decide +kernel
theorem kit_tuple_bool : kitB "tuple" "bool" = some false := by decide +kernel
theorem kit_tuple_tuple : kitB "tuple" "tuple" = some true := by decide +kernel
theorem kit_tuple_list : kitB "tuple" "list" = some false := by decide +kernel
theorem kit_tuple_dict : kitB "tuple" "dict" = some false := by decide +kernel
theorem kit_list_str : kitB "list" "str" = some false := by decide +kernel
theorem kit_list_int : kitB "list" "int" = some false := by decide +kernel
theorem kit_list_bool : kitB "list" "bool" = some false := by decide +kernel
theorem kit_list_tuple : kitB "list" "tuple" = some false := by decide +kernel
theorem kit_list_list : kitB "list" "list" = some true := by decide +kernel
theorem kit_list_dict : kitB "list" "dict" = some false := by decide +kernel
theorem kit_dict_str : kitB "dict" "str" = some false := by decide +kernel
theorem kit_dict_int : kitB "dict" "int" = some false := by decide +kernel
theorem kit_dict_bool : kitB "dict" "bool" = some false := by decide +kernel
theorem kit_dict_tuple : kitB "dict" "tuple" = some false := by decide +kernel
theorem kit_dict_list : kitB "dict" "list" = some false := by decide +kernel
theorem kit_dict_dict : kitB "dict" "dict" = some true := by decide +kernel
section
variable {X : Cx}
theorem items_rep {K : PySem.W.Frag} {ρ : List Addr} {H : Hp} {st : Sto} {d : D} {v : V} {es : List D} (hs : StR K ρ H st) (r : Rep ρ H d v) (h : itemsD d st = some es) : ∃ p ys, v = .ref p ∧ (SqL K H p ys ∨ SqT K H p ys) ∧ RepL ρ H es ys := by
  unfold itemsD at h
  split at h
  · cases h
    obtain ⟨a, xs, rfl, hx, rr⟩ := r.tupA
    exact ⟨a, xs, rfl, .inr (SqT.of hx), rr⟩
  · obtain ⟨a, xs, rfl, hx, rr⟩ := lstAt_seq hs h r
    exact ⟨a, xs, rfl, .inl hx, rr⟩
  · cases h
theorem cb_len : CallR X (.builtin "len") (rC X.K oLen) := by
  intro pins s σ H vs us Q I r ⟨ρ, st, ds, a, st', hs, rs, h, k⟩
  unfold oLen at h
  split at h
  · rename_i d
    split at h
    · rename_i n hn
      cases h
      have kq := k ρ H _ Le.refl hs (.int n)
      cases rs with
      | cons r1 t1 =>
        cases t1
        unfold lenD at hn
        split at hn
        · split at hn
          · rename_i hz
            cases hn
            cases r1
            exact call_len_str pins s σ H _ us Q I r ⟨_, rfl, hz, kq⟩
          · cases hn
        · cases hn
          obtain ⟨p, xs, rfl, hx, rr⟩ := r1.tupA
          exact call_len_seq pins s σ H _ us Q I r ⟨p, xs, rfl, .inr (SqT.of hx), by rw [← rr.length]; exact kq⟩
        · rename_i l
          split at hn
          · rename_i es hl
            cases hn
            obtain ⟨p, xs, rfl, hx, rr⟩ := lstAt_seq (ds := es) hs (by unfold lstAt; rw [hl]) r1
            exact call_len_seq pins s σ H _ us Q I r ⟨p, xs, rfl, .inl hx, by rw [← rr.length]; exact kq⟩
          · rename_i es hl
            cases hn
            obtain ⟨p, xs, rfl, hx, rr⟩ := lstAt_seq (ds := es) hs (by unfold lstAt; rw [hl]) r1
            exact call_len_seq pins s σ H _ us Q I r ⟨p, xs, rfl, .inl hx, by rw [← rr.length]; exact kq⟩
          · rename_i kvs hl
            cases hn
            obtain ⟨p, rfl, hp⟩ := r1.locA
            obtain ⟨us', e1, rr⟩ := hs.ob _ _ p hl hp
            exact call_lenD pins s σ H _ us Q I r ⟨p, us', rfl, e1, by rw [← rr.length]; exact kq⟩
          · cases hn
        · cases hn
    · cases h
  · cases h
theorem cb_abs : CallR X (.builtin "abs") (rC X.K oAbs) := by
  intro pins s σ H vs us Q I r ⟨ρ, st, ds, a, st', hs, rs, h, k⟩
  unfold oAbs at h
  split at h
  · cases h
    cases rs with
    | cons r1 t1 =>
      cases t1
      cases r1
      exact call_abs pins s σ H _ us Q I r ⟨_, rfl, k ρ H _ Le.refl hs (.int _)⟩
  · cases h
theorem ct_int : CallR X (.type "int") (rC X.K oInt) := by
  intro pins s σ H vs us Q I r ⟨ρ, st, ds, a, st', hs, rs, h, k⟩
  unfold oInt at h
  split at h
  · cases h
    cases rs with
    | cons r1 t1 =>
      cases t1
      cases r1
      exact call_int1 pins s σ H _ us Q I r (.inl ⟨_, rfl, k ρ H _ Le.refl hs (.int _)⟩)
  · cases h
    cases rs with
    | cons r1 t1 =>
      cases t1
      cases r1
      exact call_int1 pins s σ H _ us Q I r (.inr ⟨_, rfl, k ρ H _ Le.refl hs (.int _)⟩)
  · cases h
theorem ct_strI : CallR X (.type "str") (rC X.K oStrI) := by
  intro pins s σ H vs us Q I r ⟨ρ, st, ds, a, st', hs, rs, h, k⟩
  unfold oStrI at h
  split at h
  · split at h
    · rename_i hz
      cases h
      cases rs with
      | cons r1 t1 =>
        cases t1
        cases r1
        exact call_str_int pins s σ H _ us Q I r ⟨_, rfl, hz, k ρ H _ Le.refl hs (.str _)⟩
    · cases h
  · cases h
theorem ct_list : CallR X (.type "list") (rC X.K oList) := by
  intro pins s σ H vs us Q I r ⟨ρ, st, ds, a, st', hs, rs, h, k⟩
  unfold oList at h
  split at h
  · split at h
    · rename_i d es he
      cases h
      cases rs with
      | cons r1 t1 =>
        cases t1
        obtain ⟨p, ys, rfl, hx, rr⟩ := items_rep hs r1 he
        refine call_list_of pins s σ H _ us Q I r ⟨p, ys, rfl, hx, fun n hn => ?_⟩
        have le : Le ρ H (ρ ++ [n]) (upd H n (.lst ys)) := ⟨List.prefix_append _ _, (Le.laid (ρ := ρ) n _ hn).tup⟩
        obtain ⟨s1, l1, g1⟩ := hs.alloc (u := .lst es) hn ⟨_, upd_same, rr.mono le⟩
        exact k _ _ _ l1 s1 (.loc g1)
    · cases h
  · cases h
theorem ct_tuple : CallR X (.type "tuple") (rC X.K oTuple) := by
  intro pins s σ H vs us Q I r ⟨ρ, st, ds, a, st', hs, rs, h, k⟩
  unfold oTuple at h
  split at h
  · rename_i d
    split at h
    · rename_i es he
      cases h
      cases rs with
      | cons r1 t1 =>
        cases t1
        obtain ⟨p, ys, rfl, hx, rr⟩ := items_rep hs r1 he
        rcases hx with hx | hx
        · refine call_tuple_of pins s σ H _ us Q I r ⟨p, ys, rfl, .inl ⟨hx, fun n hn => ?_⟩⟩
          have le := Le.laid (ρ := ρ) n (.tup ys) hn
          exact k ρ _ _ le (hs.laid hn) (.tup upd_same (rr.mono le))
        · cases d with
          | tup ds =>
            cases he
            exact call_tuple_of pins s σ H _ us Q I r ⟨p, ys, rfl, .inr ⟨hx, k ρ H _ Le.refl hs r1⟩⟩
          | loc l =>
            obtain ⟨p', xs, e', hx', rr'⟩ := lstAt_seq (K := X.K) hs he r1
            cases e'
            refine call_tuple_of pins s σ H _ us Q I r ⟨p, xs, rfl, .inl ⟨hx', fun n hn => ?_⟩⟩
            have le := Le.laid (ρ := ρ) n (.tup xs) hn
            exact k ρ _ _ le (hs.laid hn) (.tup upd_same (rr'.mono le))
          | non => cases he
          | bl _ => cases he
          | int _ => cases he
          | str _ => cases he
          | ty _ => cases he
    · cases h
  · cases h
theorem cb_all (hc : X.calm = true) : CallR X (.builtin "all") (rC X.K oAll) := by
  intro pins s σ H vs us Q I r ⟨ρ, st, ds, a, st', hs, rs, h, k⟩
  unfold oAll at h
  split at h
  · split at h
    · rename_i es he
      split at h
      · rename_i bs hb
        cases h
        cases rs with
        | cons r1 t1 =>
          cases t1
          obtain ⟨p, ys, rfl, hx, rr⟩ := lstAt_seq hs he r1
          rw [asBls_eq hb] at rr
          rw [rr.bls] at hx
          exact cr_all hc pins s σ H _ us Q I r ⟨p, bs, rfl, hx, k ρ H _ Le.refl hs (.bl _)⟩
      · cases h
    · cases h
  · cases h
theorem cb_any (hc : X.calm = true) : CallR X (.builtin "any") (rC X.K oAny) := by
  intro pins s σ H vs us Q I r ⟨ρ, st, ds, a, st', hs, rs, h, k⟩
  unfold oAny at h
  split at h
  · split at h
    · rename_i es he
      split at h
      · rename_i bs hb
        cases h
        cases rs with
        | cons r1 t1 =>
          cases t1
          obtain ⟨p, ys, rfl, hx, rr⟩ := lstAt_seq hs he r1
          rw [asBls_eq hb] at rr
          rw [rr.bls] at hx
          exact cr_any hc pins s σ H _ us Q I r ⟨p, bs, rfl, hx, k ρ H _ Le.refl hs (.bl _)⟩
      · cases h
    · cases h
  · cases h
theorem cb_sum (hc : X.calm = true) : CallR X (.builtin "sum") (rC X.K oSum) := by
  intro pins s σ H vs us Q I r ⟨ρ, st, ds, a, st', hs, rs, h, k⟩
  unfold oSum at h
  split at h
  · split at h
    · rename_i es he
      split at h
      · rename_i bs hb
        cases h
        cases rs with
        | cons r1 t1 =>
          cases t1
          obtain ⟨p, ys, rfl, hx, rr⟩ := lstAt_seq hs he r1
          rw [asInts_eq hb] at rr
          rw [rr.ints] at hx
          exact cr_sum hc pins s σ H _ us Q I r ⟨p, bs, rfl, hx, k ρ H _ Le.refl hs (.int _)⟩
      · cases h
    · cases h
  · cases h
theorem tyName_rep {K : PySem.W.Frag} {ρ : List Addr} {H : Hp} {st : Sto} {d : D} {v : V} {t : String} (hs : StR K ρ H st) (r : Rep ρ H d v) (h : tyName d st = some t) : TyOf K H v (.type t) := by
  unfold tyName at h
  split at h
  · cases h; cases r; exact .non
  · cases h; cases r; exact .bl _
  · cases h; cases r; exact .int _
  · cases h; cases r; exact .str _
  · cases h
    obtain ⟨a, xs, rfl, hx, _⟩ := r.tupA
    exact .tup hx
  · obtain ⟨a, rfl, ha⟩ := r.locA
    split at h
    · rename_i e; cases h
      obtain ⟨xs, e1, _⟩ := hs.ob _ _ a e ha
      exact .lst e1
    · rename_i e; cases h
      obtain ⟨xs, e1, _⟩ := hs.ob _ _ a e ha
      exact .dK e1
    · rename_i e; cases h
      obtain ⟨xs, e1, _⟩ := hs.ob _ _ a e ha
      exact .dT e1
    · cases h
  · cases h
theorem cb_isi : CallR X (.builtin "isinstance") (rC X.K oIsi) := by
  intro pins s σ H vs us Q I r ⟨ρ, st, ds, a, st', hs, rs, h, k⟩
  unfold oIsi at h
  split at h
  · split at h
    · rename_i t ht
      split at h
      · rename_i b hb
        cases h
        cases rs with
        | cons r1 t1 =>
          cases t1 with
          | cons r2 t2 =>
            cases t2
            cases r2
            exact call_isi pins s σ H _ us Q I r ⟨_, _, _, _, b, rfl, .ty _, .base (tyName_rep hs r1 ht), kit_ty hb, k ρ H _ Le.refl hs (.bl b)⟩
      · cases h
    · cases h
  · cases h
def oPow : O2
  | .int i, .int j, st => if (0 ≤ j ∧ j ≤ 1000000 ∧ i.natAbs < 2 ^ 64) then some (.int (i ^ j.toNat), st) else none
  | _, _, _ => none
theorem ob_pow : OpR X (binaryOp .Pow) (rB X.K oPow) := by
  intro pins s σ H x y v u Q I rx ry ⟨ρ, st, d, e, a, st', hs, rd, re, h, k⟩
  unfold oPow at h
  split at h
  · split at h
    · rename_i hc
      cases h; cases rd; cases re
      exact op_pow pins s σ H _ _ v u Q I rx ry ⟨_, _, rfl, rfl, hc, k ρ H _ Le.refl hs (.int _)⟩
    · cases h
  · cases h
def oIsN : O2
  | d, .non, st => some (.bl (match d with | .non => true | _ => false), st)
  | _, _, _ => none
def oNotN : O2
  | d, .non, st => some (.bl (match d with | .non => false | _ => true), st)
  | _, _, _ => none
theorem ob_isN : OpR X (compareOp .Is) (rB X.K oIsN) := by
  intro pins s σ H x y v u Q I rx ry ⟨ρ, st, d, e, a, st', hs, rd, re, h, k⟩
  unfold oIsN at h
  split at h
  · cases h; cases re
    refine op_isN pins s σ H _ _ v u Q I rx ry ⟨rfl, ?_⟩
    have kq := k ρ H _ Le.refl hs (.bl _)
    cases rd <;> exact kq
  · cases h
theorem ob_notN : OpR X (compareOp .IsNot) (rB X.K oNotN) := by
  intro pins s σ H x y v u Q I rx ry ⟨ρ, st, d, e, a, st', hs, rd, re, h, k⟩
  unfold oNotN at h
  split at h
  · cases h; cases re
    refine op_notN pins s σ H _ _ v u Q I rx ry ⟨rfl, ?_⟩
    have kq := k ρ H _ Le.refl hs (.bl _)
    cases rd <;> exact kq
  · cases h
end
/-! ### methods -/
abbrev OMt := D → List D → Sto → Option (D × Sto)
def rM (K : PySem.W.Frag) (g : OMt) : V → List V → Hp → VK → Prop := fun x vs H Q => ∃ ρ st d ds a st', StR K ρ H st ∧ Rep ρ H d x ∧ RepL ρ H ds vs ∧ g d ds st = some (a, st') ∧ ∀ ρ' H' v, Le ρ H ρ' H' → StR K ρ' H' st' → Rep ρ' H' a v → Q v H'
def isTyD (T : String) (d : D) (st : Sto) : Bool := match d with
  | .str _ => decide (T = "str")
  | .loc l => match st[l]? with
    | some (.lst _) => decide (T = "list")
    | some (.rol _) => decide (T = "list")
    | some (.dic _) => decide (T = "dict")
    | some (.dit _) => decide (T = "dict")
    | _ => false
  | _ => false
def eBM (T : String) (g : OMt) (o : EM) (as : AM) : EM := fun en => bnd (o en) fun d => bnd (fun st => if isTyD T d st = true then R.ok () st else .bad) fun _ => bnd (as en) fun ds => lft (g d ds)
section
variable {X : Cx} {W : WX} {o e : Expr} {es : List Expr} {mo : EM} {mas : AM} {name : Str} {apos cpos : Pos} {T id : String} {g : OMt}
theorem isTyD_rep {K : PySem.W.Frag} {ρ : List Addr} {H : Hp} {st : Sto} {d : D} {v : V} (hs : StR K ρ H st) (r : Rep ρ H d v) (h : isTyD T d st = true) : tyV K T v H := by
  unfold isTyD at h
  split at h
  · cases r; exact (of_decide_eq_true h : T = "str")
  · obtain ⟨a, rfl, ha⟩ := r.locA
    split at h
    · rename_i e
      obtain ⟨xs, e1, _⟩ := hs.ob _ _ a e ha
      exact .inl ⟨of_decide_eq_true h, xs, .inl (.inl e1)⟩
    · rename_i e
      obtain ⟨xs, e1, _⟩ := hs.ob _ _ a e ha
      refine .inl ⟨of_decide_eq_true h, xs, ?_⟩
      rcases e1 with ⟨o, q⟩ | q
      · exact .inl (.inr ⟨o, q⟩)
      · exact .inr q
    · rename_i e
      obtain ⟨xs, e1, _⟩ := hs.ob _ _ a e ha
      exact .inr (.inr (.inl ⟨of_decide_eq_true h, .inl ⟨xs, e1⟩⟩))
    · rename_i e
      obtain ⟨xs, e1, _⟩ := hs.ob _ _ a e ha
      exact .inr (.inr (.inl ⟨of_decide_eq_true h, .inr ⟨xs, e1⟩⟩))
    · cases h
  · cases h
theorem bm_rd {K : PySem.W.Frag} {mg : Mg} {σ : L2.St} {H : Hp} {Q : VK} (h : rdE K mg W (eBM T g mo mas) σ H Q) : (rdE K mg W mo) σ H fun x H1 => tyV K T x H1 ∧ (rdA K mg W mas) σ H1 fun xs H2 => rM K g x xs H2 Q :=
  (Wh.bnd (m := mo) (f := fun en d => bnd (fun st => if isTyD T d st = true then R.ok () st else .bad) fun _ => bnd (mas en) fun ds => lft (g d ds)) h).imp fun ρ1 H1 st1 d _ ⟨en, he, hs, q⟩ v rv => by
    have q1 := aft_bnd q
    by_cases hc : isTyD T d st1 = true
    · rw [if_pos hc] at q1
      refine ⟨isTyD_rep hs rv hc, ρ1, en, st1, he, hs, (aft_bnd (q1 ρ1 H1 Le.refl hs)).imp fun ρ2 H2 st2 ds le s q2 vs rvs => ?_⟩
      obtain ⟨a, st', e1, k⟩ := aft_lft q2
      exact ⟨ρ2, st2, d, ds, a, st', s, rv.mono le, rvs, e1, fun ρ' H' v le s r => k ρ' H' le s v r⟩
    · rw [if_neg hc] at q1
      exact q1.elim
theorem je_bm0 (pa : PlainAttrs T) (slot : Slot T name id) (hty : typeOf (.builtin id) = pure (.type "method_descriptor")) (hm : MtR X id (rM X.K g)) (ho : JE X W o mo)
    (hbase : attributeBase o name X.env (eval o X.env) = eval o X.env := by rfl) (hline : (apos.endLine == cpos.line) = true := by rfl) : JE X W (.Call (.Attribute o name apos) [] [] cpos) (eBM T g mo aNil) :=
  pe_imp (pe_bm0 pa slot hty hm ho hbase hline) fun σ H Q h => (bm_rd h : Wh X.K X.mg (WE W σ) σ H mo _).imp fun ρ1 H1 st1 d _ q v rv => by
    obtain ⟨t, ρ2, en, st2, he, hs, q2⟩ := q v rv
    exact ⟨t, retA (mg := X.mg) (E := WE W σ) hs q2 .nil⟩
theorem je_bm (pa : PlainAttrs T) (slot : Slot T name id) (hty : typeOf (.builtin id) = pure (.type "method_descriptor")) (hm : MtR X id (rM X.K g)) (ho : JE X W o mo) (ha : JA X W (e :: es) mas)
    (hbase : attributeBase o name X.env (eval o X.env) = eval o X.env := by rfl)
    (hfew : ((backTo cpos (starEach (e :: es) X.env)).all (fun x => !x.1) && (backToKw cpos (keywordEach [] X.env)).all (fun x => x.1.isSome)
      && decide ((e :: es).length + ([] : List Keyword).length + (if ([] : List Keyword).isEmpty then 0 else 1) < 30)) = true := by rfl)
    (hline : (apos.endLine == cpos.line) = true := by rfl) (hs : starEach (e :: es) X.env = (false, eval e X.env) :: starEach es X.env := by rfl) (hplain : (backTo cpos (starEach es X.env)).any (·.1) = false := by rfl) :
    JE X W (.Call (.Attribute o name apos) (e :: es) [] cpos) (eBM T g mo mas) := pe_imp (pe_bm pa slot hty hm ho ha hbase hfew hline hs hplain) fun σ H Q h => bm_rd h
def oAppend : OMt := fun d ds st => match d, ds with
  | .loc l, [x] => match st[l]? with
    | some (.lst es) => if es.length < sizeLine then some (.non, st.set l (.lst (es ++ [x]))) else none
    | _ => none
  | _, _ => none
theorem om_append : MtR X "list.append" (rM X.K oAppend) := by
  intro pins s σ H x vs v us Q I rx rvs ⟨ρ, st, d, ds, a, st', hs, rd, rs, h, k⟩
  unfold oAppend at h
  split at h
  · rename_i l y
    split at h
    · rename_i es hl
      split at h
      · rename_i hz
        cases h
        obtain ⟨p, rfl, hp⟩ := rd.locA
        obtain ⟨xs, hx, rr⟩ := hs.ob _ _ p hl hp
        cases rs with
        | @cons _ _ w _ r1 t1 =>
          cases t1
          refine mt_append pins s σ H _ _ v us Q I rx rvs ⟨p, xs, w, rfl, rfl, hx, by rw [← rr.length]; exact hz, ?_⟩
          obtain ⟨s1, l1⟩ := hs.put (o := .lst (xs ++ [w])) (u := .lst (es ++ [y])) hl rfl rfl hp fun H' e' le => ⟨_, by rw [e']; exact upd_same, (rr.append (.cons r1 .nil)).mono le⟩
          exact k ρ _ _ l1 s1 .non
      · cases h
    · cases h
  · cases h
def oPopAt : OMt := fun d ds st => match d, ds with
  | .loc l, [.int i] => match st[l]? with
    | some (.lst es) => match ixN es.length i with
      | some j => match es[j]? with
        | some y => some (y, st.set l (.lst (es.eraseIdx j)))
        | none => none
      | none => none
    | _ => none
  | _, _ => none
theorem om_popAt : MtR X "list.pop" (rM X.K oPopAt) := by
  intro pins s σ H x vs v us Q I rx rvs ⟨ρ, st, d, ds, a, st', hs, rd, rs, h, k⟩
  unfold oPopAt at h
  split at h
  · rename_i l i
    split at h
    · rename_i es hl
      split at h
      · rename_i j hj
        split at h
        · rename_i y hy
          cases h
          obtain ⟨p, rfl, hp⟩ := rd.locA
          obtain ⟨xs, hx, rr⟩ := hs.ob _ _ p hl hp
          obtain ⟨w, hw, rw⟩ := rr.get hy
          obtain ⟨_, _, _, _, z, _⟩ : True ∧ True ∧ True ∧ True ∧ xs.length ≤ sizeLine ∧ True := ⟨trivial, trivial, trivial, trivial, (I.hok p _ hx).1, trivial⟩
          obtain ⟨q1, q2, q3, q4⟩ := ixN_seq hj
          have hl63 := line63
          cases rs with
          | cons r1 t1 =>
            cases t1
            cases r1
            refine mt_popAt pins s σ H _ _ v us Q I rx rvs ⟨p, xs, i, j, w, rfl, rfl, hx, by rw [rr.length] at q3; omega, by rw [rr.length] at q4; omega, by rw [← rr.length]; exact q1, hw, ?_⟩
            obtain ⟨s1, l1⟩ := hs.put (o := .lst (xs.eraseIdx j)) (u := .lst (es.eraseIdx j)) hl rfl rfl hp fun H' e' le => ⟨_, by rw [e']; exact upd_same, (rr.erase j).mono le⟩
            exact k ρ _ _ l1 s1 (rw.mono l1)
        · cases h
      · cases h
    · cases h
  · cases h
def oJoin : OMt := fun d ds st => match d, ds with
  | .str a, [x] => match itemsD x st with
    | some es => match asStrs es with
      | some ys => if (ys.map (·.length)).sum + ys.length * a.length ≤ 16777216 then some (.str (Txt.join a ys), st) else none
      | none => none
    | none => none
  | _, _ => none
theorem om_join : MtR X "str.join" (rM X.K oJoin) := by
  intro pins s σ H x vs v us Q I rx rvs ⟨ρ, st, d, ds, a, st', hs, rd, rs, h, k⟩
  unfold oJoin at h
  split at h
  · split at h
    · rename_i es he
      split at h
      · rename_i ys hy
        split at h
        · rename_i hz
          cases h
          cases rd
          cases rs with
          | cons r1 t1 =>
            cases t1
            obtain ⟨p, zs, rfl, hx, rr⟩ := items_rep hs r1 he
            rw [asStrs_eq hy] at rr
            rw [rr.strs] at hx
            exact mt_join pins s σ H _ _ v us Q I rx rvs ⟨_, p, ys, rfl, rfl, hx, hz, k ρ H _ Le.refl hs (.str _)⟩
        · cases h
      · cases h
    · cases h
  · cases h
def oUpper : OMt := fun d ds st => match d, ds with
  | .str a, [] => if a.length ≤ 5592405 then some (.str (Txt.upper a), st) else none
  | _, _ => none
theorem om_upper : MtR X "str.upper" (rM X.K oUpper) := by
  intro pins s σ H x vs v us Q I rx rvs ⟨ρ, st, d, ds, a, st', hs, rd, rs, h, k⟩
  unfold oUpper at h
  split at h
  · split at h
    · rename_i hz
      cases h
      cases rd
      cases rs
      exact mt_upper pins s σ H _ _ v us Q I rx rvs ⟨_, rfl, rfl, hz, k ρ H _ Le.refl hs (.str _)⟩
    · cases h
  · cases h
/-- d.get(k, x) -/
def eGet2 (o i f : EM) : EM := fun en => bnd (o en) fun d => bnd (fun st => if isTyD "dict" d st = true then R.ok () st else .bad) fun _ => bnd (i en) fun k => bnd (f en) fun z => fun st => match d with
  | .loc l => match dkAt st l, keyOf k with
    | some kvs, some kk => .ok ((lookK kvs kk).getD z) st
    | _, _ => .bad
  | _ => .bad
theorem je_get2 {i f : Expr} {mi mf : EM} (hu : X.A.units + 1 < cLine) (ho : JE X W o mo) (hi : JE X W i mi) (hf : JE X W f mf) (m : M2 X o "get" apos i f cpos) : JE X W (.Call (.Attribute o "get" apos) [i, f] [] cpos) (eGet2 mo mi mf) :=
  pe_imp (pe_dget2 hu ho hi hf m) fun σ H Q h => (Wh.bnd (m := mo) (f := fun en d => bnd (fun st => if isTyD "dict" d st = true then R.ok () st else .bad) fun _ => bnd (mi en) fun k => bnd (mf en) fun z => fun st => match d with
    | .loc l => match dkAt st l, keyOf k with
      | some kvs, some kk => R.ok ((lookK kvs kk).getD z) st
      | _, _ => .bad
    | _ => .bad) h).imp fun ρ1 H1 st1 d _ ⟨en, he, hs, q⟩ v rv => by
    have q1 := aft_bnd q
    by_cases hc : isTyD "dict" d st1 = true
    · rw [if_pos hc] at q1
      have q2 := q1 ρ1 H1 Le.refl hs
      have ht := isTyD_rep hs rv hc
      cases d with
      | loc l =>
        obtain ⟨a, rfl, ha⟩ := rv.locA
        have hd : IsD H1 a := by
          rcases ht with ⟨z, _⟩ | ⟨z, _⟩ | ⟨_, ⟨kvs, z⟩ | ⟨kvs, z⟩⟩ | ⟨z, _⟩
          · exact absurd z (by decide)
          · exact absurd z (by decide)
          · exact .inl ⟨kvs, .inl z⟩
          · exact .inr ⟨kvs, .inl z⟩
          · exact absurd z (by decide)
        refine ⟨a, rfl, hd, ρ1, en, st1, he, hs, (aft_bnd q2).imp fun ρ2 H2 st2 k le2 s2 q3 y ry => ?_⟩
        refine ⟨ρ2, en, st2, he.mono le2, s2, (aft_bnd q3).imp fun ρ3 H3 st3 z le3 s3 q4 zv rz => ?_⟩
        dsimp only at q4
        split at q4
        · rename_i kvs kk h1 h2
          have ey := keyOf_rep h2 ry
          subst ey
          unfold dkAt at h1
          split at h1
          · rename_i kvs' h3
            cases h1
            have ha3 := pre_get (le2.trans le3).pre ha
            obtain ⟨us, e1, rr⟩ := s3.ob _ _ a h3 ha3
            refine ⟨_, DGet.k (k := kk) e1, ?_⟩
            have q5 := q4 ρ3 H3 Le.refl s3
            rcases lookK_rep kk rr with ⟨z1, z2⟩ | ⟨d', w, z1, z2, z3⟩
            · rw [z1] at q5
              rw [z2]
              exact q5 _ rz
            · rw [z1] at q5
              rw [z2]
              exact q5 _ z3
          · cases h1
        · exact q4.elim
      | str _ =>
        cases rv
        exact absurd (show ("dict" : String) = "str" from ht) (by decide)
      | non => cases rv; exact ht.elim
      | bl _ => cases rv; exact ht.elim
      | int _ => cases rv; exact absurd (show ("dict" : String) = "int" from ht) (by decide)
      | ty _ => cases rv; exact ht.elim
      | tup _ => exact absurd hc (by unfold isTyD; exact Bool.false_ne_true)
    · rw [if_neg hc] at q1
      exact q1.elim
end
/-! ### slices -/
def pOpt (m : Option EM) : Ev → M (Option Int) := fun en => match m with
  | none => ret none
  | some e => bnd (e en) fun d => match d with
    | .int i => ret (some i)
    | _ => fun _ => .bad
def cutD (xs : List D) (lo hi : Option Int) : List D := (xs.drop (HT.sIx xs.length 0 lo)).take (HT.sIx xs.length xs.length hi - HT.sIx xs.length 0 lo)
def slD (d : D) (lo hi : Option Int) (st : Sto) : Option (D × Sto) := match d with
  | .str z => if z.length ≤ sizeLine then some (.str (cutS z lo hi), st) else none
  | .tup ds => some (.tup (cutD ds lo hi), st)
  | .loc l => match lstAt st l with
    | some ds => some (.loc st.length, st ++ [.lst (cutD ds lo hi)])
    | none => none
  | _ => none
def eSl (a : EM) (lo hi : Option EM) : EM := fun en => bnd (a en) fun d => bnd (pOpt lo en) fun l => bnd (pOpt hi en) fun h => lft (slD d l h)
section
variable {X : Cx} {W : WX}
abbrev gO (Q : Option Int → Hp → Prop) : G (Option Int) := fun _ H' _ o => Q o H'
def rdO (K : PySem.W.Frag) (mg : Mg) (W : WX) (m : Option EM) : TO := fun σ H Q => Wh K mg (WE W σ) σ H (pOpt m) (gO Q)
abbrev JO (X : Cx) (W : WX) (e : Option Expr) (m : Option EM) : Prop := PO X e (rdO X.K X.mg W m)
theorem po_imp {e : Option Expr} {t t' : TO} (h : PO X e t) (k : ∀ σ H Q, t' σ H Q → t σ H Q) : PO X e t' := ⟨fun pins s σ H Q I q => h.run pins s σ H Q I (k σ H Q q)⟩
theorem jo_none : JO X W none none := po_imp po_none fun σ H Q ⟨ρ, en, st, he, hs, h⟩ => aft_ret (mg := X.mg) (E := WE W σ) hs h
theorem jo_some {e : Expr} {m : EM} (h : JE X W e m) : JO X W (some e) (some m) := po_imp (po_some h) fun σ H Q h => (Wh.bnd (m := m) (f := fun _ d => match d with
    | .int i => ret (some i)
    | _ => fun _ => .bad) h).imp fun ρ1 H1 st1 d _ ⟨en, he, hs, q⟩ v rv => by
    cases rv with
    | int i => exact ⟨i, rfl, aft_ret (mg := X.mg) (E := WE W σ) hs q⟩
    | non => exact q.elim
    | bl _ => exact q.elim
    | str _ => exact q.elim
    | tup _ _ => exact q.elim
    | loc _ => exact q.elim
    | ty _ => exact q.elim
def rSl (K : PySem.W.Frag) : V → Option Int → Option Int → Hp → VK → Prop := fun x lo hi H Q => ∃ ρ st d a st', StR K ρ H st ∧ Rep ρ H d x ∧ slD d lo hi st = some (a, st') ∧ ∀ ρ' H' v, Le ρ H ρ' H' → StR K ρ' H' st' → Rep ρ' H' a v → Q v H'
theorem cut_rep {ρ : List Addr} {H : Hp} {ds : List D} {xs : List V} {lo hi : Option Int} (r : RepL ρ H ds xs) : RepL ρ H (cutD ds lo hi) (cutV xs lo hi) := by
  unfold cutD cutV
  rw [← r.length]
  exact RepL.take _ (RepL.drop _ r)
theorem cut_all {ds : List D} {lo hi : Option Int} (h1 : HT.sIx ds.length 0 lo = 0) (h2 : HT.sIx ds.length ds.length hi = ds.length) : cutD ds lo hi = ds := by
  unfold cutD
  rw [h1, h2]
  simp
theorem os_sl : SlR X (rSl X.K) := by
  intro pins s σ H x v vl vu lo hi sl Q I rx hsl pl pu ⟨ρ, st, d, a, st', hs, rd, h, k⟩
  unfold slD at h
  split at h
  · split at h
    · rename_i hz
      cases h
      cases rd
      exact sl_str pins s σ H _ v vl vu lo hi sl Q I rx hsl pl pu ⟨_, rfl, hz, k ρ H _ Le.refl hs (.str _)⟩
    · cases h
  · rename_i ds
    cases h
    obtain ⟨p, xs, rfl, hx, rr⟩ := rd.tupA
    refine sl_tupA pins s σ H _ v vl vu lo hi sl Q I rx hsl pl pu ⟨p, xs, rfl, SqT.of hx, fun ⟨z1, z2⟩ => ?_, fun _ n hn => ?_⟩
    · rw [← rr.length] at z1 z2
      rw [cut_all z1 z2] at k
      exact k ρ H _ Le.refl hs rd
    · have le := Le.laid (ρ := ρ) n (.tup (cutV xs lo hi)) hn
      exact k ρ _ _ le (hs.laid hn) (.tup upd_same ((cut_rep rr).mono le))
  · split at h
    · rename_i ds hl
      cases h
      obtain ⟨p, xs, rfl, hx, rr⟩ := lstAt_seq hs hl rd
      refine sl_list pins s σ H _ v vl vu lo hi sl Q I rx hsl pl pu ⟨p, xs, rfl, hx, fun n hn => ?_⟩
      have le : Le ρ H (ρ ++ [n]) (upd H n (.lst (cutV xs lo hi))) := ⟨List.prefix_append _ _, (Le.laid (ρ := ρ) n _ hn).tup⟩
      obtain ⟨s1, l1, g1⟩ := hs.alloc (u := .lst (cutD ds lo hi)) hn ⟨_, upd_same, (cut_rep rr).mono le⟩
      exact k _ _ _ l1 s1 (.loc g1)
    · cases h
  · cases h
theorem je_slice {e : Expr} {lo hi : Option Expr} {me : EM} {ml mh : Option EM} {pos p2 : Pos} (he : JE X W e me) (hl : JO X W lo ml) (hh : JO X W hi mh) : JE X W (.Subscript e (.Slice lo hi none p2) pos) (eSl me ml mh) :=
  pe_imp (pe_slice os_sl he hl hh) fun σ H Q h => (Wh.bnd (m := me) (f := fun en d => bnd (pOpt ml en) fun l => bnd (pOpt mh en) fun h => lft (slD d l h)) h).imp fun ρ1 H1 st1 d _ ⟨en, her, hs, q⟩ v rv => by
    refine ⟨ρ1, en, st1, her, hs, (aft_bnd q).imp fun ρ2 H2 st2 l le2 s2 q2 => ?_⟩
    refine ⟨ρ2, en, st2, her.mono le2, s2, (aft_bnd q2).imp fun ρ3 H3 st3 u le3 s3 q3 => ?_⟩
    obtain ⟨a, st', e1, k⟩ := aft_lft q3
    exact ⟨ρ3, st3, d, a, st', s3, rv.mono (le2.trans le3), e1, fun ρ' H' v le s r => k ρ' H' le s v r⟩
end
/-! ### dict displays -/
def evPairs : List (EM × EM) → Ev → M (List (D × D))
  | [], _ => ret []
  | (a, b) :: r, en => bnd (a en) fun x => bnd (b en) fun y => bnd (evPairs r en) fun ps => ret ((x, y) :: ps)
def asKeys : List (D × D) → Option (List (Key × D))
  | [] => some []
  | (k, v) :: r => match keyOf k, asKeys r with
    | some kk, some ps => some ((kk, v) :: ps)
    | _, _ => none
def mergeD (kvs more : List (Key × D)) : List (Key × D) := more.foldl (fun acc kv => putD acc kv.1 kv.2) kvs
def eDic (ps : List (EM × EM)) : EM := fun en st => match evPairs ps en (st ++ [.dic []]) with
  | .ok prs st' => match asKeys prs with
    | some kvs => match st'[st.length]? with
      | some (.dic []) => if kvs.length ≤ 15 then .ok (.loc st.length) (st'.set st.length (.dic (mergeD [] kvs))) else .bad
      | _ => .bad
    | none => .bad
  | .exc c st' => .exc c st'
  | .bad => .bad
/-- an empty dict that is to have tuple keys -/
def eDicT : EM := fun _ => newO (.dit [])
section
variable {X : Cx} {W : WX} {pos : Pos}
abbrev RepPs (ρ : List Addr) (H : Hp) (ps : List (D × D)) (us : List (V × V)) : Prop := RepL ρ H (ps.map (·.1)) (us.map (·.1)) ∧ RepL ρ H (ps.map (·.2)) (us.map (·.2))
def rdTrs (K : PySem.W.Frag) (mg : Mg) (W : WX) (ps : List (EM × EM)) : List (TE × TE) := ps.map fun p => (rdE K mg W p.1, rdE K mg W p.2)
theorem pairs_rd {K : PySem.W.Frag} {mg : Mg} {σ : L2.St} : ∀ {ps : List (EM × EM)} {H : Hp} {Q : List (V × V) → Hp → Prop},
    Wh K mg (WE W σ) σ H (evPairs ps) (fun ρ' H' _ prs => ∀ us, RepPs ρ' H' prs us → Q us H') → tPairs (rdTrs K mg W ps) σ H Q
  | [], H, Q, ⟨ρ, en, st, he, hs, h⟩ => h ρ H Le.refl hs [] ⟨.nil, .nil⟩
  | (a, b) :: r, H, Q, h => by
    refine (Wh.bnd (m := a) (f := fun en x => bnd (b en) fun y => bnd (evPairs r en) fun ps => ret ((x, y) :: ps)) h).imp fun ρ1 H1 st1 d _ ⟨en, he, hs, q⟩ x rx => ?_
    refine ⟨ρ1, en, st1, he, hs, (aft_bnd q).imp fun ρ2 H2 st2 e le2 s2 q2 y ry => ?_⟩
    refine pairs_rd (ps := r) ⟨ρ2, en, st2, he.mono le2, s2, (aft_bnd q2).imp fun ρ3 H3 st3 prs le3 s3 q3 us rus => ?_⟩
    exact aft_ret (mg := mg) (E := WE W σ) s3 q3 ((x, y) :: us) ⟨.cons (rx.mono (le2.trans le3)) rus.1, .cons (ry.mono le3) rus.2⟩
theorem asKeys_rep {ρ : List Addr} {H : Hp} : ∀ {prs : List (D × D)} {us : List (V × V)} {kvs : List (Key × D)}, RepPs ρ H prs us → asKeys prs = some kvs → ∃ ws : List (Key × V), us = ws.map (fun kv => (kV kv.1, kv.2)) ∧ RepK ρ H kvs ws
  | [], [], _, _, h => by cases h; exact ⟨[], rfl, rfl, .nil⟩
  | [], _ :: _, _, ⟨h, _⟩, _ => by cases h
  | _ :: _, [], _, ⟨h, _⟩, _ => by cases h
  | (k, d) :: r, (y, v) :: t, kvs, ⟨h1, h2⟩, h => by
    rw [List.map_cons, List.map_cons] at h1 h2
    cases h1 with
    | cons a1 b1 =>
      cases h2 with
      | cons a2 b2 =>
        unfold asKeys at h
        split at h
        · rename_i kk ps e1 e2
          cases h
          obtain ⟨ws, ew, rw1, rw2⟩ := asKeys_rep ⟨b1, b2⟩ e2
          have ey := keyOf_rep e1 a1
          refine ⟨(kk, v) :: ws, ?_, ?_, ?_⟩
          · rw [List.map_cons, ← ew]
            show ((y, v) : V × V) :: t = (kV kk, v) :: t
            have ey' : y = kV kk := ey
            rw [ey']
          · rw [List.map_cons, List.map_cons, rw1]
          · exact .cons a2 rw2
        · cases h
theorem merge_rep {ρ : List Addr} {H : Hp} : ∀ {kvs : List (Key × D)} {ws : List (Key × V)} {acc : List (Key × D)} {acw : List (Key × V)}, RepK ρ H kvs ws → RepK ρ H acc acw → RepK ρ H (mergeD acc kvs) (mergeK acw ws)
  | [], [], _, _, _, r => r
  | [], _ :: _, _, _, ⟨h, _⟩, _ => by simp at h
  | _ :: _, [], _, _, ⟨h, _⟩, _ => by simp at h
  | (k, d) :: r, (j, v) :: t, acc, acw, ⟨h1, h2⟩, ra => by
    simp only [List.map_cons, List.cons.injEq] at h1
    obtain ⟨e1, e2⟩ := h1
    subst e1
    rw [List.map_cons, List.map_cons] at h2
    cases h2 with
    | cons q1 q2 =>
      unfold mergeD mergeK
      rw [List.foldl_cons, List.foldl_cons]
      exact merge_rep ⟨e2, q2⟩ (RepK.put k q1 ra)
theorem je_dic {keys : List (Option Expr)} {values : List Expr} {ps : List (EM × EM)} (h : PPs X pos keys values (rdTrs X.K X.mg W ps)) (hall : keys.all (·.isSome) = true := by rfl) (hl : keys.length = values.length := by rfl) (h0 : keys ≠ [] := by intro z; cases z) (h15 : keys.length ≤ 15 := by decide) :
    JE X W (.Dict keys values pos) (eDic ps) := pe_imp (pe_disp h hall hl h0 h15) fun σ H Q ⟨ρ, en, st, he, hs, q⟩ p hp => by
  have e0 : Le ρ H (ρ ++ [p]) (upd H p (.dK [])) := ⟨List.prefix_append _ _, (Le.laid (ρ := ρ) p _ hp).tup⟩
  obtain ⟨s1, l1, g1⟩ := hs.alloc (o := .dK []) (u := .dic []) hp ⟨[], upd_same, rfl, .nil⟩
  refine pairs_rd (ps := ps) ⟨ρ ++ [p], en, st ++ [.dic []], he.mono l1, s1, ?_⟩
  unfold eDic at q
  cases e1 : evPairs ps en (st ++ [.dic []]) with
  | bad => rw [e1] at q; exact q.elim
  | exc c st' =>
    rw [e1] at q
    exact fun ρ2 H2 C le2 s2 m => q ρ2 H2 C (l1.trans le2) s2 m
  | ok prs st' =>
    rw [e1] at q
    dsimp only at q
    intro ρ2 H2 le2 s2 us rus
    split at q
    · rename_i kvs hk
      split at q
      · rename_i hd
        split at q
        · rename_i hz
          obtain ⟨ws, ew, rk⟩ := asKeys_rep rus hk
          have hp2 := pre_get le2.pre g1
          obtain ⟨zs, e2, rz⟩ := s2.ob _ _ p hd hp2
          have ez : zs = [] := by
            have := rz.1
            cases zs with
            | nil => rfl
            | cons _ _ => simp at this
          subst ez
          refine ⟨e2, ws, ew, by rw [← rk.length]; exact hz, ?_⟩
          obtain ⟨s3, l3⟩ := s2.put (o := .dK (mergeK [] ws)) (u := .dic (mergeD [] kvs)) hd rfl rfl hp2 fun H' e' le => ⟨mergeK [] ws, by rw [e']; exact upd_same, (merge_rep rk (show RepK ρ2 H2 ([] : List (Key × D)) [] from ⟨rfl, .nil⟩)).mono le⟩
          exact q ρ2 _ ((l1.trans le2).trans l3) s3 _ (.loc hp2)
        · exact q.elim
      · exact q.elim
    · exact q.elim
theorem jps_nil : PPs X pos [] [] (rdTrs X.K X.mg W []) := pps_nil
theorem jps_cons {k v : Expr} {ks : List (Option Expr)} {vs : List Expr} {mk mv : EM} {ps : List (EM × EM)} (hk : JE X W k mk) (hv : JE X W v mv) (hr : PPs X pos ks vs (rdTrs X.K X.mg W ps)) : PPs X pos (some k :: ks) (v :: vs) (rdTrs X.K X.mg W ((mk, mv) :: ps)) := pps_cons hk hv hr
theorem je_dic0 : JE X W (.Dict [] [] pos) (fun _ => newO (.dic [])) := pe_imp pe_dnewK fun σ H Q ⟨ρ, en, st, he, hs, q⟩ => newO_aft (o := .dic []) (ho := .dK []) hs (fun ρ' H' p le e => ⟨[], e, rfl, .nil⟩) q
theorem je_dit0 : JE X W (.Dict [] [] pos) eDicT := pe_imp pe_dnewT fun σ H Q ⟨ρ, en, st, he, hs, q⟩ => newO_aft (o := .dit []) (ho := .dT []) hs (fun ρ' H' p le e => ⟨[], e, rfl, .nil⟩) q
end
/-! ### comprehensions -/
def wipeD (en : Ev) : List Nat → Ev
  | [] => en
  | v :: vs => (wipeD en vs).set v none
def lcLoop (cond : BM) (el : EM) (tg : D → Ev → Option Ev) (src : Src) (L : Nat) (enw : Ev) : Nat → Nat → Sto → R Unit
  | n, i, st => match src st i with
    | some none => .ok () st
    | some (some d) => match n with
      | 0 => .bad
      | n + 1 => match tg d enw with
        | none => .bad
        | some en1 => match cond en1 st with
          | .ok c st1 => if c = true then (match el en1 st1 with
              | .ok y st2 => match st2[L]? with
                | some (.lst acc) => if acc.length < sizeLine then lcLoop cond el tg src L enw n (i + 1) (st2.set L (.lst (acc ++ [y]))) else .bad
                | _ => .bad
              | _ => .bad)
            else lcLoop cond el tg src L enw n (i + 1) st1
          | _ => .bad
    | none => .bad
def eLc (m : Ev → M (Nat × Src)) (tg : D → Ev → Option Ev) (cond : BM) (el : EM) (vs : List Nat) : EM := fun en => bnd (m en) fun p st => match lcLoop cond el tg p.2 st.length (wipeD en vs) p.1 0 (st ++ [.lst []]) with
  | .ok _ st' => .ok (.loc st.length) st'
  | _ => .bad
abbrev WF : WX := fun _ _ _ _ => False
theorem wipe_en {ρ : List Addr} {H : Hp} {en : Ev} {σ : L2.St} (r : EnR ρ H en σ) : ∀ vs : List Nat, EnR ρ H (wipeD en vs) (wipe σ vs)
  | [] => r
  | v :: vs => by
    have ih := wipe_en r vs
    unfold wipeD wipe
    refine ⟨by rw [List.length_set, List.length_set]; exact ih.len, fun i d h => ?_⟩
    by_cases hi : v = i
    · subst hi
      by_cases hl : v < (wipeD en vs).length
      · rw [List.getElem?_set_self hl] at h; cases h
      · rw [List.getElem?_eq_none_iff.mpr (by rw [List.length_set]; omega)] at h; cases h
    · rw [List.getElem?_set_ne hi] at h ⊢
      exact ih.at_ i d h
theorem wipe_but {vs : List Nat} {σ σ' : L2.St} (h : But vs σ σ') : wipe σ' vs = wipe σ vs := by
  have gen : ∀ (us : List Nat) (j : Nat), (wipe σ' us)[j]? = if j ∈ us then (if j < σ'.length then some none else none) else σ'[j]? := by
    intro us
    induction us with
    | nil => intro j; simp [wipe]
    | cons u r ih =>
      intro j
      unfold wipe
      by_cases hj : u = j
      · subst hj
        by_cases hl : u < σ'.length
        · rw [List.getElem?_set_self (by rw [wipe_length]; exact hl), if_pos List.mem_cons_self, if_pos hl]
        · rw [List.getElem?_eq_none_iff.mpr (by rw [List.length_set, wipe_length]; omega), if_pos List.mem_cons_self, if_neg hl]
      · rw [List.getElem?_set_ne hj, ih j]
        by_cases hm : j ∈ r
        · rw [if_pos hm, if_pos (List.mem_cons_of_mem _ hm)]
        · rw [if_neg hm, if_neg fun z => by rcases List.mem_cons.mp z with q | q; exact hj q.symm; exact hm q]
  have gen2 : ∀ (us : List Nat) (j : Nat), (wipe σ us)[j]? = if j ∈ us then (if j < σ.length then some none else none) else σ[j]? := by
    intro us
    induction us with
    | nil => intro j; simp [wipe]
    | cons u r ih =>
      intro j
      unfold wipe
      by_cases hj : u = j
      · subst hj
        by_cases hl : u < σ.length
        · rw [List.getElem?_set_self (by rw [wipe_length]; exact hl), if_pos List.mem_cons_self, if_pos hl]
        · rw [List.getElem?_eq_none_iff.mpr (by rw [List.length_set, wipe_length]; omega), if_pos List.mem_cons_self, if_neg hl]
      · rw [List.getElem?_set_ne hj, ih j]
        by_cases hm : j ∈ r
        · rw [if_pos hm, if_pos (List.mem_cons_of_mem _ hm)]
        · rw [if_neg hm, if_neg fun z => by rcases List.mem_cons.mp z with q | q; exact hj q.symm; exact hm q]
  apply List.ext_getElem?
  intro j
  rw [gen, gen2, h.1]
  by_cases hm : j ∈ vs
  · rw [if_pos hm, if_pos hm]
  · rw [if_neg hm, if_neg hm, h.2 j hm]
theorem wipe_wipe (σ : L2.St) (vs : List Nat) : wipe (wipe σ vs) vs = wipe σ vs := wipe_but ⟨wipe_length σ vs, fun j hj => by
  cases q : (wipe σ vs)[j]? with
  | none =>
    have := List.getElem?_eq_none_iff.mp q
    rw [wipe_length] at this
    exact (List.getElem?_eq_none_iff.mpr this).symm
  | some o =>
    have gen : ∀ (us : List Nat), j ∉ us → (wipe σ us)[j]? = σ[j]? := by
      intro us
      induction us with
      | nil => intro _; rfl
      | cons u r ih =>
        intro hu
        unfold wipe
        rw [List.getElem?_set_ne fun z => hu (by rw [z]; exact List.mem_cons_self)]
        exact ih fun z => hu (List.mem_cons_of_mem _ z)
    rw [← q]
    exact gen vs hj⟩
def bYes : BM := fun _ => ret true
section
variable {X : Cx} {W : WX}
/-- the reading of a comprehension -/
theorem lc_rd {K : PySem.W.Frag} {mg : Mg} {m : Ev → M (Nat × Src)} {is : List Nat} {tg : D → Ev → Option Ev} {cond : BM} {el : EM} {vs : List Nat} (hsub : ∀ i ∈ is, i ∈ vs) {tt : TT} (htt : ∀ σ H Q, rdB K mg WF cond σ H Q → tt σ H Q) {σ : L2.St} {H : Hp} {Q : VK}
    (h : rdE K mg W (eLc m tg cond el vs) σ H Q) : tLc (rdI K mg W m) (rdG is tg) tt (rdE K mg WF el) vs σ H Q :=
  (Wh.bnd (m := m) (f := fun en p st => match lcLoop cond el tg p.2 st.length (wipeD en vs) p.1 0 (st ++ [.lst []]) with
    | .ok _ st' => R.ok (D.loc st.length) st'
    | _ => .bad) h).imp fun ρ1 H1 st1 p _ ⟨en, he, hs, q⟩ J hJ L hL => by
    obtain ⟨n, src⟩ := p
    have e0 : Le ρ1 H1 (ρ1 ++ [L]) (upd H1 L (.lst [])) := ⟨List.prefix_append _ _, (Le.laid (ρ := ρ1) L _ hL).tup⟩
    obtain ⟨s1, l1, g1⟩ := hs.alloc (o := .lst []) (u := .lst []) hL ⟨[], upd_same, .nil⟩
    -- what is left to do from turn i on
    have fin : ∃ st', lcLoop cond el tg src st1.length (wipeD en vs) n 0 (st1 ++ [.lst []]) = .ok () st' ∧ ∀ ρ' H', Le ρ1 H1 ρ' H' → StR K ρ' H' st' → ∀ v, Rep ρ' H' (.loc st1.length) v → Q v H' := by
      dsimp only at q
      split at q
      · rename_i u st' e
        exact ⟨st', e, q⟩
      · exact q.elim
    obtain ⟨st', hl, hq⟩ := fin
    refine ⟨fun i k H' => ∃ ρ2 st2, Le (ρ1 ++ [L]) (upd H1 L (.lst [])) ρ2 H' ∧ StR K ρ2 H' st2 ∧ lcLoop cond el tg src st1.length (wipeD en vs) k i st2 = .ok () st', ⟨n, ρ1 ++ [L], _, Le.refl, s1, hl⟩, fun i k H' hW => ?_⟩
    obtain ⟨ρ2, st2, le2, s2, hl2⟩ := hW
    obtain ⟨hgo, hstop⟩ := hJ i ρ2 H' st2 (l1.trans le2) s2
    unfold lcLoop at hl2
    split at hl2
    · rename_i e1
      cases hl2
      exact .inl ⟨hstop e1, hq ρ2 H' (l1.trans le2) s2 _ (.loc (pre_get le2.pre g1))⟩
    · rename_i d e1
      obtain ⟨h1, h2⟩ := hgo d e1
      split at hl2
      · cases hl2
      · rename_i k'
        split at hl2
        · cases hl2
        · rename_i en1 e2
          refine .inr ⟨h1, fun H3 => ∃ ρ3 st3, Le (ρ1 ++ [L]) (upd H1 L (.lst [])) ρ3 H3 ∧ StR K ρ3 H3 st3 ∧ lcLoop cond el tg src st1.length (wipeD en vs) k' (i + 1) st3 = .ok () st', fun H3 w => ⟨k', Nat.lt_succ_self k', w⟩, fun x H3 y => ?_⟩
          obtain ⟨le3, s3, r3⟩ := h2 x H3 y
          refine ⟨ρ2, wipeD en vs, d, en1, (wipe_en he vs).mono ((l1.trans le2).trans le3), r3, e2, fun σ3 b3 er3 => ⟨?_, htt _ _ _ ⟨ρ2, en1, st2, er3, s3, ?_⟩⟩⟩
          · rw [wipe_but (b3.mono hsub), wipe_wipe]
          · split at hl2
            · rename_i c st3 e3
              rw [e3]
              intro ρ4 H4 le4 s4
              by_cases hc : c = true
              · rw [if_pos hc] at hl2
                refine (if_pos hc).mpr ⟨ρ4, en1, st3, er3.mono le4, s4, ?_⟩
                split at hl2
                · rename_i yv st4 e4
                  rw [e4]
                  intro ρ5 H5 le5 s5 v rv
                  split at hl2
                  · rename_i acc e5
                    split at hl2
                    · rename_i hz
                      have gL := pre_get ((le4.trans le5).pre) (pre_get le2.pre g1)
                      obtain ⟨xs, e6, rr⟩ := s5.ob _ _ L e5 gL
                      refine ⟨xs, e6, by rw [← rr.length]; exact hz, ?_⟩
                      obtain ⟨s6, l6⟩ := s5.put (o := .lst (xs ++ [v])) (u := .lst (acc ++ [yv])) e5 rfl rfl gL fun H' e' le => ⟨_, by rw [e']; exact upd_same, (rr.append (.cons rv .nil)).mono le⟩
                      exact ⟨ρ5, _, (((le2.trans le3).trans le4).trans le5).trans l6, s6, hl2⟩
                    · cases hl2
                  · cases hl2
                · cases hl2
              · rw [if_neg hc] at hl2
                exact (if_neg hc).mpr ⟨ρ4, st3, (le2.trans le3).trans le4, s4, hl2⟩
            · cases hl2
    · cases hl2
variable {elt tg iter : Expr} {scope : Scope} {own : List (Str × Nat)} {pos : Pos} {m : Ev → M (Nat × Src)} {is : List Nat} {t : D → Ev → Option Ev} {cond : BM} {el : EM}
theorem je_lc0 (hc : X.calm = true) (hN : X.N.Nodup) (hi : JI X W tg iter m) (ok : BlkOk X.N X.env.scope scope own)
    (hg : ∀ (s : Shared) (H : Hp) (C : Addr) (cl : List (Str × Addr)) (fp : List Addr), JG (X.blk s H scope (compEnvC scope cl C X.env) fp) is tg t)
    (he : ∀ (s : Shared) (H : Hp) (C : Addr) (cl : List (Str × Addr)) (fp : List Addr), JE (X.blk s H scope (compEnvC scope cl C X.env) fp) WF elt el) (hsub : ∀ i ∈ is, i ∈ own.map (·.2) := by decide) (hs : ∀ x, foldedSetIterable iter X.env x = pure x := by intro _; rfl) :
    JE X W (.ListComp elt [⟨tg, iter, [], 0⟩] scope pos) (eLc m t bYes el (own.map (·.2))) :=
  pe_imp (pe_lc (tt := tYes) hc hN hi ok hg (fun _ _ _ _ _ => pts_nil) he hs) fun σ H Q h => lc_rd hsub (fun σ H Q ⟨ρ, en, st, he, hs, h⟩ => h ρ H Le.refl hs) h
theorem je_lc1 {c : Expr} (hc : X.calm = true) (hN : X.N.Nodup) (hi : JI X W tg iter m) (ok : BlkOk X.N X.env.scope scope own)
    (hg : ∀ (s : Shared) (H : Hp) (C : Addr) (cl : List (Str × Addr)) (fp : List Addr), JG (X.blk s H scope (compEnvC scope cl C X.env) fp) is tg t)
    (ht : ∀ (s : Shared) (H : Hp) (C : Addr) (cl : List (Str × Addr)) (fp : List Addr), JT (X.blk s H scope (compEnvC scope cl C X.env) fp) WF c cond)
    (he : ∀ (s : Shared) (H : Hp) (C : Addr) (cl : List (Str × Addr)) (fp : List Addr), JE (X.blk s H scope (compEnvC scope cl C X.env) fp) WF elt el) (hsub : ∀ i ∈ is, i ∈ own.map (·.2) := by decide) (hs : ∀ x, foldedSetIterable iter X.env x = pure x := by intro _; rfl) :
    JE X W (.ListComp elt [⟨tg, iter, [c], 0⟩] scope pos) (eLc m t cond el (own.map (·.2))) :=
  pe_imp (pe_lc (tt := rdB X.K X.mg WF cond) hc hN hi ok hg (fun s H C cl fp => pts_one (ht s H C cl fp)) he hs) fun σ H Q h => lc_rd hsub (fun _ _ _ h => h) h
theorem js_setLc0 {i : Nat} {y : Str} {py spos : Pos} (hc : X.calm = true) (hN : X.N.Nodup) (hy : X.N[i]? = some y) (hyl : X.env.scope.names.lookup y = some .local)
    (hsw : swapsWith (.ListComp elt [⟨tg, iter, [], 0⟩] scope pos) (some (.Name y py)) spos.line X.env = pure true) (hi : JI X W tg iter m) (ok : BlkOk X.N X.env.scope scope own)
    (hg : ∀ (s : Shared) (H : Hp) (C : Addr) (cl : List (Str × Addr)) (fp : List Addr), JG (X.blk s H scope (compEnvC scope cl C X.env) fp) is tg t)
    (he : ∀ (s : Shared) (H : Hp) (C : Addr) (cl : List (Str × Addr)) (fp : List Addr), JE (X.blk s H scope (compEnvC scope cl C X.env) fp) WF elt el) (hsub : ∀ i ∈ is, i ∈ own.map (·.2) := by decide) (hs : ∀ x, foldedSetIterable iter X.env x = pure x := by intro _; rfl) :
    JS X W (.Assign [.Name y py] (.ListComp elt [⟨tg, iter, [], 0⟩] scope pos) spos) (sSet i (eLc m t bYes el (own.map (·.2)))) :=
  ps_imp (ps_setLc (tt := tYes) hc hN hy hyl hsw hi ok hg (fun _ _ _ _ _ => pts_nil) he hs) fun E σ H h => lc_rd hsub (fun σ H Q ⟨ρ, en, st, he, hs, h⟩ => h ρ H Le.refl hs) (set_rd h)
theorem js_setLc1 {c : Expr} {i : Nat} {y : Str} {py spos : Pos} (hc : X.calm = true) (hN : X.N.Nodup) (hy : X.N[i]? = some y) (hyl : X.env.scope.names.lookup y = some .local)
    (hsw : swapsWith (.ListComp elt [⟨tg, iter, [c], 0⟩] scope pos) (some (.Name y py)) spos.line X.env = pure true) (hi : JI X W tg iter m) (ok : BlkOk X.N X.env.scope scope own)
    (hg : ∀ (s : Shared) (H : Hp) (C : Addr) (cl : List (Str × Addr)) (fp : List Addr), JG (X.blk s H scope (compEnvC scope cl C X.env) fp) is tg t)
    (ht : ∀ (s : Shared) (H : Hp) (C : Addr) (cl : List (Str × Addr)) (fp : List Addr), JT (X.blk s H scope (compEnvC scope cl C X.env) fp) WF c cond)
    (he : ∀ (s : Shared) (H : Hp) (C : Addr) (cl : List (Str × Addr)) (fp : List Addr), JE (X.blk s H scope (compEnvC scope cl C X.env) fp) WF elt el) (hsub : ∀ i ∈ is, i ∈ own.map (·.2) := by decide) (hs : ∀ x, foldedSetIterable iter X.env x = pure x := by intro _; rfl) :
    JS X W (.Assign [.Name y py] (.ListComp elt [⟨tg, iter, [c], 0⟩] scope pos) spos) (sSet i (eLc m t cond el (own.map (·.2)))) :=
  ps_imp (ps_setLc (tt := rdB X.K X.mg WF cond) hc hN hy hyl hsw hi ok hg (fun s H C cl fp => pts_one (ht s H C cl fp)) he hs) fun E σ H h => lc_rd hsub (fun _ _ _ h => h) (set_rd h)
/-! ### raise -/
def sRaise (c : Str) : SM := fun en st => .exc c en st
theorem js_raise {e : Expr} {x : Str} {C : Addr} {mp : Pos} (hc : X.calm = true) (tk : Takes X W) (gC : X.mg x = some (.ref C)) (he : PMk X e (fun _ H Q => Q (.ref C) none H)) : JS X W (.Raise (some e) none mp) (sRaise x) :=
  ps_imp (ps_raise hc tk he) fun E σ H ⟨ρ, en, st, her, hs, h⟩ => h ρ H σ C Le.refl hs her gC
end
end Sh

set_option maxHeartbeats 1000000
/-! ShF: calls of defs that are known by name; what a generator of derivations uses. -/
namespace Sh
open PySem PySem.Spec PyProof.Rows L2

/-- the def called x keeps what fn says, at level k -/
structure Cal (P : Program) (w : World) (K : PySem.W.Frag) (mg : Mg) (base : Heap) (k : Nat) (x : Str) (ps : List Str) (fn : Fn) : Prop where
  ex : ∃ f fd, FnS P w K mg base k f fd ps fn ∧ Binds K fd ps [] ∧ PySem.W.keepIn K (.ref f) = true ∧ mg x = some (.ref f)
section
variable {X : Cx} {W : WX} {e : Expr} {es : List Expr} {mas : AM} {me : EM} {pos p : Pos} {x : Str} {k : Nat} {ps : List Str} {fn : Fn}
theorem je_c (tk : Takes X W) (c : Cal X.prog X.w X.K X.mg X.base k x ps fn) (hr : Room k X.A ∧ X.A.guards = some []) (hg : Gl X x) (ha : JA X W (e :: es) mas) (hdb : (x == ("__debug__" : Str)) = false := by decide)
    (he : starEach (e :: es) X.env = (false, eval e X.env) :: starEach es X.env := by rfl) (hpl : (backTo pos (starEach es X.env)).any (·.1) = false := by rfl) : JE X W (.Call (.Name x p) (e :: es) [] pos) (eCall ps.length fn mas) := by
  obtain ⟨f, fd, F, hb, hk, hm⟩ := c.ex
  exact je_call tk F hr.1 hr.2 hg hm hk hb ha hdb he hpl
def eCall0 (fn : Fn) : EM := fun _ => fn []
theorem je_c0 (tk : Takes X W) (c : Cal X.prog X.w X.K X.mg X.base k x [] fn) (hr : Room k X.A ∧ X.A.guards = some []) (hg : Gl X x) (hdb : (x == ("__debug__" : Str)) = false := by decide) : JE X W (.Call (.Name x p) [] [] pos) (eCall0 fn) := by
  obtain ⟨f, fd, F, hb, hk, hm⟩ := c.ex
  refine ⟨fun pins s σ H Q I h => ?_⟩
  obtain ⟨ρ, en, st, he, hs, h⟩ := h
  refine wpAny_Call_Name_kw (ld_glob I hg hm ?_ hdb)
  exact PySem.W.callWith_K0 I.kIn hk (run_fnG (us := []) F hr.1 hr.2 hb (passAt tk σ) I .nil ⟨rfl, ρ, st, [], hs, .nil, h⟩)
theorem blkE (k : Takes X WF → JE X WF e me) : JE X WF e me := k takes0
theorem blkT {mb : BM} (k : Takes X WF → JT X WF e mb) : JT X WF e mb := k takes0
/-- - of an int -/
def eNeg (a : EM) : EM := fun en => bnd (a en) fun d => match d with
  | .int i => ret (.int (-i))
  | _ => badM
theorem je_neg {a : Expr} {ma : EM} (ha : JE X W a ma) : JE X W (.UnaryOp .USub a pos) (eNeg ma) := pe_imp (pe_un un_neg ha) fun σ H Q h => (Wh.bnd (m := ma) (f := fun _ d => match d with
    | .int i => ret (D.int (-i))
    | _ => badM) h).imp fun ρ1 H1 st1 d _ ⟨en, he, hs, q⟩ v rv => by
    cases rv with
    | int i => exact ⟨i, rfl, retE (mg := X.mg) (E := WE W σ) hs q (.int _)⟩
    | non => exact q.elim
    | bl _ => exact q.elim
    | str _ => exact q.elim
    | tup _ _ => exact q.elim
    | loc _ => exact q.elim
    | ty _ => exact q.elim
/-- a, b, c = x, y, z by plain locals -/
def sPar3 (i j l : Nat) (as : AM) : SM := sB as fun ds en st => match ds with
  | [d, d', d''] => .nx (((en.set i (some d)).set j (some d')).set l (some d'')) st
  | _ => .bad
theorem js_par3 {i j l : Nat} {x y z : Str} {a b c : Expr} {ta : AM} {px py pz pt pos : Pos} {kt k2 pt2} (hc : X.calm = true) (hN : X.N.Nodup) (hi : X.N[i]? = some x) (hj : X.N[j]? = some y) (hl : X.N[l]? = some z) (hij : i ≠ j) (hil : i ≠ l) (hjl : j ≠ l)
    (hx : X.env.scope.names.lookup x = some .local) (hy : X.env.scope.names.lookup y = some .local) (hz : X.env.scope.names.lookup z = some .local) (ha : JA X W [a, b, c] ta)
    (hw : swappedStores [.Tuple [.Name x px, .Name y py, .Name z pz] kt pt] (.Tuple [a, b, c] k2 pt2) X.env = pure (some [x, y, z]))
    (hs : swapsWithSole [.Tuple [.Name x px, .Name y py, .Name z pz] kt pt] (.Tuple [a, b, c] k2 pt2) pos.line X.env = pure false := by rfl) :
    JS X W (.Assign [.Tuple [.Name x px, .Name y py, .Name z pz] kt pt] (.Tuple [a, b, c] k2 pt2) pos) (sPar3 i j l ta) := ps_imp (ps_par3 hc hN hi hj hl hij hil hjl hx hy hz ha hw hs) fun E σ H ⟨ρ, en, st, her, hs, h⟩ =>
  ⟨ρ, en, st, her, hs, (sB_rd her h).imp fun ρ' H' st' ds le s ⟨er, q⟩ vs rvs => by
    split at q
    · cases rvs with
      | cons r1 t1 =>
        cases t1 with
        | cons r2 t2 =>
          cases t2 with
          | cons r3 t3 =>
            cases t3
            exact ⟨_, _, _, rfl, q ρ' H' _ Le.refl s (((er.set r1 i).set r2 j).set r3 l)⟩
    · exact q.elim⟩
end
section
variable {P : Program} {w : World} {K : PySem.W.Frag} {mg : Mg} {base : Heap}
theorem cal_mk {k : Nat} {x : Str} {f : Addr} {fd : FuncData} {ps : List Str} {fn : Fn} (F : FnS P w K mg base k f fd ps fn) (b : Binds K fd ps []) (kp : PySem.W.keepIn K (.ref f) = true) (m : mg x = some (.ref f)) : Cal P w K mg base k x ps fn := ⟨f, fd, F, b, kp, m⟩
end
end Sh

set_option maxHeartbeats 1000000
/-! ShG: a constant dict of texts; dict(..); == of dicts that are alike. -/
namespace Sh
open PySem PySem.Spec PyProof.Rows L2
def lookS (kvs : List (Str × Str)) (k : Str) : Option Str := (kvs.find? fun kv => decide (kv.1 = k)).map (·.2)
def eGIx (kvs : List (Str × Str)) (a : EM) : EM := fun en => bnd (a en) fun x => match x with
  | .str z => match lookS kvs z with
    | some r => ret (.str r)
    | none => badM
  | _ => badM
section
variable {X : Cx} {W : WX} {a : Expr} {ma : EM} {pos : Pos}
theorem je_gix {kvs : List (Str × Str)} {C : Addr} {x : Str} {p : Pos} (hC : ∀ z r, lookS kvs z = some r → KDct X.K X.w C z (.str r)) (hg : Gl X x) (hm : X.mg x = some (.ref C)) (ha : JE X W a ma) (hs : PlainIx a := by intro _ _; rfl) (hd : (x == ("__debug__" : Str)) = false := by decide) :
    JE X W (.Subscript (.Name x p) a pos) (eGIx kvs ma) :=
  pe_imp (pe_ix ix_kdict (pe_glob (v := .ref C) hg hm rfl hd) ha hs) fun σ H Q h =>
    (Wh.bnd (m := ma) (f := fun en x => match x with | .str z => (match lookS kvs z with | some r => ret (D.str r) | none => badM) | _ => badM) h).imp fun ρ1 H1 st1 d _ ⟨en, he, hs, q⟩ v rv => by
      cases d with
      | str z =>
        dsimp only at q
        cases e : lookS kvs z with
        | some r =>
          rw [e] at q
          have kq := retE (Q := Q) hs q (.str r)
          cases rv
          exact ⟨C, z, .str r, rfl, rfl, hC z r e, kq⟩
        | none => rw [e] at q; exact q.elim
      | _ => exact q.elim
/-- a dict of texts as the image holds it -/
theorem kdct_of {K : PySem.W.Frag} {w : World} {C : Addr} {es : Array DictEntry} {n : Nat} {kvs : List (Str × Str)} (hl : K.lookup C = some ⟨.type "dict", none, .dict es n, #[]⟩) (hk : PySem.W.KeysLit w.params es.toList) (h : ∀ p ∈ kvs, ∃ t, PySem.W.nsIn K C p.1 = some (some (.str p.2 t))) :
    ∀ z r, lookS kvs z = some r → KDct K w C z (.str r) := by
  intro z r e
  unfold lookS at e
  cases q : kvs.find? fun kv => decide (kv.1 = z) with
  | none => rw [q] at e; cases e
  | some kv =>
    rw [q] at e
    cases e
    have h1 : kv.1 = z := of_decide_eq_true (List.find?_some (p := fun kv : Str × Str => decide (kv.1 = z)) q)
    obtain ⟨t, h2⟩ := h kv (List.mem_of_find?_eq_some q)
    rw [h1] at h2
    exact ⟨es, n, _, hl, hk, h2, t, rfl⟩
end
/-! ### dict(pairs), dict(dict) -/
def asDP : List D → Option (List (Key × D))
  | [] => some []
  | .tup [k, v] :: r => match keyOf k, asDP r with
    | some kk, some ps => some ((kk, v) :: ps)
    | _, _ => none
  | _ => none
def oDict : OC := fun ds st => match ds with
  | [.loc l] => match lstAt st l with
    | some es => match asDP es with
      | some kvs => some (.loc st.length, st ++ [.dic (mergeD [] kvs)])
      | none => none
    | none => match dkAt st l with
      | some kvs => some (.loc st.length, st ++ [.dic kvs])
      | none => none
  | _ => none
theorem dp_rep {K : PySem.W.Frag} {ρ : List Addr} {H : Hp} : ∀ {es : List D} {xs : List V} {kvs : List (Key × D)}, RepL ρ H es xs → asDP es = some kvs →
    ∃ (ps : List Addr) (us : List (Key × V)), xs = ps.map V.ref ∧ Paired (fun p kv => SqT K H p [kV kv.1, kv.2]) ps us ∧ RepK ρ H kvs us := by
  intro es
  induction es with
  | nil =>
    intro xs kvs r h
    cases r
    cases h
    exact ⟨[], [], rfl, .nil, rfl, .nil⟩
  | cons d es ih =>
    intro xs kvs r h
    cases r with
    | cons r1 r2 =>
      unfold asDP at h
      split at h
      · rename_i e
        cases e
      · rename_i k v r' e
        cases e
        split at h
        · rename_i kk ps e1 e2
          cases h
          obtain ⟨qs, us, rfl, hp, hr⟩ := ih r2 e2
          obtain ⟨p, ys, rfl, hx, ry⟩ := r1.tupA
          cases ry with
          | cons ra rb =>
            cases rb with
            | cons rb rc =>
              cases rc
              have ek := keyOf_rep e1 ra
              subst ek
              exact ⟨p :: qs, (kk, _) :: us, rfl, .cons (SqT.of hx) hp, by rw [List.map_cons, List.map_cons, hr.1], .cons rb hr.2⟩
        · cases h
      · cases h
section
variable {X : Cx}
theorem ct_dict (hcalm : X.calm = true) : CallR X (.type "dict") (rC X.K oDict) := by
  intro pins s σ H vs us Q I r ⟨ρ, st, ds, a, st', hs, rs, h, k⟩
  unfold oDict at h
  split at h
  · cases rs with
    | cons r1 t1 =>
      cases t1
      rename_i l _
      split at h
      · rename_i es he
        split at h
        · rename_i kvs hk
          cases h
          obtain ⟨p, xs, rfl, hx, rr⟩ := lstAt_seq hs he r1
          obtain ⟨ps, ws, rfl, hp, hr⟩ := dp_rep (K := X.K) rr hk
          refine call_dictP hcalm pins s σ H _ us Q I r ⟨p, ps, ws, rfl, hx, hp, fun n hn => ?_⟩
          have le : Le ρ H (ρ ++ [n]) (upd H n (.dK (mergeK [] ws))) := ⟨List.prefix_append _ _, (Le.laid (ρ := ρ) n _ hn).tup⟩
          obtain ⟨s1, l1, g1⟩ := hs.alloc (u := .dic (mergeD [] kvs)) hn ⟨_, upd_same, (merge_rep hr (show RepK ρ H ([] : List (Key × D)) [] from ⟨rfl, .nil⟩)).mono le⟩
          exact k _ _ _ l1 s1 (.loc g1)
        · cases h
      · split at h
        · rename_i kvs hd
          cases h
          obtain ⟨p, rfl, hp⟩ := r1.locA
          unfold dkAt at hd
          split at hd
          · rename_i kvs' hd'
            cases hd
            obtain ⟨ws, e1, hr⟩ := hs.ob _ _ p hd' hp
            refine call_dictD pins s σ H _ us Q I r ⟨p, ws, rfl, Rd.of e1, fun n hn => ?_⟩
            have le : Le ρ H (ρ ++ [n]) (upd H n (.dK ws)) := ⟨List.prefix_append _ _, (Le.laid (ρ := ρ) n _ hn).tup⟩
            obtain ⟨s1, l1, g1⟩ := hs.alloc (u := .dic kvs) hn ⟨_, upd_same, hr.mono le⟩
            exact k _ _ _ l1 s1 (.loc g1)
          · cases hd
        · cases h
  · cases h
end
/-! ### != of dicts that are alike -/
def sameD : D → D → Bool
  | .int i, .int j => decide (i = j)
  | .str i, .str j => decide (i = j)
  | .bl i, .bl j => decide (i = j)
  | .non, .non => true
  | _, _ => false
def alikeD (ks ls : List (Key × D)) : Bool := decide (ks.length = ls.length) && ks.all fun p => match lookK ls p.1 with
  | some d => sameD p.2 d
  | none => false
def oNeD : O2 := fun d e st => match d, e with
  | .loc l, .loc m => match dkAt st l, dkAt st m with
    | some ks, some ls => if alikeD ks ls = true then some (.bl false, st) else none
    | _, _ => none
  | _, _ => none
theorem same_rep {ρ : List Addr} {H : Hp} {d e : D} {x y : V} (h : sameD d e = true) (r : Rep ρ H d x) (r' : Rep ρ H e y) : y = x ∧ flatB x = true := by
  cases r <;> cases r' <;> first | (exact (Bool.false_ne_true h).elim) | skip
  · exact ⟨rfl, rfl⟩
  · exact ⟨by rw [of_decide_eq_true h], rfl⟩
  · exact ⟨by rw [of_decide_eq_true h], rfl⟩
  · exact ⟨by rw [of_decide_eq_true h], rfl⟩
theorem repK_mem {κ : Type} {ρ : List Addr} {H : Hp} : ∀ {ks : List (κ × D)} {us : List (κ × V)}, RepK ρ H ks us → ∀ p ∈ us, ∃ q ∈ ks, q.1 = p.1 ∧ Rep ρ H q.2 p.2
  | [], [], _, _, h => by cases h
  | [], _ :: _, ⟨h, _⟩, _, _ => by simp at h
  | _ :: _, [], ⟨h, _⟩, _, _ => by simp at h
  | a :: r, b :: t, ⟨h1, h2⟩, p, hp => by
    rw [List.map_cons, List.map_cons] at h1 h2
    injection h1 with e1 e2
    cases h2 with
    | cons ra rb =>
      rcases List.mem_cons.mp hp with rfl | hp
      · exact ⟨a, List.mem_cons_self, e1, ra⟩
      · obtain ⟨q, m, z⟩ := repK_mem ⟨e2, rb⟩ p hp
        exact ⟨q, List.mem_cons_of_mem _ m, z⟩
theorem repK_len {κ : Type} {ρ : List Addr} {H : Hp} {ks : List (κ × D)} {us : List (κ × V)} (h : RepK ρ H ks us) : ks.length = us.length := by
  have := congrArg List.length h.1
  rw [List.length_map, List.length_map] at this
  exact this
theorem ob_neD {X : Cx} (hu0 : X.A.units + 64 < cLine) : OpR X (compareOp .NotEq) (rB X.K oNeD) := by
  intro pins s σ H x y v u Q I rx ry ⟨ρ, st, d, e, a, st', hs, rd, re, h, k⟩
  have hu : X.A.units < cLine := by omega
  unfold oNeD at h
  split at h
  · split at h
    · rename_i ks ls hk hl
      split at h
      · rename_i hal
        cases h
        obtain ⟨p, rfl, hp⟩ := rd.locA
        obtain ⟨q, rfl, hq⟩ := re.locA
        unfold dkAt at hk hl
        split at hk
        · rename_i kv1 e1
          cases hk
          split at hl
          · rename_i kv2 e2
            cases hl
            obtain ⟨us, f1, r1⟩ := hs.ob _ _ p e1 hp
            obtain ⟨ws, f2, r2⟩ := hs.ob _ _ q e2 hq
            unfold alikeD at hal
            rw [Bool.and_eq_true, decide_eq_true_eq] at hal
            refine op_ne_dictA hu pins s σ H _ _ v u Q I rx ry ⟨p, q, us, ws, rfl, rfl, f1, f2, by rw [← repK_len r1, ← repK_len r2]; exact hal.1, fun z hz => ?_, k ρ H _ Le.refl hs (.bl _)⟩
            obtain ⟨z', m1, m2, m3⟩ := repK_mem r1 z hz
            have h1 := List.all_eq_true.mp hal.2 z' m1
            rcases lookK_rep z'.1 r2 with ⟨n1, _⟩ | ⟨d', w, n1, n2, n3⟩
            · rw [n1] at h1; exact (Bool.false_ne_true h1).elim
            · rw [n1] at h1
              obtain ⟨g1, g2⟩ := same_rep h1 m3 n3
              rw [← m2, n2, g1]
              exact ⟨rfl, g2⟩
          · cases hl
        · cases hk
      · cases h
    · cases h
  · cases h
/-! ### += of numbers and texts; int(text); membership in a constant dict -/
def oIAdd : O2
  | .int i, .int j, st => some (.int (i + j), st)
  | .str a, .str b, st => if a.length + b.length ≤ sizeLine then some (.str (a ++ b), st) else none
  | _, _, _ => none
theorem ob_iadd {X : Cx} : OpR X (inplaceOp .Add) (rB X.K oIAdd) := by
  intro pins s σ H x y v u Q I rx ry ⟨ρ, st, d, e, a, st', hs, rd, re, h, k⟩
  unfold oIAdd at h
  split at h
  · cases h; cases rd; cases re
    exact iop_add pins s σ H _ _ v u Q I rx ry ⟨_, _, rfl, rfl, k ρ H _ Le.refl hs (.int _)⟩
  · split at h
    · rename_i hl
      cases h; cases rd; cases re
      exact iop_add_str pins s σ H _ _ v u Q I rx ry ⟨_, _, rfl, rfl, hl, k ρ H _ Le.refl hs (.str _)⟩
    · cases h
  · cases h
def oIntX : OC := fun ds st => match ds with
  | [.str a] => match PySem.intText? a with
    | some n => if a.length ≤ 640 then some (.int n, st) else none
    | none => none
  | ds => oInt ds st
theorem ct_intX {X : Cx} : CallR X (.type "int") (rC X.K oIntX) := by
  intro pins s σ H vs us Q I r ⟨ρ, st, ds, a, st', hs, rs, h, k⟩
  unfold oIntX at h
  split at h
  · rename_i z
    split at h
    · rename_i n hn
      split at h
      · rename_i hl
        cases h
        cases rs with
        | cons r1 t1 =>
          cases t1
          cases r1
          exact call_int_str pins s σ H _ us Q I r ⟨_, n, rfl, hn, hl, k ρ H _ Le.refl hs (.int _)⟩
      · cases h
    · cases h
  · exact ct_int pins s σ H vs us Q I r ⟨ρ, st, _, a, st', hs, rs, h, k⟩
def eGIn (neg : Bool) (kvs : List (Str × Str)) (a : EM) : EM := fun en => bnd (a en) fun x => match x with
  | .str z => ret (.bl (if neg then !(lookS kvs z).isSome else (lookS kvs z).isSome))
  | _ => badM
section
variable {X : Cx} {W : WX} {a : Expr} {ma : EM} {pos : Pos}
theorem gin_rd {neg : Bool} {kvs : List (Str × Str)} {C : Addr} {K : PySem.W.Frag} {mg : Mg} (hC : ∀ z, ∃ r : Option Value, PySem.W.nsIn K C z = some r ∧ r.isSome = (lookS kvs z).isSome) {σ : L2.St} {H : Hp} {Q : VK} (h : rdE K mg W (eGIn neg kvs ma) σ H Q) :
    tOp (fun x y H Q => ∃ (z : Str) (r : Option Value), x = .str z ∧ y = .ref C ∧ PySem.W.nsIn K C z = some r ∧ Q (.bl (if neg then !r.isSome else r.isSome)) H) (rdE K mg W ma) (tC (.ref C)) σ H Q :=
  (Wh.bnd (m := ma) (f := fun en x => match x with | .str z => ret (D.bl (if neg then !(lookS kvs z).isSome else (lookS kvs z).isSome)) | _ => badM) h).imp fun ρ1 H1 st1 d _ ⟨en, he, hs, q⟩ v rv => by
    cases d with
    | str z =>
      dsimp only at q
      have kq := retE (Q := Q) hs q (.bl _)
      cases rv
      obtain ⟨r, h1, h2⟩ := hC z
      exact ⟨z, r, rfl, rfl, h1, by rw [h2]; exact kq⟩
    | _ => exact q.elim
variable {kvs : List (Str × Str)} {C : Addr} {x : Str} {p : Pos} {es : Array DictEntry} {n : Nat}
theorem je_gin (Dk : KDict X.K X.w C es n) (hC : ∀ z, ∃ r : Option Value, PySem.W.nsIn X.K C z = some r ∧ r.isSome = (lookS kvs z).isSome) (hg : Gl X x) (hm : X.mg x = some (.ref C)) (ha : JE X W a ma) (hd : (x == ("__debug__" : Str)) = false := by decide) : JE X W (.Compare a [.In] [.Name x p] pos) (eGIn false kvs ma) :=
  pe_imp (pe_cmpR (op_in_kd Dk) ha (pe_glob (v := .ref C) hg hm rfl hd) rfl) fun _ _ _ h => gin_rd (neg := false) hC h
theorem je_gnin (Dk : KDict X.K X.w C es n) (hC : ∀ z, ∃ r : Option Value, PySem.W.nsIn X.K C z = some r ∧ r.isSome = (lookS kvs z).isSome) (hg : Gl X x) (hm : X.mg x = some (.ref C)) (ha : JE X W a ma) (hd : (x == ("__debug__" : Str)) = false := by decide) : JE X W (.Compare a [.NotIn] [.Name x p] pos) (eGIn true kvs ma) :=
  pe_imp (pe_cmpR (op_notIn_kd Dk) ha (pe_glob (v := .ref C) hg hm rfl hd) rfl) fun _ _ _ h => gin_rd (neg := true) hC h
theorem jt_gin (Dk : KDict X.K X.w C es n) (hC : ∀ z, ∃ r : Option Value, PySem.W.nsIn X.K C z = some r ∧ r.isSome = (lookS kvs z).isSome) (hg : Gl X x) (hm : X.mg x = some (.ref C)) (ha : JE X W a ma) (hd : (x == ("__debug__" : Str)) = false := by decide) : JT X W (.Compare a [.In] [.Name x p] pos) (bOf (eGIn false kvs ma)) :=
  pt_imp (pt_cmpR (op_in_kd Dk) ha (pe_glob (v := .ref C) hg hm rfl hd) rfl) fun _ _ _ h => gin_rd (neg := false) hC (b_rd h)
theorem jt_gnin (Dk : KDict X.K X.w C es n) (hC : ∀ z, ∃ r : Option Value, PySem.W.nsIn X.K C z = some r ∧ r.isSome = (lookS kvs z).isSome) (hg : Gl X x) (hm : X.mg x = some (.ref C)) (ha : JE X W a ma) (hd : (x == ("__debug__" : Str)) = false := by decide) : JT X W (.Compare a [.NotIn] [.Name x p] pos) (bOf (eGIn true kvs ma)) :=
  pt_imp (pt_cmpR (op_notIn_kd Dk) ha (pe_glob (v := .ref C) hg hm rfl hd) rfl) fun _ _ _ h => gin_rd (neg := true) hC (b_rd h)
end
theorem ns_pairs {K : PySem.W.Frag} {C : Addr} {es : Array DictEntry} {n : Nat} {kvs : List (Str × Str)} (hl : K.lookup C = some ⟨.type "dict", none, .dict es n, #[]⟩) (hp : Paired (fun (e : DictEntry) (kv : Str × Str) => ∃ t u, e.key = .str kv.1 t ∧ e.val = .str kv.2 u) es.toList kvs) (z : Str) :
    (∃ u w, lookS kvs z = some w ∧ PySem.W.nsIn K C z = some (some (.str w u))) ∨ (lookS kvs z = none ∧ PySem.W.nsIn K C z = some none) := by
  unfold PySem.W.nsIn
  rw [hl]
  dsimp only
  have hr : es.toList.any (·.refKey) = false := by
    generalize es.toList = l at hp
    induction hp with
    | nil => rfl
    | cons h _ ih =>
      obtain ⟨t, u, e1, e2⟩ := h
      rw [List.any_cons, ih, Bool.or_false]
      unfold DictEntry.refKey
      rw [e1]
  rw [hr]
  clear hr hl
  generalize es.toList = l at hp
  induction hp with
  | nil => exact .inr ⟨rfl, rfl⟩
  | @cons e kv l' r h _ ih =>
    obtain ⟨t, u, e1, e2⟩ := h
    unfold lookS at ih ⊢
    rw [List.find?_cons, List.find?_cons]
    by_cases hz : kv.1 = z
    · have : e.key.isStr z = true := by rw [e1, hz]; simp [Value.isStr]
      rw [this, decide_eq_true hz]
      exact .inl ⟨u, kv.2, rfl, by dsimp only; rw [e2]⟩
    · have : e.key.isStr z = false := by rw [e1]; simp [Value.isStr, hz]
      rw [this, decide_eq_false hz]
      exact ih
/-- all that is asked of a constant dict of texts -/
structure CDct (K : PySem.W.Frag) (w : World) (C : Addr) (kvs : List (Str × Str)) : Prop where
  ex : ∃ es n, KDict K w C es n
  ix : ∀ z r, lookS kvs z = some r → KDct K w C z (.str r)
  has : ∀ z, ∃ r : Option Value, PySem.W.nsIn K C z = some r ∧ r.isSome = (lookS kvs z).isSome
theorem cdct_of {K : PySem.W.Frag} {w : World} {C : Addr} {es : Array DictEntry} {n : Nat} {kvs : List (Str × Str)} (hl : K.lookup C = some ⟨.type "dict", none, .dict es n, #[]⟩) (hk : PySem.W.KeysLit w.params es.toList) (hp : Paired (fun (e : DictEntry) (kv : Str × Str) => ∃ t u, e.key = .str kv.1 t ∧ e.val = .str kv.2 u) es.toList kvs) (lo : (C == sysModules) = false) : CDct K w C kvs where
  ex := ⟨es, n, hl, hk, lo⟩
  ix := fun z r h => by
    rcases ns_pairs hl hp z with ⟨u, v, h1, h2⟩ | ⟨h1, _⟩
    · rw [h1] at h; cases h
      exact ⟨es, n, _, hl, hk, h2, u, rfl⟩
    · rw [h1] at h; cases h
  has := fun z => by
    rcases ns_pairs hl hp z with ⟨u, v, h1, h2⟩ | ⟨h1, h2⟩
    · exact ⟨_, h2, by rw [h1]; rfl⟩
    · exact ⟨_, h2, by rw [h1]; rfl⟩
section
variable {X : Cx} {W : WX} {a : Expr} {ma : EM} {pos p : Pos} {kvs : List (Str × Str)} {C : Addr} {x : Str}
theorem je_cgix (h : CDct X.K X.w C kvs) (hg : Gl X x) (hm : X.mg x = some (.ref C)) (ha : JE X W a ma) (hs : PlainIx a := by intro _ _; rfl) (hd : (x == ("__debug__" : Str)) = false := by decide) : JE X W (.Subscript (.Name x p) a pos) (eGIx kvs ma) := je_gix h.ix hg hm ha hs hd
theorem je_cgin (h : CDct X.K X.w C kvs) (hg : Gl X x) (hm : X.mg x = some (.ref C)) (ha : JE X W a ma) (hd : (x == ("__debug__" : Str)) = false := by decide) : JE X W (.Compare a [.In] [.Name x p] pos) (eGIn false kvs ma) :=
  h.ex.elim fun _ h1 => h1.elim fun _ Dk => je_gin Dk h.has hg hm ha hd
theorem je_cgnin (h : CDct X.K X.w C kvs) (hg : Gl X x) (hm : X.mg x = some (.ref C)) (ha : JE X W a ma) (hd : (x == ("__debug__" : Str)) = false := by decide) : JE X W (.Compare a [.NotIn] [.Name x p] pos) (eGIn true kvs ma) :=
  h.ex.elim fun _ h1 => h1.elim fun _ Dk => je_gnin Dk h.has hg hm ha hd
theorem jt_cgin (h : CDct X.K X.w C kvs) (hg : Gl X x) (hm : X.mg x = some (.ref C)) (ha : JE X W a ma) (hd : (x == ("__debug__" : Str)) = false := by decide) : JT X W (.Compare a [.In] [.Name x p] pos) (bOf (eGIn false kvs ma)) :=
  h.ex.elim fun _ h1 => h1.elim fun _ Dk => jt_gin Dk h.has hg hm ha hd
theorem jt_cgnin (h : CDct X.K X.w C kvs) (hg : Gl X x) (hm : X.mg x = some (.ref C)) (ha : JE X W a ma) (hd : (x == ("__debug__" : Str)) = false := by decide) : JT X W (.Compare a [.NotIn] [.Name x p] pos) (bOf (eGIn true kvs ma)) :=
  h.ex.elim fun _ h1 => h1.elim fun _ Dk => jt_gnin Dk h.has hg hm ha hd
end
end Sh

set_option maxHeartbeats 1000000
/-! ShS: sets of texts and their sorted lists; sorted lists of texts; repr; all over the shallow layer. -/
namespace Sh
open PySem PySem.Spec PyProof.Rows L2

/-! ### a set of texts in the machine's heap -/
def txE (w : World) (e : Int × Value) : Prop := ∃ (k : Str) (u : Tok), e.2 = .str k u ∧ e.1 = hashStr w k
def txK (e : Int × Value) : Str := match e.2 with
  | .str k _ => k
  | _ => ⟨#[]⟩
/-- the set of the texts l stands at a, and can be walked -/
def TSet (w : World) (h : Heap) (a : Addr) (l : List Str) : Prop := ∃ o es ep t, h.get? a = some o ∧ o.ExactSet ∧ o.data = .set es ep t ∧ (∀ e ∈ es.toList, txE w e) ∧ (es.toList.map txK).Perm l ∧ l.Nodup ∧ es.size < scanBound ∧ t.fits es.size = true ∧ Ris t.place.toList ∧
  (w.params.followText "set-order" = true ∨ t.led = true)
def uAdd (l : List Str) (k : Str) : List Str := if k ∈ l then l else k :: l
def uniq (ss : List Str) : List Str := ss.foldl uAdd []
section
variable {P : Program} {w : World} {A : Around} {E : Value → Shared → Prop} {s : Shared} {a : Addr} {l : List Str}
theorem TSet.move {h h' : Heap} (R : TSet w h a l) (k : ∀ o, h.get? a = some o → h'.get? a = some o) : TSet w h' a l := by
  obtain ⟨o, es, ep, t, ho, q⟩ := R
  exact ⟨o, es, ep, t, k o ho, q⟩
theorem tx_elems {es : List (Int × Value)} (g : ∀ e ∈ es, txE w e) : ElemsOf (strKind P w) es := fun e he => by
  obtain ⟨k, u, h1, h2⟩ := g e he
  refine ⟨⟨k, ?_, h2⟩, ?_⟩
  · rw [h1]; exact strKind_is P w k u
  · rw [h1]; rfl
theorem tx_is {e : Int × Value} (g : txE w e) (k : Str) : (strKind P w).is k e.2 = true ↔ txK e = k := by
  obtain ⟨k0, u, h1, _⟩ := g
  unfold txK
  rw [h1]
  show (k0 == k) = true ↔ k0 = k
  exact beq_iff_eq
theorem tset_tail {g : Bool → Sem Unit} (hg : ∀ (b : Bool) (s₁ : Shared) (Q' : Unit → Shared → Prop), Q' () s₁ → wpAny (model P w) A (g b) Q' E s₁) {o : Obj} {es es1 : Array (Int × Value)} {ep : Nat} {t t2 : SetTable} (ho : s.heap.get? a = some o) (hex : o.ExactSet) (hd : o.data = .set es ep t)
    (g1 : ∀ e ∈ es1.toList, txE w e) (p1 : (es1.toList.map txK).Perm l) (nd : l.Nodup) (b1 : es1.size < scanBound) (f2 : t2.fits es1.size = true) (r2 : Ris t2.place.toList) (hl : w.params.followText "set-order" = true ∨ t2.led = true) {was : Bool} {R : Option Bool → Shared → Prop}
    (hR : ∀ h', Heap.SameBut a s.heap h' → TSet w h' a l → R (some true) { s with heap := h' }) :
    wpAny (model P w) A (storeSet a es1 t2 >>= fun _ => if (!was && t2.tooFull) = true then g (relayAll t2 es1 (SetTable.grown es1.size)).2.2 >>= fun _ => storeSet a (relayAll t2 es1 (SetTable.grown es1.size)).1 (relayAll t2 es1 (SetTable.grown es1.size)).2.1 >>= fun _ => pure (some true) else pure (some true)) R E s := by
  have one := store_at (es' := es1) (t' := t2) ho hd
  have sb := Heap.SameBut.update s.heap a (Obj.putSet es1 t2)
  refine wpAny_bind (wpAny_storeSet_of ho hd ?_ (fits_of_scanBound b1))
  by_cases hc : (!was && t2.tooFull) = true
  · rw [if_pos hc]
    have z1 := relayAll_perm t2 es1 (SetTable.grown es1.size)
    have z2 := relayAll_fits t2 es1 (SetTable.grown es1.size)
    have z3 := relayAll_ris t2 es1 (SetTable.grown es1.size)
    have z4 := relayAll_led t2 es1 (SetTable.grown es1.size)
    generalize relayAll t2 es1 (SetTable.grown es1.size) = zz at z1 z2 z3 z4 ⊢
    obtain ⟨es2, t3, gv⟩ := zz
    dsimp only at z1 z2 z3 z4 ⊢
    have hz : es2.size = es1.size := by rw [← Array.length_toList, ← Array.length_toList]; exact z1.length_eq
    refine wpAny_bind (hg _ _ _ ?_)
    refine wpAny_bind (wpAny_storeSet_of one rfl ?_ (fits_of_scanBound (by rw [hz]; exact b1)))
    refine wpAny_pure (hR _ (sb.trans (Heap.SameBut.update _ a _)) ⟨_, es2, _, t3, store_at one rfl, hex, rfl, fun e he => g1 e (z1.mem_iff.mp he), (z1.map txK).trans p1, nd, by rw [hz]; exact b1, z2, z3, ?_⟩)
    rcases hl with c | c
    · exact .inl c
    · exact .inr (z4.trans c)
  · rw [if_neg hc]
    exact wpAny_pure (hR _ sb ⟨_, es1, _, t2, one, hex, rfl, g1, p1, nd, b1, f2, r2, hl⟩)
theorem gave_way {M : Model} (b : Bool) (s₁ : Shared) (Q' : Unit → Shared → Prop) (q : Q' () s₁) : wpAny M A (match b with | true => rule "set.scan.the-table-gave-way" | false => pure ()) Q' E s₁ := by
  cases b
  · exact wpAny_pure q
  · exact wpAny_rule q
theorem tset_add {k : Str} {u : Tok} {Q : Bool → Shared → Prop} (R : TSet w s.heap a l) (room : l.length + 1 < scanBound) (hQ : ∀ h' b, Heap.SameBut a s.heap h' → TSet w h' a (uAdd l k) → Q b { s with heap := h' }) :
    wpAny (model P w) A (setAddHashed a (.str k u) ((strKind P w).hash k)) Q E s := by
  obtain ⟨o, es, ep, t, ho, hex, hd, g, pm, nd, hb, hf, hr, hl⟩ := id R
  have key : (strKind P w).is k (.str k u) = true := strKind_is P w k u
  have scn : (Value.str k u).scannable = true := rfl
  have hel : ElemsOf (strKind P w) es.toList := tx_elems g
  have memI : k ∈ l ↔ ∃ e ∈ es.toList, (strKind P w).is k e.2 = true := by
    rw [← pm.mem_iff, List.mem_map]
    exact ⟨fun ⟨e, m, q⟩ => ⟨e, m, (tx_is (g e m) k).2 q⟩, fun ⟨e, m, q⟩ => ⟨e, m, (tx_is (g e m) k).1 q⟩⟩
  unfold setAddHashed setAddHashedIn
  refine wpAny_holding (wpAny_bind (wpAny_setState_of ho hd hf ?_))
  dsimp only
  rw [byScan_of scn hb hel]
  simp only [↓reduceIte]
  unfold setAddByScan
  refine wpAny_bind (wpAny_bind (wpAny_rule (wpAny_bind (wpAny_setScan_of key ho hd hf hel ?_))))
  cases hfi : List.findIdx? (fun e => (strKind P w).is k e.2) es.toList with
  | some j =>
    dsimp only
    obtain ⟨hj, pj, _⟩ := List.findIdx?_eq_some_iff_getElem.mp hfi
    have hk : k ∈ l := memI.2 ⟨es.toList[j], List.getElem_mem hj, pj⟩
    exact wpAny_pure (wpAny_pure (hQ s.heap false (Heap.SameBut.refl a s.heap) (by rw [uAdd, if_pos hk]; exact R)))
  | none =>
    dsimp only
    have hk : k ∉ l := fun z => by
      obtain ⟨e, m, q⟩ := memI.1 z
      have c := List.findIdx?_eq_none_iff.mp hfi e m
      rw [q] at c
      cases c
    have z1 := layNew_perm t es ((strKind P w).hash k) (.str k u)
    have z2 := layNew_fits t es ((strKind P w).hash k) (.str k u)
    have z3 := layNew_ris t es ((strKind P w).hash k) (.str k u) hr
    have z4 := layNew_led t es ((strKind P w).hash k) (.str k u)
    generalize layNew t es ((strKind P w).hash k) (.str k u) = zz at z1 z2 z3 z4 ⊢
    obtain ⟨es1, t1, was, gv⟩ := zz
    dsimp only at z1 z2 z3 z4 ⊢
    rw [Array.toList_push] at z1
    have pc : es1.toList.Perm (((strKind P w).hash k, Value.str k u) :: es.toList) := z1.trans (List.perm_append_singleton _ _)
    have pk : (es1.toList.map txK).Perm (k :: l) := (pc.map txK).trans (List.Perm.cons k pm)
    have g1 : ∀ e ∈ es1.toList, txE w e := fun e he => by
      rcases List.mem_cons.mp (pc.mem_iff.mp he) with z | z
      · subst z; exact ⟨k, u, rfl, rfl⟩
      · exact g e z
    have nd1 : (k :: l).Nodup := List.nodup_cons.mpr ⟨hk, nd⟩
    have hsz : es1.size = l.length + 1 := by
      rw [← Array.length_toList, ← List.length_map (f := txK), pk.length_eq]; rfl
    have hb1 : es1.size < scanBound := by rw [hsz]; exact room
    have led1 : w.params.followText "set-order" = true ∨ t1.led = true := by
      rcases hl with c | c
      · exact .inl c
      · exact .inr (z4.trans c)
    have fin : ∀ h', Heap.SameBut a s.heap h' → TSet w h' a (k :: l) → Q true { s with heap := h' } := fun h' sb r => hQ h' true sb (by rw [uAdd, if_neg hk]; exact r)
    refine wpAny_bind (gave_way _ _ _ ?_)
    split
    · refine wpAny_bind ?_
      rw [hashByValue_scannable 8 scn]
      refine wpAny_pure (tset_tail gave_way ho hex hd g1 pk nd1 hb1 ?_ ?_ ?_ fun h' sb r => ?_)
      · split
        · exact z2
        · exact SetTable.fits_plain_off z2
      · split <;> exact z3
      · split <;> exact led1
      · dsimp only; exact wpAny_pure (fin h' sb r)
    · refine wpAny_bind (wpAny_pure ?_)
      simp only [↓reduceIte]
      refine tset_tail gave_way ho hex hd g1 pk nd1 hb1 z2 z3 led1 fun h' sb r => ?_
      dsimp only; exact wpAny_pure (fin h' sb r)
end
/-! ### uniq -/
theorem uniq_snoc (l : List Str) (k : Str) : uniq (l ++ [k]) = uAdd (uniq l) k := by unfold uniq; rw [List.foldl_append]; rfl
theorem uAdd_len (l : List Str) (k : Str) : l.length ≤ (uAdd l k).length := by unfold uAdd; split <;> simp
theorem fold_len : ∀ (m l : List Str), l.length ≤ (m.foldl uAdd l).length
  | [], _ => Nat.le_refl _
  | k :: m, l => Nat.le_trans (uAdd_len l k) (fold_len m (uAdd l k))
theorem uniq_take (l : List Str) (i : Nat) : (uniq (l.take i)).length ≤ (uniq l).length := by
  have h : uniq l = (l.drop i).foldl uAdd (uniq (l.take i)) := by
    unfold uniq
    rw [← List.foldl_append, List.take_append_drop]
  rw [h]
  exact fold_len _ _
theorem mem_uAdd {l : List Str} {k x : Str} : x ∈ uAdd l k ↔ x ∈ l ∨ x = k := by
  unfold uAdd
  split
  · rename_i h
    exact ⟨.inl, fun z => z.elim id fun e => e ▸ h⟩
  · rw [List.mem_cons]; exact Or.comm
theorem mem_fold {x : Str} : ∀ (m l : List Str), x ∈ m.foldl uAdd l ↔ x ∈ l ∨ x ∈ m
  | [], l => by simp
  | k :: m, l => by
    rw [List.foldl_cons, mem_fold m, mem_uAdd, List.mem_cons, or_assoc]
theorem mem_uniq {x : Str} (l : List Str) : x ∈ uniq l ↔ x ∈ l := by
  unfold uniq
  rw [mem_fold]
  simp
theorem nd_uAdd {l : List Str} {k : Str} (h : l.Nodup) : (uAdd l k).Nodup := by
  unfold uAdd
  split
  · exact h
  · rename_i q; exact List.nodup_cons.mpr ⟨q, h⟩
theorem nd_fold : ∀ (m l : List Str), l.Nodup → (m.foldl uAdd l).Nodup
  | [], _, h => h
  | k :: m, l, h => nd_fold m _ (nd_uAdd h)
theorem nd_uniq (l : List Str) : (uniq l).Nodup := nd_fold l [] List.nodup_nil
/-! ### set(xs) of a list of texts -/
section
variable {P : Program} {w : World} {A : Around} {E : Value → Shared → Prop} {s : Shared}
theorem tset_loop {I : Addr} {fp wr : List Addr} {G : Array GenState → Array GenState → Prop} {n : Nat} {Pv : Nat → Value → Prop} {St : Nat → Shared → Prop} {R : Result → Shared → Prop} (W : WalksS P w A.in1 I fp wr G n Pv St) (S : Addr) (hSf : S ∉ fp) (ss : List Str) (hn : n = ss.length) (hval : ∀ i v, Pv i v → ∃ x u, ss[i]? = some x ∧ v = .str x u) (hb : (uniq ss).length + 1 < scanBound) :
    ∀ (k i : Nat) (s : Shared), n - i = k → i ≤ n → St i s → TSet w s.heap S (uniq (ss.take i)) → (∀ s', Moved (S :: wr) G s s' → TSet w s'.heap S (uniq ss) → R (.ok (.ret .none)) s') → codeAny (model P w) A (.builtin "set.update.loop" ⟨[.ref S, .ref I], []⟩) R s := by
  have out : S ∉ wr := fun h => hSf (W.sub _ h)
  have sub : ∀ b ∈ wr, b ∈ S :: wr := fun b h => List.mem_cons_of_mem _ h
  intro k
  induction k with
  | zero =>
    intro i s hk hi hst hS hR
    obtain rfl : i = n := by omega
    rw [hn, List.take_length] at hS
    refine codeAny_builtin F.entry_set_update_loop ?_
    rw [Around.under_plainId F.plain_set_update_loop _]
    show wpAny _ A.in1 (pyNext (.ref I) >>= _) _ _ s
    refine wpAny_bind (W.done s _ _ hst fun s' hm => ?_)
    show wpAny _ A.in1 (PySem.ret Value.none) _ _ s'
    exact wpAny_pure (hR s' (hm.mono sub) (hS.move fun o e => hm.heap S o out e))
  | succ k ih =>
    intro i s hk hi hst hS hR
    have hlt : i < n := by omega
    refine codeAny_builtin F.entry_set_update_loop ?_
    rw [Around.under_plainId F.plain_set_update_loop _]
    show wpAny _ A.in1 (pyNext (.ref I) >>= _) _ _ s
    refine wpAny_bind (W.item i s _ _ hlt hst fun v s' hP hst' hm => ?_)
    obtain ⟨x, u, hx, rfl⟩ := hval i v hP
    have e1 : uniq (ss.take (i + 1)) = uAdd (uniq (ss.take i)) x := by
      rw [List.take_add_one, hx]; exact uniq_snoc _ _
    show wpAny _ A.in1 (holding [Value.str x u] (setAdd S (.str x u)) >>= _) _ _ s'
    refine wpAny_bind (wpAny_holding ?_)
    unfold setAdd
    refine wpAny_holding (wpAny_bind ((strKind P w).pyHash (k := x) (strKind_is P w x u) ?_))
    refine tset_add (s := { s' with toks := s'.toks + 1 }) (hS.move fun o e => hm.heap S o out e) (by have := uniq_take ss i; omega) fun h' b sb h2 => ?_
    rw [← e1] at h2
    refine wpAny_pure ⟨plainId_quiet F.plain_set_update_loop _, ih (i + 1) _ (by omega) hlt (W.frame _ s' _ _ hst' (Nat.le_succ _) fun c hc o e => ?_) h2 fun s'' m2 h3 => ?_⟩
    · exact (sb.2 c fun z : c = S => hSf (z ▸ hc)).trans e
    · refine hR s'' (Moved.trans W.gtrans ((hm.mono sub).then_heap (Nat.le_succ _) fun c o hc e => ?_) m2) h3
      exact (sb.2 c fun z : c = S => hc (z ▸ List.mem_cons_self)).trans e
theorem tset_fresh {h : Heap} {a : Addr} (ho : h.get? a = some { cls := .type "set", dict := none, data := .set #[] 0 (.fresh 0 0 (!w.params.followText "set-order")) }) : TSet w h a [] := by
  refine ⟨_, #[], 0, _, ho, ⟨rfl, rfl, rfl⟩, rfl, ?_, ?_, List.nodup_nil, by decide, by rfl, List.Pairwise.nil, ?_⟩
  · intro e he; simp at he
  · exact List.Perm.refl _
  · show _ ∨ (!w.params.followText "set-order") = true
    cases w.params.followText "set-order"
    · exact .inr rfl
    · exact .inl rfl
theorem strs_at {vs : List Value} {ss : List Str} (r : StrsAre vs ss) : ∀ (i : Nat) (v : Value), vs[i]? = some v → ∃ x u, ss[i]? = some x ∧ v = .str x u := by
  induction r with
  | nil => intro i v h; simp at h
  | cons x u _ ih =>
    intro i v h
    cases i with
    | zero => simp at h; subst h; exact ⟨x, u, rfl, rfl⟩
    | succ i => exact ih i v (by simpa using h)
end
section
variable {P : Program} {w : World} {A : Around} {E : Value → Shared → Prop} {s : Shared}
abbrev newS (w : World) : Obj := { cls := .type "set", dict := none, data := .set #[] 0 (.fresh 0 0 (!w.params.followText "set-order")) }
set_option maxHeartbeats 3200000 in
/-- set(xs), xs a list of texts -/
theorem call_tset_list {l : Addr} {items : Array Value} (ss : List Str) {Q : Value → Shared → Prop} (hh : A.handled = none) (hl : s.heap.IsList l items) (hit : StrsAre items.toList ss) (hb : (uniq ss).length + 1 < scanBound)
    (h : ∀ (h' : Heap) (tk : Nat), TSet w h' s.heap.objs.size (uniq ss) → (∀ b o, s.heap.get? b = some o → h'.get? b = some o) → Q (.ref s.heap.objs.size) { s with heap := h', toks := tk }) :
    wpAny (model P w) A (call (.type "set") [.ref l]) Q E s := by
  have hisz : items.size = ss.length := by
    rw [← Array.length_toList]
    exact hit.length
  obtain ⟨c, tl, hmro⟩ := F.called_set.mro
  have hmade := F.called_set.made
  have hsub := F.called_set.sub
  refine wpAny_call (codeAny_of_tree ?_)
  show wpAny _ _ (callAny (.type "set") _) _ _ _
  refine wpAny_pure ⟨Code.quiet_builtin _ (by decide +kernel), codeAny_builtin F.entry_type_call ?_⟩
  rw [Around.under_plain (weight_type_call_type "set" [.ref l] []) rfl]
  have h1 := F.called_set.notType
  have h2 := F.called_set.canCreate
  have hct := F.typeCall_set_1 (.ref l)
  repeat (any_goals (first | assumption | wp_step))
  refine codeAny_mono (code_set_led1 (.ref l) (E := E) (Q₁ := fun obj s₁ => obj = .ref s.heap.objs.size ∧ s₁ = { s with heap := s.heap.push (newS w) }) ⟨rfl, rfl⟩) fun r s₁ hr => ?_
  cases r with
  | error e => exact hr
  | ok fl =>
    cases fl with
    | ret obj =>
      obtain ⟨rfl, rfl⟩ := hr
      have hS : (s.heap.push (newS w)).get? s.heap.objs.size = some (newS w) := Heap.get?_push_size _ rfl
      have hT : Shared.TypeIs { s with heap := s.heap.push (newS w) } (.ref s.heap.objs.size) "set" := ⟨_, hS, rfl⟩
      have hli := F.called_set.init.lookup
      have hbi := F.called_set.init.bind (.ref s.heap.objs.size)
      repeat (any_goals (first | assumption | wp_step))
      refine codeAny_mono (codeAny_call_builtin (R := wants (fun r s₂ => r = .none ∧ ∃ h' tk, s₂ = { s with heap := h', toks := tk } ∧ TSet w h' s.heap.objs.size (uniq ss) ∧ (∀ b o, s.heap.get? b = some o → h'.get? b = some o)) E) F.called_set.init.plain F.entry_set_init (check_set_init_1 hT ?_)) fun r₂ s₂ hr₂ => ?_
      · obtain ⟨ol, hol, hcl, nl, hdl⟩ := hl
        obtain ⟨ocls, odict, odata, oslots⟩ := ol
        simp only at hcl hdl
        subst hcl; subst hdl
        have hol' : (s.heap.push (newS w)).get? l = some { cls := .type "list", dict := odict, data := .seq items nl, slots := oslots } := Heap.get?_push_of_some _ hol
        have hsls := F.sub_list_set
        have hslf := F.sub_list_frozenset
        have hne : (Value.type "list" == Value.type "dict") = false := by decide
        have hl1 : (s.heap.push (newS w)).IsList l items := ⟨_, hol', rfl, nl, rfl⟩
        unfold Builtin.«set.__init__» noKeywords Builtin.Frozenset.updateFrom
        generalize hPI : pyIter = PI
        wp_walk
        subst hPI
        refine wpAny_pyIter_list hl1 ?_
        refine wpAny_bind (wpAny_runValue ?_)
        have hlS : l < s.heap.objs.size := Heap.lt_size hol
        have hh3 : A.in1.in1.in1.handled = none := by simp [hh]
        have hneI : l ≠ (s.heap.push (newS w)).objs.size := by
          rw [Heap.size_push]; exact Nat.ne_of_lt (Nat.lt_succ_of_lt hlS)
        have hSf : s.heap.objs.size ∉ [(s.heap.push (newS w)).objs.size, l] := by
          rw [Heap.size_push]
          simp only [List.mem_cons, List.mem_singleton, List.not_mem_nil, or_false, not_or]
          exact ⟨Nat.ne_of_lt (Nat.lt_succ_self _), Nat.ne_of_gt hlS⟩
        refine tset_loop ((Walks.list hh3 _ l hneI items).toS) s.heap.objs.size hSf ss hisz (fun i v hv => strs_at hit i v (by rw [Array.getElem?_toList]; exact hv)) hb (items.size - 0) 0 _ (by omega) (Nat.zero_le _)
          ⟨⟨_, Heap.get?_push_size _ rfl, rfl, rfl⟩, (hl1.push _)⟩ (tset_fresh (Heap.get?_push_of_some _ hS)) fun s' hm hS' => ?_
        obtain ⟨h', g2, d', tk', os'⟩ := s'
        have eg : g2 = s.gens := hm.gens
        have ed : d' = s.drawn := hm.drawn
        have eo : os' = s.os := hm.os
        subst eg; subst ed; subst eo
        show wpAny _ _ _ _ _ _
        refine wpAny_pure ?_
        show wpAny _ _ (PySem.ret Value.none) _ _ _
        refine wpAny_pure ⟨rfl, h', tk', rfl, hS', fun b o e => ?_⟩
        have hb0 : b < s.heap.objs.size := Heap.lt_size e
        have hb1 : b ≠ s.heap.objs.size := Nat.ne_of_lt hb0
        have hb2 : b ≠ (s.heap.push (newS w)).objs.size := by
          rw [Heap.size_push]; exact Nat.ne_of_lt (Nat.lt_succ_of_lt hb0)
        exact hm.heap b o (by simp only [List.mem_cons, List.mem_singleton, List.not_mem_nil, or_false, not_or]; exact ⟨hb1, hb2⟩) (Heap.get?_push_of_some _ (Heap.get?_push_of_some _ e))
      · cases r₂ with
        | error e => exact hr₂
        | ok fl₂ =>
          cases fl₂ with
          | ret r =>
            obtain ⟨rfl, h', tk, rfl, hS', hk'⟩ := hr₂
            repeat (any_goals (first | assumption | wp_step))
            exact h _ _ hS' hk'
          | _ => exact hr₂.elim
    | _ => exact hr.elim
set_option maxHeartbeats 3200000 in
/-- set(xs), xs a tuple of texts -/
theorem call_tset_tuple {l : Addr} {items : Array Value} (ss : List Str) {Q : Value → Shared → Prop} (hh : A.handled = none) (hl : s.heap.IsTuple l items) (hit : StrsAre items.toList ss) (hb : (uniq ss).length + 1 < scanBound)
    (h : ∀ (h' : Heap) (tk : Nat), TSet w h' s.heap.objs.size (uniq ss) → (∀ b o, s.heap.get? b = some o → h'.get? b = some o) → Q (.ref s.heap.objs.size) { s with heap := h', toks := tk }) :
    wpAny (model P w) A (call (.type "set") [.ref l]) Q E s := by
  have hisz : items.size = ss.length := by
    rw [← Array.length_toList]
    exact hit.length
  obtain ⟨c, tl, hmro⟩ := F.called_set.mro
  have hmade := F.called_set.made
  have hsub := F.called_set.sub
  refine wpAny_call (codeAny_of_tree ?_)
  show wpAny _ _ (callAny (.type "set") _) _ _ _
  refine wpAny_pure ⟨Code.quiet_builtin _ (by decide +kernel), codeAny_builtin F.entry_type_call ?_⟩
  rw [Around.under_plain (weight_type_call_type "set" [.ref l] []) rfl]
  have h1 := F.called_set.notType
  have h2 := F.called_set.canCreate
  have hct := F.typeCall_set_1 (.ref l)
  repeat (any_goals (first | assumption | wp_step))
  refine codeAny_mono (code_set_led1 (.ref l) (E := E) (Q₁ := fun obj s₁ => obj = .ref s.heap.objs.size ∧ s₁ = { s with heap := s.heap.push (newS w) }) ⟨rfl, rfl⟩) fun r s₁ hr => ?_
  cases r with
  | error e => exact hr
  | ok fl =>
    cases fl with
    | ret obj =>
      obtain ⟨rfl, rfl⟩ := hr
      have hS : (s.heap.push (newS w)).get? s.heap.objs.size = some (newS w) := Heap.get?_push_size _ rfl
      have hT : Shared.TypeIs { s with heap := s.heap.push (newS w) } (.ref s.heap.objs.size) "set" := ⟨_, hS, rfl⟩
      have hli := F.called_set.init.lookup
      have hbi := F.called_set.init.bind (.ref s.heap.objs.size)
      repeat (any_goals (first | assumption | wp_step))
      refine codeAny_mono (codeAny_call_builtin (R := wants (fun r s₂ => r = .none ∧ ∃ h' tk, s₂ = { s with heap := h', toks := tk } ∧ TSet w h' s.heap.objs.size (uniq ss) ∧ (∀ b o, s.heap.get? b = some o → h'.get? b = some o)) E) F.called_set.init.plain F.entry_set_init (check_set_init_1 hT ?_)) fun r₂ s₂ hr₂ => ?_
      · obtain ⟨ol, hol, hcl, nl, hdl⟩ := hl
        obtain ⟨ocls, odict, odata, oslots⟩ := ol
        simp only at hcl hdl
        subst hcl; subst hdl
        have hol' : (s.heap.push (newS w)).get? l = some { cls := .type "tuple", dict := odict, data := .seq items nl, slots := oslots } := Heap.get?_push_of_some _ hol
        have hsls := F.sub_tuple_set
        have hslf := F.sub_tuple_frozenset
        have hne : (Value.type "tuple" == Value.type "dict") = false := by decide
        have hl1 : (s.heap.push (newS w)).IsTuple l items := ⟨_, hol', rfl, nl, rfl⟩
        unfold Builtin.«set.__init__» noKeywords Builtin.Frozenset.updateFrom
        generalize hPI : pyIter = PI
        wp_walk
        subst hPI
        refine wpAny_pyIter_tuple hl1 ?_
        refine wpAny_bind (wpAny_runValue ?_)
        have hlS : l < s.heap.objs.size := Heap.lt_size hol
        have hh3 : A.in1.in1.in1.handled = none := by simp [hh]
        have hneI : l ≠ (s.heap.push (newS w)).objs.size := by
          rw [Heap.size_push]; exact Nat.ne_of_lt (Nat.lt_succ_of_lt hlS)
        have hSf : s.heap.objs.size ∉ [(s.heap.push (newS w)).objs.size, l] := by
          rw [Heap.size_push]
          simp only [List.mem_cons, List.mem_singleton, List.not_mem_nil, or_false, not_or]
          exact ⟨Nat.ne_of_lt (Nat.lt_succ_self _), Nat.ne_of_gt hlS⟩
        refine tset_loop ((Walks.tuple hh3 _ l hneI items).toS) s.heap.objs.size hSf ss hisz (fun i v hv => strs_at hit i v (by rw [Array.getElem?_toList]; exact hv)) hb (items.size - 0) 0 _ (by omega) (Nat.zero_le _)
          ⟨⟨_, Heap.get?_push_size _ rfl, rfl, rfl⟩, (hl1.push _)⟩ (tset_fresh (Heap.get?_push_of_some _ hS)) fun s' hm hS' => ?_
        obtain ⟨h', g2, d', tk', os'⟩ := s'
        have eg : g2 = s.gens := hm.gens
        have ed : d' = s.drawn := hm.drawn
        have eo : os' = s.os := hm.os
        subst eg; subst ed; subst eo
        show wpAny _ _ _ _ _ _
        refine wpAny_pure ?_
        show wpAny _ _ (PySem.ret Value.none) _ _ _
        refine wpAny_pure ⟨rfl, h', tk', rfl, hS', fun b o e => ?_⟩
        have hb0 : b < s.heap.objs.size := Heap.lt_size e
        have hb1 : b ≠ s.heap.objs.size := Nat.ne_of_lt hb0
        have hb2 : b ≠ (s.heap.push (newS w)).objs.size := by
          rw [Heap.size_push]; exact Nat.ne_of_lt (Nat.lt_succ_of_lt hb0)
        exact hm.heap b o (by simp only [List.mem_cons, List.mem_singleton, List.not_mem_nil, or_false, not_or]; exact ⟨hb1, hb2⟩) (Heap.get?_push_of_some _ (Heap.get?_push_of_some _ e))
      · cases r₂ with
        | error e => exact hr₂
        | ok fl₂ =>
          cases fl₂ with
          | ret r =>
            obtain ⟨rfl, h', tk, rfl, hS', hk'⟩ := hr₂
            repeat (any_goals (first | assumption | wp_step))
            exact h _ _ hS' hk'
          | _ => exact hr₂.elim
    | _ => exact hr.elim
end
/-! ### the order of texts -/
def leS (a b : Str) : Bool := !decide (b.cps.toList < a.cps.toList)
def insS (x : Str) : List Str → List Str
  | [] => [x]
  | y :: r => if leS x y = true then x :: y :: r else y :: insS x r
def srtS : List Str → List Str
  | [] => []
  | x :: r => insS x (srtS r)
theorem str_ext {a b : Str} (h : a.cps.toList = b.cps.toList) : a = b := by
  cases a; cases b
  simp only [Str.mk.injEq]
  exact Array.toList_inj.mp h
theorem leS_iff {a b : Str} : leS a b = true ↔ ¬ b.cps.toList < a.cps.toList := by unfold leS; simp
theorem leS_anti {a b : Str} (h : leS a b = true) (h' : leS b a = true) : a = b := str_ext (List.le_antisymm (List.not_lt.mp (leS_iff.mp h)) (List.not_lt.mp (leS_iff.mp h')))
theorem leS_trans {a b c : Str} (h : leS a b = true) (h' : leS b c = true) : leS a c = true := leS_iff.mpr (List.not_lt.mpr (List.le_trans (List.not_lt.mp (leS_iff.mp h)) (List.not_lt.mp (leS_iff.mp h'))))
theorem leS_total (a b : Str) : leS a b = true ∨ leS b a = true := by
  rcases List.le_total a.cps.toList b.cps.toList with h | h
  · exact .inl (leS_iff.mpr (List.not_lt.mpr h))
  · exact .inr (leS_iff.mpr (List.not_lt.mpr h))
abbrev PwS (l : List Str) : Prop := l.Pairwise fun a b => leS a b = true
theorem ins_perm (x : Str) : ∀ l, (insS x l).Perm (x :: l)
  | [] => List.Perm.refl _
  | y :: r => by
    unfold insS
    split
    · exact List.Perm.refl _
    · exact ((ins_perm x r).cons y).trans (List.Perm.swap x y r)
theorem ins_pw (x : Str) : ∀ l, PwS l → PwS (insS x l)
  | [], _ => List.pairwise_singleton _ _
  | y :: r, h => by
    obtain ⟨h1, h2⟩ := List.pairwise_cons.mp h
    unfold insS
    split
    · rename_i q
      refine List.pairwise_cons.mpr ⟨fun z hz => ?_, h⟩
      rcases List.mem_cons.mp hz with rfl | hz
      · exact q
      · exact leS_trans q (h1 z hz)
    · rename_i q
      refine List.pairwise_cons.mpr ⟨fun z hz => ?_, ins_pw x r h2⟩
      rcases List.mem_cons.mp ((ins_perm x r).mem_iff.mp hz) with rfl | hz
      · exact (leS_total z y).resolve_left q
      · exact h1 z hz
theorem srt_perm : ∀ l, (srtS l).Perm l
  | [] => List.Perm.refl _
  | x :: r => (ins_perm x (srtS r)).trans ((srt_perm r).cons x)
theorem srt_pw : ∀ l, PwS (srtS l)
  | [] => List.Pairwise.nil
  | x :: r => ins_pw x _ (srt_pw r)
theorem pw_unique {l m : List Str} (h : PwS l) (h' : PwS m) (p : l.Perm m) : l = m := List.Perm.eq_of_pairwise (fun a b _ _ q q' => leS_anti q q') h h' p
theorem rising_pw : ∀ (l : List Str) (p : Str), risingS p l = true → PwS (p :: l)
  | [], p, _ => List.pairwise_singleton _ _
  | x :: r, p, h => by
    have h' : (!ltCps x.cps.toList p.cps.toList && risingS x r) = true := h
    rw [Bool.and_eq_true] at h'
    have h1 : leS p x = true := by unfold leS; rw [← ltCps_eq]; exact h'.1
    have h2 := rising_pw r x h'.2
    refine List.pairwise_cons.mpr ⟨fun z hz => ?_, h2⟩
    rcases List.mem_cons.mp hz with rfl | hz
    · exact h1
    · exact leS_trans h1 ((List.pairwise_cons.mp h2).1 z hz)
theorem sorted_pw {l : List Str} (h : sortedS l = true) : PwS l := by
  cases l with
  | nil => exact List.Pairwise.nil
  | cons x r => exact rising_pw r x h
theorem srt_of {l m : List Str} (h : sortedS l = true) (p : l.Perm m) : l = srtS m := pw_unique (sorted_pw h) (srt_pw m) (p.trans (srt_perm m).symm)
theorem srt_len (l : List Str) : (srtS l).length = l.length := (srt_perm l).length_eq
theorem mem_srt {l : List Str} {x : Str} : x ∈ srtS l ↔ x ∈ l := (srt_perm l).mem_iff
/-! ### sorted of a set of texts -/
section
variable {P : Program} {w : World} {A : Around} {E : Value → Shared → Prop} {s : Shared} {a : Addr} {l : List Str}
theorem strs_are : ∀ (vs : List Value), (∀ v ∈ vs, ∃ k u, v = Value.str k u) → StrsAre vs (vs.map fun v => match v with | .str k _ => k | _ => ⟨#[]⟩)
  | [], _ => .nil
  | v :: r, h => by
    obtain ⟨k, u, rfl⟩ := h v List.mem_cons_self
    exact .cons k u (strs_are r fun z hz => h z (List.mem_cons_of_mem _ hz))
theorem sorted_tset {Q : Value → Shared → Prop} (R : TSet w s.heap a l) (hh : A.handled = none) (hQ : ∀ s' p (out : Array Value) (c : Nat), (∀ b o, s.heap.get? b = some o → s'.heap.get? b = some o) → s'.gens = s.gens → s'.os = s.os → s.heap.objs.size ≤ p → s'.heap.get? p = some (seqObj "list" out c) → StrsAre out.toList (srtS l) → Q (.ref p) s') :
    wpAny (model P w) A (call (.builtin "sorted") [.ref a]) Q E s := by
  obtain ⟨o, es, ep, t, ho, hex, hd, g, pm, nd, hb, hf, hr, hl⟩ := R
  refine Calls.call_function_entry kind_sorted plain_sorted entry_sorted (args_sorted1 _) ?_
  unfold Builtin.«sorted»
  refine wpAny_bind (m := checkCount "sorted" 1 1 _) (wpAny_pure ?_)
  refine wpAny_bind (collect_set (A := A.in1) hh ⟨o, ho, hex.1, hd⟩ hf hb hr hl fun s1 vs k1 hz g1 o1 p1 => ?_)
  have hI := strs_are vs fun v hv => by
    obtain ⟨e, he, q⟩ := List.mem_map.mp (p1.mem_iff.mp hv)
    obtain ⟨k, u, h1, _⟩ := g e he
    exact ⟨k, u, q ▸ h1⟩
  have pk : (vs.map fun v => match v with | .str k _ => k | _ => (⟨#[]⟩ : Str)).Perm l := by
    have q := p1.map fun v => match v with | .str k _ => k | _ => (⟨#[]⟩ : Str)
    rw [List.map_map] at q
    exact q.trans pm
  have hvl : vs.length ≤ sizeLine := by
    rw [p1.length_eq, List.length_map, Array.length_toList]
    exact fits_of_scanBound hb
  generalize (vs.map fun v => match v with | .str k _ => k | _ => (⟨#[]⟩ : Str)) = ss at hI pk
  refine wpAny_bind (wpAny_newList ?_ hvl)
  have hoL : (s1.heap.push (seqObj "list" vs.toArray 0)).get? s1.heap.objs.size = some (seqObj "list" vs.toArray 0) := Heap.get?_push_size _ rfl
  refine wpAny_bind (wpAny_holding (wpAny_call_entry slot_list_sort ⟨_, hoL, rfl⟩ entry_list_sort (list_sort_treeKAny strKind_oneLt hoL hI.keysOf (fun v₁ v₂ rest e => keyKind_strs (by rw [← e]; exact hI)) hvl fun st' a1 a2 => ⟨_, rfl, ?_⟩) (args_list_sort _)))
  obtain ⟨ss', b1, b2, b3⟩ := sorted_out_str hI a1 a2
  obtain ⟨c, hc⟩ := sortedHeap_at (vs := vs) (out := (arrOf st').map (·.2)) hoL
  have e1 := srt_of b3 (b2.trans pk)
  rw [e1] at b1
  refine wpAny_pure ⟨_, rfl, hQ _ s1.heap.objs.size _ c (fun b u e => ?_) g1 o1 hz hc b1⟩
  have q := k1 b u e
  have hlt := Heap.lt_size q
  show (sortedHeap (s1.heap.push (seqObj "list" vs.toArray 0)) s1.heap.objs.size vs ((arrOf st').map (·.2))).get? b = some u
  rw [sortedHeap_old (Nat.ne_of_lt hlt) (by rw [size_push']; exact Nat.lt_succ_of_lt hlt)]
  exact Heap.get?_push_of_some _ q
end
/-! ### over the layer -/
def TsO (w : World) (a : Addr) (l : List Str) : HO := .ext fun h => TSet w h a l
theorem tsO_new {P : Program} {w : World} {H : Hp} {h : Heap} {a : Addr} {l : List Str} (R : TSet w h a l) : ObjOk P w H h a (TsO w a l) := by
  have ⟨o, es, ep, t, ho, q⟩ := R
  exact ⟨R, ⟨o, ho⟩, fun h1 h2 p k => TSet.move p (k)⟩
def rSetS (K : PySem.W.Frag) (w : World) : List V → Hp → VK → Prop := fun xs H Q => ∃ (p : Addr) (ss : List Str), xs = [V.ref p] ∧ (SqL K H p (ss.map V.str) ∨ SqT K H p (ss.map V.str)) ∧ (uniq ss).length + 1 < scanBound ∧ ∀ a, H a = none → Q (.ref a) (upd H a (TsO w a (uniq ss)))
def rSortTs (w : World) : List V → Hp → VK → Prop := fun xs H Q => ∃ (a : Addr) (l : List Str), xs = [V.ref a] ∧ H a = some (TsO w a l) ∧ l.length ≤ sizeLine ∧ ∀ p, H p = none → Q (.ref p) (upd H p (.lst ((srtS l).map V.str)))
section
variable {X : Cx}
theorem cr_setS (hc : X.calm = true) : CallR X (.type "set") (rSetS X.K X.w) := by
  intro pins s σ H xs us Q I r h
  obtain ⟨p, ss, rfl, hl, hb, q⟩ := h
  rw [Vals.ref1 r]
  have hn : H s.heap.objs.size = none := I.hok.fresh (Nat.le_refl _)
  rcases hl with hl | hl
  · obtain ⟨its, rv, pl, hz⟩ := I.list hl
    exact call_tset_list ss (I.ok.hd hc) pl.isList (by simpa using rv.strs) hb fun h' tk R k => ⟨.ref s.heap.objs.size, upd H s.heap.objs.size (TsO X.w s.heap.objs.size (uniq ss)), I.laid (t' := tk) k (Nat.le_refl _) (tsO_new R), rfl, q _ hn⟩
  · obtain ⟨its, rv, pl, hz⟩ := I.tuple hl
    exact call_tset_tuple (items := its.toArray) ss (I.ok.hd hc) pl (by simpa using rv.strs) hb fun h' tk R k => ⟨.ref s.heap.objs.size, upd H s.heap.objs.size (TsO X.w s.heap.objs.size (uniq ss)), I.laid (t' := tk) k (Nat.le_refl _) (tsO_new R), rfl, q _ hn⟩
theorem cr_sortTs (hc : X.calm = true) : CallR X (.builtin "sorted") (rSortTs X.w) := by
  intro pins s σ H vs us Q I r h
  obtain ⟨a, l, rfl, ha, hz, q⟩ := h
  have R0 : TSet X.w s.heap a l := (I.hok a _ ha).1
  rw [Vals.ref1 r]
  refine sorted_tset R0 (I.ok.hd hc) fun s' p out c k g o hp hg hs => ?_
  have hlen : ((srtS l).map V.str).length ≤ sizeLine := by rw [List.length_map, srt_len]; exact hz
  have hn : H p = none := I.hok.fresh hp
  have J : Inv X pins σ (upd H p (.lst ((srtS l).map V.str))) { s with heap := s'.heap, gens := s'.gens, drawn := s'.drawn, toks := s'.toks } :=
    I.call (ch := []) (Un.laid k hp hn) (I.hok.laid k hp ⟨hlen, out.toList, c, vals_of_strs hs, hg⟩) (by rw [g]; exact I.bare) (fun _ z => nomatch z)
  have e : s' = { s with heap := s'.heap, gens := s'.gens, drawn := s'.drawn, toks := s'.toks } := by
    cases s'; cases s; cases o; rfl
  rw [e]
  exact ⟨.ref p, _, J, rfl, q p hn⟩
theorem cr_sortAny : CallR X (.builtin "sorted") (fun vs H Q => ∃ (a : Addr) (xs : List Str), vs = [V.ref a] ∧ SqL X.K H a (xs.map V.str) ∧ xs.length ≤ sizeLine ∧ ∀ p, H p = none → Q (.ref p) (upd H p (.lst ((srtS xs).map V.str)))) := by
  intro pins s σ H vs us Q I r h
  obtain ⟨a, xs, rfl, hs, hz, q⟩ := h
  obtain ⟨its, rv, hl, _⟩ := I.list hs
  rw [Vals.ref1 r]
  have len0 := rv.length
  rw [List.length_map] at len0
  refine sorted_strsAny hl.isList rv.strs (by rw [← len0]; exact hz) fun out ys h1 h2 h3 => ?_
  have e1 := srt_of h3 h2
  rw [e1] at h1
  obtain ⟨ep, he'⟩ := PyProof.Rows.sortedAll_at s.heap its out
  have hlen : ((srtS xs).map V.str).length ≤ sizeLine := by rw [List.length_map, srt_len]; exact hz
  exact ⟨.ref _, upd H (s.heap.objs.size + 1) (.lst ((srtS xs).map V.str)), I.laid (t' := s.toks) (fun _ _ => PyProof.Rows.sortedAll_old) (Nat.le_succ _) ⟨hlen, out.toList, ep, vals_of_strs h1, he'⟩, rfl, q _ (I.hok.fresh (Nat.le_succ _))⟩
end
/-! ### sorted(xs) of a list of texts, sorted(set(xs)) -/
def oSorted : OC := fun ds st => match ds with
  | [.loc l] => match lstAt st l with
    | some es => match asStrs es with
      | some ss => if ss.length ≤ sizeLine then some (.loc st.length, st ++ [.lst ((srtS ss).map D.str)]) else none
      | none => none
    | none => none
  | _ => none
theorem cb_sorted {X : Cx} : CallR X (.builtin "sorted") (rC X.K oSorted) := by
  intro pins s σ H vs us Q I r ⟨ρ, st, ds, a, st', hs, rs, h, k⟩
  unfold oSorted at h
  split at h
  · cases rs with
    | cons r1 t1 =>
      cases t1
      rename_i l _
      split at h
      · rename_i es he
        split at h
        · rename_i ss hss
          split at h
          · rename_i hz
            cases h
            obtain ⟨p, xs, rfl, hx, rr⟩ := lstAt_seq hs he r1
            rw [asStrs_eq hss] at rr
            rw [rr.strs] at hx
            refine cr_sortAny pins s σ H _ us Q I r ⟨p, ss, rfl, hx, hz, fun n hn => ?_⟩
            have le : Le ρ H (ρ ++ [n]) (upd H n (.lst ((srtS ss).map V.str))) := ⟨List.prefix_append _ _, (Le.laid (ρ := ρ) n _ hn).tup⟩
            obtain ⟨s1, l1, g1⟩ := hs.alloc (u := .lst ((srtS ss).map D.str)) hn ⟨_, upd_same, RepL.of_strs _⟩
            exact k _ _ _ l1 s1 (.loc g1)
          · cases h
        · cases h
      · cases h
  · cases h
/-- sorted(set(e)) -/
def eSortSet (m : EM) : EM := fun en => bnd (m en) fun d st => match itemsD d st with
  | some es => match asStrs es with
    | some ss => if (uniq ss).length ≤ 4000 then .ok (.loc st.length) (st ++ [.lst ((srtS (uniq ss)).map D.str)]) else .bad
    | none => .bad
  | none => .bad
section
variable {X : Cx} {W : WX} {e : Expr} {me : EM} {pos pos' p p' : Pos}
theorem je_sortSet (hc : X.calm = true) (hg : Gl X "sorted") (hm : X.mg "sorted" = none) (hg' : Gl X "set") (hm' : X.mg "set" = none) (he : JE X W e me) (hs : starEach [e] X.env = (false, eval e X.env) :: starEach [] X.env := by rfl) (hs' : starEach [.Call (.Name "set" p') [e] [] pos'] X.env = (false, eval (.Call (.Name "set" p') [e] [] pos') X.env) :: starEach [] X.env := by rfl) :
    JE X W (.Call (.Name "sorted" p) [.Call (.Name "set" p') [e] [] pos'] [] pos) (eSortSet me) := by
  refine pe_imp (pe_callB (cr_sortTs hc) hg hm (by decide +kernel) (pa_cons (pe_callTy (cr_setS hc) hg' hm' (by decide +kernel) (pa_cons he pa_nil hs) (he := hs)) pa_nil hs')) fun σ H Q h => ?_
  have h1 := Wh.bnd (m := me) (f := fun _ d st => match itemsD d st with
    | some es => match asStrs es with
      | some ss => if (uniq ss).length ≤ 4000 then R.ok (D.loc st.length) (st ++ [.lst ((srtS (uniq ss)).map D.str)]) else .bad
      | none => R.bad
    | none => R.bad) h
  refine h1.imp fun ρ1 H1 st1 d _ ⟨en, er, s1, q⟩ v rv => ?_
  cases hi : itemsD d st1 with
  | none => rw [hi] at q; exact q.elim
  | some es =>
    rw [hi] at q
    dsimp only at q
    cases ha : asStrs es with
    | none => rw [ha] at q; exact q.elim
    | some ss =>
      rw [ha] at q
      dsimp only at q
      by_cases hz : (uniq ss).length ≤ 4000
      · rw [if_pos hz] at q
        obtain ⟨a, ys, rfl, hy, rr⟩ := items_rep s1 rv hi
        rw [asStrs_eq ha] at rr
        rw [rr.strs] at hy
        refine ⟨a, ss, rfl, hy, by unfold scanBound; omega, fun n hn => ?_⟩
        refine ⟨n, uniq ss, rfl, upd_same, by rw [sizeLine_eq]; omega, fun n2 hn2 => ?_⟩
        have hn2' : upd H1 n (TsO X.w n (uniq ss)) n2 = none := hn2
        have le1 : Le ρ1 H1 ρ1 (upd H1 n (TsO X.w n (uniq ss))) := Le.laid n _ hn
        have s2 : StR X.K ρ1 (upd H1 n (TsO X.w n (uniq ss))) st1 := s1.laid hn
        have le : Le ρ1 (upd H1 n (TsO X.w n (uniq ss))) (ρ1 ++ [n2]) (upd (upd H1 n (TsO X.w n (uniq ss))) n2 (.lst ((srtS (uniq ss)).map V.str))) := ⟨List.prefix_append _ _, (Le.laid (ρ := ρ1) n2 _ hn2).tup⟩
        obtain ⟨s3, l1, g1⟩ := s2.alloc (u := .lst ((srtS (uniq ss)).map D.str)) hn2 ⟨_, upd_same, RepL.of_strs _⟩
        exact q _ _ (le1.trans l1) s3 _ (.loc g1)
      · rw [if_neg hz] at q
        exact q.elim
end
/-! ### in, by == of data of any depth -/
def inDeep (d e : D) (st : Sto) : Option Bool := match toPy st 2 d, toPy st 2 e with
  | some a, some (.list bs) => if (shX a && PyData.canLayAll0 bs) = true then some (bs.any fun z => PyData.eqv z a) else none
  | some a, some (.tuple bs) => if (shX a && PyData.canLayAll0 bs) = true then some (bs.any fun z => PyData.eqv z a) else none
  | _, _ => none
def isInX (d e : D) (st : Sto) : Option Bool := match isIn d e st with
  | some b => some b
  | none => inDeep d e st
def oInX : O2 := fun d e st => match isInX d e st with
  | some b => some (.bl b, st)
  | none => none
def oNotInX : O2 := fun d e st => match isInX d e st with
  | some b => some (.bl (!b), st)
  | none => none
theorem in_deep_q {K : PySem.W.Frag} {ρ : List Addr} {H : Hp} {st : Sto} {d e : D} {x y : V} {b : Bool} (hs : StR K ρ H st) (rd : Rep ρ H d x) (re : Rep ρ H e y) (h : inDeep d e st = some b) :
    ∃ a bs, Dp K H x a ∧ (Dp K H y (.list bs) ∨ Dp K H y (.tuple bs)) ∧ shX a = true ∧ PyData.canLayAll0 bs = true ∧ (bs.any fun z => PyData.eqv z a) = b := by
  unfold inDeep at h
  split at h
  · rename_i a bs e1 e2
    split at h
    · rename_i hc
      cases h
      obtain ⟨c1, c2⟩ := Bool.and_eq_true_iff.mp hc
      exact ⟨a, bs, toPy_dp hs 2 rd e1, .inl (toPy_dp hs 2 re e2), c1, c2, rfl⟩
    · cases h
  · rename_i a bs e1 e2
    split at h
    · rename_i hc
      cases h
      obtain ⟨c1, c2⟩ := Bool.and_eq_true_iff.mp hc
      exact ⟨a, bs, toPy_dp hs 2 rd e1, .inr (toPy_dp hs 2 re e2), c1, c2, rfl⟩
    · cases h
  · cases h
section
variable {X : Cx}
theorem in_room {A : Around} {a : PyData} {bs : List PyData} (hu : A.units + 190 < cLine) (h : shX a = true) : A.units + 1 + min (PyData.depthAll bs) a.depth < cLine := by
  have : a.depth ≤ 180 := shX_dep h
  omega
theorem ob_inX (hu : X.A.units + 190 < cLine) : OpR X (compareOp .In) (rB X.K oInX) := by
  intro pins s σ H x y v u Q I rx ry ⟨ρ, st, d, e, a, st', hs, rd, re, h, k⟩
  unfold oInX isInX at h
  cases q : isIn d e st with
  | some b =>
    rw [q] at h
    exact ob_in pins s σ H x y v u Q I rx ry ⟨ρ, st, d, e, a, st', hs, rd, re, by unfold oIn; rw [q]; exact h, k⟩
  | none =>
    rw [q] at h
    dsimp only at h
    cases q2 : inDeep d e st with
    | none => rw [q2] at h; cases h
    | some b =>
      rw [q2] at h
      cases h
      obtain ⟨p, bs, h1, h2, h3, h4, h5⟩ := in_deep_q (K := X.K) hs rd re q2
      have kq := k ρ H _ Le.refl hs (.bl b)
      obtain ⟨_, r1⟩ := Dp.reads I p x v h1 rx
      rcases h2 with h2 | h2
      · obtain ⟨_, r2⟩ := Dp.reads I _ y u h2 ry
        exact SeqAt.in_list_reads r2 r1 h4 (shX_lay h3) (in_room hu h3) ⟨.bl _, H, I, rfl, by rw [h5]; exact kq⟩
      · obtain ⟨_, r2⟩ := Dp.reads I _ y u h2 ry
        exact SeqAt.in_tuple_reads r2 r1 h4 (shX_lay h3) (in_room hu h3) ⟨.bl _, H, I, rfl, by rw [h5]; exact kq⟩
theorem ob_notInX (hu : X.A.units + 190 < cLine) : OpR X (compareOp .NotIn) (rB X.K oNotInX) := by
  intro pins s σ H x y v u Q I rx ry ⟨ρ, st, d, e, a, st', hs, rd, re, h, k⟩
  unfold oNotInX isInX at h
  cases q : isIn d e st with
  | some b =>
    rw [q] at h
    exact ob_notIn pins s σ H x y v u Q I rx ry ⟨ρ, st, d, e, a, st', hs, rd, re, by unfold oNotIn; rw [q]; exact h, k⟩
  | none =>
    rw [q] at h
    dsimp only at h
    cases q2 : inDeep d e st with
    | none => rw [q2] at h; cases h
    | some b =>
      rw [q2] at h
      cases h
      obtain ⟨p, bs, h1, h2, h3, h4, h5⟩ := in_deep_q (K := X.K) hs rd re q2
      have kq := k ρ H _ Le.refl hs (.bl (!b))
      obtain ⟨_, r1⟩ := Dp.reads I p x v h1 rx
      rcases h2 with h2 | h2
      · obtain ⟨_, r2⟩ := Dp.reads I _ y u h2 ry
        exact SeqAt.notIn_list_reads r2 r1 h4 (shX_lay h3) (in_room hu h3) ⟨.bl _, H, I, rfl, by rw [h5]; exact kq⟩
      · obtain ⟨_, r2⟩ := Dp.reads I _ y u h2 ry
        exact SeqAt.notIn_tuple_reads r2 r1 h4 (shX_lay h3) (in_room hu h3) ⟨.bl _, H, I, rfl, by rw [h5]; exact kq⟩
end
/-! ### repr -/
def reprD (d : D) (st : Sto) : Option Str := match toPy st 3 d with
  | some p => if (shX p && p.showable && decide (p.shown.length ≤ sizeLine)) = true then some p.shown else none
  | none => none
def oRepr : OC := fun ds st => match ds with
  | [d] => match reprD d st with
    | some z => some (.str z, st)
    | none => none
  | _ => none
theorem repr_reads {P : Program} {w : World} {A : Around} {E : Value → Shared → Prop} {s : Shared} {u : Value} {d : PyData} {as : List Addr} {Q : Value → Shared → Prop} (r : Reads s.heap u d as) (hs : d.showable = true) (hn : d.hasDict = false) (hg : A.guards = some []) (hu : A.units + (d.depth + 1) < cLine) (hz : d.shown.length ≤ sizeLine)
    (hQ : ∀ h' t tk, (∀ b o, s.heap.get? b = some o → h'.get? b = some o) → Q (.str d.shown t) { s with heap := h', toks := tk }) : wpAny (model P w) A (PySem.call (.builtin "repr") [u]) Q E s := by
  cases r with
  | none =>
    simp only [PyData.shown] at hQ
    exact PySem.P.repr_of_none (hQ s.heap _ _ fun _ _ e => e)
  | bool b =>
    simp only [PyData.shown] at hQ
    exact PySem.P.repr_of_bool (hQ s.heap _ _ fun _ _ e => e)
  | int i t =>
    simp only [PyData.shown] at hQ
    exact PySem.P.repr_of_int (by simpa [PyData.showable] using hs) (hQ s.heap _ _ fun _ _ e => e)
  | str x t =>
    simp only [PyData.shown] at hQ hz
    exact PySem.P.repr_of_str (hQ s.heap _ _ fun _ _ e => e) hz
  | list h1 h2 h3 h4 => exact repr_of_reads' (.list h1 h2 h3 h4) hs (PyData.noDict_hsm hn) hg hu (fun _ _ e => e) (fun h' t tk hk => hQ h' t tk hk) hz
  | tuple h1 h2 h3 h4 => exact repr_of_reads' (.tuple h1 h2 h3 h4) hs (PyData.noDict_hsm hn) hg hu (fun _ _ e => e) (fun h' t tk hk => hQ h' t tk hk) hz
  | dict h1 h2 h3 h4 h5 => simp [PyData.hasDict] at hn
theorem cb_repr {X : Cx} (hg : X.A.guards = some []) (hu : X.A.units + 190 < cLine) : CallR X (.builtin "repr") (rC X.K oRepr) := by
  intro pins s σ H vs us Q I r ⟨ρ, st, ds, a, st', hs, rs, h, k⟩
  unfold oRepr at h
  split at h
  · rename_i d
    cases q : reprD d st with
    | none => rw [q] at h; cases h
    | some z =>
      rw [q] at h
      cases h
      unfold reprD at q
      cases q2 : toPy st 3 d with
      | none => rw [q2] at q; cases q
      | some p =>
        rw [q2] at q
        dsimp only at q
        split at q
        · rename_i hc
          cases q
          rw [Bool.and_eq_true, Bool.and_eq_true, decide_eq_true_eq] at hc
          cases rs with
          | cons r1 t1 =>
            cases t1
            obtain ⟨u, rfl, ru⟩ := vals1 r
            have hd := toPy_dp hs 3 r1 q2
            obtain ⟨as, rr⟩ := Dp.reads I p _ u hd ru
            have hlay := shX_lay hc.1.1
            have hdep : p.depth ≤ 180 := shX_dep hc.1.1
            exact repr_reads rr hc.1.2 (PyData.hasDict_of_canLay p hlay) hg (by omega) hc.2 fun h' t tk hk => ⟨.str _, H, I.kept (t' := tk) hk, ⟨_, rfl⟩, k ρ H _ Le.refl hs (.str _)⟩
        · cases q
  · cases h
theorem hu66 {k : Nat} {A : Around} (r : Room k A) : A.units + 190 < cLine := by have := r.un; omega
end Sh

set_option maxHeartbeats 1000000
/-! ShT: more methods. -/
namespace Sh
open PySem PySem.Spec PyProof.Rows L2
def oPop : OMt := fun d ds st => match d, ds with
  | .loc l, [] => match st[l]? with
    | some (.lst es) => match es[es.length - 1]? with
      | some y => some (y, st.set l (.lst es.dropLast))
      | none => none
    | _ => none
  | _, _ => none
theorem RepL.dropLast {ρ : List Addr} {H : Hp} : ∀ {ds : List D} {xs : List V}, RepL ρ H ds xs → RepL ρ H ds.dropLast xs.dropLast := fun {ds xs} r => by
  rw [List.dropLast_eq_take, List.dropLast_eq_take, ← r.length]
  exact r.take _
section
variable {X : Cx}
theorem om_pop : MtR X "list.pop" (rM X.K oPop) := by
  intro pins s σ H x vs v us Q I rx rvs ⟨ρ, st, d, ds, a, st', hs, rd, rs, h, k⟩
  unfold oPop at h
  split at h
  · rename_i l
    split at h
    · rename_i es hl
      split at h
      · rename_i y hy
        cases h
        obtain ⟨p, rfl, hp⟩ := rd.locA
        obtain ⟨xs, hx, rr⟩ := hs.ob _ _ p hl hp
        obtain ⟨w, hw, rw⟩ := rr.get hy
        cases rs
        refine mt_pop pins s σ H _ _ v us Q I rx rvs ⟨p, xs, w, rfl, rfl, hx, by rw [← rr.length]; exact hw, ?_⟩
        obtain ⟨s1, l1⟩ := hs.put (o := .lst xs.dropLast) (u := .lst es.dropLast) hl rfl rfl hp fun H' e' le => ⟨_, by rw [e']; exact upd_same, rr.dropLast.mono le⟩
        exact k ρ _ _ l1 s1 (rw.mono l1)
      · cases h
    · cases h
  · cases h
end
/-! ### xs += ys of a list: a list, a tuple -/
theorem iadd_tup0 (l : Addr) (items : Array Value) (n : Nat) (b : Addr) (items2 : Array Value) (n2 : Nat) (dd : Option Addr) (sl : Array (Option Value)) (hs0 : ¬(!items.isEmpty && Builtin.List.listTooLong (items.size + items2.size)) = true) (hs1 : items.size ≤ sizeLine) (hs2 : items.size + items2.size ≤ sizeLine + 1) :
    Meets (Builtin.«list.__iadd__» ⟨[.ref l, .ref b], []⟩) (fun _ R s => s.heap.get? l = some { cls := .type "list", dict := none, data := .seq items n, slots := #[] } ∧ s.heap.get? b = some { cls := .type "tuple", dict := dd, data := .seq items2 n2, slots := sl } ∧ R (.ok (.ret (Value.ref l))) { s with heap := s.heap.update l (Obj.mapSeq fun x => x ++ items2), toks := s.toks }) :=
  .of_wp fun prog w A R s h => by
    obtain ⟨hp, g, d, tk, os⟩ := s
    obtain ⟨hl, hb, h⟩ := h
    have f1 := AutoSeq1.idx_int; have f2 := AutoSeq1.sub_tuple_tuple; have f3 := AutoSeq1.sub_list_list; have f4 := AutoSeq1.sub_tuple_list; have f5 := AutoSeq1.sub_list_tuple
    have hz' : (items ++ items2).size ≤ sizeLine + 1 := by rw [Array.size_append]; exact hs2
    wp_walk using (wpAny_updateSeq hl rfl (hz := hs1) (_hz' := hz')), AutoSeq1.wpAny_loadPart' hl, AutoSeq1.wpAny_loadPart' hb
    exact ⟨_, rfl, h⟩
theorem binop1_lt {M : Model} {A : Around} {E : Value → Shared → Prop} {s : Shared} {a b : Value} {Q : Option Value → Shared → Prop} (ha : s.TypeIs a "list") (hb : s.TypeIs b "tuple") (h : Q none s) : wpAny M A (binaryOp1 "add" a b) Q E s := by
  have h1 : fillsNumberSlot (.type "list") "add" = pure false := noFill_list_add
  have h2 : fillsNumberSlot (.type "tuple") "add" = pure false := noFill_tuple_add
  simp only [binaryOp1]
  refine wpAny_bind (wpAny_typeOf ha (wpAny_bind (wpAny_typeOf hb (wpAny_bind (wpAny_of_eq h1 ?_)))))
  have e : (Value.type "list" == Value.type "tuple") = false := by decide
  rw [e, h2]
  simp only [beq_self_eq_true, if_true, pure_bind, Bool.false_and, Bool.false_eq_true, if_false]
  exact wpAny_pure h
theorem iadd_road2 {M : Model} {A : Around} {E : Value → Shared → Prop} {s : Shared} {a b : Value} {Q : Value → Shared → Prop} (ha : s.TypeIs a "list") (hb : s.TypeIs b "tuple") (hc : wpAny M A (PySem.call (.builtin "list.__iadd__") [a, b]) Q E s) : wpAny M A (inplaceOp .Add a b) Q E s := by
  have hsl : typeLookup (.type "list") (dunderI "add") = pure (some (.builtin "list.__iadd__")) := PySem.F.slot_list_iadd.lookup
  have hsq : isSeqSlot (some (.builtin "list.__iadd__")) = true := by decide +kernel
  have hfi : fillsInplaceSlot (.type "list") "add" (Operator.Add == .Add) = pure false := by
    unfold fillsInplaceSlot
    show (typeLookup (.type "list") (dunderI "add") >>= fun fi => pure (fi.isSome && !isSeqSlot fi)) = pure false
    rw [hsl]
    show (pure (true && !isSeqSlot (some (.builtin "list.__iadd__"))) : Sem Bool) = pure false
    rw [hsq] <;> rfl
  have hsi : seqSlot? (.type "list") (dunderI "add") = pure (some (.builtin "list.__iadd__")) := PySem.seqSlot_of hsl hsq
  unfold inplaceOp
  refine wpAny_holding (wpAny_bind (wpAny_typeOf ha (wpAny_bind (wpAny_of_eq hfi ?_))))
  show wpAny M A (if false = true then _ else _) Q E s
  rw [if_neg Bool.false_ne_true]
  exact wpAny_bind (binop1_lt ha hb (wpAny_bind (wpAny_of_eq hsi (wpAny_bind (wpAny_rule hc)))))
section
variable {X : Cx}
theorem iop_extT : OpR X (inplaceOp .Add) (fun x y H Q => ∃ (l b : Addr) (xs zs : List V), x = .ref l ∧ y = .ref b ∧ H l = some (.lst xs) ∧ SqT X.K H b zs ∧ xs.length + zs.length ≤ sizeLine ∧ Q (.ref l) (upd H l (.lst (xs ++ zs)))) := by
  intro pins s σ H x y v u Q I rx ry h
  obtain ⟨l, b, xs, zs, rfl, rfl, hH, hB, hz, q⟩ := h
  cases rx
  cases ry
  obtain ⟨z, its, n, r, hl, e⟩ := I.lstM hH
  obtain ⟨its2, r2, ⟨⟨ocls, odd, odata, osl⟩, ho2, hc2, n2, hd2⟩, z2⟩ := I.tuple hB
  simp only at hc2 hd2
  subst hc2; subst hd2
  have l2 := r2.length
  have hsz : its.toArray.size + its2.toArray.size ≤ sizeLine := by rw [List.size_toArray, List.size_toArray]; omega
  have hlong : ¬ (!its.toArray.isEmpty && Builtin.List.listTooLong (its.toArray.size + its2.toArray.size)) = true := by
    rw [notLongL hsz, Bool.and_false]
    exact Bool.false_ne_true
  refine iadd_road2 ⟨_, e, rfl⟩ ⟨_, ho2, rfl⟩ (call_meets PySem.F.slot_list_iadd ⟨_, e, rfl⟩ PySem.F.entry_list_iadd (PySem.F.args_list_iadd_2 _ _)
    (iadd_tup0 l its.toArray n b its2.toArray n2 odd osl hlong (by rw [List.size_toArray]; omega) (by omega)) ⟨e, ho2, ?_⟩)
  refine ⟨.ref l, _, I.lset (its' := its ++ its2) (t' := s.toks) hH e (by simp) (r.append r2) ?_, rfl, q⟩
  rw [List.length_append]
  omega
def oIAddX : O2 := fun d e st => match d, e with
  | .loc l, .loc m => match st[l]?, st[m]? with
    | some (.lst xs), some (.lst ys) => if xs.length + ys.length ≤ sizeLine then some (.loc l, st.set l (.lst (xs ++ ys))) else none
    | _, _ => none
  | .loc l, .tup ys => match st[l]? with
    | some (.lst xs) => if xs.length + ys.length ≤ sizeLine then some (.loc l, st.set l (.lst (xs ++ ys))) else none
    | _ => none
  | d, e => oIAdd d e st
theorem ob_iaddx : OpR X (inplaceOp .Add) (rB X.K oIAddX) := by
  intro pins s σ H x y v u Q I rx ry ⟨ρ, st, d, e, a, st', hs, rd, re, h, k⟩
  unfold oIAddX at h
  split at h
  · rename_i l m
    split at h
    · rename_i xs ys hl hm
      split at h
      · rename_i hz
        cases h
        obtain ⟨p, us, rfl, hp, hx, r1⟩ := lst_own hs hl rd
        obtain ⟨q, ws, rfl, hq, hy, r2⟩ := lst_own hs hm re
        refine iop_ext pins s σ H _ _ v u Q I rx ry ⟨p, q, us, ws, rfl, rfl, hx, hy, by rw [← r1.length, ← r2.length]; exact hz, ?_⟩
        obtain ⟨s1, l1⟩ := hs.put (o := .lst (us ++ ws)) (u := .lst (xs ++ ys)) hl rfl rfl hp fun H' e' le => ⟨_, by rw [e']; exact upd_same, (r1.append r2).mono le⟩
        exact k ρ _ _ l1 s1 (.loc hp)
      · cases h
    · cases h
  · rename_i l ys
    split at h
    · rename_i xs hl
      split at h
      · rename_i hz
        cases h
        obtain ⟨p, us, rfl, hp, hx, r1⟩ := lst_own hs hl rd
        obtain ⟨q, ws, rfl, hy, r2⟩ := re.tupA
        refine iop_extT pins s σ H _ _ v u Q I rx ry ⟨p, q, us, ws, rfl, rfl, hx, SqT.of hy, by rw [← r1.length, ← r2.length]; exact hz, ?_⟩
        obtain ⟨s1, l1⟩ := hs.put (o := .lst (us ++ ws)) (u := .lst (xs ++ ys)) hl rfl rfl hp fun H' e' le => ⟨_, by rw [e']; exact upd_same, (r1.append r2).mono le⟩
        exact k ρ _ _ l1 s1 (.loc hp)
      · cases h
    · cases h
  · exact ob_iadd pins s σ H x y v u Q I rx ry ⟨ρ, st, _, _, a, st', hs, rd, re, h, k⟩
/-! ### sorted of numbers -/
def srtI (ns : List Int) : List Int := ns.mergeSort fun a b => decide (a ≤ b)
theorem srtI_of {l m : List Int} (h : l.Pairwise (· ≤ ·)) (p : l.Perm m) : l = srtI m := by
  have h2 : (srtI m).Pairwise (· ≤ ·) := by
    have := List.pairwise_mergeSort (le := fun a b : Int => decide (a ≤ b)) (fun a b c h1 h2 => by rw [decide_eq_true_eq] at *; omega) (fun a b => by simp only [Bool.or_eq_true, decide_eq_true_eq]; omega) m
    exact this.imp fun q => of_decide_eq_true q
  exact List.Perm.eq_of_pairwise (fun a b _ _ q q' => by omega) h h2 (p.trans (List.mergeSort_perm m _).symm)
def oSortedX : OC := fun ds st => match ds with
  | [.loc l] => match lstAt st l with
    | some es => match asInts es with
      | some ns => if ns.length < 64 then some (.loc st.length, st ++ [.lst ((srtI ns).map D.int)]) else none
      | none => oSorted ds st
    | none => none
  | _ => none
theorem cb_sortedX : CallR X (.builtin "sorted") (rC X.K oSortedX) := by
  intro pins s σ H vs us Q I r ⟨ρ, st, ds, a, st', hs, rs, h, k⟩
  unfold oSortedX at h
  split at h
  · rename_i l
    split at h
    · rename_i es he
      split at h
      · rename_i ns hns
        split at h
        · rename_i hz
          cases h
          cases rs with
          | cons r1 t1 =>
            cases t1
            obtain ⟨p, xs, rfl, hx, rr⟩ := lstAt_seq hs he r1
            rw [asInts_eq hns] at rr
            rw [rr.ints] at hx
            refine cr_sorted pins s σ H _ us Q I r ⟨p, ns, rfl, hx, hz, fun ns' n h2 h3 hn => ?_⟩
            have e1 := srtI_of h3 h2
            subst e1
            have le : Le ρ H (ρ ++ [n]) (upd H n (.lst ((srtI ns).map V.int))) := ⟨List.prefix_append _ _, (Le.laid (ρ := ρ) n _ hn).tup⟩
            obtain ⟨s1, l1, g1⟩ := hs.alloc (u := .lst ((srtI ns).map D.int)) hn ⟨_, upd_same, RepL.of_ints _⟩
            exact k _ _ _ l1 s1 (.loc g1)
        · cases h
      · exact cb_sorted pins s σ H vs us Q I r ⟨ρ, st, _, a, st', hs, rs, h, k⟩
    · cases h
  · cases h
end
end Sh

set_option maxHeartbeats 1000000
/-! ShU: enumerate over a tuple or a list; a tuple turned about. -/
namespace Sh
open PySem PySem.Spec PyProof.Rows L2
open AutoSeq1 (wpAny_loadPart')
/-! ### enumerate(tuple): its making -/
theorem enT_new (l : Addr) (items : Array Value) (n : Nat) (dct : Option Addr) (sl : Array (Option Value)) :
    Meets (Builtin.«enumerate.__new__» ⟨[.type "enumerate", .ref l], []⟩) (fun _ R s => s.heap.get? l = some { cls := .type "tuple", dict := dct, data := .seq items n, slots := sl } ∧
      R (.ok (.ret (.ref (s.heap.push { cls := .type "tuple_iterator", data := .fields #[.ref l, .int 0 0] }).objs.size)))
        { s with heap := (s.heap.push { cls := .type "tuple_iterator", data := .fields #[.ref l, .int 0 0] }).push { cls := .type "enumerate", data := .fields #[.none, .bool false, .ref s.heap.objs.size, rawInt 0, .none, .none] } }) :=
  .of_wp fun prog w A R s h => by
    obtain ⟨hp, g, d, tk, os⟩ := s; obtain ⟨hl, h⟩ := h
    have hsub := sub_enumerate
    have hL : Heap.IsTuple (Shared.heap ⟨hp, g, d, tk, os⟩) l items := ⟨_, hl, rfl, n, rfl⟩
    wp_walk using wpAny_loadPart' hl
    refine wpAny_stack_any fun st => wpAny_pure ?_
    split
    · rename_i c _ _ _ _ _
      cases (c == Value.type "enumerate")
      · wp_walk using wpAny_loadPart' hl, wpAny_pyIter_tuple hL
        exact ⟨_, rfl, h⟩
      · wp_walk using wpAny_loadPart' hl, wpAny_pyIter_tuple hL
        exact ⟨_, rfl, h⟩
    · wp_walk using wpAny_loadPart' hl, wpAny_pyIter_tuple hL
      exact ⟨_, rfl, h⟩
section
variable {prog : Program} {w : World} {A : Around} {E : Value → Shared → Prop} {s : Shared}
theorem enT_call {l : Addr} {items : Array Value} {Q : Value → Shared → Prop} (hL : s.heap.IsTuple l items)
    (h : ∀ h', IsEnum h' (s.heap.objs.size + 1) s.heap.objs.size 0 .none → h'.IsTupleIter s.heap.objs.size l 0 →
      (∀ b o, s.heap.get? b = some o → h'.get? b = some o) → Q (.ref (s.heap.objs.size + 1)) { s with heap := h' }) :
    wpAny (model prog w) A (call (.type "enumerate") [.ref l]) Q E s := by
  obtain ⟨⟨c, dct, dt, sl⟩, hl, hc, n, hd⟩ := hL
  replace hc : c = .type "tuple" := hc
  replace hd : dt = .seq items n := hd
  subst hc hd
  refine callType_new F.called_enumerate (by decide) (F.typeCall_enumerate_1 _) (F.newCall_enumerate_1 _) (fun obj => F.args_object_init_2 obj _) F.entry_enumerate_new
    (enT_new l items n dct sl) ⟨hl, ?_⟩
  generalize hp1 : s.heap.push { cls := .type "tuple_iterator", data := .fields #[.ref l, .int 0 0] } = h1
  have hz : h1.objs.size = s.heap.objs.size + 1 := by rw [← hp1]; exact Heap.size_push ..
  have g1 : h1.get? s.heap.objs.size = some { cls := .type "tuple_iterator", data := .fields #[.ref l, .int 0 0] } := by rw [← hp1]; exact Heap.get?_push_size _ rfl
  have k1 : ∀ b o, s.heap.get? b = some o → h1.get? b = some o := fun b o x => by rw [← hp1]; exact Heap.get?_push_of_some _ x
  show _ ∧ _
  rw [hz]
  have he : IsEnum (h1.push { cls := .type "enumerate", data := .fields #[.none, .bool false, .ref s.heap.objs.size, rawInt 0, .none, .none] }) (s.heap.objs.size + 1) s.heap.objs.size 0 .none := by
    have := Heap.get?_push_size h1 (o := { cls := .type "enumerate", data := .fields #[.none, .bool false, .ref s.heap.objs.size, rawInt 0, .none, .none] }) rfl
    rw [hz] at this; exact this
  exact ⟨⟨_, he, rfl⟩, h _ he ⟨_, Heap.get?_push_of_some _ g1, rfl, rfl⟩ fun b o x => Heap.get?_push_of_some _ (k1 b o x)⟩
end
/-! ### its turns -/
/-- the tuple at a, each item in a new pair -/
def Ien (K : PySem.W.Frag) (a : Addr) : It where
  go := fun i H => ∃ (xs : List V) (x : V), SqT K H a xs ∧ xs[i]? = some x
  yld := fun i H v H' => ∃ T x, v = .ref T ∧ H T = none ∧ H' = upd H T (.tup [.int (i : Nat), x]) ∧ ∀ xs, SqT K H a xs → xs[i]? = some x
  stop := fun i H => ∃ xs : List V, SqT K H a xs ∧ xs.length ≤ i
theorem turn_en {P : Program} {w : World} {K : PySem.W.Frag} {elts : List Expr} {kk : Nat} {tpos : Pos} (a e it : Addr) (hne : e ≠ it) (hea : e ≠ a) (hai : a ≠ it) :
    Turn P w K (.Tuple elts kk tpos) (Ien K a) [e, it] e (fun i h => (∃ old, IsEnum h e it ((i : Nat) : Int) old) ∧ h.IsTupleIter it a i) where
  mem := List.mem_cons_self
  obj := fun i h st b hb => by
    obtain ⟨⟨old, he⟩, ⟨o, ho, hc, hd⟩⟩ := st
    rcases List.mem_cons.mp hb with z | z
    · rw [z]; exact ⟨_, he, fun v q => nomatch q⟩
    · rw [List.mem_singleton.mp z]; exact ⟨o, ho, fun v q => by rw [hd] at q; cases q⟩
  keep := fun i h h' st k => ⟨⟨st.1.choose, k e (by simp) _ st.1.choose_spec⟩, st.2.at fun o q => k it (by simp) o q⟩
  item := by
    intro X hP hw hK hc i pins s σ H E I hf st hg
    subst hP hw hK
    obtain ⟨⟨old, he⟩, hit⟩ := st
    obtain ⟨xs, x, hq, hx⟩ := hg
    obtain ⟨its, rv, p, hz⟩ := I.tuple hq
    obtain ⟨u, hu, ru⟩ := rv.get hx
    have lt : i < its.toArray.size := by
      rw [List.size_toArray]
      obtain ⟨q, _⟩ := List.getElem?_eq_some_iff.mp hu
      exact q
    have hel : e < s.heap.objs.size := Heap.lt_size he
    have hil : it < s.heap.objs.size := by obtain ⟨_, q, _⟩ := hit; exact Heap.lt_size q
    have DD := Draws.tuple (prog := X.prog) (w := X.w) (A := X.A.in1) (I.ok.hd hc) it a hai its.toArray
    refine wpAny_pyNext_enum_itemD DD he ⟨hit, p⟩ lt hne (by simp [hne, hea]) fun v h' tk hP ho hs' hT hsz hk => ?_
    have ev : v = u := by
      have hP' : its.toArray[i]? = some v := hP
      rw [List.getElem?_toArray, hu] at hP'
      exact (Option.some.inj hP').symm
    subst ev
    refine ⟨_, rfl, wpAny_letOwnedTupleGo_enum (s := { s with heap := h', toks := tk + 1 }) ho fun h'' he' sb => ?_⟩
    have hT2 : h''.get? s.heap.objs.size = some { cls := .type "tuple", data := .seq #[.int i tk, v] } := (sb.2 _ (Nat.ne_of_gt hel)).trans hT
    have new : ObjOk X.prog X.w (upd H s.heap.objs.size (.tup [.int (i : Nat), x])) h'' s.heap.objs.size (.tup [.int (i : Nat), x]) :=
      ⟨by show 2 ≤ sizeLine; decide, [.int i tk, v], .cons ⟨_, rfl⟩ (.cons ru .nil), ⟨_, hT2, rfl, _, rfl⟩⟩
    have nb : ∀ b, b ∉ [e, it] → b ≠ e ∧ b ≠ it := fun b hb => by simpa using hb
    have I1 : Inv X pins σ (upd H s.heap.objs.size (.tup [.int (i : Nat), x])) { s with heap := h'', toks := tk + 1 } :=
      I.turnedNew (ch := [e, it]) (fun b ob hb q => (sb.2 b (nb b hb).1).trans (hk b ob (nb b hb).1 (nb b hb).2 q)) hf (Nat.le_refl _) new
    refine ⟨.ref s.heap.objs.size, _, I1, rfl, ⟨_, x, rfl, I.hok.fresh (Nat.le_refl _), rfl, fun ys hy => by rw [I.tuple_inj hy hq]; exact hx⟩, ⟨⟨v, ?_⟩, hs'.1.at fun o q => (sb.2 it (Ne.symm hne)).trans q⟩, fun b hb => ?_⟩
    · rw [show ((i + 1 : Nat) : Int) = (i : Int) + 1 by omega]; exact he'
    · have hb' : b < s.heap.objs.size := by
        rcases List.mem_cons.mp hb with z | z
        · rw [z]; exact hel
        · rw [List.mem_singleton.mp z]; exact hil
      rw [upd_ne (Nat.ne_of_lt hb')]
      exact (hf b hb).1
  done := by
    intro X hP hw hK hc i pins s σ H E I hf st hg
    subst hP hw hK
    obtain ⟨⟨old, he⟩, hit⟩ := st
    obtain ⟨xs, hq, hx⟩ := hg
    obtain ⟨its, rv, p, hz⟩ := I.tuple hq
    obtain ⟨f0, f1, f2, f3, f4, f5⟩ := hf it (by simp)
    have hl := rv.length
    have q0 : its.toArray[i]? = none := by rw [List.getElem?_toArray, List.getElem?_eq_none_iff]; omega
    have hT : s.TypeIs (.ref e) "enumerate" := ⟨_, he, rfl⟩
    unfold pyNext
    refine wpAny_bind (wpAny_attempt (wpAny_callSpecial?_slot (name := Str.ofString "__next__") hT F.slot_enumerate_next
      (wpAny_call_entry F.slot_enumerate_next hT F.entry_enumerate_next ?_ (F.args_enumerate_next_1 _))))
    show wpAny _ _ (field (.ref e) 2 >>= _) _ _ _
    refine wpAny_bind (wpAny_field he rfl (x := .ref it) rfl ?_)
    refine wpAny_bind (wpAny_nextOf_tuple_end (A := X.A.in1) (I.ok.hd hc) hit p q0 fun h' x eb hx' => ?_)
    obtain ⟨o, ho, hcl⟩ := hx'
    refine wpAny_bind (wpAny_isInstance (T := "StopIteration") (b := true) ⟨o, ho, hcl⟩ isSubtype_stop ?_)
    exact wpAny_pure ⟨rfl, I.turned (t' := s.toks) (fun b o hb q => eb b o hb q) f0 f1 f3 f4 f5⟩
  self := fun A i s Q E st h => wpAny_pyIter_enum st.1.choose_spec h
def iEnX (K : PySem.W.Frag) (ta : TA) : TI := fun σ H R => ta σ H fun vs H1 => ∃ a, vs = [.ref a] ∧ ((∃ xs, SqL K H1 a xs) ∧ R (Ite K a) H1 ∨ (∃ xs, SqT K H1 a xs) ∧ R (Ien K a) H1)
theorem pi_en {X : Cx} {e : Expr} {ta : TA} {p pos tpos : Pos} {elts : List Expr} {kk : Nat} (hg : Gl X "enumerate") (hm : X.mg "enumerate" = none) (ha : PA X [e] ta) (hs : starEach [e] X.env = [(false, eval e X.env)] := by rfl) :
    PI X (.Tuple elts kk tpos) (.Call (.Name "enumerate" p) [e] [] pos) (iEnX X.K ta) := by
  refine ⟨fun pins s σ H R I h => ?_⟩
  refine Call_ (ld_blt I hg hm boot_enumerate (PyProof.Rows.callWith_type1 (thn (ha.run pos pins s σ H _ I h) fun us s1 ⟨vs, H1, I1, r1, q1⟩ => ?_) hs rfl))
  obtain ⟨a, ex, q⟩ := q1
  subst ex
  cases r1 with
  | cons r rr =>
    cases rr
    cases r
    have fp : ∀ b, b ∈ [s1.heap.objs.size + 1, s1.heap.objs.size] → s1.heap.objs.size ≤ b := fun b hb => by
      rcases List.mem_cons.mp hb with z | z
      · rw [z]; exact Nat.le_add_right _ _
      · rw [List.mem_singleton.mp z]; exact Nat.le_refl _
    obtain ⟨⟨xs, hq⟩, q⟩ | ⟨⟨xs, hq⟩, q⟩ := q
    · obtain ⟨its, rv, p', hz⟩ := I1.list hq
      refine call_enumerate_list p'.isList fun h' he hit hsz hk => wpAny_pyIter_enum he ?_
      have I2 : Inv X pins σ H1 { s1 with heap := h' } := I1.kept (t' := s1.toks) hk
      exact ⟨s1.heap.objs.size + 1, [s1.heap.objs.size + 1, s1.heap.objs.size], _, _, H1, rfl, I2, turn_enum a (s1.heap.objs.size + 1) s1.heap.objs.size, ⟨⟨.none, he⟩, hit, Nat.succ_ne_self _⟩, fun b hb => I1.fpOk (fp b hb) (I1.hok.fresh (fp b hb)), q⟩
    · obtain ⟨its, rv, p', hz⟩ := I1.tuple hq
      have hal : a < s1.heap.objs.size := by obtain ⟨o, ho, _⟩ := p'; exact Heap.lt_size ho
      refine enT_call (items := its.toArray) p' fun h' he hit hk => wpAny_pyIter_enum he ?_
      have I2 : Inv X pins σ H1 { s1 with heap := h' } := I1.kept (t' := s1.toks) hk
      exact ⟨s1.heap.objs.size + 1, [s1.heap.objs.size + 1, s1.heap.objs.size], _, _, H1, rfl, I2, turn_en a (s1.heap.objs.size + 1) s1.heap.objs.size (Nat.succ_ne_self _) (Nat.ne_of_gt (Nat.lt_succ_of_lt hal)) (Nat.ne_of_lt hal), ⟨⟨.none, he⟩, hit⟩, fun b hb => I1.fpOk (fp b hb) (I1.hok.fresh (fp b hb)), q⟩
section
variable {X : Cx} {W : WX}
def enumD (ds : List D) : List D := ds.zipIdx.map fun p => D.tup [.int ((p.2 : Nat) : Int), p.1]
theorem enumD_len (ds : List D) : (enumD ds).length = ds.length := by simp [enumD]
theorem enumD_get (ds : List D) (i : Nat) : (enumD ds)[i]? = (ds[i]?).map fun d => D.tup [.int (i : Int), d] := by
  unfold enumD
  rw [List.getElem?_map, List.getElem?_zipIdx]
  cases ds[i]? <;> simp
def srcEn (l : Nat) : Src := fun st i => match lstAt st l with
  | some ds => some (enumD ds)[i]?
  | none => none
def iEnum (m : AM) : Ev → M (Nat × Src) := fun en => bnd (m en) fun ds st => match ds with
  | [.tup es] => .ok (es.length, srcIts (enumD es)) st
  | [.loc l] => match lstAt st l with
    | some es => .ok (es.length, srcEn l) st
    | none => .bad
  | _ => .bad
theorem pair_new {K : PySem.W.Frag} {ρ : List Addr} {H : Hp} {st : Sto} {T : Addr} {i : Nat} {d : D} {x : V} (s : StR K ρ H st) (hT : H T = none) (r : Rep ρ H d x) :
    Le ρ H ρ (upd H T (.tup [.int (i : Nat), x])) ∧ StR K ρ (upd H T (.tup [.int (i : Nat), x])) st ∧ Rep ρ (upd H T (.tup [.int (i : Nat), x])) (.tup [.int (i : Int), d]) (.ref T) := by
  have le := Le.laid (ρ := ρ) T (.tup [.int (i : Nat), x]) hT
  exact ⟨le, s.laid hT, .tup upd_same (.cons (.int _) (.cons (r.mono le) .nil))⟩
theorem itok_en {K : PySem.W.Frag} {ρ : List Addr} {H : Hp} {ds : List D} {a : Addr} {xs : List V} (hx : H a = some (.tup xs)) (r : RepL ρ H ds xs) : ItOk K ρ H (srcIts (enumD ds)) (Ien K a) := by
  intro i ρ2 H2 st2 le s
  have hx2 := SqT.of (K := K) (le.tup _ _ hx)
  refine ⟨fun d e => ?_, fun e => ?_⟩
  · have e' : (enumD ds)[i]? = some d := Option.some.inj e
    rw [enumD_get] at e'
    obtain ⟨d0, e0, rfl⟩ := Option.map_eq_some_iff.mp e'
    obtain ⟨x, h1, h2⟩ := r.get e0
    refine ⟨⟨xs, x, hx2, h1⟩, fun y H3 ⟨T, x', ey, hT, e3, q⟩ => ?_⟩
    subst ey e3
    have h3 := q xs hx2
    rw [h1] at h3
    cases h3
    exact pair_new s hT (h2.mono le)
  · have e' : (enumD ds)[i]? = none := Option.some.inj e
    exact ⟨xs, hx2, by rw [← r.length, ← enumD_len]; exact List.getElem?_eq_none_iff.mp e'⟩
theorem itok_enL {K : PySem.W.Frag} {ρ : List Addr} {H : Hp} {l : Nat} {a : Addr} (ha : ρ[l]? = some a) : ItOk K ρ H (srcEn l) (Ite K a) := by
  intro i ρ2 H2 st2 le s
  have key : ∀ ds, lstAt st2 l = some ds → ∃ xs, SqL K H2 a xs ∧ RepL ρ2 H2 ds xs := fun ds e => by
    obtain ⟨b, xs, eb, h1, h2⟩ := lstAt_seq (K := K) s e (.loc (pre_get le.pre ha))
    cases eb
    exact ⟨xs, h1, h2⟩
  refine ⟨fun d e => ?_, fun e => ?_⟩
  · unfold srcEn at e
    cases q : lstAt st2 l with
    | none => rw [q] at e; cases e
    | some ds =>
      rw [q] at e
      have e' : (enumD ds)[i]? = some d := Option.some.inj e
      rw [enumD_get] at e'
      obtain ⟨d0, e0, rfl⟩ := Option.map_eq_some_iff.mp e'
      obtain ⟨xs, hx, r⟩ := key ds q
      obtain ⟨x, h1, h2⟩ := r.get e0
      refine ⟨⟨xs, x, hx, h1⟩, fun y H3 ⟨T, x', ey, hT, e3, q⟩ => ?_⟩
      subst ey e3
      have h3 := q xs hx
      rw [h1] at h3
      cases h3
      exact pair_new s hT h2
  · unfold srcEn at e
    cases q : lstAt st2 l with
    | none => rw [q] at e; cases e
    | some ds =>
      rw [q] at e
      have e' : (enumD ds)[i]? = none := Option.some.inj e
      obtain ⟨xs, hx, r⟩ := key ds q
      exact ⟨xs, hx, by rw [← r.length, ← enumD_len]; exact List.getElem?_eq_none_iff.mp e'⟩
theorem ji_enum {e : Expr} {mas : AM} {p pos tpos : Pos} {elts : List Expr} {kk : Nat} (hg : Gl X "enumerate") (hm : X.mg "enumerate" = none) (ha : JA X W [e] mas) (hs : starEach [e] X.env = [(false, eval e X.env)] := by rfl) :
    JI X W (.Tuple elts kk tpos) (.Call (.Name "enumerate" p) [e] [] pos) (iEnum mas) :=
  pi_imp (pi_en hg hm ha hs) fun σ H Rr h => (Wh.bnd (m := mas) (f := fun _ ds st => match ds with
    | [.tup es] => R.ok (es.length, srcIts (enumD es)) st
    | [.loc l] => match lstAt st l with
      | some es => R.ok (es.length, srcEn l) st
      | none => R.bad
    | _ => R.bad) h).imp fun ρ1 H1 st1 ds _ ⟨en, er, s1, q⟩ vs rvs => by
    split at q
    · rename_i es
      cases rvs with
      | cons r t =>
        cases t
        obtain ⟨a, xs, rfl, hx, r⟩ := r.tupA
        exact ⟨a, rfl, .inr ⟨⟨xs, SqT.of hx⟩, q ρ1 H1 Le.refl s1 _ (itok_en hx r)⟩⟩
    · rename_i l _
      cases rvs with
      | cons r t =>
        cases t
        cases q2 : lstAt st1 l with
        | none => rw [q2] at q; exact q.elim
        | some es =>
          rw [q2] at q
          obtain ⟨a, xs, rfl, hx, _⟩ := lstAt_seq (K := X.K) s1 q2 r
          obtain ⟨b, eb, hb⟩ := r.locA
          cases eb
          exact ⟨a, rfl, .inl ⟨⟨xs, hx⟩, q ρ1 H1 Le.refl s1 _ (itok_enL hb)⟩⟩
    · exact q.elim
end
/-! ### a tuple turned about -/
section
variable {prog : Program} {w : World} {A : Around} {E : Value → Shared → Prop} {s : Shared}
theorem back_places (n : Nat) : Builtin.Slice.slicePlaces ((n : Int) - 1) (-1) (-1) = n := by
  unfold Builtin.Slice.slicePlaces
  have h1 : ¬ ((-1 : Int) > 0) := by omega
  have h2 : (- -1 : Int) = 1 := rfl
  simp only [h1, if_false, h2, Int.ediv_one]
  split <;> omega
theorem back_applied {sl : Addr} {vs : Value} {n : Nat} {Q : Int × Int × Nat → Shared → Prop} (hs : s.heap.IsSliceOf sl .none .none vs) (ps : IsPart vs (some (-1)))
    (h : Q ((n : Int) - 1, -1, n) s) : wpAny (model prog w) A (Builtin.Slice.sliceApplied (.ref sl) (pure (n : Int))) Q E s := by
  obtain ⟨os, hos, hcs, hds⟩ := id hs
  unfold Builtin.Slice.sliceApplied Builtin.Slice.sliceFields
  refine wpAny_bind (wpAny_bind (wpAny_field hos hds (x := .none) rfl (wpAny_bind (wpAny_field hos hds (x := .none) rfl (wpAny_bind (wpAny_field hos hds (x := vs) rfl (wpAny_pure ?_)))))))
  refine wpAny_bind (HT.slicePart_ ps ?_)
  show wpAny _ _ (if ((-1 : Int) == 0) = true then _ else _) _ _ s
  rw [if_neg (by decide)]
  refine wpAny_bind (slicePart_none (wpAny_bind (slicePart_none (wpAny_bind (wpAny_pure ?_)))))
  show wpAny _ _ (pure ((n : Int) - 1, (-1 : Int), Builtin.Slice.slicePlaces ((n : Int) - 1) (-1) (-1))) _ _ s
  rw [back_places]
  exact wpAny_pure h
theorem back_pick (xs : Array Value) : ((List.range xs.size).filterMap fun (k : Nat) => xs[((xs.size : Int) - 1 + (k : Int) * -1).toNat]?).toArray = xs.toList.reverse.toArray := by
  have e : (fun (k : Nat) => xs[((xs.size : Int) - 1 + (k : Int) * -1).toNat]?) = (fun j => xs[j]?) ∘ fun k => xs.size - 1 - k := by
    funext k
    show xs[_]? = xs[_]?
    rw [show ((xs.size : Int) - 1 + (k : Int) * -1).toNat = xs.size - 1 - k by omega]
  rw [e, ← List.filterMap_map, PySem.W.krv_range, List.filterMap_reverse, PySem.W.krv_all]
theorem back_item {t sl : Addr} {items : Array Value} {vs : Value} {Q : Value → Shared → Prop} (ht : IsTup s.heap t items) (hs : s.heap.IsSliceOf sl .none .none vs) (ps : IsPart vs (some (-1)))
    (h : Q (.ref s.heap.objs.size) { s with heap := s.heap.push { cls := .type "tuple", data := .seq items.toList.reverse.toArray } })
    (hsz : items.size ≤ sizeLine) : wpAny (model prog w) A (getItem (.ref t) (.ref sl)) Q E s := by
  have hz : sizeOk (.seq items.toList.reverse.toArray) := by
    show items.toList.reverse.toArray.size ≤ sizeLine
    rw [List.size_toArray, List.length_reverse, Array.length_toList]
    exact hsz
  obtain ⟨os, hos, hcs, hds⟩ := id hs
  have hTs : s.TypeIs (.ref sl) "slice" := ⟨os, hos, hcs⟩
  unfold getItem
  try with_reducible refine wpAny_holding ?_
  first | refine wpAny_bind (wpAny_pure ?_) | skip
  refine wpAny_bind (wpAny_sequenceKey ht.typeIs (by decide) ?_)
  refine wpAny_bind (wpAny_callSpecial?_slot (name := Str.ofString "__getitem__") ht.typeIs PyProof.Rows.slot_tuple_getitem
    (wpAny_call_entry PyProof.Rows.slot_tuple_getitem ht.typeIs entry_tuple_getitem ?_ (args_tuple_getitem _ _)))
  show wpAny _ _ (Builtin.Tuple.tupleItemsOf (.ref t) >>= _) _ _ s
  refine wpAny_bind (tupleItemsOf_ ht ?_)
  refine wpAny_bind (wpAny_typeOf hTs ?_)
  rw [if_pos (by decide)]
  refine wpAny_bind (back_applied hs ps ?_)
  have hno : ¬ ((((items.size : Int) - 1) == 0 && (-1 : Int) == 1 && items.size == items.size) = true) := by
    rw [show ((-1 : Int) == 1) = false from rfl]
    simp
  show wpAny _ _ (if (((items.size : Int) - 1) == 0 && (-1 : Int) == 1 && items.size == items.size) = true then _ else _) _ _ s
  rw [if_neg hno, back_pick]
  first
    | exact wpAny_bind (m := Builtin.Tuple.tupleExact _) (wpAny_newObj_type (wpAny_pure ⟨_, rfl, wpAny_pure h⟩) hz)
    | exact wpAny_bind (m := Builtin.Tuple.tupleExact _) (wpAny_newObj_type (wpAny_bind (wpAny_pure (wpAny_pure ⟨_, rfl, wpAny_pure h⟩))) hz)
    | exact wpAny_bind (wpAny_bind (m := Builtin.Tuple.tupleExact _) (wpAny_newObj_type (wpAny_pure (wpAny_pure ⟨_, rfl, wpAny_pure h⟩)) hz))
    | exact wpAny_bind (wpAny_bind (m := Builtin.Tuple.tupleExact _) (wpAny_newObj_type (wpAny_pure ⟨_, rfl, wpAny_pure h⟩) hz))
end
section
variable {X : Cx} {W : WX}
def tBack (K : PySem.W.Frag) (te : TE) : TE := fun σ H Q => te σ H fun x H1 => ∃ a xs, x = .ref a ∧ SqT K H1 a xs ∧ ∀ p, H1 p = none → Q (.ref p) (upd H1 p (.tup xs.reverse))
theorem pe_back {e : Expr} {te : TE} {k : Nat} {p1 p2 p3 pos : Pos} (he : PE X e te) : PE X (.Subscript e (.Slice none none (some (.UnaryOp .USub (.Constant (.int 1) k p1) p2)) p3) pos) (tBack X.K te) := by
  refine ⟨fun pins s σ H Q I h => ?_⟩
  refine Subscript_ (thn (he.run pins s σ H _ I h) fun v s1 ⟨x, H1, I1, r1, q1⟩ => ?_)
  obtain ⟨a, xs, ex, hx, q⟩ := q1
  subst ex
  cases r1
  have hst : PO X (some (.UnaryOp .USub (.Constant (.int 1) k p1) p2)) (tPart (tUn (rU fun i => .int (-i)) (tC (.int 1)))) := po_some (pe_un un_neg pe_int)
  refine wpAny_Slice (thn (po_none.run pins s1 σ H1 (fun o H2 => o = none ∧ H2 = H1) I1 ⟨rfl, rfl⟩) fun vl s2 ⟨l, H2, I2, pl, el, e2⟩ => ?_)
  subst el e2
  refine thn (po_none.run pins s2 σ H2 (fun o H3 => o = none ∧ H3 = H2) I2 ⟨rfl, rfl⟩) fun vu s3 ⟨u, H3, I3, pu, eu, e3⟩ => ?_
  subst eu e3
  refine thn (hst.run pins s3 σ H3 (fun o H4 => o = some (-1) ∧ H4 = H3) I3 ⟨1, rfl, -1, rfl, rfl, rfl⟩) fun vs s4 ⟨o, H4, I4, ps, eo, e4⟩ => ?_
  subst eo e4
  cases pl
  cases pu
  have I5 : Inv X pins σ H4 { s4 with heap := s4.heap.push { cls := .type "slice", data := .fields #[.none, .none, vs] } } := I4.kept (t' := s4.toks) fun b ob q => Heap.get?_push_of_some _ q
  obtain ⟨its, r, ht, hz⟩ := I5.tuple hx
  have hlen := r.length
  show wpAny (model X.prog X.w) X.A (subscriptTail e (.Slice none none (some (.UnaryOp .USub (.Constant (.int 1) k p1) p2)) p3) (.ref a) (.ref s4.heap.objs.size)) (EP X pins σ Q) X.xe { s4 with heap := s4.heap.push { cls := .type "slice", data := .fields #[.none, .none, vs] } }
  refine tail_any (ops := [.ref a, .ref s4.heap.objs.size]) ht.typeIs (PyProof.Rows.slot_tuple_getitem.lookup) ?_ (by with_unfolding_all rfl)
  refine back_item ht (Heap.IsSliceOf.new _ .none .none vs) ps ?_ (by rw [List.size_toArray]; omega)
  refine ⟨.ref _, _, I5.laid (t' := s4.toks) (o := .tup xs.reverse) (fun b ob q => Heap.get?_push_of_some _ q) (Nat.le_refl _) ?_, rfl, q _ (I5.hok.fresh (Nat.le_refl _))⟩
  exact ⟨by rw [List.length_reverse]; exact hz, _, r.reverse, ⟨_, Heap.get?_push_size _ rfl, rfl, _, rfl⟩⟩
theorem repL_rev {ρ : List Addr} {H : Hp} {ds : List D} {xs : List V} (r : RepL ρ H ds xs) : RepL ρ H ds.reverse xs.reverse := by
  have app : ∀ {as bs : List D} {us vs : List V}, RepL ρ H as us → RepL ρ H bs vs → RepL ρ H (as ++ bs) (us ++ vs) := by
    intro as
    induction as with
    | nil => intro bs us vs a b; cases a; exact b
    | cons x as ih => intro bs us vs a b; cases a with | cons h t => exact .cons h (ih t b)
  induction ds generalizing xs with
  | nil => cases r; exact .nil
  | cons d ds ih =>
    cases r with
    | cons h t => rw [List.reverse_cons, List.reverse_cons]; exact app (ih t) (.cons h .nil)
/-- t[::-1] -/
def eBack (a : EM) : EM := fun en => bnd (a en) fun d => match d with
  | .tup ds => ret (D.tup ds.reverse)
  | _ => badM
theorem je_back {e : Expr} {me : EM} {k : Nat} {p1 p2 p3 pos : Pos} (he : JE X W e me) : JE X W (.Subscript e (.Slice none none (some (.UnaryOp .USub (.Constant (.int 1) k p1) p2)) p3) pos) (eBack me) :=
  pe_imp (pe_back he) fun σ H Q h => (Wh.bnd (m := me) (f := fun _ d => match d with
    | .tup ds => ret (D.tup ds.reverse)
    | _ => badM) h).imp fun ρ1 H1 st1 d _ ⟨en, he, hs, q⟩ v rv => by
    cases d with
    | tup ds =>
      obtain ⟨a, xs, rfl, hx, r⟩ := rv.tupA
      exact ⟨a, xs, rfl, SqT.of hx, newT_aft hs (repL_rev r) q⟩
    | non => exact q.elim
    | bl _ => exact q.elim
    | int _ => exact q.elim
    | str _ => exact q.elim
    | loc _ => exact q.elim
    | ty _ => exact q.elim
end
/-! ### text * number, str of a text, < of texts -/
def repS (x : Str) (n : Nat) : Str := ⟨((List.replicate n x.cps.toList).flatten).toArray⟩
theorem rep_fold (x : Array Nat) (n : Nat) (acc : Array Nat) : (List.replicate n x).foldl (· ++ ·) acc = acc ++ ((List.replicate n x.toList).flatten).toArray := by
  induction n generalizing acc with
  | zero => simp
  | succ n ih =>
    rw [List.replicate_succ, List.foldl_cons, ih, List.replicate_succ, List.flatten_cons, Array.append_assoc]
    congr 1
    apply Array.ext'
    simp
theorem rep_nil (n : Nat) : (List.replicate n ([] : List Nat)).flatten = [] := by
  induction n with
  | zero => rfl
  | succ n ih => rw [List.replicate_succ, List.flatten_cons, ih]; rfl
section
variable {X : Cx}
theorem op_mulS : OpR X (binaryOp .Mult) (fun x y H Q => ∃ (z : Str) (n : Nat), x = .str z ∧ y = .int (n : Int) ∧ n ≤ 1000 ∧ z.length ≤ 1000 ∧ Q (.str (repS z n)) H) := by
  intro pins s σ H x y v u Q I rx ry h
  obtain ⟨z, n, rfl, rfl, hn, hz, q⟩ := h
  obtain ⟨t, rfl⟩ := rx
  obtain ⟨t', rfl⟩ := ry
  have hN : (n : Int) ≤ 1000 := by omega
  have hp : z.length * n ≤ 1000000 := by
    have := Nat.mul_le_mul hz hn
    omega
  refine PySem.P.mul_str (by
      rw [decide_eq_false (show ¬ ((n : Int) < -(2 ^ 63 : Int)) by omega), decide_eq_false (show ¬ ((n : Int) ≥ 2 ^ 63) by omega)]
      rfl) (fun h1 h2 h3 => ?_) (fun h1 h2 => ?_) ?_
  · have h4 : (z.length : Int) ≤ (2 ^ 63 - 1) / (n : Int) := by
      have hn0 : (0 : Int) < (n : Int) := by omega
      rw [Int.le_ediv_iff_mul_le hn0]
      have : (z.length : Int) * (n : Int) = ((z.length * n : Nat) : Int) := by simp
      omega
    omega
  · unfold Builtin.Str.tooLong
    rw [Int.toNat_natCast]
    exact decide_eq_false (Nat.not_lt.mpr (Nat.le_trans hp (by decide)))
  · by_cases h0 : (n : Int) < 1
    · rw [if_pos h0]
      have hn0 : n = 0 := by omega
      subst hn0
      exact ⟨by decide, ⟨.str _, H, I.tok _, ⟨_, rfl⟩, q⟩⟩
    · rw [if_neg h0]
      by_cases h1 : ((n : Int) == 1 || z.length == 0) = true
      · rw [if_pos h1]
        have e : repS z n = z := by
          rw [Bool.or_eq_true] at h1
          unfold repS
          rcases h1 with h1 | h1
          · have : n = 1 := by have := eq_of_beq h1; omega
            subst this
            simp
          · have hl : z.cps.toList = [] := List.length_eq_zero_iff.mp (by rw [Array.length_toList]; exact eq_of_beq h1)
            rw [hl, rep_nil]
            have : z.cps = #[] := Array.toList_inj.mp hl
            cases z
            simp_all
        rw [e] at q
        exact ⟨.str _, H, I, ⟨_, rfl⟩, q⟩
      · rw [if_neg h1]
        have e : (⟨(List.replicate (n : Int).toNat z.cps).foldl (· ++ ·) #[]⟩ : Str) = repS z n := by
          rw [Int.toNat_natCast, rep_fold]
          unfold repS
          simp
        rw [e]
        refine ⟨?_, ⟨.str _, H, I.tok _, ⟨_, rfl⟩, q⟩⟩
        have hl : (repS z n).length = z.length * n := by
          unfold repS
          show ((List.replicate n z.cps.toList).flatten).toArray.size = _
          rw [List.size_toArray, List.length_flatten, List.map_replicate, List.sum_replicate_nat, Array.length_toList, Nat.mul_comm]
          rfl
        rw [hl]
        exact Nat.le_trans hp (by decide)
def oMulX : O2
  | .str z, .int i, st => if 0 ≤ i ∧ i ≤ 1000 ∧ z.length ≤ 1000 then some (.str (repS z i.toNat), st) else none
  | d, e, st => oMul d e st
theorem ob_mulX : OpR X (binaryOp .Mult) (rB X.K oMulX) := by
  intro pins s σ H x y v u Q I rx ry ⟨ρ, st, d, e, a, st', hs, rd, re, h, k⟩
  unfold oMulX at h
  split at h
  · split at h
    · rename_i hc
      cases h; cases rd; cases re
      exact op_mulS pins s σ H _ _ v u Q I rx ry ⟨_, Int.toNat _, rfl, by rw [Int.toNat_of_nonneg hc.1], by omega, hc.2.2, k ρ H _ Le.refl hs (.str _)⟩
    · cases h
  · exact ob_mul pins s σ H x y v u Q I rx ry ⟨ρ, st, d, e, a, st', hs, rd, re, h, k⟩
theorem call_str_str : CallR X (.type "str") (fun xs H Q => ∃ z, xs = [.str z] ∧ Q (.str z) H) := by
  intro pins s σ H xs us Q I r h
  obtain ⟨z, rfl, q⟩ := h
  obtain ⟨u, rfl, t, rfl⟩ := vals1 r
  exact PySem.P.str_of_str ⟨.str _, H, I, ⟨_, rfl⟩, q⟩
def oStrX : OC := fun ds st => match ds with
  | [.str z] => some (.str z, st)
  | ds => oStrI ds st
theorem ct_strX : CallR X (.type "str") (rC X.K oStrX) := by
  intro pins s σ H vs us Q I r ⟨ρ, st, ds, a, st', hs, rs, h, k⟩
  unfold oStrX at h
  split at h
  · cases h
    cases rs with
    | cons r1 t1 =>
      cases t1
      cases r1
      exact call_str_str pins s σ H _ us Q I r ⟨_, rfl, k ρ H _ Le.refl hs (.str _)⟩
  · exact ct_strI pins s σ H vs us Q I r ⟨ρ, st, ds, a, st', hs, rs, h, k⟩
def oLtX : O2
  | .str x, .str y, st => some (.bl (decide (x.cps.toList < y.cps.toList)), st)
  | d, e, st => oLt d e st
theorem ob_ltX : OpR X (compareOp .Lt) (rB X.K oLtX) := by
  intro pins s σ H x y v u Q I rx ry ⟨ρ, st, d, e, a, st', hs, rd, re, h, k⟩
  unfold oLtX at h
  split at h
  · cases h; cases rd; cases re
    exact op_lt_str pins s σ H _ _ v u Q I rx ry ⟨_, _, rfl, rfl, k ρ H _ Le.refl hs (.bl _)⟩
  · exact ob_lt pins s σ H x y v u Q I rx ry ⟨ρ, st, d, e, a, st', hs, rd, re, h, k⟩
end
/-! ### is of truths -/
section
variable {X : Cx}
def oIsX : O2
  | .bl a, .bl b, st => some (.bl (decide (a = b)), st)
  | d, e, st => oIsN d e st
def oNotX : O2
  | .bl a, .bl b, st => some (.bl (!decide (a = b)), st)
  | d, e, st => oNotN d e st
theorem ob_isX : OpR X (compareOp .Is) (rB X.K oIsX) := by
  intro pins s σ H x y v u Q I rx ry ⟨ρ, st, d, e, a, st', hs, rd, re, h, k⟩
  unfold oIsX at h
  split at h
  · cases h; cases rd; cases re
    exact op_isBl pins s σ H _ _ v u Q I rx ry ⟨_, _, rfl, rfl, k ρ H _ Le.refl hs (.bl _)⟩
  · exact ob_isN pins s σ H x y v u Q I rx ry ⟨ρ, st, d, e, a, st', hs, rd, re, h, k⟩
theorem ob_notX : OpR X (compareOp .IsNot) (rB X.K oNotX) := by
  intro pins s σ H x y v u Q I rx ry ⟨ρ, st, d, e, a, st', hs, rd, re, h, k⟩
  unfold oNotX at h
  split at h
  · cases h; cases rd; cases re
    exact op_notBl pins s σ H _ _ v u Q I rx ry ⟨_, _, rfl, rfl, k ρ H _ Le.refl hs (.bl _)⟩
  · exact ob_notN pins s σ H x y v u Q I rx ry ⟨ρ, st, d, e, a, st', hs, rd, re, h, k⟩
end
end Sh

set_option maxHeartbeats 1000000
/-! ShM: what holds of a result; the words with which a def's function is gone through. (printed in part by mkM.py) -/
namespace Sh
open PySem PySem.Spec PyProof.Rows L2

abbrev NoE : Str → Sto → Prop := fun _ _ => False
def OkX {α : Type} (r : R α) (P : α → Sto → Prop) (E : Str → Sto → Prop) : Prop := match r with
  | .ok a st => P a st
  | .exc c st => E c st
  | .bad => False
abbrev Ok {α : Type} (r : R α) (P : α → Sto → Prop) : Prop := OkX r P NoE
def OkO (o : Option (D × Sto)) (P : D → Sto → Prop) : Prop := match o with
  | some p => P p.1 p.2
  | none => False
def OkV (o : Option (Option D)) (st : Sto) (P : D → Sto → Prop) : Prop := match o with
  | some (some d) => P d st
  | _ => False
structure Po where
  nx : Ev → Sto → Prop
  rt : D → Sto → Prop
  bk : Ev → Sto → Prop
  ct : Ev → Sto → Prop
  ex : Str → Ev → Sto → Prop
def OkS (r : SR) (p : Po) : Prop := match r with
  | .nx en st => p.nx en st
  | .rt d st => p.rt d st
  | .bk en st => p.bk en st
  | .ct en st => p.ct en st
  | .exc c en st => p.ex c en st
  | .bad => False
section
variable {α β : Type} {P P' : α → Sto → Prop} {E E' : Str → Sto → Prop} {st : Sto} {en : Ev} {p : Po}
theorem OkX.imp {r : R α} (h : OkX r P E) (k : ∀ a st, P a st → P' a st) (ke : ∀ c st, E c st → E' c st) : OkX r P' E' := by
  cases r with
  | ok a st => exact k _ _ h
  | exc c st => exact ke _ _ h
  | bad => exact h
theorem Ok.imp {r : R α} (h : Ok r P) (k : ∀ a st, P a st → P' a st) : OkX r P' E := OkX.imp h k fun _ _ z => z.elim
theorem Ok.out {r : R α} (h : Ok r P) : ∃ a st, r = .ok a st ∧ P a st := by
  cases r with
  | ok a st => exact ⟨a, st, rfl, h⟩
  | exc c st => exact h.elim
  | bad => exact h.elim
theorem OkX.of_eq {r : R α} {a : α} {st : Sto} (e : r = .ok a st) (h : P a st) : OkX r P E := by
  rw [e]
  exact h
theorem k_bnd {P : β → Sto → Prop} (m : M α) (f : α → M β) : OkX (bnd m f st) P E = OkX (m st) (fun a st1 => OkX (f a st1) P E) E := by
  unfold bnd
  cases m st <;> rfl
theorem k_ret (a : α) : OkX (ret a st) P E = P a st := rfl
theorem k_ok (a : α) : OkX (R.ok a st) P E = P a st := rfl
theorem k_bad : OkX (R.bad : R α) P E = False := rfl
theorem k_badM : OkX (badM st : R α) P E = False := rfl
theorem k_exc (c : Str) : OkX (R.exc c st : R α) P E = E c st := rfl
theorem k_lft {P : D → Sto → Prop} (o : Sto → Option (D × Sto)) : OkX (lft o st) P E = OkO (o st) P := by
  unfold lft
  cases o st <;> rfl
theorem k_ite {c : Prop} [Decidable c] (m m' : M α) : OkX ((if c then m else m') st) P E = if c then OkX (m st) P E else OkX (m' st) P E := by split <;> rfl
theorem k_ite' {c : Prop} [Decidable c] (m m' : R α) : OkX (if c then m else m') P E = if c then OkX m P E else OkX m' P E := by split <;> rfl
theorem o_some {P : D → Sto → Prop} (d : D) : OkO (some (d, st)) P = P d st := rfl
theorem o_none {P : D → Sto → Prop} : OkO none P = False := rfl
theorem o_ite {P : D → Sto → Prop} {c : Prop} [Decidable c] (a b : Option (D × Sto)) : OkO (if c then a else b) P = if c then OkO a P else OkO b P := by split <;> rfl
theorem v_some {P : D → Sto → Prop} (d : D) : OkV (some (some d)) st P = P d st := rfl
theorem k_var {P : D → Sto → Prop} (i : Nat) : OkX (eVar i en st) P E = OkV en[i]? st P := by
  unfold eVar OkV
  cases en[i]? with
  | none => rfl
  | some o => cases o <;> rfl
theorem k_c {P : D → Sto → Prop} (d : D) : OkX (eC d en st) P E = P d st := rfl
theorem k_op {P : D → Sto → Prop} (g : O2) (a b : EM) : OkX (eOp g a b en st) P E = OkX (a en st) (fun x st1 => OkX (b en st1) (fun y st2 => OkO (g x y st2) P) E) E := by
  unfold eOp
  rw [k_bnd]
  congr 1
  funext x st1
  rw [k_bnd]
  congr 1
  funext y st2
  rw [k_lft]
theorem k_call {P : D → Sto → Prop} (n : Nat) (f : Fn) (as : AM) : OkX (eCall n f as en st) P E = OkX (as en st) (fun ds st1 => if ds.length = n then OkX (f ds st1) P E else False) E := by
  unfold eCall
  rw [k_bnd]
  congr 1
  funext ds st1
  rw [k_ite]
  rfl
theorem k_call0 {P : D → Sto → Prop} (f : Fn) : OkX (eCall0 f en st) P E = OkX (f [] st) P E := rfl
theorem k_cb {P : D → Sto → Prop} (g : OC) (as : AM) : OkX (eCB g as en st) P E = OkX (as en st) (fun ds st1 => OkO (g ds st1) P) E := by
  unfold eCB
  rw [k_bnd]
  congr 1
  funext ds st1
  rw [k_lft]
theorem k_nil {P : List D → Sto → Prop} : OkX (aNil en st) P E = P [] st := rfl
theorem k_cons {P : List D → Sto → Prop} (a : EM) (as : AM) : OkX (aCons a as en st) P E = OkX (a en st) (fun x st1 => OkX (as en st1) (fun xs st2 => P (x :: xs) st2) E) E := by
  unfold aCons
  rw [k_bnd]
  congr 1
  funext x st1
  rw [k_bnd]
  rfl
theorem k_tup {P : D → Sto → Prop} (as : AM) : OkX (eTup as en st) P E = OkX (as en st) (fun ds st1 => if ds.length ≤ sizeLine then P (.tup ds) st1 else False) E := by
  unfold eTup
  rw [k_bnd]
  congr 1
  funext ds st1
  rw [k_ite]
  rfl
theorem k_lst {P : D → Sto → Prop} (as : AM) : OkX (eLst as en st) P E = OkX (as en st) (fun ds st1 => if ds.length ≤ sizeLine then P (.loc st1.length) (st1 ++ [.lst ds]) else False) E := by
  unfold eLst
  rw [k_bnd]
  congr 1
  funext ds st1
  rw [k_ite]
  rfl
theorem k_asB (d : D) {P : Bool → Sto → Prop} : OkX (asB d st) P E = (match d with | .bl b => P b st | _ => False) := by cases d <;> rfl
theorem k_bOf {P : Bool → Sto → Prop} (m : EM) : OkX (bOf m en st) P E = OkX (m en st) (fun d st1 => match d with | .bl b => P b st1 | _ => False) E := by
  unfold bOf
  rw [k_bnd]
  congr 1
  funext d st1
  rw [k_asB]
theorem k_bAnd {P : Bool → Sto → Prop} (t u : BM) : OkX (bAnd t u en st) P E = OkX (t en st) (fun c st1 => if c = true then OkX (u en st1) P E else P false st1) E := by
  unfold bAnd
  rw [k_bnd]
  congr 1
  funext c st1
  rw [k_ite]
  rfl
theorem k_bOr {P : Bool → Sto → Prop} (t u : BM) : OkX (bOr t u en st) P E = OkX (t en st) (fun c st1 => if c = true then P true st1 else OkX (u en st1) P E) E := by
  unfold bOr
  rw [k_bnd]
  congr 1
  funext c st1
  rw [k_ite]
  rfl
theorem k_bNot {P : Bool → Sto → Prop} (t : BM) : OkX (bNot t en st) P E = OkX (t en st) (fun c st1 => P (!c) st1) E := by
  unfold bNot
  rw [k_bnd]
  rfl
theorem k_and {P : D → Sto → Prop} (a b : EM) : OkX (eAnd a b en st) P E = OkX (bOf a en st) (fun c st1 => if c = true then OkX (b en st1) P E else P (.bl false) st1) E := by
  unfold eAnd
  rw [k_bnd]
  congr 1
  funext c st1
  rw [k_ite]
  rfl
theorem k_or {P : D → Sto → Prop} (a b : EM) : OkX (eOr a b en st) P E = OkX (bOf a en st) (fun c st1 => if c = true then P (.bl true) st1 else OkX (b en st1) P E) E := by
  unfold eOr
  rw [k_bnd]
  congr 1
  funext c st1
  rw [k_ite]
  rfl
theorem k_not {P : D → Sto → Prop} (a : EM) : OkX (eNot a en st) P E = OkX (bOf a en st) (fun c st1 => P (.bl (!c)) st1) E := by
  unfold eNot
  rw [k_bnd]
  rfl
theorem k_if {P : D → Sto → Prop} (t : BM) (a b : EM) : OkX (eIf t a b en st) P E = OkX (t en st) (fun c st1 => if c = true then OkX (a en st1) P E else OkX (b en st1) P E) E := by
  unfold eIf
  rw [k_bnd]
  congr 1
  funext c st1
  rw [k_ite]
theorem k_chain {P : D → Sto → Prop} (g g' : O2) (a b c : EM) : OkX (eChain g g' a b c en st) P E = OkX (a en st) (fun x st1 => OkX (b en st1) (fun y st2 => OkO (g x y st2) (fun z st3 => match z with
    | .bl k => if k = true then OkX (c en st3) (fun w st4 => OkO (g' y w st4) P) E else P (.bl false) st3
    | _ => False)) E) E := by
  unfold eChain
  rw [k_bnd]
  congr 1
  funext x st1
  rw [k_bnd]
  congr 1
  funext y st2
  rw [k_bnd, k_lft]
  congr 1
  funext z st3
  rw [k_bnd, k_asB]
  split
  · rw [k_ite, k_bnd]
    congr 1
    congr 1
    funext w st4
    rw [k_lft]
  · rfl
theorem k_inC {P : D → Sto → Prop} (neg : Bool) (ws : List Str) (a : EM) : OkX (eInC neg ws a en st) P E = OkX (a en st) (fun x st1 => if flatD x = true then P (.bl (if neg then !inD x (ws.map D.str) else inD x (ws.map D.str))) st1 else False) E := by
  unfold eInC
  rw [k_bnd]
  congr 1
  funext x st1
  rw [k_ite]
  rfl
theorem k_neg {P : D → Sto → Prop} (a : EM) : OkX (eNeg a en st) P E = OkX (a en st) (fun d st1 => match d with | .int i => P (.int (-i)) st1 | _ => False) E := by
  unfold eNeg
  rw [k_bnd]
  congr 1
  funext d st1
  cases d <;> rfl
theorem k_bm {P : D → Sto → Prop} (T : String) (g : OMt) (o : EM) (as : AM) : OkX (eBM T g o as en st) P E = OkX (o en st) (fun d st1 => if isTyD T d st1 = true then OkX (as en st1) (fun ds st2 => OkO (g d ds st2) P) E else False) E := by
  unfold eBM
  rw [k_bnd]
  congr 1
  funext d st1
  rw [k_bnd]
  show OkX (if isTyD T d st1 = true then R.ok () st1 else R.bad) _ E = _
  rw [k_ite']
  split
  · rw [k_ok, k_bnd]
    congr 1
    funext ds st2
    rw [k_lft]
  · rfl
theorem k_get2 {P : D → Sto → Prop} (o i f : EM) : OkX (eGet2 o i f en st) P E = OkX (o en st) (fun d st1 => if isTyD "dict" d st1 = true then OkX (i en st1) (fun k st2 => OkX (f en st2) (fun z st3 => match d with
    | .loc l => match dkAt st3 l, keyOf k with
      | some kvs, some kk => P ((lookK kvs kk).getD z) st3
      | _, _ => False
    | _ => False) E) E else False) E := by
  unfold eGet2
  rw [k_bnd]
  congr 1
  funext d st1
  rw [k_bnd]
  show OkX (if isTyD "dict" d st1 = true then R.ok () st1 else R.bad) _ E = _
  rw [k_ite']
  split
  · rw [k_ok, k_bnd]
    congr 1
    funext k st2
    rw [k_bnd]
    congr 1
    funext z st3
    cases d <;> try rfl
    rename_i l _
    dsimp only
    cases dkAt st3 l <;> cases keyOf k <;> rfl
  · rfl
theorem k_pnone {P : Option Int → Sto → Prop} : OkX (pOpt none en st) P E = P none st := rfl
theorem k_psome {P : Option Int → Sto → Prop} (m : EM) : OkX (pOpt (some m) en st) P E = OkX (m en st) (fun d st1 => match d with | .int i => P (some i) st1 | _ => False) E := by
  unfold pOpt
  dsimp only
  rw [k_bnd]
  congr 1
  funext d st1
  cases d <;> rfl
theorem k_sl {P : D → Sto → Prop} (a : EM) (lo hi : Option EM) : OkX (eSl a lo hi en st) P E = OkX (a en st) (fun d st1 => OkX (pOpt lo en st1) (fun l st2 => OkX (pOpt hi en st2) (fun h st3 => OkO (slD d l h st3) P) E) E) E := by
  unfold eSl
  rw [k_bnd]
  congr 1
  funext d st1
  rw [k_bnd]
  congr 1
  funext l st2
  rw [k_bnd]
  congr 1
  funext h st3
  rw [k_lft]
theorem k_pnil {P : List (D × D) → Sto → Prop} : OkX (evPairs [] en st) P E = P [] st := rfl
theorem k_pcons {P : List (D × D) → Sto → Prop} (a b : EM) (r : List (EM × EM)) : OkX (evPairs ((a, b) :: r) en st) P E = OkX (a en st) (fun x st1 => OkX (b en st1) (fun y st2 => OkX (evPairs r en st2) (fun ps st3 => P ((x, y) :: ps) st3) E) E) E := by
  rw [evPairs, k_bnd]
  congr 1
  funext x st1
  rw [k_bnd]
  congr 1
  funext y st2
  rw [k_bnd]
  rfl
theorem k_dic {P : D → Sto → Prop} (ps : List (EM × EM)) : OkX (eDic ps en st) P E = OkX (evPairs ps en (st ++ [.dic []])) (fun prs st' => ∃ kvs, asKeys prs = some kvs ∧ st'[st.length]? = some (.dic []) ∧ kvs.length ≤ 15 ∧ P (.loc st.length) (st'.set st.length (.dic (mergeD [] kvs)))) E := by
  unfold eDic
  cases evPairs ps en (st ++ [.dic []]) with
  | bad => rfl
  | exc c st' => rfl
  | ok prs st' =>
    dsimp only
    rw [k_ok]
    cases asKeys prs with
    | none => simp [OkX]
    | some kvs =>
      dsimp only
      split
      · rename_i h
        split
        · rename_i hl
          simp [OkX, h, hl]
        · rename_i hl
          simp [OkX, hl]
      · rename_i h
        simp only [OkX]
        refine propext ⟨fun z => z.elim, fun ⟨_, e, q, _⟩ => ?_⟩
        exact h q
/-! ### statements -/
theorem k_seq (a b : SM) : OkS (sSeq a b en st) p = OkS (a en st) { p with nx := fun en' st' => OkS (b en' st') p } := by
  unfold sSeq
  cases a en st <;> rfl
theorem k_nx : OkS (.nx en st) p = p.nx en st := rfl
theorem k_rt (d : D) : OkS (.rt d st) p = p.rt d st := rfl
theorem k_sbad : OkS .bad p = False := rfl
theorem k_snil : OkS (sNil en st) p = p.nx en st := rfl
theorem k_spass : OkS (sPass en st) p = p.nx en st := rfl
theorem k_sB (m : Ev → M α) (k : α → SM) : OkS (sB m k en st) p = OkX (m en st) (fun a st1 => OkS (k a en st1) p) (fun c st1 => p.ex c en st1) := by
  unfold sB
  cases m en st <;> rfl
theorem k_set (i : Nat) (m : EM) : OkS (sSet i m en st) p = OkX (m en st) (fun d st1 => p.nx (en.set i (some d)) st1) (fun c st1 => p.ex c en st1) := by
  unfold sSet
  rw [k_sB]
  rfl
theorem k_sret (m : EM) : OkS (sRet m en st) p = OkX (m en st) p.rt (fun c st1 => p.ex c en st1) := by
  unfold sRet
  rw [k_sB]
  rfl
theorem k_sretN : OkS (sRetN en st) p = p.rt .non st := rfl
theorem k_sexp (m : EM) : OkS (sExp m en st) p = OkX (m en st) (fun _ st1 => p.nx en st1) (fun c st1 => p.ex c en st1) := by
  unfold sExp
  rw [k_sB]
  rfl
theorem k_site {c : Prop} [Decidable c] (a b : SM) : OkS ((if c then a else b) en st) p = if c then OkS (a en st) p else OkS (b en st) p := by split <;> rfl
theorem k_sif (t : BM) (a b : SM) : OkS (sIf t a b en st) p = OkX (t en st) (fun c st1 => if c = true then OkS (a en st1) p else OkS (b en st1) p) (fun c st1 => p.ex c en st1) := by
  unfold sIf
  rw [k_sB]
  congr 1
  funext c st1
  rw [k_site]
theorem k_asg (m : EM) (t : D → Ev → Option Ev) : OkS (sAsg m t en st) p = OkX (m en st) (fun d st1 => match t d en with | some en' => p.nx en' st1 | none => False) (fun c st1 => p.ex c en st1) := by
  unfold sAsg
  rw [k_sB]
  congr 1
  funext d st1
  cases t d en <;> rfl
theorem k_par2 (i j : Nat) (as : AM) : OkS (sPar2 i j as en st) p = OkX (as en st) (fun ds st1 => match ds with | [d, d'] => p.nx ((en.set i (some d)).set j (some d')) st1 | _ => False) (fun c st1 => p.ex c en st1) := by
  unfold sPar2
  rw [k_sB]
  congr 1
  funext ds st1
  rcases ds with _ | ⟨a, _ | ⟨b, _ | ⟨c, r⟩⟩⟩ <;> rfl
theorem k_par3 (i j l : Nat) (as : AM) : OkS (sPar3 i j l as en st) p = OkX (as en st) (fun ds st1 => match ds with | [d, d', d''] => p.nx (((en.set i (some d)).set j (some d')).set l (some d'')) st1 | _ => False) (fun c st1 => p.ex c en st1) := by
  unfold sPar3
  rw [k_sB]
  congr 1
  funext ds st1
  rcases ds with _ | ⟨a, _ | ⟨b, _ | ⟨c, _ | ⟨d, r⟩⟩⟩⟩ <;> rfl
theorem k_aug (i : Nat) (g : O2) (m : EM) : OkS (sAug i g m en st) p = OkV en[i]? st (fun d0 st0 => OkX (m en st0) (fun d st1 => OkO (g d0 d st1) (fun r st2 => p.nx (en.set i (some r)) st2)) (fun c st1 => p.ex c en st1)) := by
  unfold sAug
  rw [k_sB, k_var]
  congr 1
  funext d0 st0
  rw [k_sB, k_bnd]
  congr 1
  funext d st1
  rw [k_lft]
  rfl
theorem k_put (mv mo mi : EM) : OkS (sPut mv mo mi en st) p = OkX (mv en st) (fun v st1 => OkX (mo en st1) (fun o st2 => OkX (mi en st2) (fun i st3 => match setO o i v st3 with | some st4 => p.nx en st4 | none => False) (fun c st1 => p.ex c en st1)) (fun c st1 => p.ex c en st1)) (fun c st1 => p.ex c en st1) := by
  unfold sPut
  rw [k_sB, k_bnd]
  congr 1
  funext v st1
  rw [k_bnd]
  congr 1
  funext o st2
  rw [k_bnd]
  congr 1
  funext i st3
  show OkX (match setO o i v st3 with | some st' => R.ok () st' | none => R.bad) _ _ = _
  cases setO o i v st3 <;> rfl
theorem k_raise (c : Str) : OkS (sRaise c en st) p = p.ex c en st := rfl
theorem k_run (n : Nat) (b : SM) (ds : List D) {P : D → Sto → Prop} : OkX (runDef n b ds st) P E = OkS (b (startD n ds) st) ⟨fun _ st' => P .non st', P, fun _ _ => False, fun _ _ => False, fun c _ st' => E c st'⟩ := by
  unfold runDef
  cases b (startD n ds) st <;> rfl
theorem OkS.imp {r : SR} {p q : Po} (h : OkS r p) (h1 : ∀ en st, p.nx en st → q.nx en st) (h2 : ∀ d st, p.rt d st → q.rt d st) (h3 : ∀ en st, p.bk en st → q.bk en st) (h4 : ∀ en st, p.ct en st → q.ct en st) (h5 : ∀ c en st, p.ex c en st → q.ex c en st) : OkS r q := by
  cases r with
  | nx _ _ => exact h1 _ _ h
  | rt _ _ => exact h2 _ _ h
  | bk _ _ => exact h3 _ _ h
  | ct _ _ => exact h4 _ _ h
  | exc _ _ _ => exact h5 _ _ _ h
  | bad => exact h
/-! ### loops -/
theorem k_seqI {P : Nat × Src → Sto → Prop} (m : EM) : OkX (iSeq m en st) P E = OkX (m en st) (fun d st1 => match d with
    | .tup ds => P (ds.length, srcIts ds) st1
    | .str s => P (s.length, srcIts (signsD s)) st1
    | .loc l => (match lstAt st1 l with | some ds => P (ds.length, srcAt l) st1 | none => False)
    | _ => False) E := by
  unfold iSeq
  rw [k_bnd]
  congr 1
  funext d st1
  cases d <;> try rfl
  rename_i l
  dsimp only
  cases lstAt st1 l <;> rfl
theorem k_range1 {P : Nat × Src → Sto → Prop} (as : AM) : OkX (iRange1 as en st) P E = OkX (as en st) (fun ds st1 => match ds with
    | [.int j] => if -(2 ^ 62) ≤ j ∧ j < 2 ^ 62 then P (j.toNat, srcIts ((List.range j.toNat).map fun (k : Nat) => D.int (k : Int))) st1 else False
    | _ => False) E := by
  unfold iRange1
  rw [k_bnd]
  congr 1
  funext ds st1
  rcases ds with _ | ⟨a, _ | ⟨b, r⟩⟩
  · rfl
  · cases a <;> try rfl
    dsimp only
    rw [k_ite']
    rfl
  · cases a <;> rfl
theorem k_forI (m : Ev → M (Nat × Src)) (tg : D → Ev → Option Ev) (b : SM) : OkS (sForI m tg b en st) p = OkX (m en st) (fun q st1 => OkS (sFor b tg q.2 q.1 0 en st1) p) (fun c st1 => p.ex c en st1) := by
  unfold sForI
  rw [k_sB]
/-- a loop over items that stand fast, by what holds ahead of each turn -/
theorem for_its {b : SM} {tg : D → Ev → Option Ev} {ds : List D} (I : Nat → Ev → Sto → Prop) (h0 : I 0 en st)
    (hs : ∀ i d en st, ds[i]? = some d → I i en st → ∃ en1, tg d en = some en1 ∧ OkS (b en1 st) { p with nx := I (i + 1), ct := I (i + 1), bk := p.nx })
    (hd : ∀ en st, I ds.length en st → p.nx en st) : OkS (sFor b tg (srcIts ds) ds.length 0 en st) p := by
  have gen : ∀ (n i : Nat) (en : Ev) (st : Sto), n + i = ds.length → I i en st → OkS (sFor b tg (srcIts ds) n i en st) p := by
    intro n
    induction n with
    | zero =>
      intro i en st e hI
      have e' : ds[i]? = none := List.getElem?_eq_none_iff.mpr (by omega)
      unfold sFor srcIts
      rw [e']
      have : i = ds.length := by omega
      subst this
      exact hd en st hI
    | succ n ih =>
      intro i en st e hI
      have hi : i < ds.length := by omega
      have e' : ds[i]? = some ds[i] := List.getElem?_eq_getElem hi
      obtain ⟨en1, e1, h1⟩ := hs i _ en st e' hI
      unfold sFor srcIts
      rw [e']
      dsimp only
      rw [e1]
      dsimp only
      cases q : b en1 st with
      | nx en2 st2 => rw [q] at h1; exact ih (i + 1) en2 st2 (by omega) h1
      | ct en2 st2 => rw [q] at h1; exact ih (i + 1) en2 st2 (by omega) h1
      | bk en2 st2 => rw [q] at h1; exact h1
      | rt d st2 => rw [q] at h1; exact h1
      | exc c en2 st2 => rw [q] at h1; exact h1
      | bad => rw [q] at h1; exact h1
  exact gen ds.length 0 en st rfl h0
/-- a loop over a list of the store that the body leaves as it is -/
theorem for_at {b : SM} {tg : D → Ev → Option Ev} {l : Nat} {ds : List D} (I : Nat → Ev → Sto → Prop) (h0 : I 0 en st) (hl : ∀ i en st, I i en st → lstAt st l = some ds)
    (hs : ∀ i d en st, ds[i]? = some d → I i en st → ∃ en1, tg d en = some en1 ∧ OkS (b en1 st) { p with nx := I (i + 1), ct := I (i + 1), bk := p.nx })
    (hd : ∀ en st, I ds.length en st → p.nx en st) : OkS (sFor b tg (srcAt l) ds.length 0 en st) p := by
  have gen : ∀ (n i : Nat) (en : Ev) (st : Sto), n + i = ds.length → I i en st → OkS (sFor b tg (srcAt l) n i en st) p := by
    intro n
    induction n with
    | zero =>
      intro i en st e hI
      have e' : ds[i]? = none := List.getElem?_eq_none_iff.mpr (by omega)
      unfold sFor srcAt
      rw [hl i en st hI]
      dsimp only
      rw [e']
      have : i = ds.length := by omega
      subst this
      exact hd en st hI
    | succ n ih =>
      intro i en st e hI
      have hi : i < ds.length := by omega
      have e' : ds[i]? = some ds[i] := List.getElem?_eq_getElem hi
      obtain ⟨en1, e1, h1⟩ := hs i _ en st e' hI
      unfold sFor srcAt
      rw [hl i en st hI]
      dsimp only
      rw [e']
      dsimp only
      rw [e1]
      dsimp only
      cases q : b en1 st with
      | nx en2 st2 => rw [q] at h1; exact ih (i + 1) en2 st2 (by omega) h1
      | ct en2 st2 => rw [q] at h1; exact ih (i + 1) en2 st2 (by omega) h1
      | bk en2 st2 => rw [q] at h1; exact h1
      | rt d st2 => rw [q] at h1; exact h1
      | exc c en2 st2 => rw [q] at h1; exact h1
      | bad => rw [q] at h1; exact h1
  exact gen ds.length 0 en st rfl h0
/-- a while by a measure -/
theorem while_m {t : BM} {b : SM} (I : Nat → Ev → Sto → Prop) {n m : Nat} (hn : m < n) (h0 : I m en st)
    (hs : ∀ m en st, I m en st → OkX (t en st) (fun c st1 => if c = true then OkS (b en st1) { p with nx := fun en' st' => ∃ m', m' < m ∧ I m' en' st', ct := fun en' st' => ∃ m', m' < m ∧ I m' en' st', bk := p.nx } else p.nx en st1) (fun c st1 => p.ex c en st1)) :
    OkS (sWhile t b n en st) p := by
  induction n generalizing m en st with
  | zero => omega
  | succ n ih =>
    unfold sWhile
    rw [k_sB]
    refine OkX.imp (hs m en st h0) (fun c st1 h => ?_) (fun c st1 h => h)
    rw [k_site]
    by_cases hc : c = true
    · rw [if_pos hc] at h ⊢
      cases q : b en st1 with
      | nx en2 st2 =>
        rw [q] at h
        obtain ⟨m', hm, hI⟩ := h
        exact ih (by omega) hI
      | ct en2 st2 =>
        rw [q] at h
        obtain ⟨m', hm, hI⟩ := h
        exact ih (by omega) hI
      | bk en2 st2 => rw [q] at h; exact h
      | rt d st2 => rw [q] at h; exact h
      | exc c en2 st2 => rw [q] at h; exact h
      | bad => rw [q] at h; exact h
    · rw [if_neg hc] at h ⊢
      exact h
/-! ### comprehensions -/
theorem k_lc {P : D → Sto → Prop} (m : Ev → M (Nat × Src)) (tg : D → Ev → Option Ev) (cond : BM) (el : EM) (vs : List Nat) :
    OkX (eLc m tg cond el vs en st) P E = OkX (m en st) (fun q st1 => Ok (lcLoop cond el tg q.2 st1.length (wipeD en vs) q.1 0 (st1 ++ [.lst []])) (fun _ st2 => P (.loc st1.length) st2)) E := by
  unfold eLc
  rw [k_bnd]
  congr 1
  funext q st1
  show OkX (match lcLoop cond el tg q.2 st1.length (wipeD en vs) q.1 0 (st1 ++ [.lst []]) with | .ok _ st' => R.ok (D.loc st1.length) st' | _ => R.bad) P E = _
  cases lcLoop cond el tg q.2 st1.length (wipeD en vs) q.1 0 (st1 ++ [.lst []]) <;> rfl
/-- one turn of a comprehension -/
def LcStep (cond : BM) (el : EM) (tg : D → Ev → Option Ev) (L : Nat) (enw : Ev) (d : D) (st : Sto) (N : Sto → Prop) : Prop :=
  ∃ en1, tg d enw = some en1 ∧ Ok (cond en1 st) fun c st1 => if c = true then Ok (el en1 st1) (fun y st2 => ∃ acc, st2[L]? = some (.lst acc) ∧ acc.length < sizeLine ∧ N (st2.set L (.lst (acc ++ [y])))) else N st1
theorem lc_turn {cond : BM} {el : EM} {tg : D → Ev → Option Ev} {src : Src} {L : Nat} {enw : Ev} {n i : Nat} {d : D} {Q : Sto → Prop} (e : src st i = some (some d)) (h : LcStep cond el tg L enw d st fun st' => Ok (lcLoop cond el tg src L enw n (i + 1) st') fun _ => Q) :
    Ok (lcLoop cond el tg src L enw (n + 1) i st) fun _ => Q := by
  obtain ⟨en1, e1, h⟩ := h
  unfold lcLoop
  rw [e]
  dsimp only
  rw [e1]
  dsimp only
  obtain ⟨c, st1, e2, h⟩ := Ok.out h
  rw [e2]
  dsimp only
  by_cases hc : c = true
  · rw [if_pos hc] at h ⊢
    obtain ⟨y, st2, e3, acc, e4, hl, h⟩ := Ok.out h
    rw [e3]
    dsimp only
    rw [e4]
    dsimp only
    rw [if_pos hl]
    exact h
  · rw [if_neg hc] at h ⊢
    exact h
theorem lc_its {cond : BM} {el : EM} {tg : D → Ev → Option Ev} {L : Nat} {enw : Ev} {ds : List D} (I : Nat → Sto → Prop) (h0 : I 0 st)
    (hs : ∀ i d st, ds[i]? = some d → I i st → LcStep cond el tg L enw d st (I (i + 1))) : Ok (lcLoop cond el tg (srcIts ds) L enw ds.length 0 st) fun _ => I ds.length := by
  have gen : ∀ (n i : Nat) (st : Sto), n + i = ds.length → I i st → Ok (lcLoop cond el tg (srcIts ds) L enw n i st) fun _ => I ds.length := by
    intro n
    induction n with
    | zero =>
      intro i st e hI
      have e' : ds[i]? = none := List.getElem?_eq_none_iff.mpr (by omega)
      have e2 : i = ds.length := by omega
      unfold lcLoop srcIts
      rw [e']
      rw [← e2]
      exact hI
    | succ n ih =>
      intro i st e hI
      have hi : i < ds.length := by omega
      have e' : ds[i]? = some ds[i] := List.getElem?_eq_getElem hi
      refine lc_turn (d := ds[i]) (by unfold srcIts; rw [e']) ?_
      obtain ⟨en1, e1, h1⟩ := hs i _ st e' hI
      refine ⟨en1, e1, h1.imp fun c st1 h => ?_⟩
      by_cases hc : c = true
      · rw [if_pos hc] at h ⊢
        exact Ok.imp h fun y st2 ⟨acc, e4, hl, h⟩ => ⟨acc, e4, hl, ih (i + 1) _ (by omega) h⟩
      · rw [if_neg hc] at h ⊢
        exact ih (i + 1) _ (by omega) h
  exact gen ds.length 0 st rfl h0
theorem lc_at {cond : BM} {el : EM} {tg : D → Ev → Option Ev} {L l : Nat} {enw : Ev} {ds : List D} (I : Nat → Sto → Prop) (h0 : I 0 st) (hl : ∀ i st, I i st → lstAt st l = some ds)
    (hs : ∀ i d st, ds[i]? = some d → I i st → LcStep cond el tg L enw d st (I (i + 1))) : Ok (lcLoop cond el tg (srcAt l) L enw ds.length 0 st) fun _ => I ds.length := by
  have gen : ∀ (n i : Nat) (st : Sto), n + i = ds.length → I i st → Ok (lcLoop cond el tg (srcAt l) L enw n i st) fun _ => I ds.length := by
    intro n
    induction n with
    | zero =>
      intro i st e hI
      have e' : ds[i]? = none := List.getElem?_eq_none_iff.mpr (by omega)
      have e2 : i = ds.length := by omega
      unfold lcLoop srcAt
      rw [hl i st hI]
      dsimp only
      rw [e']
      rw [← e2]
      exact hI
    | succ n ih =>
      intro i st e hI
      have hi : i < ds.length := by omega
      have e' : ds[i]? = some ds[i] := List.getElem?_eq_getElem hi
      refine lc_turn (d := ds[i]) (by unfold srcAt; rw [hl i st hI]; dsimp only; rw [e']) ?_
      obtain ⟨en1, e1, h1⟩ := hs i _ st e' hI
      refine ⟨en1, e1, h1.imp fun c st1 h => ?_⟩
      by_cases hc : c = true
      · rw [if_pos hc] at h ⊢
        exact Ok.imp h fun y st2 ⟨acc, e4, hl, h⟩ => ⟨acc, e4, hl, ih (i + 1) _ (by omega) h⟩
      · rw [if_neg hc] at h ⊢
        exact ih (i + 1) _ (by omega) h
  exact gen ds.length 0 st rfl h0
end
/-- a comprehension whose test and element only look: filter and map -/
theorem lc_pure {cond : BM} {el : EM} {tg : D → Ev → Option Ev} {enw : Ev} {ds : List D} {st0 : Sto} (f : D → D) (q : D → Bool) (hz : ds.length < sizeLine)
    (h : ∀ d ∈ ds, ∃ en1, tg d enw = some en1 ∧ ∀ acc, cond en1 (st0 ++ [.lst acc]) = .ok (q d) (st0 ++ [.lst acc]) ∧ (q d = true → el en1 (st0 ++ [.lst acc]) = .ok (f d) (st0 ++ [.lst acc]))) :
    Ok (lcLoop cond el tg (srcIts ds) st0.length enw ds.length 0 (st0 ++ [.lst []])) fun _ st' => st' = st0 ++ [.lst ((ds.filter q).map f)] := by
  have key : ∀ (acc : List D), (st0 ++ [O.lst acc])[st0.length]? = some (.lst acc) := fun acc => by
    rw [List.getElem?_append_right (Nat.le_refl _), Nat.sub_self]
    rfl
  have keyS : ∀ (acc bcc : List D), (st0 ++ [O.lst acc]).set st0.length (.lst bcc) = st0 ++ [.lst bcc] := fun acc bcc => by
    rw [List.set_append_right _ _ (Nat.le_refl _), Nat.sub_self]
    rfl
  have key2 : ds.take ds.length = ds := List.take_length
  have := lc_its (st := st0 ++ [.lst []]) (cond := cond) (el := el) (tg := tg) (L := st0.length) (enw := enw) (ds := ds) (fun i st' => st' = st0 ++ [.lst (((ds.take i).filter q).map f)]) (by simp) (fun i d st' e hI => by
    subst hI
    obtain ⟨en1, e1, h1⟩ := h d (List.mem_of_getElem? e)
    have hi : i < ds.length := (List.getElem?_eq_some_iff.mp e).1
    obtain ⟨h2, h3⟩ := h1 (((ds.take i).filter q).map f)
    refine ⟨en1, e1, OkX.of_eq h2 ?_⟩
    have e2 : ds.take (i + 1) = ds.take i ++ [d] := by rw [List.take_add_one, e]; rfl
    by_cases hc : q d = true
    · rw [if_pos hc]
      refine OkX.of_eq (h3 hc) ⟨_, key _, ?_, ?_⟩
      · rw [List.length_map]
        have := List.length_filter_le q (ds.take i)
        rw [List.length_take] at this
        omega
      · rw [keyS, e2, List.filter_append, List.map_append]
        simp [hc]
    · rw [if_neg hc, e2, List.filter_append, List.map_append]
      simp [hc])
  refine Ok.imp this fun _ st' e => ?_
  rw [key2] at e
  exact e
theorem st_1_0  : startD 1 [] = [none] := rfl
theorem st_1_1 (a0 : D) : startD 1 [a0] = [some a0] := rfl
theorem st_2_0  : startD 2 [] = [none, none] := rfl
theorem st_2_1 (a0 : D) : startD 2 [a0] = [some a0, none] := rfl
theorem st_2_2 (a0 a1 : D) : startD 2 [a0, a1] = [some a0, some a1] := rfl
theorem st_3_0  : startD 3 [] = [none, none, none] := rfl
theorem st_3_1 (a0 : D) : startD 3 [a0] = [some a0, none, none] := rfl
theorem st_3_2 (a0 a1 : D) : startD 3 [a0, a1] = [some a0, some a1, none] := rfl
theorem st_3_3 (a0 a1 a2 : D) : startD 3 [a0, a1, a2] = [some a0, some a1, some a2] := rfl
theorem st_4_0  : startD 4 [] = [none, none, none, none] := rfl
theorem st_4_1 (a0 : D) : startD 4 [a0] = [some a0, none, none, none] := rfl
theorem st_4_2 (a0 a1 : D) : startD 4 [a0, a1] = [some a0, some a1, none, none] := rfl
theorem st_4_3 (a0 a1 a2 : D) : startD 4 [a0, a1, a2] = [some a0, some a1, some a2, none] := rfl
theorem st_4_4 (a0 a1 a2 a3 : D) : startD 4 [a0, a1, a2, a3] = [some a0, some a1, some a2, some a3] := rfl
theorem st_5_0  : startD 5 [] = [none, none, none, none, none] := rfl
theorem st_5_1 (a0 : D) : startD 5 [a0] = [some a0, none, none, none, none] := rfl
theorem st_5_2 (a0 a1 : D) : startD 5 [a0, a1] = [some a0, some a1, none, none, none] := rfl
theorem st_5_3 (a0 a1 a2 : D) : startD 5 [a0, a1, a2] = [some a0, some a1, some a2, none, none] := rfl
theorem st_5_4 (a0 a1 a2 a3 : D) : startD 5 [a0, a1, a2, a3] = [some a0, some a1, some a2, some a3, none] := rfl
theorem st_5_5 (a0 a1 a2 a3 a4 : D) : startD 5 [a0, a1, a2, a3, a4] = [some a0, some a1, some a2, some a3, some a4] := rfl
theorem st_6_0  : startD 6 [] = [none, none, none, none, none, none] := rfl
theorem st_6_1 (a0 : D) : startD 6 [a0] = [some a0, none, none, none, none, none] := rfl
theorem st_6_2 (a0 a1 : D) : startD 6 [a0, a1] = [some a0, some a1, none, none, none, none] := rfl
theorem st_6_3 (a0 a1 a2 : D) : startD 6 [a0, a1, a2] = [some a0, some a1, some a2, none, none, none] := rfl
theorem st_6_4 (a0 a1 a2 a3 : D) : startD 6 [a0, a1, a2, a3] = [some a0, some a1, some a2, some a3, none, none] := rfl
theorem st_6_5 (a0 a1 a2 a3 a4 : D) : startD 6 [a0, a1, a2, a3, a4] = [some a0, some a1, some a2, some a3, some a4, none] := rfl
theorem st_6_6 (a0 a1 a2 a3 a4 a5 : D) : startD 6 [a0, a1, a2, a3, a4, a5] = [some a0, some a1, some a2, some a3, some a4, some a5] := rfl
theorem st_7_0  : startD 7 [] = [none, none, none, none, none, none, none] := rfl
theorem st_7_1 (a0 : D) : startD 7 [a0] = [some a0, none, none, none, none, none, none] := rfl
theorem st_7_2 (a0 a1 : D) : startD 7 [a0, a1] = [some a0, some a1, none, none, none, none, none] := rfl
theorem st_7_3 (a0 a1 a2 : D) : startD 7 [a0, a1, a2] = [some a0, some a1, some a2, none, none, none, none] := rfl
theorem st_7_4 (a0 a1 a2 a3 : D) : startD 7 [a0, a1, a2, a3] = [some a0, some a1, some a2, some a3, none, none, none] := rfl
theorem st_7_5 (a0 a1 a2 a3 a4 : D) : startD 7 [a0, a1, a2, a3, a4] = [some a0, some a1, some a2, some a3, some a4, none, none] := rfl
theorem st_7_6 (a0 a1 a2 a3 a4 a5 : D) : startD 7 [a0, a1, a2, a3, a4, a5] = [some a0, some a1, some a2, some a3, some a4, some a5, none] := rfl
theorem st_7_7 (a0 a1 a2 a3 a4 a5 a6 : D) : startD 7 [a0, a1, a2, a3, a4, a5, a6] = [some a0, some a1, some a2, some a3, some a4, some a5, some a6] := rfl
theorem st_8_0  : startD 8 [] = [none, none, none, none, none, none, none, none] := rfl
theorem st_8_1 (a0 : D) : startD 8 [a0] = [some a0, none, none, none, none, none, none, none] := rfl
theorem st_8_2 (a0 a1 : D) : startD 8 [a0, a1] = [some a0, some a1, none, none, none, none, none, none] := rfl
theorem st_8_3 (a0 a1 a2 : D) : startD 8 [a0, a1, a2] = [some a0, some a1, some a2, none, none, none, none, none] := rfl
theorem st_8_4 (a0 a1 a2 a3 : D) : startD 8 [a0, a1, a2, a3] = [some a0, some a1, some a2, some a3, none, none, none, none] := rfl
theorem st_8_5 (a0 a1 a2 a3 a4 : D) : startD 8 [a0, a1, a2, a3, a4] = [some a0, some a1, some a2, some a3, some a4, none, none, none] := rfl
theorem st_8_6 (a0 a1 a2 a3 a4 a5 : D) : startD 8 [a0, a1, a2, a3, a4, a5] = [some a0, some a1, some a2, some a3, some a4, some a5, none, none] := rfl
theorem st_8_7 (a0 a1 a2 a3 a4 a5 a6 : D) : startD 8 [a0, a1, a2, a3, a4, a5, a6] = [some a0, some a1, some a2, some a3, some a4, some a5, some a6, none] := rfl
theorem st_9_0  : startD 9 [] = [none, none, none, none, none, none, none, none, none] := rfl
theorem st_9_1 (a0 : D) : startD 9 [a0] = [some a0, none, none, none, none, none, none, none, none] := rfl
theorem st_9_2 (a0 a1 : D) : startD 9 [a0, a1] = [some a0, some a1, none, none, none, none, none, none, none] := rfl
theorem st_9_3 (a0 a1 a2 : D) : startD 9 [a0, a1, a2] = [some a0, some a1, some a2, none, none, none, none, none, none] := rfl
theorem st_9_4 (a0 a1 a2 a3 : D) : startD 9 [a0, a1, a2, a3] = [some a0, some a1, some a2, some a3, none, none, none, none, none] := rfl
theorem st_9_5 (a0 a1 a2 a3 a4 : D) : startD 9 [a0, a1, a2, a3, a4] = [some a0, some a1, some a2, some a3, some a4, none, none, none, none] := rfl
theorem st_9_6 (a0 a1 a2 a3 a4 a5 : D) : startD 9 [a0, a1, a2, a3, a4, a5] = [some a0, some a1, some a2, some a3, some a4, some a5, none, none, none] := rfl
theorem st_9_7 (a0 a1 a2 a3 a4 a5 a6 : D) : startD 9 [a0, a1, a2, a3, a4, a5, a6] = [some a0, some a1, some a2, some a3, some a4, some a5, some a6, none, none] := rfl
theorem st_10_0  : startD 10 [] = [none, none, none, none, none, none, none, none, none, none] := rfl
theorem st_10_1 (a0 : D) : startD 10 [a0] = [some a0, none, none, none, none, none, none, none, none, none] := rfl
theorem st_10_2 (a0 a1 : D) : startD 10 [a0, a1] = [some a0, some a1, none, none, none, none, none, none, none, none] := rfl
theorem st_10_3 (a0 a1 a2 : D) : startD 10 [a0, a1, a2] = [some a0, some a1, some a2, none, none, none, none, none, none, none] := rfl
theorem st_10_4 (a0 a1 a2 a3 : D) : startD 10 [a0, a1, a2, a3] = [some a0, some a1, some a2, some a3, none, none, none, none, none, none] := rfl
theorem st_10_5 (a0 a1 a2 a3 a4 : D) : startD 10 [a0, a1, a2, a3, a4] = [some a0, some a1, some a2, some a3, some a4, none, none, none, none, none] := rfl
theorem st_10_6 (a0 a1 a2 a3 a4 a5 : D) : startD 10 [a0, a1, a2, a3, a4, a5] = [some a0, some a1, some a2, some a3, some a4, some a5, none, none, none, none] := rfl
theorem st_10_7 (a0 a1 a2 a3 a4 a5 a6 : D) : startD 10 [a0, a1, a2, a3, a4, a5, a6] = [some a0, some a1, some a2, some a3, some a4, some a5, some a6, none, none, none] := rfl
theorem st_11_0  : startD 11 [] = [none, none, none, none, none, none, none, none, none, none, none] := rfl
theorem st_11_1 (a0 : D) : startD 11 [a0] = [some a0, none, none, none, none, none, none, none, none, none, none] := rfl
theorem st_11_2 (a0 a1 : D) : startD 11 [a0, a1] = [some a0, some a1, none, none, none, none, none, none, none, none, none] := rfl
theorem st_11_3 (a0 a1 a2 : D) : startD 11 [a0, a1, a2] = [some a0, some a1, some a2, none, none, none, none, none, none, none, none] := rfl
theorem st_11_4 (a0 a1 a2 a3 : D) : startD 11 [a0, a1, a2, a3] = [some a0, some a1, some a2, some a3, none, none, none, none, none, none, none] := rfl
theorem st_11_5 (a0 a1 a2 a3 a4 : D) : startD 11 [a0, a1, a2, a3, a4] = [some a0, some a1, some a2, some a3, some a4, none, none, none, none, none, none] := rfl
theorem st_11_6 (a0 a1 a2 a3 a4 a5 : D) : startD 11 [a0, a1, a2, a3, a4, a5] = [some a0, some a1, some a2, some a3, some a4, some a5, none, none, none, none, none] := rfl
theorem st_11_7 (a0 a1 a2 a3 a4 a5 a6 : D) : startD 11 [a0, a1, a2, a3, a4, a5, a6] = [some a0, some a1, some a2, some a3, some a4, some a5, some a6, none, none, none, none] := rfl
theorem st_12_0  : startD 12 [] = [none, none, none, none, none, none, none, none, none, none, none, none] := rfl
theorem st_12_1 (a0 : D) : startD 12 [a0] = [some a0, none, none, none, none, none, none, none, none, none, none, none] := rfl
theorem st_12_2 (a0 a1 : D) : startD 12 [a0, a1] = [some a0, some a1, none, none, none, none, none, none, none, none, none, none] := rfl
theorem st_12_3 (a0 a1 a2 : D) : startD 12 [a0, a1, a2] = [some a0, some a1, some a2, none, none, none, none, none, none, none, none, none] := rfl
theorem st_12_4 (a0 a1 a2 a3 : D) : startD 12 [a0, a1, a2, a3] = [some a0, some a1, some a2, some a3, none, none, none, none, none, none, none, none] := rfl
theorem st_12_5 (a0 a1 a2 a3 a4 : D) : startD 12 [a0, a1, a2, a3, a4] = [some a0, some a1, some a2, some a3, some a4, none, none, none, none, none, none, none] := rfl
theorem st_12_6 (a0 a1 a2 a3 a4 a5 : D) : startD 12 [a0, a1, a2, a3, a4, a5] = [some a0, some a1, some a2, some a3, some a4, some a5, none, none, none, none, none, none] := rfl
theorem st_12_7 (a0 a1 a2 a3 a4 a5 a6 : D) : startD 12 [a0, a1, a2, a3, a4, a5, a6] = [some a0, some a1, some a2, some a3, some a4, some a5, some a6, none, none, none, none, none] := rfl
theorem st_13_0  : startD 13 [] = [none, none, none, none, none, none, none, none, none, none, none, none, none] := rfl
theorem st_13_1 (a0 : D) : startD 13 [a0] = [some a0, none, none, none, none, none, none, none, none, none, none, none, none] := rfl
theorem st_13_2 (a0 a1 : D) : startD 13 [a0, a1] = [some a0, some a1, none, none, none, none, none, none, none, none, none, none, none] := rfl
theorem st_13_3 (a0 a1 a2 : D) : startD 13 [a0, a1, a2] = [some a0, some a1, some a2, none, none, none, none, none, none, none, none, none, none] := rfl
theorem st_13_4 (a0 a1 a2 a3 : D) : startD 13 [a0, a1, a2, a3] = [some a0, some a1, some a2, some a3, none, none, none, none, none, none, none, none, none] := rfl
theorem st_13_5 (a0 a1 a2 a3 a4 : D) : startD 13 [a0, a1, a2, a3, a4] = [some a0, some a1, some a2, some a3, some a4, none, none, none, none, none, none, none, none] := rfl
theorem st_13_6 (a0 a1 a2 a3 a4 a5 : D) : startD 13 [a0, a1, a2, a3, a4, a5] = [some a0, some a1, some a2, some a3, some a4, some a5, none, none, none, none, none, none, none] := rfl
theorem st_13_7 (a0 a1 a2 a3 a4 a5 a6 : D) : startD 13 [a0, a1, a2, a3, a4, a5, a6] = [some a0, some a1, some a2, some a3, some a4, some a5, some a6, none, none, none, none, none, none] := rfl
theorem st_14_0  : startD 14 [] = [none, none, none, none, none, none, none, none, none, none, none, none, none, none] := rfl
theorem st_14_1 (a0 : D) : startD 14 [a0] = [some a0, none, none, none, none, none, none, none, none, none, none, none, none, none] := rfl
theorem st_14_2 (a0 a1 : D) : startD 14 [a0, a1] = [some a0, some a1, none, none, none, none, none, none, none, none, none, none, none, none] := rfl
theorem st_14_3 (a0 a1 a2 : D) : startD 14 [a0, a1, a2] = [some a0, some a1, some a2, none, none, none, none, none, none, none, none, none, none, none] := rfl
theorem st_14_4 (a0 a1 a2 a3 : D) : startD 14 [a0, a1, a2, a3] = [some a0, some a1, some a2, some a3, none, none, none, none, none, none, none, none, none, none] := rfl
theorem st_14_5 (a0 a1 a2 a3 a4 : D) : startD 14 [a0, a1, a2, a3, a4] = [some a0, some a1, some a2, some a3, some a4, none, none, none, none, none, none, none, none, none] := rfl
theorem st_14_6 (a0 a1 a2 a3 a4 a5 : D) : startD 14 [a0, a1, a2, a3, a4, a5] = [some a0, some a1, some a2, some a3, some a4, some a5, none, none, none, none, none, none, none, none] := rfl
theorem st_14_7 (a0 a1 a2 a3 a4 a5 a6 : D) : startD 14 [a0, a1, a2, a3, a4, a5, a6] = [some a0, some a1, some a2, some a3, some a4, some a5, some a6, none, none, none, none, none, none, none] := rfl
theorem st_15_0  : startD 15 [] = [none, none, none, none, none, none, none, none, none, none, none, none, none, none, none] := rfl
theorem st_15_1 (a0 : D) : startD 15 [a0] = [some a0, none, none, none, none, none, none, none, none, none, none, none, none, none, none] := rfl
theorem st_15_2 (a0 a1 : D) : startD 15 [a0, a1] = [some a0, some a1, none, none, none, none, none, none, none, none, none, none, none, none, none] := rfl
theorem st_15_3 (a0 a1 a2 : D) : startD 15 [a0, a1, a2] = [some a0, some a1, some a2, none, none, none, none, none, none, none, none, none, none, none, none] := rfl
theorem st_15_4 (a0 a1 a2 a3 : D) : startD 15 [a0, a1, a2, a3] = [some a0, some a1, some a2, some a3, none, none, none, none, none, none, none, none, none, none, none] := rfl
theorem st_15_5 (a0 a1 a2 a3 a4 : D) : startD 15 [a0, a1, a2, a3, a4] = [some a0, some a1, some a2, some a3, some a4, none, none, none, none, none, none, none, none, none, none] := rfl
theorem st_15_6 (a0 a1 a2 a3 a4 a5 : D) : startD 15 [a0, a1, a2, a3, a4, a5] = [some a0, some a1, some a2, some a3, some a4, some a5, none, none, none, none, none, none, none, none, none] := rfl
theorem st_15_7 (a0 a1 a2 a3 a4 a5 a6 : D) : startD 15 [a0, a1, a2, a3, a4, a5, a6] = [some a0, some a1, some a2, some a3, some a4, some a5, some a6, none, none, none, none, none, none, none, none] := rfl
theorem st_16_0  : startD 16 [] = [none, none, none, none, none, none, none, none, none, none, none, none, none, none, none, none] := rfl
theorem st_16_1 (a0 : D) : startD 16 [a0] = [some a0, none, none, none, none, none, none, none, none, none, none, none, none, none, none, none] := rfl
theorem st_16_2 (a0 a1 : D) : startD 16 [a0, a1] = [some a0, some a1, none, none, none, none, none, none, none, none, none, none, none, none, none, none] := rfl
theorem st_16_3 (a0 a1 a2 : D) : startD 16 [a0, a1, a2] = [some a0, some a1, some a2, none, none, none, none, none, none, none, none, none, none, none, none, none] := rfl
theorem st_16_4 (a0 a1 a2 a3 : D) : startD 16 [a0, a1, a2, a3] = [some a0, some a1, some a2, some a3, none, none, none, none, none, none, none, none, none, none, none, none] := rfl
theorem st_16_5 (a0 a1 a2 a3 a4 : D) : startD 16 [a0, a1, a2, a3, a4] = [some a0, some a1, some a2, some a3, some a4, none, none, none, none, none, none, none, none, none, none, none] := rfl
theorem st_16_6 (a0 a1 a2 a3 a4 a5 : D) : startD 16 [a0, a1, a2, a3, a4, a5] = [some a0, some a1, some a2, some a3, some a4, some a5, none, none, none, none, none, none, none, none, none, none] := rfl
theorem st_16_7 (a0 a1 a2 a3 a4 a5 a6 : D) : startD 16 [a0, a1, a2, a3, a4, a5, a6] = [some a0, some a1, some a2, some a3, some a4, some a5, some a6, none, none, none, none, none, none, none, none, none] := rfl
end Sh

set_option maxHeartbeats 2000000
/-! ShEx: errors that are caught: try, except, isinstance of an error, raise with any words; count and index of flat lists. -/
namespace Sh
open PySem PySem.Spec PyProof.Rows L2

section
variable {X : Cx} {pins : List (Addr × Obj)} {σ : L2.St} {H : Hp} {s : Shared}
/-- what the suite held is held on behind it, tracked -/
theorem track {a : Addr} {oe : Obj} {cls : Value} {rs : List (Addr × Obj)} (S : Inv (X.suite a ((a, oe) :: (X.pn ++ pins))) rs σ H s) (ok : X.Ok) (hz : Zc cls none oe) (hd : ∃ vs, oe.data = .fields vs) (np : ∀ p ∈ X.pn ++ pins, p.1 ≠ a) (n0 : X.s_0.heap.get? a = none) :
    Inv X pins σ (upd H a (ErrO cls a)) s := by
  have I : Inv X pins σ H s := S.unsuite ok
  obtain ⟨pe, pn, pl, pf, pc⟩ := S.pin (a, oe) (List.mem_append_left _ List.mem_cons_self)
  obtain ⟨vs, hd⟩ := hd
  have eq0 : ∀ b o, X.s_0.heap.get? b = some o → b ≠ a := fun b o e z => by
    subst z
    rw [n0] at e
    cases e
  have eqH : ∀ b u, H b = some u → b ≠ a := fun b u e z => by
    subst z
    rw [show H b = none from pn] at e
    cases e
  have cellA : ∀ c v, s.heap.IsCell c v → c ≠ a := fun c v ⟨o, ho, hv⟩ z => by
    subst z
    rw [show s.heap.get? c = some oe from pe] at ho
    cases ho
    rw [hd] at hv
    cases hv
  refine ⟨ok, I.os, I.bare, ⟨I.base.keep, I.base.slot, ?_, I.base.there, ?_, ?_, ?_⟩, I.loc, I.cell, ?_, ?_, ?_, ?_, I.len⟩
  · intro b o e n q
    rw [upd_ne (eq0 b o e)]
    exact I.base.free b o e n q
  · intro b xs e
    have q := I.base.tups b xs e
    rw [upd_ne (eqH b _ q)]
    exact q
  · intro b o u e
    have q := I.base.frzs b o u e
    rw [upd_ne (eqH b _ q)]
    exact q
  · intro b ps e
    obtain ⟨m, q⟩ := I.base.tbls b ps e
    exact ⟨m, by rw [upd_ne (eqH b _ q)]; exact q⟩
  · rw [upd_ne (Ne.symm pl)]
    exact I.free
  · intro x c e
    obtain ⟨v, hv⟩ := I.cell x c e
    rw [upd_ne (cellA c v hv)]
    exact I.freeC x c e
  · intro p hp
    obtain ⟨q1, q2, q3⟩ := I.pin p hp
    exact ⟨q1, by rw [upd_ne (np p hp)]; exact q2, q3⟩
  · intro b u e
    by_cases hb : b = a
    · subst hb
      rw [upd_same] at e
      cases e
      exact ⟨⟨oe, vs, pe, hz, hd⟩, ⟨oe, pe⟩, fun h1 h2 ⟨o, w, q1, q2⟩ k => ⟨o, w, k o q1, q2⟩⟩
    · rw [upd_ne hb] at e
      exact (I.hok b u e).stay (fun _ _ _ q => q) (fun c q => by rw [upd_ne (eqH c _ q)]; exact q) fun c xs q => by rw [upd_ne (eqH c _ q)]; exact q
/-- what 'except x as n: ..' wishes, if what was caught is held on: the suite falls through -/
def wTrk (K : PySem.W.Frag) (c : Value) (i : Nat) (ts : Addr → Value → Option Addr → TS) (Wout : WX) (D : Ends) : WX := fun cls d σ H =>
  ∃ b, PySem.W.exmOne K cls c = some b ∧
    (b = true → d = none ∧ ∀ a, H a = none → ts a cls d { nx := fun σ' H' => D.nx (σ'.set i none) (upd H' a (ErrO cls a)), rt := fun _ _ => False } (σ.set i (some (.ref a))) H) ∧
    (b = false → Wout cls d σ H)
variable {x n : Str} {c : Value} {i : Nat} {body suite : List Stmt} {b₀ : Stmt} {np pos pos' : Pos} {tb : WX → TS} {ts : Addr → Value → Option Addr → TS} {Wout : WX}
theorem ps_try_trk (hst : X.stack = X.env :: X.outer) (hfr : X.env.frame = some X.env.locals) (hx : X.ex = []) (hN : X.N.Nodup) (hi : X.N[i]? = some n) (hn : X.env.kindOf n = some .local) (hc : Names X x c) (tk : Takes X Wout)
    (hb : ∀ (W : WX) (pn : List (Addr × Obj)) (xe : Value → Shared → Prop), Takes (X.tr pn xe) W → PassesOwn (model X.prog X.w) X.A X.env xe → PSs (X.tr pn xe) body (tb W))
    (hsu : ∀ (a : Addr) (oe : Obj) (cls : Value) (d : Option Addr) (pn : List (Addr × Obj)), Zc cls d oe → (∃ vs, oe.data = .fields vs) → PSs (X.suite a ((a, oe) :: pn)) (b₀ :: suite) (ts a cls d)) :
    PS X (.Try body [.ExceptHandler (some (.Name x np)) (some n) (b₀ :: suite) pos'] [] [] pos) (fun D σ H => tb (wTrk X.K c i ts Wout D) D σ H) := by
  constructor
  intro pins s σ H D I hyp
  have ok := I.ok
  have hA : X.A.frames = some (X.env :: X.outer) := ok.frames.trans (congrArg some hst)
  apply wpAny_Try_except
  refine wpAny_mono ((hb (wTrk X.K c i ts Wout D) (X.pn ++ pins) _ ?air PassesOwn.looking).run [] s σ H D (I.toTry _) hyp) ?thru fun _ _ z => z
  case thru =>
    intro f t q
    cases f with
    | next => exact q.elim fun σ1 q => q.elim fun H1 q => wpAny_execs_nil ⟨σ1, H1, q.1.ofTry ok, q.2⟩
    | ret u => exact q.elim fun v q => q.elim fun σ1 q => q.elim fun H1 q => ⟨v, σ1, H1, q.1.ofTry ok, q.2⟩
    | brk => exact q.elim fun σ1 q => q.elim fun H1 q => ⟨σ1, H1, q.1.ofTry ok, q.2⟩
    | cont => exact q.elim fun σ1 q => q.elim fun H1 q => ⟨σ1, H1, q.1.ofTry ok, q.2⟩
  case air =>
    rintro u t ⟨a, B, sI, ps, τ, G, cls, d, rfl, J0, nb, up, sky, na, os, ag, b, hexm, hyes, hno⟩
    have J : Inv X pins τ G sI := J0.ofTry ok
    rw [show (X.tr (X.pn ++ pins) _).stack = X.env :: X.outer from hst] at sky
    have offF : ∀ {h : Heap} {o : Obj} {vs : Array Value}, h.FunFrames B (X.env :: X.outer) → h.get? a = some o → o.data = .fields vs → a ∉ frs (X.env :: X.outer) := by
      intro h o vs ff e1 e2 hm
      obtain ⟨_, o', e3, e4⟩ := ff.mem hm
      cases e1.symm.trans e3
      exact e4 _ e2
    refine Sky.land Zc.steady hA hfr sky fun h1 fl1 up1 => ?_
    have J1 : Inv X pins τ G { t with heap := h1 } := J.landed nb fl1.1 (up.trans up1) os ag
    obtain ⟨oe, vs, g1, z1, d1⟩ := fl1.there
    have off := offF fl1.2.2.1 g1 d1
    have offL : a ≠ X.env.locals := by
      rintro rfl
      exact off (List.mem_filterMap.mpr ⟨X.env, List.mem_cons_self, hfr⟩)
    have offO : a ∉ X.fs := fun hm => by
      obtain ⟨e, m1, m2⟩ := List.mem_filterMap.mp hm
      exact off (List.mem_filterMap.mpr ⟨e, List.mem_cons_of_mem _ m1, m2⟩)
    have newI : sI.heap.get? a = none := by
      cases e : sI.heap.get? a with
      | none => rfl
      | some o =>
        have e2 := nb a o e (by rw [show (X.tr (X.pn ++ pins) _).stack = X.env :: X.outer from hst]; exact off)
        rw [fl1.2.1] at e2
        cases e2
    have n0 : X.s_0.heap.get? a = none := by
      cases e : X.s_0.heap.get? a with
      | none => rfl
      | some o =>
        obtain ⟨o', e2⟩ := J.base.there a o e (by rw [hx]; exact fun z => nomatch z)
        rw [newI] at e2
        cases e2
    have npins : ∀ p ∈ X.pn ++ pins, p.1 ≠ a := fun p hp z => by
      obtain ⟨e2, _⟩ := J.pin p hp
      rw [z, newI] at e2
      cases e2
    have S1 := J1.suite g1 d1 na offL offO
    refine wpAny_handleBy_cons (codeAny_handlers_test ?_) (fun z => nomatch z)
    have isCls : PySem.W.Looks (model X.prog X.w) h1 (typeOf (.ref a)) cls := fun A Q E s k q => wpAny_typeOf_ref (k _ _ g1) (by rw [z1.1]; exact q)
    have found := PySem.W.exm_one (M := model X.prog X.w) J1.kIn isCls hexm
    have named : ∀ {Q : Value → Shared → Prop} {E : Value → Shared → Prop}, Q c { t with heap := h1 } → wpAny (model X.prog X.w) (X.A.mark (some (.ref a))) (eval (.Name x np) X.env) Q E { t with heap := h1 } := by
      intro Q E q
      rcases hc with ⟨c1, c2, c3 | ⟨c3, c4, c5⟩⟩
      · exact ld_glob (X := X.suite a ((a, oe) :: (X.pn ++ pins))) S1 c1 c3 q c2
      · exact ld_blt (X := X.suite a ((a, oe) :: (X.pn ++ pins))) S1 c1 c3 c4 q c5 c2
    apply named
    apply found.here
    cases b with
    | true =>
      obtain ⟨rfl, hyes⟩ := hyes rfl
      apply codeAny_handlers_suite_as
      refine HandSPX.lands_againZ fl1 fun h2 fl2 up2 => ?_
      have J2 : Inv X pins τ G { t with heap := h2 } := J.landed nb fl2.1 ((up.trans up1).trans up2) os ag
      obtain ⟨oe2, vs2, g2, z2, d2⟩ := fl2.there
      have S2 := J2.suite g2 d2 na offL offO
      refine store_ok (X := X.suite a ((a, oe2) :: (X.pn ++ pins))) (v := .ref a) S2 hN hi (.inl hn) rfl (fun t3 S3 => ?_) (.inr hn)
      refine wpAny_mono ((hsu a oe2 cls none (X.pn ++ pins) z2 ⟨_, d2⟩).run [] t3 _ G _ S3 (hyes a na)) (fun f t4 q => ?_) fun _ _ z => False.elim z
      cases f with
      | next =>
        obtain ⟨τ4, G4, S4, q4⟩ := q
        exact gone_ok (track S4 ok z2 ⟨_, d2⟩ npins n0) hN hi hn fun t5 J5 => ⟨_, _, J5, q4⟩
      | ret u =>
        obtain ⟨v4, τ4, G4, S4, r4, q4⟩ := q
        exact q4.elim
      | brk =>
        obtain ⟨τ4, G4, S4, q4⟩ := q
        exact q4.elim
      | cont =>
        obtain ⟨τ4, G4, S4, q4⟩ := q
        exact q4.elim
    | false =>
      apply wpAny_handleBy_nil
      have fl := fl1
      obtain ⟨_, _, _, oe', vs', T, oT, ts', e1, e2, e3, e4, _⟩ := fl
      unfold PySem.passOn
      refine wpAny_bind (wpAny_field e1 e3 e4 ?_)
      rw [if_neg (by simp : ¬ ((Value.ref T == Value.none) = true))]
      have up' : wpAny (model X.prog X.w) X.A (setFlight (.ref a) X.env.frame) (fun _ t2 => wpAny (model X.prog X.w) X.A (throw (.ref a) : Sem Flow) (SP X pins D) X.xe t2) X.xe { t with heap := h1 } := by
        rw [hfr]
        exact HandSPX.setFlight_upZ fl1 fun h2 hh2 up2 => wpAny_throw (tk _ _ ⟨a, B, sI, pins, τ, G, cls, d, rfl, J, nb, (up.trans up1).trans up2, .inr (.inr (by rw [hst]; exact hh2)), na, os, ag, hno rfl⟩)
      first
        | exact wpAny_bind up'
        | exact wpAny_bind (wpAny_pure (wpAny_bind up'))
end
/-! ### the classes, by their names: tab tells of each class that may be raised all that it stands under -/
/-- D is a class of the program -/
structure ClsD (K : PySem.W.Frag) (mg : Mg) (tab : List (Str × List Str)) (D : Str) : Prop where
  ex : ∃ CD, mg D = some (.ref CD) ∧ PySem.W.subIn K (.ref CD) (.type "BaseException") = some true ∧ PySem.W.hasDictIn K CD = true ∧ PySem.W.typeIn K (.ref CD) = some (.type "type") ∧
    ∀ p ∈ tab, ∃ C, PySem.W.nsIn K mainGlobals p.1 = some (some (.ref C)) ∧ mg p.1 = some (.ref C) ∧ ExcC K C ∧ PySem.W.subIn K (.ref C) (.ref C) = some true ∧ PySem.W.subIn K (.ref C) (.ref CD) = some (decide (D ∈ p.2))
/-- D is a class of the built-in ones -/
structure ClsB (K : PySem.W.Frag) (mg : Mg) (tab : List (Str × List Str)) (D : String) : Prop where
  nm : mg D = none
  mt : PySem.W.kitMeta D = true
  ex : ∀ p ∈ tab, ∃ C, PySem.W.nsIn K mainGlobals p.1 = some (some (.ref C)) ∧ ExcC K C ∧ PySem.W.subIn K (.ref C) (.type D) = some (decide ((D : Str) ∈ p.2))
def upsOf (tab : List (Str × List Str)) (c : Str) : Option (List Str) := (tab.find? fun p => decide (p.1 = c)).map (·.2)
theorem ups_mem {tab : List (Str × List Str)} {c : Str} {us : List Str} (h : upsOf tab c = some us) : (c, us) ∈ tab := by
  unfold upsOf at h
  cases e : tab.find? fun p => decide (p.1 = c) with
  | none => rw [e] at h; cases h
  | some p =>
    rw [e] at h
    cases h
    have h1 : p.1 = c := of_decide_eq_true (List.find?_some (p := fun p : Str × List Str => decide (p.1 = c)) e)
    subst h1
    exact List.mem_of_find?_eq_some e
theorem ClsD.exm {K : PySem.W.Frag} {mg : Mg} {tab : List (Str × List Str)} {D c : Str} {us : List Str} {C CD : Addr} (h : ClsD K mg tab D) (hu : upsOf tab c = some us) (hc : mg c = some (.ref C)) (hD : mg D = some (.ref CD)) :
    PySem.W.nsIn K mainGlobals c = some (some (.ref C)) ∧ PySem.W.exmOne K (.ref C) (.ref CD) = some (decide (D ∈ us)) := by
  obtain ⟨CD', e1, e2, e3, e4, e5⟩ := h.ex
  rw [hD] at e1
  cases e1
  obtain ⟨C', f1, f2, f3, f4, f5⟩ := e5 _ (ups_mem hu)
  dsimp only at f1 f2 f5
  rw [hc] at f2
  cases f2
  exact ⟨f1, PySem.W.exm_ref e2 e3 e4 f5⟩
theorem EnR.none {ρ : List Addr} {H : Hp} {en : Ev} {σ : L2.St} (r : EnR ρ H en σ) (i : Nat) : EnR ρ H (en.set i none) (σ.set i none) := by
  refine ⟨by rw [List.length_set, List.length_set]; exact r.len, fun j d h => ?_⟩
  by_cases hij : i = j
  · subst hij
    by_cases hl : i < en.length
    · rw [List.getElem?_set_self hl] at h; cases h
    · rw [List.getElem?_eq_none_iff.mpr (by rw [List.length_set]; omega)] at h; cases h
  · rw [List.getElem?_set_ne hij] at h ⊢
    exact r.at_ j d h
/-- try: b / except D as n: y = n (n in slot i, y in slot j) -/
def sTryAs (tab : List (Str × List Str)) (D : Str) (i j : Nat) (b : SM) : SM := fun en st => match b en st with
  | .exc c en' st' => match upsOf tab c with
    | some us => if D ∈ us then (if i < en'.length then .nx ((en'.set j (some (.loc st'.length))).set i none) (st' ++ [.err c]) else .bad) else .exc c en' st'
    | none => .bad
  | r => r
/-- try: b / except D: s -/
def sTryO (tab : List (Str × List Str)) (D : Str) (b s : SM) : SM := fun en st => match b en st with
  | .exc c en' st' => match upsOf tab c with
    | some us => if D ∈ us then (match s en' st' with
        | .exc _ _ _ => .bad
        | r => r) else .exc c en' st'
    | none => .bad
  | r => r
section
variable {X : Cx} {W : WX} {tab : List (Str × List Str)} {D n y : Str} {i j : Nat} {np ny nn pa pos pos' : Pos} {body suite : List Stmt} {b₀ : Stmt} {mb ms : SM}
theorem js_tryAs (hst : X.stack = X.env :: X.outer) (hfr : X.env.frame = some X.env.locals) (hx : X.ex = []) (hN : X.N.Nodup) (hi : X.N[i]? = some n) (hj : X.N[j]? = some y) (hn : X.env.kindOf n = some .local) (hy : X.env.scope.names.lookup y = some .local) (hij : i ≠ j)
    (hg : Gl X D) (hdb : (D == ("__debug__" : Str)) = false) (hdn : (n == ("__debug__" : Str)) = false) (hcn : (n == ("__classdict__" : Str)) = false) (cd : ClsD X.K X.mg tab D) (tk : Takes X W)
    (hb : ∀ (W' : WX) (pn : List (Addr × Obj)) (xe : Value → Shared → Prop), Takes (X.tr pn xe) W' → PassesOwn (model X.prog X.w) X.A X.env xe → JSs (X.tr pn xe) W' body mb) :
    JS X W (.Try body [.ExceptHandler (some (.Name D np)) (some n) [.Assign [.Name y ny] (.Name n nn) pa] pos'] [] [] pos) (sTryAs tab D i j mb) := by
  obtain ⟨CD, e1, _⟩ := cd.ex
  refine ps_imp (ps_try_trk (c := .ref CD) (tb := fun W' => rdS X.K X.mg W' mb) (ts := fun a cls d => tAsg (tVar i) (gName j)) hst hfr hx hN hi hn ⟨hg, hdb, .inl e1⟩ tk hb (fun a oe cls d pn _ _ => pss_one (ps_set hN hj (.inl hy) (pe_var hi (.inl hn) hdn hcn) rfl (.inr hy)))) ?_
  rintro E σ H ⟨ρ, en, st, he, hs, h⟩
  refine ⟨ρ, en, st, he, hs, ?_⟩
  unfold sTryAs at h
  cases q : mb en st with
  | nx _ _ => rw [q] at h; exact h
  | rt _ _ => rw [q] at h; exact h
  | bk _ _ => rw [q] at h; exact h
  | ct _ _ => rw [q] at h; exact h
  | bad => rw [q] at h; exact h
  | exc c en' st' =>
    rw [q] at h
    dsimp only at h
    intro ρ1 H1 σ1 C le1 s1 r1 gC
    cases eu : upsOf tab c with
    | none => rw [eu] at h; exact h.elim
    | some us =>
      rw [eu] at h
      dsimp only at h
      obtain ⟨f1, f2⟩ := cd.exm eu gC e1
      by_cases hm : D ∈ us
      · rw [if_pos hm] at h
        refine ⟨true, by rw [f2, decide_eq_true hm], fun _ => ⟨rfl, fun a na => ?_⟩, fun z => nomatch z⟩
        by_cases hlen : i < en'.length
        case neg =>
          rw [if_neg hlen] at h
          exact h.elim
        rw [if_pos hlen] at h
        have hi1 : i < σ1.length := by
          rw [← r1.len]
          exact hlen
        refine ⟨.ref a, List.getElem?_set_self hi1, ?_⟩
        obtain ⟨s2, l2, g2⟩ := s1.alloc (o := ErrO (.ref C) a) (u := .err c) na ⟨C, f1, upd_same⟩
        show E.nx (((σ1.set i (some (.ref a))).set j (some (.ref a))).set i none) (upd H1 a (ErrO (.ref C) a))
        have e3 : ((σ1.set i (some (V.ref a))).set j (some (.ref a))).set i none = (σ1.set j (some (.ref a))).set i none := by
          rw [List.set_comm _ _ (Ne.symm hij), List.set_set]
          exact List.set_comm _ _ hij
        rw [e3]
        exact h _ _ _ (le1.trans l2) s2 (((r1.mono l2).set (.loc g2) j).none i)
      · rw [if_neg hm] at h
        exact ⟨false, by rw [f2, decide_eq_false hm], (fun z => nomatch z), fun _ => h ρ1 H1 σ1 C le1 s1 r1 gC⟩
theorem js_tryO (hst : X.stack = X.env :: X.outer) (hfr : X.env.frame = some X.env.locals) (hg : Gl X D) (hdb : (D == ("__debug__" : Str)) = false) (cd : ClsD X.K X.mg tab D) (tk : Takes X W)
    (hb : ∀ (W' : WX) (pn : List (Addr × Obj)) (xe : Value → Shared → Prop), Takes (X.tr pn xe) W' → PassesOwn (model X.prog X.w) X.A X.env xe → JSs (X.tr pn xe) W' body mb)
    (hsu : ∀ (a : Addr) (pn : List (Addr × Obj)), JSs (X.suite a pn) WF (b₀ :: suite) ms) :
    JS X W (.Try body [.ExceptHandler (some (.Name D np)) none (b₀ :: suite) pos'] [] [] pos) (sTryO tab D mb ms) := by
  obtain ⟨CD, e1, _⟩ := cd.ex
  refine ps_imp (ps_try_only (c := .ref CD) (tb := fun W' => rdS X.K X.mg W' mb) (ts := fun a cls d => rdS X.K X.mg WF ms) hst hfr ⟨hg, hdb, .inl e1⟩ tk hb (fun a oe cls d pn _ _ => hsu a _)) ?_
  rintro E σ H ⟨ρ, en, st, he, hs, h⟩
  refine ⟨ρ, en, st, he, hs, ?_⟩
  unfold sTryO at h
  cases q : mb en st with
  | nx _ _ => rw [q] at h; exact h
  | rt _ _ => rw [q] at h; exact h
  | bk _ _ => rw [q] at h; exact h
  | ct _ _ => rw [q] at h; exact h
  | bad => rw [q] at h; exact h
  | exc c en' st' =>
    rw [q] at h
    dsimp only at h
    intro ρ1 H1 σ1 C le1 s1 r1 gC
    cases eu : upsOf tab c with
    | none => rw [eu] at h; exact h.elim
    | some us =>
      rw [eu] at h
      dsimp only at h
      obtain ⟨f1, f2⟩ := cd.exm eu gC e1
      by_cases hm : D ∈ us
      · rw [if_pos hm] at h
        refine ⟨true, by rw [f2, decide_eq_true hm], fun _ a na => ⟨ρ1, en', st', r1, s1, ?_⟩, fun z => nomatch z⟩
        cases q2 : ms en' st' with
        | nx _ _ => rw [q2] at h; exact AftS.le (r := .nx _ _) le1 h
        | rt _ _ => rw [q2] at h; exact AftS.le (r := .rt _ _) le1 h
        | bk _ _ => rw [q2] at h; exact AftS.le (r := .bk _ _) le1 h
        | ct _ _ => rw [q2] at h; exact AftS.le (r := .ct _ _) le1 h
        | exc _ _ _ => rw [q2] at h; exact h.elim
        | bad => rw [q2] at h; exact h.elim
      · rw [if_neg hm] at h
        exact ⟨false, by rw [f2, decide_eq_false hm], (fun z => nomatch z), fun _ => h ρ1 H1 σ1 C le1 s1 r1 gC⟩
end
/-! ### raise with any words -/
def sRaiseA (c : Str) (as : AM) : SM := sB as fun ds en st => if ds.length ≤ sizeLine then .exc c en st else .bad
section
variable {X : Cx} {W : WX} {x : Str} {C : Addr} {mp : Pos} {e : Expr} {as : AM}
theorem js_raiseA {p pos : Pos} {es : List Expr} (hc : X.calm = true) (tk : Takes X W) (gC : X.mg x = some (.ref C)) (q : PySem.W.excIn X.K C [.type "ValueError", .type "Exception", .type "BaseException", .type "object"] "ValueError.__new__" = true)
    (kC : PySem.W.keepIn X.K (.ref C) = true) (r : Raises X (.ref C)) (hg : Gl X x) (ha : JA X W (e :: es) as) (hdb : (x == ("__debug__" : Str)) = false := by decide)
    (he : starEach (e :: es) X.env = (false, eval e X.env) :: starEach es X.env := by rfl) (hpl : (backTo pos (starEach es X.env)).any (·.1) = false := by rfl) : JS X W (.Raise (some (.Call (.Name x p) (e :: es) [] pos)) none mp) (sRaiseA x as) :=
  ps_imp (ps_raise hc tk (pmk_ownA PySem.F.excBase_ValueError q gC kC r hg ha hdb he hpl)) fun E σ H ⟨ρ, en, st, her, hs, h⟩ =>
    ⟨ρ, en, st, her, hs, (sB_rd her h).imp fun ρ' H' st' ds le s ⟨er, q⟩ vs rvs => by
      by_cases hl : ds.length ≤ sizeLine
      · rw [if_pos hl] at q
        exact ⟨by rw [← rvs.length]; exact hl, q ρ' H' σ C Le.refl s er gC⟩
      · rw [if_neg hl] at q
        exact q.elim⟩
end
/-! ### isinstance of an error -/
def eIsE (tab : List (Str × List Str)) (D : Str) (a : EM) : EM := fun en => bnd (a en) fun d st => match d with
  | .loc l => match st[l]? with
    | some (.err c) => match upsOf tab c with
      | some us => .ok (.bl (decide (D ∈ us))) st
      | none => .bad
    | _ => .bad
  | _ => .bad
def rIsX (K : PySem.W.Frag) : List V → Hp → VK → Prop := fun xs H Q => ∃ (a C : Addr) (c : V) (cv : Value) (b : Bool), xs = [.ref a, c] ∧ (∀ u, RelV c u → u = cv) ∧ H a = some (ErrO (.ref C) a) ∧ ExcC K C ∧ PySem.W.kitOne K (.ref C) cv = some b ∧ Q (.bl b) H
theorem call_isX {X : Cx} : CallR X (.builtin "isinstance") (rIsX X.K) := by
  intro pins s σ H xs us Q I r h
  obtain ⟨a, C, c, cv, b, rfl, hcv, ha, E, ek, q⟩ := h
  obtain ⟨u1, u2, rfl, r1, r2⟩ := vals2 r
  cases (show u1 = Value.ref a from r1)
  obtain rfl := hcv _ r2
  obtain ⟨⟨oe, vs, g, z, d⟩, _, _⟩ := I.hok a _ ha
  have J : PySem.W.InstAt s.heap a oe C none := by
    obtain ⟨oc, od, dt, sl⟩ := oe
    obtain ⟨z1, z2⟩ := z
    dsimp only at z1 z2 d
    subst z1 z2 d
    exact ⟨g, rfl, rfl, trivial⟩
  exact PySem.W.kia_one (PySem.W.handS_kitx_exc E.hg E.hk E.hs E.hd E.ha E.hn E.ht E.hm) I.kIn J ek (fun z => nomatch z) fun tk => ⟨.bl b, H, I.kept (t' := tk) fun _ _ z => z, rfl, q⟩
section
variable {X : Cx} {W : WX} {tab : List (Str × List Str)} {a : Expr} {ma : EM} {p p2 pos : Pos}
theorem isE_rd {K : PySem.W.Frag} {mg : Mg} {D : Str} {c : V} {cv : Value} {σ : L2.St} {H : Hp} {Q : VK} (hcv : ∀ u, RelV c u → u = cv)
    (hk : ∀ e us, upsOf tab e = some us → ∃ C, PySem.W.nsIn K mainGlobals e = some (some (.ref C)) ∧ ExcC K C ∧ PySem.W.kitOne K (.ref C) cv = some (decide (D ∈ us)))
    (h : rdE K mg W (eIsE tab D ma) σ H Q) : tCB (rIsX K) (tCons (rdE K mg W ma) (tCons (tC c) tNil)) σ H Q :=
  (Wh.bnd (m := ma) (f := fun _ d st => match d with
    | .loc l => match st[l]? with
      | some (.err c) => match upsOf tab c with
        | some us => R.ok (Sh.D.bl (decide (D ∈ us))) st
        | none => .bad
      | _ => .bad
    | _ => .bad) h).imp fun ρ1 H1 st1 d _ ⟨en, he, hs, q⟩ v rv => by
    cases d with
    | loc l =>
      dsimp only at q
      cases e1 : st1[l]? with
      | none => rw [e1] at q; exact q.elim
      | some o =>
        rw [e1] at q
        cases o with
        | err e =>
          dsimp only at q
          cases e2 : upsOf tab e with
          | none => rw [e2] at q; exact q.elim
          | some us =>
            rw [e2] at q
            obtain ⟨b, rfl, hb⟩ := rv.locA
            obtain ⟨C, f1, f2, f3⟩ := hk e us e2
            obtain ⟨C', g1, g2⟩ := hs.ob l _ b e1 hb
            rw [f1] at g1
            cases g1
            exact ⟨b, C, c, cv, _, rfl, hcv, g2, f2, f3, q ρ1 H1 Le.refl hs _ (.bl _)⟩
        | _ => exact q.elim
    | _ => exact q.elim
theorem kit_two {K : PySem.W.Frag} {C CD : Addr} {b : Bool} (h0 : PySem.W.subIn K (.ref C) (.ref C) = some true) (h1 : PySem.W.hasDictIn K CD = true) (h2 : PySem.W.typeIn K (.ref CD) = some (.type "type")) (h3 : PySem.W.subIn K (.ref C) (.ref CD) = some b) : PySem.W.kitOne K (.ref C) (.ref CD) = some b := by
  unfold PySem.W.kitOne
  by_cases e : (Value.ref C == Value.ref CD) = true
  · rw [if_pos e]
    have e2 : C = CD := Value.ref.inj (beq_iff_eq.mp e)
    subst e2
    rw [h0] at h3
    exact h3
  · rw [if_neg e]
    unfold PySem.W.kitCls
    obtain ⟨cl, hc, _⟩ := PySem.W.any_some h1
    dsimp only
    rw [if_pos (by rw [hc, h2]; rfl)]
    exact h3
theorem je_isE {D : Str} (cd : ClsD X.K X.mg tab D) (hi : Gl X "isinstance") (hm : X.mg "isinstance" = none) (hg : Gl X D) (ha : JE X W a ma) (hdb : (D == ("__debug__" : Str)) = false := by decide)
    (h2 : starEach [a, .Name D p2] X.env = (false, eval a X.env) :: starEach [.Name D p2] X.env := by rfl) :
    JE X W (.Call (.Name "isinstance" p) [a, .Name D p2] [] pos) (eIsE tab D ma) := by
  obtain ⟨CD, e1, e2, e3, e4, e5⟩ := cd.ex
  refine pe_imp (pe_callB call_isX hi hm (by decide +kernel) (pa_cons ha (pa_cons (pe_glob (v := .ref CD) hg e1 rfl hdb) pa_nil) h2) (he := h2)) fun σ H Q h => isE_rd (D := D) (cv := .ref CD) (fun u r => r) (fun e us hu => ?_) h
  obtain ⟨C, f1, f2, f3, f4, f5⟩ := e5 _ (ups_mem hu)
  exact ⟨C, f1, f3, kit_two f4 e3 e4 f5⟩
theorem je_isB {D : String} (cd : ClsB X.K X.mg tab D) (hi : Gl X "isinstance") (hm : X.mg "isinstance" = none) (hg : Gl X D) (hv : bootBuiltins D = some (.type D)) (ha : JE X W a ma) (hn : (D : Str) ≠ "__name__" := by decide) (hdb : ((D : Str) == ("__debug__" : Str)) = false := by decide)
    (h2 : starEach [a, .Name D p2] X.env = (false, eval a X.env) :: starEach [.Name D p2] X.env := by rfl) :
    JE X W (.Call (.Name "isinstance" p) [a, .Name D p2] [] pos) (eIsE tab D ma) := by
  refine pe_imp (pe_callB call_isX hi hm (by decide +kernel) (pa_cons ha (pa_cons (pe_bltn (v := .ty D) hg cd.nm hv rfl hn hdb) pa_nil) h2) (he := h2)) fun σ H Q h => isE_rd (D := D) (cv := .type D) (fun u r => r) (fun e us hu => ?_) h
  obtain ⟨C, f1, f2, f3⟩ := cd.ex _ (ups_mem hu)
  refine ⟨C, f1, f2, ?_⟩
  unfold PySem.W.kitOne
  rw [if_neg (by simp)]
  unfold PySem.W.kitCls
  dsimp only
  rw [if_pos cd.mt]
  exact f3
end
/-! ### count and index of flat lists -/
def oCount : OMt := fun d ds st => match d, ds with
  | .loc l, [x] => match lstAt st l with
    | some es => if (flatD x && es.all flatD) = true then some (.int ((es.countP fun y => eqD y x : Nat) : Int), st) else none
    | none => none
  | _, _ => none
def oIndex : OMt := fun d ds st => match d, ds with
  | .loc l, [x] => match lstAt st l with
    | some es => if (flatD x && es.all flatD) = true then (match es.findIdx? fun y => eqD y x with
        | some j => some (.int (j : Int), st)
        | none => none) else none
    | none => none
  | _, _ => none
section
variable {X : Cx}
theorem count_vals {x : V} {v : Value} : ∀ {xs : List V} {us : List Value}, Vals xs us → xs.all flatV = true → us.countP (eqU x) = xs.countP fun y => eqV y x
  | _, _, .nil, _ => rfl
  | y :: xs, u :: us, .cons r t, f => by
    rw [List.all_cons, Bool.and_eq_true] at f
    rw [List.countP_cons, List.countP_cons, count_vals (v := v) t f.2, eqU_of r f.1]
theorem count_rep {ρ : List Addr} {H : Hp} {d : D} {x : V} (r : Rep ρ H d x) : ∀ {ds : List D} {vs : List V}, RepL ρ H ds vs → (vs.countP fun y => eqV y x) = ds.countP fun y => eqD y d
  | _, _, .nil => rfl
  | _, _, .cons h t => by rw [List.countP_cons, List.countP_cons, count_rep r t, eq_rep h r]
theorem om_count : MtR X "list.count" (rM X.K oCount) := by
  intro pins s σ H x vs v us Q I rx rvs ⟨ρ, st, d, ds, a, st', hs, rd, rs, h, k⟩
  unfold oCount at h
  split at h
  · rename_i l y
    split at h
    · rename_i es he
      split at h
      · rename_i hc
        cases h
        obtain ⟨c1, c2⟩ := Bool.and_eq_true_iff.mp hc
        obtain ⟨p, xs, rfl, hx, rr⟩ := lstAt_seq (K := X.K) hs he rd
        cases rs with
        | @cons _ _ w _ r1 t1 =>
          cases t1
          cases rx
          cases rvs with
          | cons ry rt =>
            rename_i uy ut
            cases rt
            obtain ⟨its, rv, ⟨⟨cls, dd, data, sl⟩, n, ho, hc', hdn, hd⟩, hlen⟩ := I.list hx
            simp only at hc' hd
            subst hc' hd
            have fw : flatV w = true := by rw [flat_rep r1]; exact c1
            have fx : xs.all flatV = true := by rw [flat_repL rr]; exact c2
            refine call_meets PySem.F.slot_list_count ⟨_, ho, rfl⟩ PySem.F.entry_list_count (PySem.F.args_list_count_2 _ _) (SeqAt.list_countAt p its.toArray n dd sl uy (eqU w)) ⟨ho, fun u hu => mem_eqAt ry fw rv fx u (by simpa using hu), ?_⟩
            have e1 : its.toArray.toList.countP (eqU w) = es.countP fun z => eqD z y := by
              rw [show its.toArray.toList = its from rfl, count_vals (v := uy) rv fx, count_rep r1 rr]
            refine ⟨.int ((es.countP fun z => eqD z y : Nat) : Int), H, I.tok _, ⟨s.toks, ?_⟩, k ρ H _ Le.refl hs (.int _)⟩
            rw [← e1]
      · cases h
    · cases h
  · cases h
theorem om_index : MtR X "list.index" (rM X.K oIndex) := by
  intro pins s σ H x vs v us Q I rx rvs ⟨ρ, st, d, ds, a, st', hs, rd, rs, h, k⟩
  unfold oIndex at h
  split at h
  · rename_i l y
    split at h
    · rename_i es he
      split at h
      · rename_i hc
        split at h
        · rename_i j hj
          cases h
          obtain ⟨c1, c2⟩ := Bool.and_eq_true_iff.mp hc
          obtain ⟨p, xs, rfl, hx, rr⟩ := lstAt_seq (K := X.K) hs he rd
          rw [List.findIdx?_eq_some_iff_getElem] at hj
          obtain ⟨j1, j2, j3⟩ := hj
          obtain ⟨z, hz, rz⟩ := rr.get (List.getElem?_eq_getElem j1)
          cases rs with
          | @cons _ _ w _ r1 t1 =>
            cases t1
            refine mt_index pins s σ H _ _ v us Q I rx rvs ⟨p, xs, w, j, z, rfl, rfl, hx, by rw [flat_rep r1]; exact c1, by rw [flat_repL rr]; exact c2, hz, by rw [eq_rep rz r1]; exact j2, fun m z' hm hz' => ?_, k ρ H _ Le.refl hs (.int _)⟩
            obtain ⟨e, he', re⟩ := rr.get' hz'
            obtain ⟨m1, m2⟩ := List.getElem?_eq_some_iff.mp he'
            rw [eq_rep re r1, ← m2]
            have := j3 m hm
            simpa using this
        · cases h
      · cases h
    · cases h
  · cases h
end
/-! ### going through -/
section
variable {en : Ev} {st : Sto} {p : Po} {P : D → Sto → Prop} {E : Str → Sto → Prop}
theorem k_tryAs (tab : List (Str × List Str)) (D : Str) (i j : Nat) (b : SM) : OkS (sTryAs tab D i j b en st) p = OkS (b en st) { p with ex := fun c en' st' => match upsOf tab c with
    | some us => if D ∈ us then (if i < en'.length then p.nx ((en'.set j (some (.loc st'.length))).set i none) (st' ++ [.err c]) else False) else p.ex c en' st'
    | none => False } := by
  unfold sTryAs
  cases b en st with
  | exc c en' st' =>
    dsimp only
    rw [show ∀ q : Po, OkS (.exc c en' st') q = q.ex c en' st' from fun _ => rfl]
    dsimp only
    cases upsOf tab c with
    | none => rfl
    | some us =>
      dsimp only
      by_cases hm : D ∈ us
      · rw [if_pos hm, if_pos hm]
        by_cases hl : i < en'.length
        · rw [if_pos hl, if_pos hl]
          rfl
        · rw [if_neg hl, if_neg hl]
          rfl
      · rw [if_neg hm, if_neg hm]
        rfl
  | _ => rfl
theorem k_tryO (tab : List (Str × List Str)) (D : Str) (b s : SM) : OkS (sTryO tab D b s en st) p = OkS (b en st) { p with ex := fun c en' st' => match upsOf tab c with
    | some us => if D ∈ us then OkS (s en' st') { p with ex := fun _ _ _ => False } else p.ex c en' st'
    | none => False } := by
  unfold sTryO
  cases b en st with
  | exc c en' st' =>
    dsimp only
    rw [show ∀ q : Po, OkS (.exc c en' st') q = q.ex c en' st' from fun _ => rfl]
    dsimp only
    cases upsOf tab c with
    | none => rfl
    | some us =>
      dsimp only
      by_cases hm : D ∈ us
      · rw [if_pos hm, if_pos hm]
        cases s en' st' <;> rfl
      · rw [if_neg hm, if_neg hm]
        rfl
  | _ => rfl
theorem k_raiseA (c : Str) (as : AM) : OkS (sRaiseA c as en st) p = OkX (as en st) (fun ds st1 => if ds.length ≤ sizeLine then p.ex c en st1 else False) (fun c st1 => p.ex c en st1) := by
  unfold sRaiseA
  rw [k_sB]
  congr 1
  funext ds st1
  split <;> rfl
theorem k_isE (tab : List (Str × List Str)) (D : Str) (a : EM) : OkX (eIsE tab D a en st) P E = OkX (a en st) (fun d st1 => match d with
    | .loc l => match st1[l]? with
      | some (.err c) => match upsOf tab c with
        | some us => P (.bl (decide (D ∈ us))) st1
        | none => False
      | _ => False
    | _ => False) E := by
  unfold eIsE
  rw [k_bnd]
  congr 1
  funext d st1
  cases d with
  | loc l =>
    dsimp only
    cases st1[l]? with
    | none => rfl
    | some o =>
      cases o with
      | err c =>
        dsimp only
        cases upsOf tab c <;> rfl
      | _ => rfl
  | _ => rfl
end
end Sh

set_option maxHeartbeats 1000000
/-! ShP: the laws' common prelude: what is drawn. -/
namespace Sh
open PySem PySem.Spec PyProof.Rows L2

local macro_rules | `(tactic| walk_at "go") => `(tactic| simp only [k_bnd, k_ret, k_ok, k_bad, k_badM, k_exc, k_lft, k_ite, k_ite', o_some, o_none, o_ite, v_some, k_var, k_c, k_op, k_call, k_call0, k_cb, k_nil, k_cons, k_tup, k_lst, k_bOf, k_bAnd, k_bOr, k_bNot, k_and, k_or, k_not, k_if, k_chain, k_inC, k_neg, k_bm, k_get2, k_pnone, k_psome, k_sl, k_pnil, k_pcons, k_dic, k_seq, k_nx, k_rt, k_sbad, k_snil, k_spass, k_set, k_sret, k_sretN, k_sexp, k_sif, k_asg, k_par2, k_par3, k_aug, k_put, k_seqI, k_range1, k_forI, k_lc, List.getElem?_cons_zero, List.getElem?_cons_succ, List.set_cons_zero, List.set_cons_succ, List.length_cons, List.length_nil, if_true, if_false, Bool.not_true, Bool.not_false, Bool.false_eq_true, ite_true, ite_false, reduceIte, Nat.reduceAdd, Nat.zero_add])

def bTake : SM :=
  sSeq (sIf (bAnd (bOf (eOp oEq (eOp oIx (eVar 0) (eC (.str "rest"))) (eC (.int 0)))) (bOf (eOp oNe (eOp oIx (eVar 0) (eC (.str "great"))) (eLst (aNil))))) (sPut (eBM "list" oPopAt (eOp oIx (eVar 0) (eC (.str "great"))) (aCons (eC (.int 0)) (aNil))) (eVar 0) (eC (.str "rest"))) (sNil)) (sSeq (sIf (bOf (eOp oGt (eOp oIx (eVar 0) (eC (.str "rest"))) (eC (.int 0)))) (sSeq (sSet 2 (eOp oMod (eOp oIx (eVar 0) (eC (.str "rest"))) (eVar 1))) (sSeq (sPut (eOp oDiv (eOp oIx (eVar 0) (eC (.str "rest"))) (eVar 1)) (eVar 0) (eC (.str "rest"))) (sRet (eVar 2)))) (sNil)) (sSeq (sSet 3 (eOp oIx (eVar 0) (eC (.str "cells")))) (sSeq (sPut (eOp oAdd (eOp oIx (eVar 0) (eC (.str "turn"))) (eC (.int 1))) (eVar 0) (eC (.str "turn"))) (sSeq (sSet 4 (eIf (bOf (eOp oNe (eVar 3) (eLst (aNil)))) (eOp oIx (eVar 3) (eOp oMod (eOp oIx (eVar 0) (eC (.str "turn"))) (eCB oLen (aCons (eVar 3) (aNil))))) (eC (.int 0)))) (sSeq (sPut (eOp oMod (eOp oAdd (eOp oAdd (eOp oMul (eOp oIx (eVar 0) (eC (.str "more"))) (eC (.int 48271))) (eVar 4)) (eOp oMul (eC (.int 7919)) (eOp oIx (eVar 0) (eC (.str "turn"))))) (eC (.int 2147483647))) (eVar 0) (eC (.str "more"))) (sRet (eOp oMod (eOp oMod (eOp oAdd (eOp oMul (eOp oIx (eVar 0) (eC (.str "more"))) (eOp oIx (eVar 0) (eC (.str "more")))) (eOp oMul (eC (.int 16807)) (eOp oIx (eVar 0) (eC (.str "more"))))) (eC (.int 2147483629))) (eVar 1))))))))

def stK (g c : Nat) (r t m : Int) : List (Key × D) := [(.inr "great", .loc g), (.inr "rest", .int r), (.inr "cells", .loc c), (.inr "turn", .int t), (.inr "more", .int m)]
theorem e_gr : ¬ (("great" : Str) = "rest") := by decide +kernel
theorem e_gc : ¬ (("great" : Str) = "cells") := by decide +kernel
theorem e_gt : ¬ (("great" : Str) = "turn") := by decide +kernel
theorem e_gm : ¬ (("great" : Str) = "more") := by decide +kernel
theorem e_rc : ¬ (("rest" : Str) = "cells") := by decide +kernel
theorem e_rt : ¬ (("rest" : Str) = "turn") := by decide +kernel
theorem e_rm : ¬ (("rest" : Str) = "more") := by decide +kernel
theorem e_ct : ¬ (("cells" : Str) = "turn") := by decide +kernel
theorem e_cm : ¬ (("cells" : Str) = "more") := by decide +kernel
theorem e_tm : ¬ (("turn" : Str) = "more") := by decide +kernel
section
variable {g c : Nat} {r t m : Int}
theorem lk_g : lookK (stK g c r t m) (.inr "great") = some (.loc g) := by simp [lookK, stK]
theorem lk_r : lookK (stK g c r t m) (.inr "rest") = some (.int r) := by simp [lookK, stK, e_gr]
theorem lk_c : lookK (stK g c r t m) (.inr "cells") = some (.loc c) := by simp [lookK, stK, e_gc, e_rc]
theorem lk_t : lookK (stK g c r t m) (.inr "turn") = some (.int t) := by simp [lookK, stK, e_gt, e_rt, e_ct]
theorem lk_m : lookK (stK g c r t m) (.inr "more") = some (.int m) := by simp [lookK, stK, e_gm, e_rm, e_cm, e_tm]
theorem pt_r (r' : Int) : putD (stK g c r t m) (.inr "rest") (.int r') = stK g c r' t m := by
  have h1 := e_gr; have h2 := Ne.symm e_rc; have h3 := Ne.symm e_rt; have h4 := Ne.symm e_rm
  simp [putD, stK, h1, h2, h3, h4]
theorem pt_t (r' : Int) : putD (stK g c r t m) (.inr "turn") (.int r') = stK g c r r' m := by
  have h1 := e_gt; have h2 := e_rt; have h3 := e_ct; have h4 := Ne.symm e_tm
  simp [putD, stK, h1, h2, h3, h4]
theorem pt_m (r' : Int) : putD (stK g c r t m) (.inr "more") (.int r') = stK g c r t r' := by
  have h1 := e_gm; have h2 := e_rm; have h3 := e_cm; have h4 := e_tm
  simp [putD, stK, h1, h2, h3, h4]
end
theorem mg_stK {g c : Nat} {r t m : Int} : mergeD [] (stK g c r t m) = stK g c r t m := by
  have h1 := e_gr; have h2 := e_gc; have h3 := e_gt; have h4 := e_gm
  have h5 := e_rc; have h6 := e_rt; have h7 := e_rm; have h8 := e_ct; have h9 := e_cm; have h10 := e_tm
  simp [mergeD, putD, stK, h1, h2, h3, h4, h5, h6, h7, h8, h9, h10]
theorem ix_dic {s : Nat} {st : Sto} {kvs : List (Key × D)} {k : Str} {d : D} (h : st[s]? = some (.dic kvs)) (e : lookK kvs (.inr k) = some d) : oIx (.loc s) (.str k) st = some (d, st) := by
  have h1 : lstAt st s = none := by unfold lstAt; rw [h]
  have h2 : dkAt st s = some kvs := by unfold dkAt; rw [h]
  have h3 : ixD (.loc s) (.str k) st = some d := by
    unfold ixD
    dsimp only
    rw [h1]
    dsimp only [keyOf]
    rw [h2]
    exact e
  unfold oIx
  rw [h3]
theorem set_dic {s : Nat} {st : Sto} {kvs kvs' : List (Key × D)} {k : Str} {d : D} (h : st[s]? = some (.dic kvs)) (hl : kvs.length < sizeLine) (e : putD kvs (.inr k) d = kvs') : setO (.loc s) (.str k) d st = some (st.set s (.dic kvs')) := by
  unfold setO
  dsimp only
  rw [h]
  dsimp only [keyOf]
  rw [if_pos hl, e]
/-! ### lists -/
theorem ix_lst {l : Nat} {st : Sto} {ds : List D} {i : Int} {d : D} (h : lstAt st l = some ds) (e : atI ds i = some d) : oIx (.loc l) (.int i) st = some (d, st) := by
  have h3 : ixD (.loc l) (.int i) st = some d := by
    unfold ixD
    dsimp only
    rw [h]
    exact e
  unfold oIx
  rw [h3]
theorem ix_tup {ds : List D} {st : Sto} {i : Int} {d : D} (e : atI ds i = some d) : oIx (.tup ds) (.int i) st = some (d, st) := by
  have h3 : ixD (.tup ds) (.int i) st = some d := e
  unfold oIx
  rw [h3]
theorem lst_at {l : Nat} {st : Sto} {ds : List D} (h : st[l]? = some (.lst ds)) : lstAt st l = some ds := by unfold lstAt; rw [h]
theorem rol_at {l : Nat} {st : Sto} {ds : List D} (h : st[l]? = some (.rol ds)) : lstAt st l = some ds := by unfold lstAt; rw [h]
theorem len_lst {l : Nat} {st : Sto} {ds : List D} (h : st[l]? = some (.lst ds)) : oLen [.loc l] st = some (.int ds.length, st) := by
  have : lenD (.loc l) st = some (ds.length : Int) := by unfold lenD; dsimp only; rw [h]
  unfold oLen
  dsimp only
  rw [this]
theorem len_rol {l : Nat} {st : Sto} {ds : List D} (h : st[l]? = some (.rol ds)) : oLen [.loc l] st = some (.int ds.length, st) := by
  have : lenD (.loc l) st = some (ds.length : Int) := by unfold lenD; dsimp only; rw [h]
  unfold oLen
  dsimp only
  rw [this]
theorem len_txt {s : Str} {st : Sto} (h : s.length ≤ sizeLine) : oLen [.str s] st = some (.int s.length, st) := by
  have : lenD (.str s) st = some (s.length : Int) := by unfold lenD; dsimp only; rw [if_pos h]
  unfold oLen
  dsimp only
  rw [this]
theorem len_tup {ds : List D} {st : Sto} : oLen [.tup ds] st = some (.int ds.length, st) := rfl
/-- data of numbers alone as == sees them -/
theorem pyL_ints (res : Nat → Option PyData) : ∀ ns : List Int, toPyWL res (ns.map D.int) = some (ns.map PyData.int)
  | [] => by unfold toPyWL; rfl
  | n :: r => by
    unfold toPyWL
    rw [List.map_cons]
    dsimp only [toPyW]
    rw [pyL_ints res r]
    rfl
theorem pyL_strs (res : Nat → Option PyData) : ∀ ns : List Str, toPyWL res (ns.map D.str) = some (ns.map PyData.str)
  | [] => by unfold toPyWL; rfl
  | n :: r => by
    unfold toPyWL
    rw [List.map_cons]
    dsimp only [toPyW]
    rw [pyL_strs res r]
    rfl
theorem py_loc {st : Sto} {l n : Nat} {ds : List D} {ps : List PyData} (h : lstAt st l = some ds) (e : ∀ res, toPyWL res ds = some ps) : toPy st (n + 1) (.loc l) = some (.list ps) := by
  unfold toPy toPyW
  rw [h]
  dsimp only
  rw [e]
  rfl
theorem lay_ints : ∀ ns : List Int, PyData.canLayAll0 (ns.map PyData.int) = true
  | [] => by simp [PyData.canLayAll0]
  | n :: r => by simp [PyData.canLayAll0, PyData.canLay0, lay_ints r]
def ascS (z : Str) : Prop := ∀ c ∈ z.cps.toList, c < 128
theorem asc_ok {z : Str} (h : ascS z) : PyData.strOk z = true := by
  unfold PyData.strOk
  rw [← Array.all_toList, List.all_eq_true]
  intro c hc
  have := h c hc
  exact decide_eq_true (by omega)
theorem lay_strs : ∀ ns : List Str, (∀ z ∈ ns, PyData.strOk z = true) → PyData.canLayAll0 (ns.map PyData.str) = true
  | [], _ => by simp [PyData.canLayAll0]
  | n :: r, h => by
    have h1 := h n List.mem_cons_self
    have h2 := lay_strs r fun z hz => h z (List.mem_cons_of_mem _ hz)
    simp [PyData.canLayAll0, PyData.canLay0, h1, h2]
theorem dep_strs : ∀ ns : List Str, PyData.depthAll (ns.map PyData.str) = 0
  | [] => by simp [PyData.depthAll]
  | n :: r => by simp [PyData.depthAll, PyData.depth, dep_strs r]
theorem sh_strs (ns : List Str) (h : ∀ z ∈ ns, PyData.strOk z = true) : shX (.list (ns.map PyData.str)) = true := by
  unfold shX
  rw [Bool.and_eq_true]
  exact ⟨by rw [PyData.canLay0]; exact lay_strs ns h, decide_eq_true (by rw [PyData.depth, dep_strs]; omega)⟩
theorem dep_ints : ∀ ns : List Int, PyData.depthAll (ns.map PyData.int) = 0
  | [] => by simp [PyData.depthAll]
  | n :: r => by simp [PyData.depthAll, PyData.depth, dep_ints r]
theorem sh_ints (ns : List Int) : shX (.list (ns.map PyData.int)) = true := by
  unfold shX
  rw [Bool.and_eq_true]
  exact ⟨by rw [PyData.canLay0]; exact lay_ints ns, decide_eq_true (by rw [PyData.depth, dep_ints]; omega)⟩
theorem eq_nil : ∀ ps : List PyData, PyData.eqv (.list ps) (.list []) = ps.isEmpty
  | [] => by simp [PyData.eqv, PyData.eqvAll]
  | _ :: _ => by simp [PyData.eqv, PyData.eqvAll]
theorem ne_ints {st : Sto} {l k : Nat} {ns : List Int} (h : lstAt st l = some (ns.map D.int)) (h2 : lstAt st k = some []) : oNe (.loc l) (.loc k) st = some (.bl (!ns.isEmpty), st) := by
  have e1 : toPy st 2 (.loc l) = some (.list (ns.map PyData.int)) := py_loc h fun res => pyL_ints res ns
  have e2 : toPy st 2 (.loc k) = some (.list (([] : List Int).map PyData.int)) := py_loc (ds := ([] : List Int).map D.int) h2 fun res => pyL_ints res []
  have e3 : eqDat (.loc l) (.loc k) st = some ns.isEmpty := by
    unfold eqDat deepEq
    dsimp only
    rw [e1, e2]
    dsimp only
    rw [sh_ints, sh_ints, Bool.and_self, if_pos rfl]
    show some (PyData.eqv (.list (ns.map PyData.int)) (.list [])) = _
    rw [eq_nil]
    cases ns <;> rfl
  unfold oNe
  rw [e3]
/-! ### what is drawn from -/
structure Dr (s g c : Nat) (st : Sto) : Prop where
  sg : s ≠ g
  sc : s ≠ c
  gc : g ≠ c
  ex : ∃ (r t m : Int) (gs cs : List Int), st[s]? = some (.dic (stK g c r t m)) ∧ st[g]? = some (.lst (gs.map D.int)) ∧ st[c]? = some (.lst (cs.map D.int)) ∧ 0 ≤ m ∧ m < 2 ^ 60
/-- all but what is drawn from stands -/
structure Gr (s g : Nat) (st st' : Sto) : Prop where
  len : st.length ≤ st'.length
  keep : ∀ l o, l ≠ s → l ≠ g → st[l]? = some o → st'[l]? = some o
theorem Gr.refl {s g : Nat} {st : Sto} : Gr s g st st := ⟨Nat.le_refl _, fun _ _ _ _ h => h⟩
theorem Gr.trans {s g : Nat} {st st' st'' : Sto} (a : Gr s g st st') (b : Gr s g st' st'') : Gr s g st st'' := ⟨Nat.le_trans a.len b.len, fun l o h1 h2 e => b.keep l o h1 h2 (a.keep l o h1 h2 e)⟩
theorem app_get {st t : Sto} {l : Nat} {o : O} (h : st[l]? = some o) : (st ++ t)[l]? = some o := by
  rw [List.getElem?_append_left (List.getElem?_eq_some_iff.mp h).1]
  exact h
theorem Gr.app {s g : Nat} {st t : Sto} : Gr s g st (st ++ t) := ⟨by rw [List.length_append]; omega, fun _ _ _ _ h => app_get h⟩
theorem Gr.setS {s g : Nat} {st : Sto} {o : O} : Gr s g st (st.set s o) := ⟨by rw [List.length_set]; exact Nat.le_refl _, fun l u h1 _ e => by rw [List.getElem?_set_ne (Ne.symm h1)]; exact e⟩
theorem Gr.setG {s g : Nat} {st : Sto} {o : O} : Gr s g st (st.set g o) := ⟨by rw [List.length_set]; exact Nat.le_refl _, fun l u _ h1 e => by rw [List.getElem?_set_ne (Ne.symm h1)]; exact e⟩
theorem Dr.app {s g c : Nat} {st t : Sto} (h : Dr s g c st) : Dr s g c (st ++ t) := by
  obtain ⟨h1, h2, h3, r, t', m, gs, cs, e1, e2, e3, e4⟩ := h
  exact ⟨h1, h2, h3, r, t', m, gs, cs, app_get e1, app_get e2, app_get e3, e4⟩
theorem Dr.lt {s g c : Nat} {st : Sto} (h : Dr s g c st) : s < st.length ∧ g < st.length := by
  obtain ⟨h1, h2, h3, r, t', m, gs, cs, e1, e2, e3, e4⟩ := h
  exact ⟨(List.getElem?_eq_some_iff.mp e1).1, (List.getElem?_eq_some_iff.mp e2).1⟩
/-- a place beyond the end that is set -/
theorem Dr.setApp {s g c : Nat} {st : Sto} {o o' : O} (h : Dr s g c (st ++ [o])) (hs : s ≠ st.length) (hg : g ≠ st.length) (hc : c ≠ st.length) : Dr s g c ((st ++ [o]).set st.length o') := by
  obtain ⟨h1, h2, h3, r, t', m, gs, cs, e1, e2, e3, e4⟩ := h
  exact ⟨h1, h2, h3, r, t', m, gs, cs, by rw [List.getElem?_set_ne (Ne.symm hs)]; exact e1, by rw [List.getElem?_set_ne (Ne.symm hg)]; exact e2, by rw [List.getElem?_set_ne (Ne.symm hc)]; exact e3, e4⟩
theorem cut_seq {a b : SM} {en : Ev} {st : Sto} {p : Po} (I : Ev → Sto → Prop) (h1 : OkS (a en st) { p with nx := I }) (h2 : ∀ en' st', I en' st' → OkS (b en' st') p) : OkS (sSeq a b en st) p := by
  rw [k_seq]
  exact OkS.imp h1 h2 (fun _ _ h => h) (fun _ _ h => h) (fun _ _ h => h) (fun _ _ _ h => h)
theorem small_size : (16777216 : Nat) = sizeLine := sizeLine_eq.symm
theorem sz {n : Nat} (h : n ≤ 100000) : n ≤ sizeLine := Nat.le_trans h (by decide)
theorem szl {n : Nat} (h : n < 100000) : n < sizeLine := Nat.lt_of_lt_of_le h (by decide)
section
variable {i j : Int} {st : Sto}
theorem add_i : oAdd (.int i) (.int j) st = some (.int (i + j), st) := rfl
theorem mul_l (h : -(2 ^ 64) < i ∧ i < 2 ^ 64) : oMul (.int i) (.int j) st = some (.int (i * j), st) := by
  unfold oMul
  dsimp only
  exact if_pos (Or.inl h)
theorem mul_r (h : -(2 ^ 64) < j ∧ j < 2 ^ 64) : oMul (.int i) (.int j) st = some (.int (i * j), st) := by
  unfold oMul
  dsimp only
  exact if_pos (Or.inr h)
theorem mod_i (h : 0 < j) : oMod (.int i) (.int j) st = some (.int (i % j), st) := by
  unfold oMod
  dsimp only
  exact if_pos h
theorem div_i (h : 0 < j) (h1 : j < 1073741824) : oDiv (.int i) (.int j) st = some (.int (i / j), st) := by
  unfold oDiv
  dsimp only
  exact if_pos ⟨h, h1⟩
theorem eq_i : oEq (.int i) (.int j) st = some (.bl (decide (i = j)), st) := rfl
theorem eq_s {a b : Str} : oEq (.str a) (.str b) st = some (.bl (decide (a = b)), st) := rfl
theorem ne_i : oNe (.int i) (.int j) st = some (.bl (!decide (i = j)), st) := rfl
theorem ne_s {a b : Str} : oNe (.str a) (.str b) st = some (.bl (!decide (a = b)), st) := rfl
theorem ne_b {a b : Bool} : oNe (.bl a) (.bl b) st = some (.bl (!decide (a = b)), st) := rfl
theorem lt_i : oLt (.int i) (.int j) st = some (.bl (decide (i < j)), st) := rfl
theorem le_i : oLe (.int i) (.int j) st = some (.bl (decide (i ≤ j)), st) := rfl
theorem gt_i : oGt (.int i) (.int j) st = some (.bl (decide (j < i)), st) := rfl
theorem ge_i : oGe (.int i) (.int j) st = some (.bl (decide (j ≤ i)), st) := rfl
end
theorem at_nat {α : Type} {xs : List α} {i : Int} (h0 : 0 ≤ i) (h1 : i < xs.length) : atI xs i = xs[i.toNat]? := by
  unfold atI ixN
  rw [if_pos h0, if_pos h1]
  rfl
theorem take_ok {s g c : Nat} {st : Sto} {many : Int} (hD : Dr s g c st) (h0 : 0 < many) (h1 : many < 1073741824) :
    Ok (runDef 5 bTake [.loc s, .int many] st) fun d st' => (∃ v : Int, d = .int v ∧ 0 ≤ v ∧ v < many) ∧ Dr s g c st' ∧ Gr s g st st' := by
  unfold Ok
  rw [k_run, st_5_2]
  unfold bTake
  refine cut_seq (fun en' st' => en' = [some (.loc s), some (.int many), none, none, none] ∧ Dr s g c st' ∧ Gr s g st st') ?_ (fun en1 st1 hI => ?_)
  · obtain ⟨n1, n2, n3, r, t, m, gs, cs, e1, e2, e3, e4, e5⟩ := id hD
    walk_at "go"
    rw [ix_dic e1 lk_r]
    walk_at "go"
    by_cases hr : r = 0
    · subst hr
      show OkO (oEq (.int 0) (.int 0) st) _
      rw [show oEq (.int 0) (.int 0) st = some (.bl true, st) from rfl]
      walk_at "go"
      rw [ix_dic e1 lk_g]
      walk_at "go"
      rw [if_pos (Nat.zero_le _)]
      have a1 := app_get (t := [O.lst []]) e1
      have a2 := app_get (t := [O.lst []]) e2
      have a3 := app_get (t := [O.lst []]) e3
      have a4 : (st ++ [O.lst []])[st.length]? = some (.lst []) := by rw [List.getElem?_append_right (Nat.le_refl _), Nat.sub_self]; rfl
      rw [ne_ints (lst_at a2) (lst_at a4)]
      walk_at "go"
      cases gs with
      | nil =>
        rw [if_neg (show ¬ (!([] : List Int).isEmpty) = true from by decide)]
        exact ⟨trivial, hD.app, Gr.app⟩
      | cons v gs =>
        rw [if_pos (show (!(v :: gs).isEmpty) = true from rfl)]
        rw [ix_dic a1 lk_g]
        walk_at "go"
        have hT : isTyD "list" (.loc g) (st ++ [O.lst []]) = true := by unfold isTyD; dsimp only; rw [a2]; rfl
        rw [if_pos hT]
        have hp : oPopAt (.loc g) [.int 0] (st ++ [O.lst []]) = some (.int v, (st ++ [O.lst []]).set g (.lst (gs.map D.int))) := by
          unfold oPopAt
          dsimp only
          rw [a2]
          dsimp only
          rw [show ixN ((v :: gs).map D.int).length 0 = some 0 from by unfold ixN; rw [if_pos (Int.le_refl 0), if_pos (by rw [List.length_map, List.length_cons]; omega)]; rfl]
          rfl
        rw [hp]
        walk_at "go"
        have b1 : ((st ++ [O.lst []]).set g (.lst (gs.map D.int)))[s]? = some (.dic (stK g c 0 t m)) := by rw [List.getElem?_set_ne (Ne.symm n1)]; exact a1
        have b2 : ((st ++ [O.lst []]).set g (.lst (gs.map D.int)))[g]? = some (.lst (gs.map D.int)) := List.getElem?_set_self (List.getElem?_eq_some_iff.mp a2).1
        have b3 : ((st ++ [O.lst []]).set g (.lst (gs.map D.int)))[c]? = some (.lst (cs.map D.int)) := by rw [List.getElem?_set_ne n3]; exact a3
        rw [set_dic (kvs' := stK g c v t m) b1 (by show 5 < sizeLine; decide) (pt_r v)]
        refine ⟨trivial, ⟨n1, n2, n3, v, t, m, gs, cs, List.getElem?_set_self (List.getElem?_eq_some_iff.mp b1).1, ?_, ?_, e4, e5⟩, (Gr.app.trans Gr.setG).trans Gr.setS⟩
        · rw [List.getElem?_set_ne n1]; exact b2
        · rw [List.getElem?_set_ne n2]; exact b3
    · have : oEq (.int r) (.int 0) st = some (.bl false, st) := by
        unfold oEq eqDat
        dsimp only
        rw [decide_eq_false hr]
      rw [this]
      walk_at "go"
      exact ⟨trivial, hD, Gr.refl⟩
  · obtain ⟨rfl, hD1, hG1⟩ := hI
    refine cut_seq (fun en' st' => en' = [some (.loc s), some (.int many), none, none, none] ∧ Dr s g c st' ∧ Gr s g st st') ?_ (fun en2 st2 hI => ?_)
    · obtain ⟨n1, n2, n3, r, t, m, gs, cs, e1, e2, e3, e4, e5⟩ := id hD1
      walk_at "go"
      rw [ix_dic e1 lk_r]
      walk_at "go"
      rw [show oGt (.int r) (.int 0) st1 = some (.bl (decide (0 < r)), st1) from rfl]
      walk_at "go"
      by_cases hr : 0 < r
      · rw [if_pos (decide_eq_true hr), ix_dic e1 lk_r]
        walk_at "go"
        rw [show oMod (.int r) (.int many) st1 = some (.int (r % many), st1) from by unfold oMod; exact if_pos h0]
        walk_at "go"
        rw [ix_dic e1 lk_r]
        walk_at "go"
        rw [show oDiv (.int r) (.int many) st1 = some (.int (r / many), st1) from by unfold oDiv; exact if_pos ⟨h0, h1⟩]
        walk_at "go"
        rw [set_dic (kvs' := stK g c (r / many) t m) e1 (by show 5 < sizeLine; decide) (pt_r _)]
        refine ⟨⟨_, rfl, Int.emod_nonneg _ (by omega), Int.emod_lt_of_pos _ h0⟩, ⟨n1, n2, n3, r / many, t, m, gs, cs, List.getElem?_set_self (List.getElem?_eq_some_iff.mp e1).1, ?_, ?_, e4, e5⟩, hG1.trans Gr.setS⟩
        · rw [List.getElem?_set_ne n1]; exact e2
        · rw [List.getElem?_set_ne n2]; exact e3
      · rw [if_neg (by rw [decide_eq_false hr]; exact Bool.false_ne_true)]
        exact ⟨trivial, hD1, hG1⟩
    · obtain ⟨rfl, hD2, hG2⟩ := hI
      refine cut_seq (fun en' st' => en' = [some (.loc s), some (.int many), none, some (.loc c), none] ∧ Dr s g c st' ∧ Gr s g st st') ?_ (fun en3 st3 hI => ?_)
      · obtain ⟨n1, n2, n3, r, t, m, gs, cs, e1, e2, e3, e4, e5⟩ := id hD2
        walk_at "go"
        rw [ix_dic e1 lk_c]
        exact ⟨rfl, hD2, hG2⟩
      obtain ⟨rfl, hD3, hG3⟩ := hI
      refine cut_seq (fun en' st' => en' = [some (.loc s), some (.int many), none, some (.loc c), none] ∧ Dr s g c st' ∧ Gr s g st st') ?_ (fun en4 st4 hI => ?_)
      · obtain ⟨n1, n2, n3, r, t, m, gs, cs, e1, e2, e3, e4, e5⟩ := id hD3
        walk_at "go"
        rw [ix_dic e1 lk_t]
        walk_at "go"
        rw [show oAdd (.int t) (.int 1) st3 = some (.int (t + 1), st3) from rfl]
        walk_at "go"
        rw [set_dic (kvs' := stK g c r (t + 1) m) e1 (by show 5 < sizeLine; decide) (pt_t _)]
        refine ⟨trivial, ⟨n1, n2, n3, r, t + 1, m, gs, cs, List.getElem?_set_self (List.getElem?_eq_some_iff.mp e1).1, ?_, ?_, e4, e5⟩, hG3.trans Gr.setS⟩
        · rw [List.getElem?_set_ne n1]; exact e2
        · rw [List.getElem?_set_ne n2]; exact e3
      obtain ⟨rfl, hD4, hG4⟩ := hI
      refine cut_seq (fun en' st' => (∃ x : Int, en' = [some (.loc s), some (.int many), none, some (.loc c), some (.int x)]) ∧ Dr s g c st' ∧ Gr s g st st') ?_ (fun en5 st5 hI => ?_)
      · walk_at "go"
        rw [if_pos (Nat.zero_le _)]
        have hD5 := hD4.app (t := [O.lst []])
        have hG5 := hG4.trans (Gr.app (t := [O.lst []]))
        have a4 : (st4 ++ [O.lst []])[st4.length]? = some (.lst []) := by rw [List.getElem?_append_right (Nat.le_refl _), Nat.sub_self]; rfl
        generalize st4 ++ [O.lst []] = st5 at hD5 hG5 a4 ⊢
        obtain ⟨n1, n2, n3, r, t, m, gs, cs, e1, e2, e3, e4, e5⟩ := id hD5
        rw [ne_ints (lst_at e3) (lst_at a4)]
        walk_at "go"
        cases cs with
        | nil =>
          rw [if_neg (show ¬ (!([] : List Int).isEmpty) = true from by decide)]
          exact ⟨⟨0, rfl⟩, hD5, hG5⟩
        | cons v cs =>
          rw [if_pos (show (!(v :: cs).isEmpty) = true from rfl), ix_dic e1 lk_t]
          walk_at "go"
          rw [len_lst e3]
          walk_at "go"
          have hl : (0 : Int) < ((v :: cs).map D.int).length := by rw [List.length_map, List.length_cons]; omega
          rw [show oMod (.int t) (.int ((v :: cs).map D.int).length) st5 = some (.int (t % ((v :: cs).map D.int).length), st5) from if_pos hl]
          walk_at "go"
          have p0 := Int.emod_nonneg t (show (((v :: cs).map D.int).length : Int) ≠ 0 by omega)
          have p1 := Int.emod_lt_of_pos t hl
          have hat : ∃ y : Int, atI ((v :: cs).map D.int) (t % ((v :: cs).map D.int).length) = some (.int y) := by
            rw [at_nat p0 p1, List.getElem?_map]
            have hlt : (t % ((v :: cs).map D.int).length).toNat < (v :: cs).length := by
              have : ((v :: cs).map D.int).length = (v :: cs).length := List.length_map ..
              omega
            rw [List.getElem?_eq_getElem hlt]
            exact ⟨_, rfl⟩
          obtain ⟨y, hat⟩ := hat
          rw [ix_lst (lst_at e3) hat]
          exact ⟨⟨_, rfl⟩, hD5, hG5⟩
      obtain ⟨⟨x, rfl⟩, hD5, hG5⟩ := hI
      refine cut_seq (fun en' st' => Dr s g c st' ∧ Gr s g st st' ∧ en' = [some (.loc s), some (.int many), none, some (.loc c), some (.int x)]) ?_ (fun en6 st6 hI => ?_)
      · obtain ⟨n1, n2, n3, r, t, m, gs, cs, e1, e2, e3, e4, e5⟩ := id hD5
        walk_at "go"
        rw [ix_dic e1 lk_m]
        walk_at "go"
        rw [mul_r (i := m) (j := 48271) (st := st5) (by omega)]
        walk_at "go"
        rw [show oAdd (.int (m * 48271)) (.int x) st5 = some (.int (m * 48271 + x), st5) from rfl]
        walk_at "go"
        rw [ix_dic e1 lk_t]
        walk_at "go"
        rw [mul_l (i := 7919) (j := t) (st := st5) (by omega)]
        walk_at "go"
        rw [show oAdd (.int (m * 48271 + x)) (.int (7919 * t)) st5 = some (.int (m * 48271 + x + 7919 * t), st5) from rfl]
        walk_at "go"
        rw [mod_i (i := m * 48271 + x + 7919 * t) (j := 2147483647) (st := st5) (by omega)]
        walk_at "go"
        generalize hm : (m * 48271 + x + 7919 * t) % 2147483647 = m'
        have hm1 : 0 ≤ m' := by omega
        have hm2 : m' < 2147483647 := by omega
        rw [set_dic (kvs' := stK g c r t m') e1 (by show 5 < sizeLine; decide) (pt_m _)]
        refine ⟨⟨n1, n2, n3, r, t, m', gs, cs, List.getElem?_set_self (List.getElem?_eq_some_iff.mp e1).1, ?_, ?_, hm1, by omega⟩, hG5.trans Gr.setS, trivial⟩
        · rw [List.getElem?_set_ne n1]; exact e2
        · rw [List.getElem?_set_ne n2]; exact e3
      obtain ⟨hD6, hG6, rfl⟩ := hI
      obtain ⟨n1, n2, n3, r, t, m, gs, cs, e1, e2, e3, e4, e5⟩ := id hD6
      walk_at "go"
      rw [ix_dic e1 lk_m]
      walk_at "go"
      rw [ix_dic e1 lk_m]
      walk_at "go"
      rw [mul_r (i := m) (j := m) (st := st6) (by omega)]
      walk_at "go"
      rw [ix_dic e1 lk_m]
      walk_at "go"
      rw [mul_r (i := 16807) (j := m) (st := st6) (by omega)]
      walk_at "go"
      rw [show oAdd (.int (m * m)) (.int (16807 * m)) st6 = some (.int (m * m + 16807 * m), st6) from rfl]
      walk_at "go"
      rw [mod_i (i := m * m + 16807 * m) (j := 2147483629) (st := st6) (by omega)]
      walk_at "go"
      rw [show oMod (.int ((m * m + 16807 * m) % 2147483629)) (.int many) st6 = some (.int ((m * m + 16807 * m) % 2147483629 % many), st6) from if_pos h0]
      exact ⟨⟨_, rfl, Int.emod_nonneg _ (by omega), Int.emod_lt_of_pos _ h0⟩, hD6, hG6⟩
theorem lc_pureAt {cond : BM} {el : EM} {tg : D → Ev → Option Ev} {enw : Ev} {l : Nat} {ds : List D} {st0 : Sto} (f : D → D) (q : D → Bool) (hz : ds.length < sizeLine) (hl : lstAt st0 l = some ds)
    (h : ∀ d ∈ ds, ∃ en1, tg d enw = some en1 ∧ ∀ acc, cond en1 (st0 ++ [.lst acc]) = .ok (q d) (st0 ++ [.lst acc]) ∧ (q d = true → el en1 (st0 ++ [.lst acc]) = .ok (f d) (st0 ++ [.lst acc]))) :
    Ok (lcLoop cond el tg (srcAt l) st0.length enw ds.length 0 (st0 ++ [.lst []])) fun _ st' => st' = st0 ++ [.lst ((ds.filter q).map f)] := by
  have key : ∀ (acc : List D), (st0 ++ [O.lst acc])[st0.length]? = some (.lst acc) := fun acc => by
    rw [List.getElem?_append_right (Nat.le_refl _), Nat.sub_self]
    rfl
  have keyS : ∀ (acc bcc : List D), (st0 ++ [O.lst acc]).set st0.length (.lst bcc) = st0 ++ [.lst bcc] := fun acc bcc => by
    rw [List.set_append_right _ _ (Nat.le_refl _), Nat.sub_self]
    rfl
  have key2 : ds.take ds.length = ds := List.take_length
  have hlt : l < st0.length := by
    unfold lstAt at hl
    cases e : st0[l]? with
    | none => rw [e] at hl; cases hl
    | some o => exact (List.getElem?_eq_some_iff.mp e).1
  have hl2 : ∀ acc, lstAt (st0 ++ [O.lst acc]) l = some ds := fun acc => by
    unfold lstAt at hl ⊢
    rw [List.getElem?_append_left hlt]
    exact hl
  have := lc_at (st := st0 ++ [.lst []]) (cond := cond) (el := el) (tg := tg) (L := st0.length) (l := l) (enw := enw) (ds := ds) (fun i st' => st' = st0 ++ [.lst (((ds.take i).filter q).map f)]) (by simp) (fun i st' e => by subst e; exact hl2 _) (fun i d st' e hI => by
    subst hI
    obtain ⟨en1, e1, h1⟩ := h d (List.mem_of_getElem? e)
    have hi : i < ds.length := (List.getElem?_eq_some_iff.mp e).1
    obtain ⟨h2, h3⟩ := h1 (((ds.take i).filter q).map f)
    refine ⟨en1, e1, OkX.of_eq h2 ?_⟩
    have e2 : ds.take (i + 1) = ds.take i ++ [d] := by rw [List.take_add_one, e]; rfl
    by_cases hc : q d = true
    · rw [if_pos hc]
      refine OkX.of_eq (h3 hc) ⟨_, key _, ?_, ?_⟩
      · rw [List.length_map]
        have := List.length_filter_le q (ds.take i)
        rw [List.length_take] at this
        omega
      · rw [keyS, e2, List.filter_append, List.map_append]
        simp [hc]
    · rw [if_neg hc, e2, List.filter_append, List.map_append]
      simp [hc])
  refine Ok.imp this fun _ st' e => ?_
  rw [key2] at e
  exact e
def bBegun : SM :=
  sSeq (sSet 1 (eLc (iSeq (eVar 0)) (gN 2) (bOf (eOp oGe (eCB oAbs (aCons (eVar 2) (aNil))) (eOp oPow (eC (.int 10)) (eC (.int 18))))) (eCB oAbs (aCons (eVar 2) (aNil))) [2])) (sRet (eDic [(eC (.str "great"), eVar 1), (eC (.str "rest"), eC (.int 0)), (eC (.str "cells"), eCB oList (aCons (eVar 0) (aNil))), (eC (.str "turn"), eC (.int 0)), (eC (.str "more"), eOp oAdd (eC (.int 1)) (eCB oLen (aCons (eVar 0) (aNil))))]))
theorem begun_ok {ns : List Int} (hn : ns.length ≤ 63) : Ok (runDef 3 bBegun [.loc 0] [.rol (ns.map D.int)]) fun d st' => d = .loc 2 ∧ Dr 2 1 3 st' := by
  unfold Ok
  rw [k_run, st_3_1]
  unfold bBegun
  refine cut_seq (fun en' st' => en' = [some (.loc 0), some (.loc 1), none] ∧ ∃ gs : List Int, st' = [.rol (ns.map D.int), .lst (gs.map D.int)]) ?_ (fun en1 st1 hI => ?_)
  · walk_at "go"
    have hl : lstAt [.rol (ns.map D.int)] 0 = some (ns.map D.int) := rol_at rfl
    rw [hl]
    dsimp only
    refine Ok.imp (lc_pureAt (fun d => match d with | .int i => .int (if i < 0 then -i else i) | d => d) (fun d => match d with | .int i => decide ((10 : Int) ^ 18 ≤ (if i < 0 then -i else i)) | _ => false) ?_ hl ?_) (fun _ st' e => ?_)
    · rw [List.length_map]
      exact szl (by omega)
    · intro d hd
      obtain ⟨i, _, rfl⟩ := List.mem_map.mp hd
      exact ⟨_, rfl, fun acc => ⟨rfl, fun _ => rfl⟩⟩
    · subst e
      refine ⟨trivial, ((ns.filter fun i => decide ((10 : Int) ^ 18 ≤ (if i < 0 then -i else i))).map fun i => if i < 0 then -i else i), ?_⟩
      rw [List.filter_map, List.map_map, List.map_map]
      rfl
  · obtain ⟨rfl, gs, rfl⟩ := hI
    walk_at "go"
    have hl : oList [.loc 0] ([O.rol (ns.map D.int), O.lst (gs.map D.int)] ++ [O.dic []]) = some (.loc 3, [.rol (ns.map D.int), .lst (gs.map D.int), .dic [], .lst (ns.map D.int)]) := rfl
    rw [hl]
    walk_at "go"
    rw [len_rol (st := [.rol (ns.map D.int), .lst (gs.map D.int), .dic [], .lst (ns.map D.int)]) (l := 0) rfl]
    walk_at "go"
    rw [add_i]
    refine ⟨stK 1 3 0 0 (1 + ((ns.map D.int).length : Int)), rfl, rfl, by show 5 ≤ 15; omega, trivial, ?_⟩
    rw [mg_stK]
    rw [List.length_map]
    exact ⟨by decide, by decide, by decide, 0, 0, _, gs, ns, rfl, rfl, rfl, by omega, by omega⟩
def bPick (tk : Fn) : SM :=
  sRet (eOp oIx (eVar 1) (eCall 2 tk (aCons (eVar 0) (aCons (eCB oLen (aCons (eVar 1) (aNil))) (aNil)))))
theorem lift_len {st : Sto} {l : Nat} {o : O} (h : st[l]? = some o) : l < st.length := (List.getElem?_eq_some_iff.mp h).1
theorem pick_lst {s g c l : Nat} {st : Sto} {ds : List D} (hD : Dr s g c st) (hl : st[l]? = some (.lst ds)) (n1 : l ≠ s) (n2 : l ≠ g) (h0 : 0 < ds.length) (h1 : ds.length ≤ 1000000) :
    Ok (runDef 2 (bPick (runDef 5 bTake)) [.loc s, .loc l] st) fun d st' => d ∈ ds ∧ Dr s g c st' ∧ Gr s g st st' := by
  unfold Ok
  rw [k_run, st_2_2]
  unfold bPick
  walk_at "go"
  rw [len_lst hl]
  walk_at "go"
  refine Ok.imp (take_ok hD (many := (ds.length : Int)) (by omega) (by omega)) fun d st' ⟨⟨v, e, h2, h3⟩, hD', hG⟩ => ?_
  subst e
  have hv : v.toNat < ds.length := by omega
  rw [ix_lst (d := ds[v.toNat]) (lst_at (hG.keep l _ n1 n2 hl)) (by rw [at_nat h2 h3]; exact List.getElem?_eq_getElem hv)]
  exact ⟨List.getElem_mem hv, hD', hG⟩
theorem pick_tup {s g c : Nat} {st : Sto} {ds : List D} (hD : Dr s g c st) (h0 : 0 < ds.length) (h1 : ds.length ≤ 1000000) :
    Ok (runDef 2 (bPick (runDef 5 bTake)) [.loc s, .tup ds] st) fun d st' => d ∈ ds ∧ Dr s g c st' ∧ Gr s g st st' := by
  unfold Ok
  rw [k_run, st_2_2]
  unfold bPick
  walk_at "go"
  rw [len_tup]
  walk_at "go"
  refine Ok.imp (take_ok hD (many := (ds.length : Int)) (by omega) (by omega)) fun d st' ⟨⟨v, e, h2, h3⟩, hD', hG⟩ => ?_
  subst e
  have hv : v.toNat < ds.length := by omega
  rw [ix_tup (d := ds[v.toNat]) (by rw [at_nat h2 h3]; exact List.getElem?_eq_getElem hv)]
  exact ⟨List.getElem_mem hv, hD', hG⟩
def oneS (c : Nat) : Str := ⟨#[c]⟩
theorem ix_str {z : Str} {st : Sto} {i : Int} {c : Nat} (hz : z.length ≤ sizeLine) (e : atI z.cps.toList i = some c) : oIx (.str z) (.int i) st = some (.str (oneS c), st) := by
  have h3 : ixD (.str z) (.int i) st = some (.str (oneS c)) := by
    unfold ixD
    dsimp only
    rw [if_pos hz, e]
    rfl
  unfold oIx
  rw [h3]
theorem pick_str {s g c : Nat} {st : Sto} {z : Str} (hD : Dr s g c st) (h0 : 0 < z.length) (h1 : z.length ≤ 1000) :
    Ok (runDef 2 (bPick (runDef 5 bTake)) [.loc s, .str z] st) fun d st' => (∃ x, d = .str (oneS x) ∧ x ∈ z.cps.toList) ∧ Dr s g c st' ∧ Gr s g st st' := by
  unfold Ok
  rw [k_run, st_2_2]
  unfold bPick
  walk_at "go"
  rw [len_txt (sz (by omega))]
  walk_at "go"
  refine Ok.imp (take_ok hD (many := (z.length : Int)) (by omega) (by omega)) fun d st' ⟨⟨v, e, h2, h3⟩, hD', hG⟩ => ?_
  subst e
  have hlen : z.cps.toList.length = z.length := Array.length_toList ..
  have hv : v.toNat < z.cps.toList.length := by omega
  rw [ix_str (c := z.cps.toList[v.toNat]) (sz (by omega)) (by rw [at_nat h2 (by omega)]; exact List.getElem?_eq_getElem hv)]
  exact ⟨⟨_, rfl, List.getElem_mem hv⟩, hD', hG⟩
/-! ### texts -/
theorem eq_nilS {st : Sto} {l k : Nat} {ns : List Str} (ha : ∀ z ∈ ns, PyData.strOk z = true) (h : lstAt st l = some (ns.map D.str)) (h2 : lstAt st k = some []) : eqDat (.loc l) (.loc k) st = some ns.isEmpty := by
  have e1 : toPy st 2 (.loc l) = some (.list (ns.map PyData.str)) := py_loc h fun res => pyL_strs res ns
  have e2 : toPy st 2 (.loc k) = some (.list (([] : List Str).map PyData.str)) := py_loc (ds := ([] : List Str).map D.str) h2 fun res => pyL_strs res []
  unfold eqDat deepEq
  dsimp only
  rw [e1, e2]
  dsimp only
  rw [sh_strs _ ha, sh_strs _ (fun _ h => by cases h), Bool.and_self, if_pos rfl]
  show some (PyData.eqv (.list (ns.map PyData.str)) (.list [])) = _
  rw [eq_nil]
  cases ns <;> rfl
theorem in_strs {st : Sto} {l : Nat} {ws : List Str} {z : Str} (h : lstAt st l = some (ws.map D.str)) : isIn (.str z) (.loc l) st = some (decide (z ∈ ws)) := by
  unfold isIn
  dsimp only
  rw [h]
  dsimp only
  rw [if_pos, inC_str]
  rw [Bool.and_eq_true]
  refine ⟨rfl, List.all_eq_true.mpr fun d hd => ?_⟩
  obtain ⟨w, _, rfl⟩ := List.mem_map.mp hd
  rfl
theorem add_s {a b : Str} {st : Sto} (h : a.length + b.length ≤ 100000) : oAdd (.str a) (.str b) st = some (.str (a ++ b), st) := by
  unfold oAdd
  dsimp only
  exact if_pos (sz h)
theorem len_app (a b : Str) : (a ++ b).length = a.length + b.length := by
  show (a.cps ++ b.cps).size = _
  exact Array.size_append
theorem len_one (c : Nat) : (oneS c).length = 1 := rfl
theorem len_toL (z : Str) : z.cps.toList.length = z.length := Array.length_toList ..
theorem cut_le (z : Str) (lo hi : Option Int) : (cutS z lo hi).length ≤ z.length := by
  unfold cutS
  show (List.toArray _).size ≤ _
  rw [List.size_toArray, List.length_take, List.length_drop]
  have := len_toL z
  omega
theorem sl_txt {z : Str} {lo hi : Option Int} {st : Sto} (h : z.length ≤ 100000) : slD (.str z) lo hi st = some (.str (cutS z lo hi), st) := if_pos (sz h)
theorem asc_app {a b : Str} (h : ascS a) (h' : ascS b) : ascS (a ++ b) := by
  intro c hc
  have e : (a ++ b).cps.toList = a.cps.toList ++ b.cps.toList := Array.toList_append ..
  rw [e, List.mem_append] at hc
  rcases hc with hc | hc
  · exact h c hc
  · exact h' c hc
theorem asc_cut {z : Str} {lo hi : Option Int} (h : ascS z) : ascS (cutS z lo hi) := by
  intro c hc
  unfold cutS at hc
  rw [List.toList_toArray] at hc
  exact h c (List.mem_of_mem_drop (List.mem_of_mem_take hc))
theorem asc_one {c : Nat} (h : c < 128) : ascS (oneS c) := by
  intro x hx
  have : x = c := by simpa [oneS] using hx
  omega
theorem asc_up {z : Str} (h : ascS z) : ascS (Txt.upper z) ∧ (Txt.upper z).length = z.length := by
  rw [PyProof.Rows.upper_ascii (x := z) h]
  refine ⟨fun c hc => ?_, Array.size_map ..⟩
  rw [Array.toList_map] at hc
  obtain ⟨x, hx, rfl⟩ := List.mem_map.mp hc
  have := h x hx
  unfold PyProof.Rows.up1
  split <;> omega
/-- a text of the program as ascS -/
theorem asc_of {z : Str} (h : z.cps.toList.all (fun c => decide (c < 128)) = true) : ascS z := fun c hc => of_decide_eq_true (List.all_eq_true.mp h c hc)
theorem Dr.setO {s g c l : Nat} {st : Sto} {o : O} (h : Dr s g c st) (n1 : l ≠ s) (n2 : l ≠ g) (n3 : l ≠ c) : Dr s g c (st.set l o) := by
  obtain ⟨h1, h2, h3, r, t', m, gs, cs, e1, e2, e3, e4⟩ := h
  exact ⟨h1, h2, h3, r, t', m, gs, cs, by rw [List.getElem?_set_ne n1]; exact e1, by rw [List.getElem?_set_ne n2]; exact e2, by rw [List.getElem?_set_ne n3]; exact e3, e4⟩
theorem Dr.ltc {s g c : Nat} {st : Sto} (h : Dr s g c st) : c < st.length := by
  obtain ⟨h1, h2, h3, r, t', m, gs, cs, e1, e2, e3, e4⟩ := h
  exact (List.getElem?_eq_some_iff.mp e3).1
theorem Gr.setN {s g l : Nat} {st st1 : Sto} {o : O} (h : Gr s g st st1) (n : st.length ≤ l) : Gr s g st (st1.set l o) :=
  ⟨by rw [List.length_set]; exact h.len, fun i u h1 h2 e => by
    have : i < st.length := (List.getElem?_eq_some_iff.mp e).1
    rw [List.getElem?_set_ne (by omega)]
    exact h.keep i u h1 h2 e⟩
theorem join_len : ∀ ws : List Str, (Txt.join "" ws).length = (ws.map (·.length)).sum := by
  intro ws
  rw [TL.join_eq]
  induction ws with
  | nil => rfl
  | cons w r ih =>
    cases r with
    | nil => show w.length = _; simp
    | cons x r =>
      show (w ++ ("" : Str) ++ Str.join "" (x :: r)).length = _
      rw [len_app, len_app, ih]
      show w.length + 0 + _ = _
      simp
theorem join_asc {ws : List Str} (h : ∀ w ∈ ws, ascS w) : ascS (Txt.join "" ws) := by
  rw [TL.join_eq]
  induction ws with
  | nil => exact fun c hc => by cases hc
  | cons w r ih =>
    cases r with
    | nil => exact h w List.mem_cons_self
    | cons x r =>
      show ascS (w ++ ("" : Str) ++ Str.join "" (x :: r))
      exact asc_app (asc_app (h w List.mem_cons_self) fun c hc => by cases hc) (ih fun z hz => h z (List.mem_cons_of_mem _ hz))
theorem join_ok {l : Nat} {st : Sto} {ws : List Str} (h : st[l]? = some (.lst (ws.map D.str))) (hz : (ws.map (·.length)).sum ≤ 100000) : oJoin (.str "") [.loc l] st = some (.str (Txt.join "" ws), st) := by
  unfold oJoin
  dsimp only
  rw [show itemsD (.loc l) st = some (ws.map D.str) from lst_at h]
  dsimp only
  rw [asStrs_map]
  dsimp only
  rw [if_pos (by show _ + _ * 0 ≤ _; omega)]
end Sh

set_option maxHeartbeats 1000000
/-! ShN: names, numbers and terms as the laws draw them. -/
namespace Sh
open PySem PySem.Spec PyProof.Rows L2
theorem k_gix {P : D → Sto → Prop} {E : Str → Sto → Prop} {st : Sto} {en : Ev} (kvs : List (Str × Str)) (a : EM) : OkX (eGIx kvs a en st) P E = OkX (a en st) (fun d st1 => match d with
    | .str z => (match lookS kvs z with | some r => P (.str r) st1 | none => False)
    | _ => False) E := by
  unfold eGIx
  rw [k_bnd]
  congr 1
  funext d st1
  cases d with
  | str z => dsimp only; cases lookS kvs z <;> rfl
  | _ => rfl
local macro_rules | `(tactic| walk_at "go") => `(tactic| simp only [k_bnd, k_ret, k_ok, k_bad, k_badM, k_exc, k_lft, k_ite, k_ite', o_some, o_none, o_ite, v_some, k_var, k_c, k_op, k_call, k_call0, k_cb, k_nil, k_cons, k_tup, k_lst, k_bOf, k_bAnd, k_bOr, k_bNot, k_and, k_or, k_not, k_if, k_chain, k_inC, k_neg, k_bm, k_get2, k_pnone, k_psome, k_sl, k_pnil, k_pcons, k_dic, k_gix, k_seq, k_nx, k_rt, k_sbad, k_snil, k_spass, k_set, k_sret, k_sretN, k_sexp, k_sif, k_asg, k_par2, k_par3, k_aug, k_put, k_seqI, k_range1, k_forI, k_lc, List.getElem?_cons_zero, List.getElem?_cons_succ, List.set_cons_zero, List.set_cons_succ, List.length_cons, List.length_nil, if_true, if_false, Bool.not_true, Bool.not_false, Bool.false_eq_true, ite_true, ite_false, reduceIte, Nat.reduceAdd, Nat.zero_add])
def g_law_kept : SM :=
  sRet (eLst (aCons (eC (.str "width")) (aCons (eC (.str "input")) (aCons (eC (.str "set")) (aCons (eC (.str "tell")) (aCons (eC (.str "if")) (aCons (eC (.str "else")) (aCons (eC (.str "while")) (aCons (eC (.str "turns")) (aCons (eC (.str "below")) (aCons (eC (.str "same")) (aCons (eC (.str "unlike")) (aCons (eC (.str "end")) (aNil))))))))))))))
def g_law_name (f_law_take f_law_pick f_law_kept : Fn) (NW : Nat) : SM :=
  sSeq (sSet 1 (eC (.str "abcdefghijklmnopqrstuvwxyz"))) (sSeq (sSet 2 (eOp oAdd (eC (.int 1)) (eCall 2 f_law_take (aCons (eVar 0) (aCons (eC (.int 6)) (aNil)))))) (sSeq (sSet 3 (eCall 2 f_law_pick (aCons (eVar 0) (aCons (eVar 1) (aNil))))) (sSeq (sWhile (bOf (eOp oLt (eCB oLen (aCons (eVar 3) (aNil))) (eVar 2))) (sSet 3 (eOp oAdd (eVar 3) (eCall 2 f_law_pick (aCons (eVar 0) (aCons (eOp oAdd (eVar 1) (eC (.str "0123456789"))) (aNil)))))) NW) (sRet (eIf (bOf (eOp oNotIn (eVar 3) (eCall0 f_law_kept))) (eVar 3) (eOp oAdd (eSl (eVar 3) none (some (eNeg (eC (.int 1))))) (eC (.str "0"))))))))
def g_law_names (f_law_take f_law_name f_law_pick f_law_kept : Fn) (NW : Nat) : SM :=
  sSeq (sSet 2 (eLst (aNil))) (sSeq (sWhile (bOf (eOp oLt (eCB oLen (aCons (eVar 2) (aNil))) (eVar 1))) (sSeq (sSet 3 (eAnd (eOp oEq (eCall 2 f_law_take (aCons (eVar 0) (aCons (eC (.int 3)) (aNil)))) (eC (.int 0))) (eOp oNe (eVar 2) (eLst (aNil))))) (sSeq (sSet 4 (eCall 1 f_law_name (aCons (eVar 0) (aNil)))) (sSeq (sIf (bOf (eVar 3)) (sSet 4 (eOp oAdd (eSl (eCall 2 f_law_pick (aCons (eVar 0) (aCons (eVar 2) (aNil)))) none (some (eC (.int 5)))) (eCall 2 f_law_pick (aCons (eVar 0) (aCons (eC (.str "abcxyz019")) (aNil)))))) (sNil)) (sSeq (sSet 5 (eCB oLen (aCons (eVar 2) (aNil)))) (sSeq (sWhile (bOr (bOf (eOp oIn (eVar 4) (eVar 2))) (bOf (eOp oIn (eVar 4) (eCall0 f_law_kept)))) (sSeq (sSet 4 (eOp oAdd (eC (.str "z")) (eCB oStrI (aCons (eVar 5) (aNil))))) (sSet 5 (eOp oAdd (eVar 5) (eC (.int 1))))) NW) (sExp (eBM "list" oAppend (eVar 2) (aCons (eVar 4) (aNil))))))))) NW) (sRet (eVar 2)))
def g_law_size : SM :=
  sSeq (sSet 1 (eC (.int 1))) (sSeq (sForI (iRange1 (aCons (eVar 0) (aNil))) (gN 2) (sSet 1 (eOp oMul (eVar 1) (eC (.int 2))))) (sRet (eVar 1)))
def g_law_width (f_law_take : Fn) : SM :=
  sRet (eOp oIx (eLst (aCons (eC (.int 1)) (aCons (eC (.int 2)) (aCons (eC (.int 3)) (aCons (eC (.int 8)) (aCons (eC (.int 24)) (aCons (eOp oAdd (eC (.int 1)) (eCall 2 f_law_take (aCons (eVar 0) (aCons (eC (.int 24)) (aNil))))) (aNil)))))))) (eCall 2 f_law_take (aCons (eVar 0) (aCons (eC (.int 6)) (aNil)))))
def g_law_number (f_law_size f_law_take : Fn) : SM :=
  sSeq (sSet 2 (eCall 1 f_law_size (aCons (eVar 1) (aNil)))) (sRet (eOp oIx (eLst (aCons (eC (.int 0)) (aCons (eC (.int 1)) (aCons (eOp oSub (eVar 2) (eC (.int 1))) (aCons (eOp oDiv (eVar 2) (eC (.int 2))) (aCons (eCall 2 f_law_take (aCons (eVar 0) (aCons (eVar 2) (aNil)))) (aNil))))))) (eCall 2 f_law_take (aCons (eVar 0) (aCons (eC (.int 5)) (aNil))))))
def g_law_leaf (f_law_take f_law_number f_law_pick : Fn) : SM :=
  sSeq (sIf (bOf (eOp oEq (eCall 2 f_law_take (aCons (eVar 0) (aCons (eC (.int 3)) (aNil)))) (eC (.int 0)))) (sRet (eTup (aCons (eC (.str "number")) (aCons (eCall 2 f_law_number (aCons (eVar 0) (aCons (eVar 1) (aNil)))) (aNil))))) (sNil)) (sRet (eTup (aCons (eC (.str "at")) (aCons (eCall 2 f_law_pick (aCons (eVar 0) (aCons (eVar 2) (aNil)))) (aNil)))))
def g_law_term (f_law_take f_law_leaf f_law_pick f_law_term : Fn) : SM :=
  sSeq (sIf (bOr (bOf (eOp oEq (eVar 3) (eC (.int 0)))) (bOf (eOp oEq (eCall 2 f_law_take (aCons (eVar 0) (aCons (eC (.int 4)) (aNil)))) (eC (.int 0))))) (sRet (eCall 3 f_law_leaf (aCons (eVar 0) (aCons (eVar 1) (aCons (eVar 2) (aNil)))))) (sNil)) (sSeq (sSet 4 (eCall 2 f_law_pick (aCons (eVar 0) (aCons (eLst (aCons (eC (.str "sum")) (aCons (eC (.str "less")) (aCons (eC (.str "times")) (aNil))))) (aNil))))) (sRet (eTup (aCons (eVar 4) (aCons (eCall 4 f_law_term (aCons (eVar 0) (aCons (eVar 1) (aCons (eVar 2) (aCons (eOp oSub (eVar 3) (eC (.int 1))) (aNil)))))) (aCons (eCall 4 f_law_term (aCons (eVar 0) (aCons (eVar 1) (aCons (eVar 2) (aCons (eOp oSub (eVar 3) (eC (.int 1))) (aNil)))))) (aNil)))))))
def g_law_tall (f_law_leaf f_law_pick f_law_take : Fn) : SM :=
  sSeq (sSet 4 (eCall 3 f_law_leaf (aCons (eVar 0) (aCons (eVar 1) (aCons (eVar 2) (aNil)))))) (sSeq (sForI (iRange1 (aCons (eOp oSub (eVar 3) (eC (.int 1))) (aNil))) (gN 5) (sSeq (sPar2 6 7 (aCons (eCall 2 f_law_pick (aCons (eVar 0) (aCons (eLst (aCons (eC (.str "sum")) (aCons (eC (.str "less")) (aCons (eC (.str "times")) (aNil))))) (aNil)))) (aCons (eCall 2 f_law_take (aCons (eVar 0) (aCons (eC (.int 2)) (aNil)))) (aNil)))) (sSeq (sSet 8 (eCall 3 f_law_leaf (aCons (eVar 0) (aCons (eVar 1) (aCons (eVar 2) (aNil)))))) (sSet 4 (eIf (bOf (eOp oEq (eVar 7) (eC (.int 0)))) (eTup (aCons (eVar 6) (aCons (eVar 4) (aCons (eVar 8) (aNil))))) (eTup (aCons (eVar 6) (aCons (eVar 8) (aCons (eVar 4) (aNil)))))))))) (sRet (eVar 4)))
def g_law_wide (f_law_leaf f_law_pick f_law_wide : Fn) : SM :=
  sSeq (sIf (bOf (eOp oEq (eVar 3) (eC (.int 1)))) (sRet (eCall 3 f_law_leaf (aCons (eVar 0) (aCons (eVar 1) (aCons (eVar 2) (aNil)))))) (sNil)) (sSeq (sPar2 4 5 (aCons (eCall 2 f_law_pick (aCons (eVar 0) (aCons (eLst (aCons (eC (.str "sum")) (aCons (eC (.str "less")) (aCons (eC (.str "times")) (aNil))))) (aNil)))) (aCons (eOp oDiv (eVar 3) (eC (.int 2))) (aNil)))) (sRet (eTup (aCons (eVar 4) (aCons (eCall 4 f_law_wide (aCons (eVar 0) (aCons (eVar 1) (aCons (eVar 2) (aCons (eVar 5) (aNil)))))) (aCons (eCall 4 f_law_wide (aCons (eVar 0) (aCons (eVar 1) (aCons (eVar 2) (aCons (eOp oSub (eVar 3) (eVar 5)) (aNil)))))) (aNil)))))))
def g_law_any (f_law_take f_law_term f_law_wide f_law_tall : Fn) : SM :=
  sSeq (sSet 3 (eCall 2 f_law_take (aCons (eVar 0) (aCons (eC (.int 10)) (aNil))))) (sSeq (sIf (bOf (eOp oLt (eVar 3) (eC (.int 6)))) (sRet (eCall 4 f_law_term (aCons (eVar 0) (aCons (eVar 1) (aCons (eVar 2) (aCons (eOp oAdd (eC (.int 1)) (eCall 2 f_law_take (aCons (eVar 0) (aCons (eC (.int 5)) (aNil))))) (aNil))))))) (sNil)) (sSeq (sIf (bOf (eOp oEq (eVar 3) (eC (.int 6)))) (sRet (eCall 4 f_law_wide (aCons (eVar 0) (aCons (eVar 1) (aCons (eVar 2) (aCons (eC (.int 200)) (aNil))))))) (sNil)) (sRet (eCall 4 f_law_tall (aCons (eVar 0) (aCons (eVar 1) (aCons (eVar 2) (aCons (eOp oIx (eLst (aCons (eC (.int 2)) (aCons (eC (.int 30)) (aCons (eC (.int 59)) (aCons (eC (.int 60)) (aNil)))))) (eCall 2 f_law_take (aCons (eVar 0) (aCons (eC (.int 4)) (aNil))))) (aNil)))))))))
/-! ### what is drawn, whatever it is drawn by -/
structure Draws (s g c : Nat) (I : Sto → Prop) (take pick : Fn) : Prop where
  app : ∀ {st t : Sto}, I st → I (st ++ t)
  setO : ∀ {st : Sto} {l : Nat} {o : O}, I st → l ≠ s → l ≠ g → l ≠ c → I (st.set l o)
  lt : ∀ {st : Sto}, I st → s < st.length ∧ g < st.length ∧ c < st.length
  take : ∀ {st : Sto} {many : Int}, I st → 0 < many → many < 1073741824 → Ok (take [.loc s, .int many] st) fun d st' => (∃ v : Int, d = .int v ∧ 0 ≤ v ∧ v < many) ∧ I st' ∧ Gr s g st st'
  pickL : ∀ {st : Sto} {l : Nat} {ds : List D}, I st → st[l]? = some (.lst ds) → l ≠ s → l ≠ g → 0 < ds.length → ds.length ≤ 1000000 → Ok (pick [.loc s, .loc l] st) fun d st' => d ∈ ds ∧ I st' ∧ Gr s g st st'
  pickT : ∀ {st : Sto} {ds : List D}, I st → 0 < ds.length → ds.length ≤ 1000000 → Ok (pick [.loc s, .tup ds] st) fun d st' => d ∈ ds ∧ I st' ∧ Gr s g st st'
  pickS : ∀ {st : Sto} {z : Str}, I st → 0 < z.length → z.length ≤ 1000 → Ok (pick [.loc s, .str z] st) fun d st' => (∃ x, d = .str (oneS x) ∧ x ∈ z.cps.toList) ∧ I st' ∧ Gr s g st st'
theorem draws_dr {s g c : Nat} : Draws s g c (Dr s g c) (runDef 5 bTake) (runDef 2 (bPick (runDef 5 bTake))) :=
  ⟨Dr.app, Dr.setO, fun h => ⟨h.lt.1, h.lt.2, h.ltc⟩, take_ok, pick_lst, pick_tup, pick_str⟩
/-! ### names -/
abbrev lettersT : Str := "abcdefghijklmnopqrstuvwxyz"
abbrev figuresT : Str := "0123456789"
abbrev keptT : List Str := ["width", "input", "set", "tell", "if", "else", "while", "turns", "below", "same", "unlike", "end"]
def nmB (w : Str) : Bool := match w.cps.toList with
  | [] => false
  | c :: r => decide (c ∈ lettersT.cps.toList) && r.all (fun x => decide (x ∈ (lettersT ++ figuresT).cps.toList)) && decide (w.length ≤ 6)
def Name (w : Str) : Prop := nmB w = true ∧ ¬ w ∈ keptT
theorem nmB_mk {w : Str} {c : Nat} {r : List Nat} (e : w.cps.toList = c :: r) (h1 : c ∈ lettersT.cps.toList) (h2 : ∀ x ∈ r, x ∈ (lettersT ++ figuresT).cps.toList) (h3 : w.length ≤ 6) : nmB w = true := by
  unfold nmB
  rw [e]
  dsimp only
  rw [decide_eq_true h1, decide_eq_true h3, Bool.and_true, Bool.true_and]
  exact List.all_eq_true.mpr fun x hx => decide_eq_true (h2 x hx)
theorem nmB_out {w : Str} (h : nmB w = true) : ∃ c r, w.cps.toList = c :: r ∧ c ∈ lettersT.cps.toList ∧ (∀ x ∈ r, x ∈ (lettersT ++ figuresT).cps.toList) ∧ w.length ≤ 6 := by
  unfold nmB at h
  cases e : w.cps.toList with
  | nil => rw [e] at h; cases h
  | cons c r =>
    rw [e] at h
    dsimp only at h
    rw [Bool.and_eq_true, Bool.and_eq_true, decide_eq_true_eq, decide_eq_true_eq] at h
    exact ⟨c, r, rfl, h.1.1, fun x hx => of_decide_eq_true (List.all_eq_true.mp h.1.2 x hx), h.2⟩
theorem letters_lf : ∀ c ∈ lettersT.cps.toList, c ∈ (lettersT ++ figuresT).cps.toList := by decide +kernel
theorem asc_lf : ascS (lettersT ++ figuresT) := asc_of (by decide +kernel)
theorem toL_app (a b : Str) : (a ++ b).cps.toList = a.cps.toList ++ b.cps.toList := Array.toList_append ..
theorem nmB_asc {w : Str} (h : nmB w = true) : ascS w ∧ 1 ≤ w.length ∧ w.length ≤ 6 := by
  obtain ⟨c, r, e, h1, h2, h3⟩ := nmB_out h
  refine ⟨fun x hx => ?_, ?_, h3⟩
  · rw [e] at hx
    rcases List.mem_cons.mp hx with rfl | hx
    · exact asc_lf x (letters_lf x h1)
    · exact asc_lf x (h2 x hx)
  · have := len_toL w
    rw [e, List.length_cons] at this
    omega
theorem nmB_app {w : Str} {x : Nat} (h : nmB w = true) (hx : x ∈ (lettersT ++ figuresT).cps.toList) (hl : w.length < 6) : nmB (w ++ oneS x) = true := by
  obtain ⟨c, r, e, h1, h2, h3⟩ := nmB_out h
  refine nmB_mk (c := c) (r := r ++ [x]) (by rw [toL_app, e]; rfl) h1 (fun y hy => ?_) (by rw [len_app, len_one]; omega)
  rcases List.mem_append.mp hy with hy | hy
  · exact h2 y hy
  · rw [List.mem_singleton.mp hy]; exact hx
theorem nmB_one {x : Nat} (hx : x ∈ lettersT.cps.toList) : nmB (oneS x) = true := nmB_mk (c := x) (r := []) rfl hx (fun _ h => by cases h) (by rw [len_one]; omega)
def KeptSp (f : Fn) : Prop := ∀ st : Sto, f [] st = .ok (.loc st.length) (st ++ [.lst (keptT.map D.str)])
theorem kept_sp : KeptSp (runDef 0 g_law_kept) := fun _ => rfl
theorem last_at {st : Sto} {b : O} : (st ++ [b])[st.length]? = some b := by
  rw [List.getElem?_append_right (Nat.le_refl _), Nat.sub_self]
  rfl
theorem in_kept {st : Sto} {w : Str} : isIn (.str w) (.loc st.length) (st ++ [.lst (keptT.map D.str)]) = some (decide (w ∈ keptT)) := in_strs (lst_at last_at)
theorem kept_put : ∀ w ∈ keptT, Name (cutS w none (some (-1)) ++ ("0" : Str)) := by
  have : (keptT.all fun w => nmB (cutS w none (some (-1)) ++ ("0" : Str)) && decide (¬ (cutS w none (some (-1)) ++ ("0" : Str)) ∈ keptT)) = true := by decide +kernel
  intro w hw
  have := List.all_eq_true.mp this w hw
  rw [Bool.and_eq_true, decide_eq_true_eq] at this
  exact this
section
variable {s g c : Nat} {I : Sto → Prop} {take pick kept : Fn} {st : Sto} {NW : Nat}
theorem name_sp (V : Draws s g c I take pick) (hk : KeptSp kept) (hNW : 100 ≤ NW) (hI : I st) : Ok (runDef 4 (g_law_name take pick kept NW) [.loc s] st) fun d st' => (∃ w, d = .str w ∧ Name w) ∧ I st' ∧ Gr s g st st' := by
  unfold Ok
  rw [k_run, st_4_1]
  unfold g_law_name
  refine cut_seq (fun en' st' => en' = [some (.loc s), some (.str lettersT), none, none] ∧ st' = st) ⟨rfl, rfl⟩ (fun en1 st1 hJ => ?_)
  obtain ⟨rfl, rfl⟩ := hJ
  refine cut_seq (fun en' st' => (∃ n : Int, en' = [some (.loc s), some (.str lettersT), some (.int n), none] ∧ 1 ≤ n ∧ n ≤ 6) ∧ I st' ∧ Gr s g st1 st') ?_ (fun en1 st2 hJ => ?_)
  · walk_at "go"
    refine Ok.imp (V.take hI (by omega) (by omega)) fun d s1 ⟨⟨v1, e1, h1, h2⟩, hD1, hG1⟩ => ?_
    subst e1
    rw [add_i]
    exact ⟨⟨_, rfl, by omega, by omega⟩, hD1, hG1⟩
  obtain ⟨⟨n, rfl, hn1, hn2⟩, hI2, hG2⟩ := hJ
  refine cut_seq (fun en' st' => (∃ w : Str, en' = [some (.loc s), some (.str lettersT), some (.int n), some (.str w)] ∧ nmB w = true ∧ w.length = 1) ∧ I st' ∧ Gr s g st1 st') ?_ (fun en1 st3 hJ => ?_)
  · walk_at "go"
    refine Ok.imp (V.pickS hI2 (by decide) (by decide)) fun d s1 ⟨⟨x, e1, h1⟩, hD1, hG1⟩ => ?_
    subst e1
    exact ⟨⟨_, rfl, nmB_one h1, rfl⟩, hD1, hG2.trans hG1⟩
  obtain ⟨⟨w, rfl, hw1, hw2⟩, hI3, hG3⟩ := hJ
  refine cut_seq (fun en' st' => (∃ w : Str, en' = [some (.loc s), some (.str lettersT), some (.int n), some (.str w)] ∧ nmB w = true) ∧ I st' ∧ Gr s g st1 st') ?_ (fun en1 st4 hJ => ?_)
  · refine while_m (fun m en' st' => (∃ w : Str, en' = [some (.loc s), some (.str lettersT), some (.int n), some (.str w)] ∧ nmB w = true ∧ w.length ≤ 6 ∧ m = 6 - w.length) ∧ I st' ∧ Gr s g st1 st') (m := 6 - w.length) (by omega) ⟨⟨w, rfl, hw1, by omega, rfl⟩, hI3, hG3⟩ ?_
    intro m en st hJ
    obtain ⟨⟨w, rfl, hw1, hw2, rfl⟩, hI4, hG4⟩ := hJ
    walk_at "go"
    rw [len_txt (sz (by omega))]
    walk_at "go"
    rw [lt_i]
    walk_at "go"
    by_cases hlt : (w.length : Int) < n
    · rw [if_pos (decide_eq_true hlt)]
      rw [add_s (by decide)]
      walk_at "go"
      refine Ok.imp (V.pickS hI4 (by decide) (by decide)) fun d s1 ⟨⟨x, e1, h1⟩, hD1, hG1⟩ => ?_
      subst e1
      rw [add_s (by rw [len_one]; omega)]
      have := len_app w (oneS x)
      rw [len_one] at this
      exact ⟨6 - (w ++ oneS x).length, by omega, ⟨_, rfl, nmB_app hw1 h1 (by omega), by omega, rfl⟩, hD1, hG4.trans hG1⟩
    · rw [if_neg (by rw [decide_eq_false hlt]; exact Bool.false_ne_true)]
      exact ⟨⟨w, rfl, hw1⟩, hI4, hG4⟩
  obtain ⟨⟨w, rfl, hw1⟩, hI4, hG4⟩ := hJ
  have hl := nmB_asc hw1
  walk_at "go"
  refine OkX.of_eq (hk st4) ?_
  rw [show oNotIn (.str w) (.loc st4.length) (st4 ++ [.lst (keptT.map D.str)]) = some (.bl (!decide (w ∈ keptT)), st4 ++ [.lst (keptT.map D.str)]) from by unfold oNotIn; rw [in_kept]]
  walk_at "go"
  by_cases hm : w ∈ keptT
  · rw [decide_eq_true hm]
    rw [if_neg (by decide)]
    rw [sl_txt (by omega)]
    walk_at "go"
    rw [add_s (by have := cut_le w none (some (-1)); have e : (Str.ofString "0").length = 1 := rfl; omega)]
    exact ⟨⟨_, rfl, kept_put w hm⟩, V.app hI4, hG4.trans Gr.app⟩
  · rw [decide_eq_false hm]
    rw [if_pos (by decide)]
    exact ⟨⟨w, rfl, hw1, hm⟩, V.app hI4, hG4.trans Gr.app⟩
end
/-! ### names, each once -/
def zN (n : Nat) : Str := ("z" : Str) ++ Str.ofString (toString (n : Int))
theorem zN_name : ∀ n : Nat, n < 24 → Name (zN n) := by
  have : ((List.range 24).all fun n => nmB (zN n) && decide (¬ zN n ∈ keptT)) = true := by decide +kernel
  intro n hn
  have := List.all_eq_true.mp this n (List.mem_range.mpr hn)
  rw [Bool.and_eq_true, decide_eq_true_eq] at this
  exact this
theorem zN_inj : ∀ n m : Nat, n < 24 → m < 24 → zN n = zN m → n = m := by
  have : ((List.range 24).all fun n => (List.range 24).all fun m => decide (zN n = zN m → n = m)) = true := by decide +kernel
  intro n m hn hm
  have := List.all_eq_true.mp this n (List.mem_range.mpr hn)
  exact of_decide_eq_true (List.all_eq_true.mp this m (List.mem_range.mpr hm))
theorem nd_le : ∀ {l m : List Str}, l.Nodup → (∀ x ∈ l, x ∈ m) → l.length ≤ m.length
  | [], _, _, _ => Nat.zero_le _
  | x :: l, m, h, hs => by
    obtain ⟨h1, h2⟩ := List.nodup_cons.mp h
    have hx := hs x List.mem_cons_self
    have := nd_le (l := l) (m := m.erase x) h2 fun y hy => (List.mem_erase_of_ne fun e => h1 (by rw [← e]; exact hy)).mpr (hs y (List.mem_cons_of_mem _ hy))
    rw [List.length_erase_of_mem hx] at this
    have := List.length_pos_of_mem hx
    rw [List.length_cons]
    omega
theorem zs_nd (k j : Nat) (h : k + j ≤ 24) : ((List.range j).map fun i => zN (k + i)).Nodup := by
  rw [List.nodup_iff_pairwise_ne, List.pairwise_map]
  refine List.Pairwise.imp_of_mem (fun {a b} ha hb hab e => hab ?_) (List.nodup_iff_pairwise_ne.mp List.nodup_range)
  have h1 := List.mem_range.mp ha
  have h2 := List.mem_range.mp hb
  have := zN_inj (k + a) (k + b) (by omega) (by omega) e
  omega
theorem cut5 {w : Str} (h : nmB w = true) : nmB (cutS w none (some 5)) = true ∧ (cutS w none (some 5)).length ≤ 5 := by
  obtain ⟨c, r, e, h1, h2, h3⟩ := nmB_out h
  have e5 : (cutS w none (some 5)).cps.toList = c :: r.take 4 := by
    have hl := len_toL w
    unfold cutS
    rw [List.toList_toArray, e]
    rw [e] at hl
    have h1 : HT.sIx w.length 0 none = 0 := rfl
    have h2 : HT.sIx w.length w.length (some 5) = min 5 w.length := HT.sIx_nat w.length w.length 5
    rw [h1, h2, List.drop_zero, Nat.sub_zero, ← hl]
    rcases Nat.lt_or_ge (c :: r).length 5 with h | h
    · rw [Nat.min_eq_right (Nat.le_of_lt h), List.take_length, List.take_of_length_le (by rw [List.length_cons] at h; omega)]
    · rw [Nat.min_eq_left h]
      rfl
  have hl : (cutS w none (some 5)).length = 1 + (r.take 4).length := by
    rw [← len_toL, e5, List.length_cons]; omega
  have : (r.take 4).length ≤ 4 := by rw [List.length_take]; omega
  exact ⟨nmB_mk e5 h1 (fun x hx => h2 x (List.mem_of_mem_take hx)) (by omega), by omega⟩
section
variable {s g c : Nat} {I : Sto → Prop} {take pick kept name : Fn} {st : Sto} {NW : Nat}
theorem Gr.setN' {s g l : Nat} {st st1 : Sto} {o : O} (h : Gr s g st st1) (n : st.length ≤ l) : Gr s g st (st1.set l o) := h.setN n
theorem names_sp (V : Draws s g c I take pick) (hk : KeptSp kept) (hname : ∀ st, I st → Ok (name [.loc s] st) fun d st' => (∃ w, d = .str w ∧ Name w) ∧ I st' ∧ Gr s g st st') (hNW : 100 ≤ NW) {many : Int} (h0 : 0 < many) (h1 : many ≤ 10) (hI : I st) :
    Ok (runDef 6 (g_law_names take name pick kept NW) [.loc s, .int many] st) fun d st' => ∃ (L : Nat) (ws : List Str), d = .loc L ∧ st'[L]? = some (.lst (ws.map D.str)) ∧ (ws.length : Int) = many ∧ (∀ w ∈ ws, Name w) ∧ ws.Nodup ∧ L ≠ s ∧ L ≠ g ∧ L ≠ c ∧ st.length ≤ L ∧ I st' ∧ Gr s g st st' := by
  unfold Ok
  rw [k_run, st_6_2]
  unfold g_law_names
  have hlt := V.lt hI
  refine cut_seq (fun en' st' => en' = [some (.loc s), some (.int many), some (.loc st.length), none, none, none] ∧ st' = st ++ [.lst []]) ?_ (fun en1 st1 hJ => ?_)
  · walk_at "go"
    rw [if_pos (Nat.zero_le _)]
    exact ⟨trivial, trivial⟩
  obtain ⟨rfl, rfl⟩ := hJ
  refine cut_seq (fun en' st' => ∃ (ws : List Str) (x3 x4 x5 : Option D), en' = [some (.loc s), some (.int many), some (.loc st.length), x3, x4, x5] ∧ st'[st.length]? = some (.lst (ws.map D.str)) ∧ (ws.length : Int) = many ∧ (∀ w ∈ ws, Name w) ∧ ws.Nodup ∧ I st' ∧ Gr s g st st') ?_ (fun en1 st2 hJ => ?_)
  · refine while_m (fun m en' st' => ∃ (ws : List Str) (x3 x4 x5 : Option D), en' = [some (.loc s), some (.int many), some (.loc st.length), x3, x4, x5] ∧ st'[st.length]? = some (.lst (ws.map D.str)) ∧ (ws.length : Int) ≤ many ∧ (∀ w ∈ ws, Name w) ∧ ws.Nodup ∧ I st' ∧ Gr s g st st' ∧ m = 10 - ws.length) (m := 10) (by omega) ⟨[], _, _, _, rfl, last_at, by simp; omega, fun _ h => (by cases h), List.nodup_nil, V.app hI, Gr.app, rfl⟩ ?_
    intro m en st2 hJ
    obtain ⟨ws, x3, x4, x5, rfl, hL, hlen, hnm, hnd, hI2, hG2, rfl⟩ := hJ
    refine OkX.imp (P := fun b st' => b = decide ((ws.length : Int) < many) ∧ st' = st2) (E := NoE) ?_ (fun b st' hb => ?_) (fun _ _ z => z.elim)
    · walk_at "go"
      rw [len_lst hL]
      walk_at "go"
      rw [lt_i, List.length_map]
      exact ⟨rfl, rfl⟩
    obtain ⟨rfl, rfl⟩ := hb
    by_cases hlt2 : (ws.length : Int) < many
    · rw [if_pos (decide_eq_true hlt2)]
      have hgt := V.lt hI2
      have hsl : st.length < st'.length := (List.getElem?_eq_some_iff.mp hL).1
      refine cut_seq (fun en' st1 => (∃ b : Bool, en' = [some (.loc s), some (.int many), some (.loc st.length), some (.bl b), x4, x5] ∧ (b = true → 0 < ws.length)) ∧ st1[st.length]? = some (.lst (ws.map D.str)) ∧ I st1 ∧ Gr s g st st1) ?_ (fun en1 st1 hJ => ?_)
      · walk_at "go"
        refine Ok.imp (V.take hI2 (by omega) (by omega)) fun d s1 ⟨⟨v1, e1, h1, h2⟩, hD1, hG1⟩ => ?_
        subst e1
        have hL1 := hG1.keep _ _ (by omega) (by omega) hL
        rw [eq_i]
        walk_at "go"
        by_cases hv : v1 = 0
        · rw [if_pos (decide_eq_true hv), if_pos (Nat.zero_le _)]
          have hne : oNe (.loc st.length) (.loc s1.length) (s1 ++ [.lst []]) = some (.bl (!ws.isEmpty), s1 ++ [.lst []]) := by
            unfold oNe
            rw [eq_nilS (ns := ws) (fun z hz => asc_ok (nmB_asc (hnm z hz).1).1) (lst_at (app_get hL1)) (lst_at last_at)]
          rw [hne]
          refine ⟨⟨_, rfl, fun h => ?_⟩, app_get hL1, V.app hD1, (hG2.trans hG1).trans Gr.app⟩
          cases ws with
          | nil => cases h
          | cons _ _ => exact Nat.succ_pos _
        · rw [if_neg (by rw [decide_eq_false hv]; exact Bool.false_ne_true)]
          exact ⟨⟨_, rfl, fun h => (by cases h)⟩, hL1, hD1, hG2.trans hG1⟩
      obtain ⟨⟨b, rfl, hb⟩, hL1, hI3, hG3⟩ := hJ
      refine cut_seq (fun en' st1 => (∃ w : Str, en' = [some (.loc s), some (.int many), some (.loc st.length), some (.bl b), some (.str w), x5] ∧ Name w) ∧ st1[st.length]? = some (.lst (ws.map D.str)) ∧ I st1 ∧ Gr s g st st1) ?_ (fun en1 st2 hJ => ?_)
      · walk_at "go"
        refine Ok.imp (hname _ hI3) fun d s1 ⟨⟨w, e1, h1⟩, hD1, hG1⟩ => ?_
        subst e1
        exact ⟨⟨w, rfl, h1⟩, hG1.keep _ _ (by omega) (by omega) hL1, hD1, hG3.trans hG1⟩
      obtain ⟨⟨w, rfl, hw⟩, hL2, hI4, hG4⟩ := hJ
      refine cut_seq (fun en' st1 => (∃ w : Str, en' = [some (.loc s), some (.int many), some (.loc st.length), some (.bl b), some (.str w), x5] ∧ nmB w = true) ∧ st1[st.length]? = some (.lst (ws.map D.str)) ∧ I st1 ∧ Gr s g st st1) ?_ (fun en1 st3 hJ => ?_)
      · walk_at "go"
        cases b with
        | false => exact ⟨⟨w, rfl, hw.1⟩, hL2, hI4, hG4⟩
        | true =>
          rw [if_pos rfl]
          have hp := hb rfl
          refine Ok.imp (V.pickL hI4 hL2 (by omega) (by omega) (by rw [List.length_map]; exact hp) (by rw [List.length_map]; omega)) fun d s1 ⟨hd, hD1, hG1⟩ => ?_
          obtain ⟨u, hu, rfl⟩ := List.mem_map.mp hd
          have hun := (hnm u hu).1
          have hul := nmB_asc hun
          rw [sl_txt (by omega)]
          walk_at "go"
          refine Ok.imp (V.pickS hD1 (by decide) (by decide)) fun d s2 ⟨⟨x, e1, h1⟩, hD2, hG2⟩ => ?_
          subst e1
          have hc := cut_le u none (some 5)
          rw [add_s (by rw [len_one]; omega)]
          refine ⟨⟨_, rfl, ?_⟩, hG2.keep _ _ (by omega) (by omega) (hG1.keep _ _ (by omega) (by omega) hL2), hD2, (hG4.trans hG1).trans hG2⟩
          have hx : x ∈ (lettersT ++ figuresT).cps.toList := (by decide +kernel : ∀ x ∈ ("abcxyz019" : Str).cps.toList, x ∈ (lettersT ++ figuresT).cps.toList) x h1
          have h5 := cut5 hun
          exact nmB_app h5.1 hx (by omega)
      obtain ⟨⟨w, rfl, hw⟩, hL3, hI5, hG5⟩ := hJ
      refine cut_seq (fun en' st1 => en' = [some (.loc s), some (.int many), some (.loc st.length), some (.bl b), some (.str w), some (.int ws.length)] ∧ st1 = st3) ?_ (fun en1 st4 hJ => ?_)
      · walk_at "go"
        rw [len_lst hL3, List.length_map]
        exact ⟨rfl, rfl⟩
      obtain ⟨rfl, rfl⟩ := hJ
      refine cut_seq (fun en' st1 => (∃ (w : Str) (n : Int), en' = [some (.loc s), some (.int many), some (.loc st.length), some (.bl b), some (.str w), some (.int n)] ∧ Name w ∧ ¬ w ∈ ws) ∧ st1[st.length]? = some (.lst (ws.map D.str)) ∧ I st1 ∧ Gr s g st st1) ?_ (fun en1 st5 hJ => ?_)
      · refine while_m (fun m en' st1 => ∃ (w : Str) (j : Nat), en' = [some (.loc s), some (.int many), some (.loc st.length), some (.bl b), some (.str w), some (.int ((ws.length + j : Nat) : Int))] ∧ nmB w = true ∧ (j = 0 ∨ ∃ i, j = i + 1 ∧ w = zN (ws.length + i) ∧ ∀ k, k < i → zN (ws.length + k) ∈ ws) ∧ m = ws.length + 2 - j ∧ j ≤ ws.length + 1 ∧ st1[st.length]? = some (.lst (ws.map D.str)) ∧ I st1 ∧ Gr s g st st1) (m := ws.length + 2) (by omega) ⟨w, 0, rfl, hw, .inl rfl, rfl, by omega, hL3, hI5, hG5⟩ ?_
        intro m en st6 hJ
        obtain ⟨w, j, rfl, hw, hj, rfl, hjl, hL6, hI6, hG6⟩ := hJ
        refine OkX.imp (P := fun b st' => b = (decide (w ∈ ws) || decide (w ∈ keptT)) ∧ st'[st.length]? = some (.lst (ws.map D.str)) ∧ I st' ∧ Gr s g st st') (E := NoE) ?_ (fun b' st' hb => ?_) (fun _ _ z => z.elim)
        · walk_at "go"
          rw [show oIn (.str w) (.loc st.length) st6 = some (.bl (decide (w ∈ ws)), st6) from by unfold oIn; rw [in_strs (lst_at hL6)]]
          walk_at "go"
          by_cases hm : w ∈ ws
          · rw [if_pos (decide_eq_true hm), decide_eq_true hm]
            exact ⟨rfl, hL6, hI6, hG6⟩
          · rw [if_neg (by rw [decide_eq_false hm]; exact Bool.false_ne_true), decide_eq_false hm]
            refine OkX.of_eq (hk st6) ?_
            rw [show oIn (.str w) (.loc st6.length) (st6 ++ [.lst (keptT.map D.str)]) = some (.bl (decide (w ∈ keptT)), st6 ++ [.lst (keptT.map D.str)]) from by unfold oIn; rw [in_kept]]
            exact ⟨rfl, app_get hL6, V.app hI6, hG6.trans Gr.app⟩
        obtain ⟨rfl, hL7, hI7, hG7⟩ := hb
        by_cases hc : (decide (w ∈ ws) || decide (w ∈ keptT)) = true
        · rw [if_pos hc]
          have hj2 : j ≤ ws.length ∧ ∀ k, k < j → zN (ws.length + k) ∈ ws := by
            rcases hj with rfl | ⟨i, rfl, rfl, hi⟩
            · exact ⟨Nat.zero_le _, fun k h => by omega⟩
            · have hin : zN (ws.length + i) ∈ ws := by
                rcases Bool.or_eq_true_iff.mp hc with h | h
                · exact of_decide_eq_true h
                · exact absurd (of_decide_eq_true h) (zN_name (ws.length + i) (by omega)).2
              have hall : ∀ k, k < i + 1 → zN (ws.length + k) ∈ ws := fun k hk => by
                rcases Nat.lt_or_ge k i with h | h
                · exact hi k h
                · rw [show k = i by omega]; exact hin
              have := nd_le (zs_nd ws.length (i + 1) (by omega)) fun x hx => by
                obtain ⟨k, hk, rfl⟩ := List.mem_map.mp hx
                exact hall k (List.mem_range.mp hk)
              rw [List.length_map, List.length_range] at this
              exact ⟨this, hall⟩
          walk_at "go"
          have hsi : oStrI [.int ((ws.length + j : Nat) : Int)] st' = some (.str (Str.ofString (toString ((ws.length + j : Nat) : Int))), st') := by
            unfold oStrI
            dsimp only
            have hsm : (((ws.length + j : Nat) : Int)).natAbs.log2 < 1920 := by
              have h1 : (((ws.length + j : Nat) : Int)).natAbs < 2 ^ 1920 := by
                have : (((ws.length + j : Nat) : Int)).natAbs ≤ 24 := by omega
                have h3 : 24 < 2 ^ 1920 := by decide
                omega
              rcases Nat.eq_zero_or_pos (((ws.length + j : Nat) : Int)).natAbs with e | e
              · rw [e]; decide
              · exact (Nat.log2_lt (by omega)).mpr h1
            rw [if_pos hsm]
          rw [hsi]
          walk_at "go"
          have hz := zN_name (ws.length + j) (by omega)
          have hzl := nmB_asc hz.1
          have hzs : ∀ st', oAdd (.str (Str.ofString "z")) (.str (Str.ofString (toString ((ws.length + j : Nat) : Int)))) st' = some (.str (zN (ws.length + j)), st') := fun st' => add_s (by
            have := len_app ("z" : Str) (Str.ofString (toString ((ws.length + j : Nat) : Int)))
            have h2 : (zN (ws.length + j)).length ≤ 6 := hzl.2.2
            unfold zN at h2
            omega)
          rw [hzs]
          walk_at "go"
          rw [add_i]
          refine ⟨ws.length + 2 - (j + 1), by omega, zN (ws.length + j), j + 1, ?_, hz.1, .inr ⟨j, rfl, rfl, hj2.2⟩, rfl, by omega, hL7, hI7, hG7⟩
          rw [show (((ws.length + j : Nat) : Int) + 1) = ((ws.length + (j + 1) : Nat) : Int) from by omega]
        · rw [if_neg hc]
          rw [Bool.not_eq_true, Bool.or_eq_false_iff, decide_eq_false_iff_not, decide_eq_false_iff_not] at hc
          exact ⟨⟨w, _, rfl, ⟨hw, hc.2⟩, hc.1⟩, hL7, hI7, hG7⟩
      obtain ⟨⟨w, n, rfl, hw, hnin⟩, hL5, hI6, hG6⟩ := hJ
      walk_at "go"
      rw [if_pos (show isTyD "list" (.loc st.length) st5 = true from by unfold isTyD; dsimp only; rw [hL5]; rfl)]
      have hap : oAppend (.loc st.length) [.str w] st5 = some (.non, st5.set st.length (.lst ((ws ++ [w]).map D.str))) := by
        unfold oAppend
        dsimp only
        rw [hL5]
        dsimp only
        rw [if_pos (szl (by rw [List.length_map]; omega)), List.map_append]
        rfl
      rw [hap]
      refine ⟨10 - (ws ++ [w]).length, by rw [List.length_append, List.length_singleton]; omega, ws ++ [w], _, _, _, rfl, List.getElem?_set_self (List.getElem?_eq_some_iff.mp hL5).1, by rw [List.length_append, List.length_singleton]; omega, fun u hu => ?_, ?_, V.setO hI6 (by omega) (by omega) (by omega), hG6.setN (Nat.le_refl _), rfl⟩
      · rcases List.mem_append.mp hu with hu | hu
        · exact hnm u hu
        · rw [List.mem_singleton.mp hu]; exact hw
      · rw [List.nodup_append]
        refine ⟨hnd, by simp, fun a ha b hb e => ?_⟩
        rw [List.mem_singleton.mp hb] at e
        exact hnin (e ▸ ha)
    · rw [if_neg (by rw [decide_eq_false hlt2]; exact Bool.false_ne_true)]
      exact ⟨ws, x3, x4, x5, rfl, hL, by omega, hnm, hnd, hI2, hG2⟩
  obtain ⟨ws, x3, x4, x5, rfl, hL, hlen, hnm, hnd, hI2, hG2⟩ := hJ
  walk_at "go"
  exact ⟨st.length, ws, rfl, hL, hlen, hnm, hnd, by omega, by omega, by omega, Nat.le_refl _, hI2, hG2⟩
end
/-! ### sizes, numbers -/
def SizeSp (f : Fn) : Prop := ∀ (st : Sto) (y : Int) (w : Nat), y = (w : Int) → w ≤ 24 → Ok (f [.int y] st) fun d st' => d = .int (2 ^ w) ∧ st' = st
theorem pow24 {w : Nat} (h : w ≤ 24) : (2 : Int) ^ w ≤ 16777216 := by
  have h1 : (2 : Nat) ^ w ≤ 16777216 := Nat.le_trans (Nat.pow_le_pow_right (by omega) h) (by decide)
  have h2 : ((2 ^ w : Nat) : Int) = (2 : Int) ^ w := Int.natCast_pow 2 w
  omega
theorem pow_pos' (w : Nat) : 0 < (2 : Int) ^ w := Int.pow_pos (by omega)
def p2 : Nat → Int
  | 0 => 1
  | n + 1 => p2 n * 2
theorem p2_eq : ∀ n, p2 n = 2 ^ n
  | 0 => rfl
  | n + 1 => by
    unfold p2
    rw [p2_eq n, Int.pow_succ]
theorem size_loop {y : Int} {w : Nat} {st : Sto} (hy : y.toNat = w) {p : Po} (hp : ∀ en' st', ((∃ x2 : Option D, en' = [some (.int y), some (.int (p2 w)), x2]) ∧ st' = st) → p.nx en' st') : OkS (sFor (sSet 1 (eOp oMul (eVar 1) (eC (.int 2)))) (gN 2) (srcIts ((List.range y.toNat).map fun (k : Nat) => D.int (k : Int))) y.toNat 0 [some (.int y), some (.int 1), none] st) p := by
  have hl : ((List.range y.toNat).map fun (k : Nat) => D.int (k : Int)).length = y.toNat := by rw [List.length_map, List.length_range]
  have key := for_its (p := p) (b := sSet 1 (eOp oMul (eVar 1) (eC (.int 2)))) (tg := gN 2) (ds := (List.range y.toNat).map fun (k : Nat) => D.int (k : Int)) (st := st) (en := [some (.int y), some (.int 1), none]) (fun i en' st' => (∃ x2 : Option D, en' = [some (.int y), some (.int (p2 i)), x2]) ∧ st' = st) ⟨⟨none, rfl⟩, rfl⟩ (fun i d en st1 hd hI => by
    obtain ⟨⟨x2, rfl⟩, rfl⟩ := hI
    refine ⟨_, rfl, ?_⟩
    walk_at "go"
    rw [mul_r (i := p2 i) (j := 2) (by omega), show p2 i * 2 = p2 (i + 1) from rfl]
    exact ⟨⟨_, rfl⟩, by trivial⟩) (fun en st h => by rw [hl, hy] at h; exact hp _ _ h)
  rw [hl] at key
  exact key
theorem size_at {st : Sto} {y z : Int} {w : Nat} (hy : y.toNat = w) (hz : p2 w = z) (h0 : 0 ≤ y) (h1 : y ≤ 24) : Ok (runDef 3 g_law_size [.int y] st) fun d st' => d = .int z ∧ st' = st := by
  unfold Ok
  rw [k_run, st_3_1]
  unfold g_law_size
  refine cut_seq (fun en' st' => en' = [some (.int y), some (.int 1), none] ∧ st' = st) ?_ (fun en1 st1 hJ => ?_)
  · walk_at "go"
    exact ⟨by trivial, by trivial⟩
  obtain ⟨rfl, rfl⟩ := hJ
  walk_at "go"
  rw [if_pos (by omega)]
  refine size_loop hy fun en' st' ⟨⟨x2, e⟩, e2⟩ => ?_
  subst e; subst e2
  rw [hz]
  walk_at "go"
  exact ⟨trivial, trivial⟩
theorem size_sp : SizeSp (runDef 3 g_law_size) := by
  intro st y w hy hw
  have h1 : y.toNat = w := by omega
  have h4 := p2_eq w
  generalize (2 : Int) ^ w = z at h4 ⊢
  exact size_at h1 h4 (by omega) (by omega)
section
variable {s g c : Nat} {I : Sto → Prop} {take pick size : Fn} {st : Sto}
theorem width_sp (V : Draws s g c I take pick) (hI : I st) : Ok (runDef 1 (g_law_width take) [.loc s] st) fun d st' => (∃ w : Nat, d = .int w ∧ 1 ≤ w ∧ w ≤ 24) ∧ I st' ∧ Gr s g st st' := by
  unfold Ok
  rw [k_run, st_1_1]
  unfold g_law_width
  walk_at "go"
  refine Ok.imp (V.take hI (by omega) (by omega)) fun d s1 ⟨⟨v1, e1, h1, h2⟩, hD1, hG1⟩ => ?_
  subst e1
  rw [add_i]
  walk_at "go"
  rw [if_pos (show 6 ≤ sizeLine from by decide)]
  have hlt := V.lt hD1
  refine Ok.imp (V.take (V.app hD1) (by omega) (by omega)) fun d s2 ⟨⟨v2, e2, h3, h4⟩, hD2, hG2⟩ => ?_
  subst e2
  have hL := hG2.keep s1.length _ (by omega) (by omega) last_at
  have hv : v2 = 0 ∨ v2 = 1 ∨ v2 = 2 ∨ v2 = 3 ∨ v2 = 4 ∨ v2 = 5 := by omega
  have hG := (hG1.trans Gr.app).trans hG2
  rcases hv with rfl | rfl | rfl | rfl | rfl | rfl
  · rw [ix_lst (lst_at hL) rfl]; exact ⟨⟨1, rfl, by omega, by omega⟩, hD2, hG⟩
  · rw [ix_lst (lst_at hL) rfl]; exact ⟨⟨2, rfl, by omega, by omega⟩, hD2, hG⟩
  · rw [ix_lst (lst_at hL) rfl]; exact ⟨⟨3, rfl, by omega, by omega⟩, hD2, hG⟩
  · rw [ix_lst (lst_at hL) rfl]; exact ⟨⟨8, rfl, by omega, by omega⟩, hD2, hG⟩
  · rw [ix_lst (lst_at hL) rfl]; exact ⟨⟨24, rfl, by omega, by omega⟩, hD2, hG⟩
  · rw [ix_lst (lst_at hL) rfl]; exact ⟨⟨(1 + v1).toNat, by show D.int _ = D.int _; congr 1; omega, by omega, by omega⟩, hD2, hG⟩
theorem number_sp (V : Draws s g c I take pick) (hs : SizeSp size) {y : Int} {w : Nat} (hy : y = (w : Int)) (hw : 1 ≤ w ∧ w ≤ 24) (hI : I st) : Ok (runDef 3 (g_law_number size take) [.loc s, .int y] st) fun d st' => (∃ n : Int, d = .int n ∧ 0 ≤ n ∧ n < 2 ^ w) ∧ I st' ∧ Gr s g st st' := by
  unfold Ok
  rw [k_run, st_3_2]
  unfold g_law_number
  have hp := pow24 hw.2
  have hq : (2 : Int) ≤ 2 ^ w := by
    obtain ⟨k, rfl⟩ := Nat.exists_eq_add_of_le hw.1
    have := pow_pos' k
    rw [Nat.add_comm, Int.pow_succ]
    omega
  generalize hz : (2 : Int) ^ w = z at hp hq
  refine cut_seq (fun en' st' => en' = [some (.loc s), some (.int y), some (.int z)] ∧ st' = st) ?_ (fun en1 st1 hJ => ?_)
  · walk_at "go"
    refine Ok.imp (hs st y w hy hw.2) fun d s1 ⟨e1, e2⟩ => ?_
    subst e1; subst e2
    rw [hz]
    exact ⟨rfl, rfl⟩
  obtain ⟨rfl, rfl⟩ := hJ
  walk_at "go"
  rw [show oSub (.int z) (.int 1) st1 = some (.int (z - 1), st1) from rfl]
  walk_at "go"
  rw [div_i (i := z) (j := 2) (by omega) (by omega)]
  walk_at "go"
  refine Ok.imp (V.take hI (by omega) (by omega)) fun d s1 ⟨⟨v1, e1, h1, h2⟩, hD1, hG1⟩ => ?_
  subst e1
  rw [if_pos (show 5 ≤ sizeLine from by decide)]
  have hlt := V.lt hD1
  refine Ok.imp (V.take (V.app hD1) (by omega) (by omega)) fun d s2 ⟨⟨v2, e2, h3, h4⟩, hD2, hG2⟩ => ?_
  subst e2
  have hL := hG2.keep s1.length _ (by omega) (by omega) last_at
  have hv : v2 = 0 ∨ v2 = 1 ∨ v2 = 2 ∨ v2 = 3 ∨ v2 = 4 := by omega
  have hG := (hG1.trans Gr.app).trans hG2
  rcases hv with rfl | rfl | rfl | rfl | rfl
  · rw [ix_lst (lst_at hL) rfl]; exact ⟨⟨0, rfl, by omega, by omega⟩, hD2, hG⟩
  · rw [ix_lst (lst_at hL) rfl]; exact ⟨⟨1, rfl, by omega, by omega⟩, hD2, hG⟩
  · rw [ix_lst (lst_at hL) rfl]; exact ⟨⟨z - 1, rfl, by omega, by omega⟩, hD2, hG⟩
  · rw [ix_lst (lst_at hL) rfl]; exact ⟨⟨z / 2, rfl, by omega, by omega⟩, hD2, hG⟩
  · rw [ix_lst (lst_at hL) rfl]; exact ⟨⟨v1, rfl, by omega, by omega⟩, hD2, hG⟩
end
/-! ### terms -/
inductive Trm where
  | num (n : Int)
  | at (w : Str)
  | op (o : Str) (a b : Trm)
def Trm.d : Trm → D
  | .num n => .tup [.str "number", .int n]
  | .at w => .tup [.str "at", .str w]
  | .op o a b => .tup [.str o, a.d, b.d]
abbrev opsT : List Str := ["sum", "less", "times"]
def Trm.ok (z : Int) (ws : List Str) : Trm → Prop
  | .num n => 0 ≤ n ∧ n < z
  | .at w => w ∈ ws
  | .op o a b => o ∈ opsT ∧ a.ok z ws ∧ b.ok z ws
def Trm.dep : Trm → Nat
  | .num _ => 1
  | .at _ => 1
  | .op _ a b => 1 + max a.dep b.dep
def Trm.lvs : Trm → Nat
  | .num _ => 1
  | .at _ => 1
  | .op _ a b => a.lvs + b.lvs
theorem Trm.lvs_pos : ∀ t : Trm, 1 ≤ t.lvs
  | .num _ => Nat.le_refl _
  | .at _ => Nat.le_refl _
  | .op _ a b => Nat.le_trans a.lvs_pos (Nat.le_add_right _ _)
def TmSp (z : Int) (ws : List Str) (s g L : Nat) (I : Sto → Prop) (st : Sto) (q : Trm → Prop) (d : D) (st' : Sto) : Prop := (∃ t : Trm, d = t.d ∧ t.ok z ws ∧ q t) ∧ I st' ∧ Gr s g st st' ∧ st'[L]? = some (.lst (ws.map D.str))
section
variable {s g c L : Nat} {I : Sto → Prop} {take pick number leaf term wide tall : Fn} {st : Sto} {y : Int} {w : Nat} {ws : List Str}
theorem leaf_sp (V : Draws s g c I take pick) (hn : ∀ st, I st → Ok (number [.loc s, .int y] st) fun d st' => (∃ n : Int, d = .int n ∧ 0 ≤ n ∧ n < 2 ^ w) ∧ I st' ∧ Gr s g st st') (hL : st[L]? = some (.lst (ws.map D.str))) (n1 : L ≠ s) (n2 : L ≠ g) (h0 : 0 < ws.length) (h1 : ws.length ≤ 100) (hI : I st) :
    Ok (runDef 3 (g_law_leaf take number pick) [.loc s, .int y, .loc L] st) (TmSp (2 ^ w) ws s g L I st fun t => t.dep = 1 ∧ t.lvs = 1) := by
  unfold Ok
  rw [k_run, st_3_3]
  unfold g_law_leaf
  walk_at "go"
  refine Ok.imp (V.take hI (by omega) (by omega)) fun d s1 ⟨⟨v1, e1, h1, h2⟩, hD1, hG1⟩ => ?_
  subst e1
  rw [eq_i]
  walk_at "go"
  have hL1 := hG1.keep _ _ n1 n2 hL
  by_cases hv : v1 = 0
  · rw [if_pos (decide_eq_true hv)]
    refine Ok.imp (hn _ hD1) fun d s2 ⟨⟨n, e2, h3, h4⟩, hD2, hG2⟩ => ?_
    subst e2
    rw [if_pos (show 2 ≤ sizeLine from by decide)]
    exact ⟨⟨.num n, rfl, ⟨h3, h4⟩, rfl, rfl⟩, hD2, hG1.trans hG2, hG2.keep _ _ n1 n2 hL1⟩
  · rw [if_neg (by rw [decide_eq_false hv]; exact Bool.false_ne_true)]
    refine Ok.imp (V.pickL hD1 hL1 n1 n2 (by rw [List.length_map]; exact h0) (by rw [List.length_map]; omega)) fun d s2 ⟨hd, hD2, hG2⟩ => ?_
    obtain ⟨u, hu, rfl⟩ := List.mem_map.mp hd
    rw [if_pos (show 2 ≤ sizeLine from by decide)]
    exact ⟨⟨.at u, rfl, hu, rfl, rfl⟩, hD2, hG1.trans hG2, hG2.keep _ _ n1 n2 hL1⟩
theorem term_sp (V : Draws s g c I take pick) {deep : Nat} (hl : ∀ st, I st → st[L]? = some (.lst (ws.map D.str)) → Ok (leaf [.loc s, .int y, .loc L] st) (TmSp (2 ^ w) ws s g L I st fun t => t.dep = 1 ∧ t.lvs = 1))
    (ht : 0 < deep → ∀ st, I st → st[L]? = some (.lst (ws.map D.str)) → Ok (term [.loc s, .int y, .loc L, .int (deep - 1 : Nat)] st) (TmSp (2 ^ w) ws s g L I st fun t => t.dep ≤ deep ∧ t.lvs ≤ 2 ^ (deep - 1)))
    (hL : st[L]? = some (.lst (ws.map D.str))) (n1 : L ≠ s) (n2 : L ≠ g) (hI : I st) :
    Ok (runDef 5 (g_law_term take leaf pick term) [.loc s, .int y, .loc L, .int deep] st) (TmSp (2 ^ w) ws s g L I st fun t => t.dep ≤ deep + 1 ∧ t.lvs ≤ 2 ^ deep) := by
  unfold Ok
  rw [k_run, st_5_4]
  unfold g_law_term
  have hone : 1 ≤ 2 ^ deep := Nat.one_le_two_pow
  refine cut_seq (fun en' st' => en' = [some (.loc s), some (.int y), some (.loc L), some (.int deep), none] ∧ 0 < deep ∧ I st' ∧ Gr s g st st' ∧ st'[L]? = some (.lst (ws.map D.str))) ?_ (fun en1 st1 hJ => ?_)
  · walk_at "go"
    rw [eq_i]
    walk_at "go"
    by_cases hd : (deep : Int) = 0
    · rw [if_pos (decide_eq_true hd)]
      refine Ok.imp (hl st hI hL) fun d s2 ⟨⟨t, e, ho, h1, h2⟩, z⟩ => ⟨⟨t, e, ho, by omega, by omega⟩, z⟩
    · rw [if_neg (by rw [decide_eq_false hd]; exact Bool.false_ne_true)]
      refine Ok.imp (V.take hI (by omega) (by omega)) fun d s1 ⟨⟨v1, e1, h1, h2⟩, hD1, hG1⟩ => ?_
      subst e1
      have hL1 := hG1.keep _ _ n1 n2 hL
      rw [eq_i]
      walk_at "go"
      by_cases hv : v1 = 0
      · rw [if_pos (decide_eq_true hv)]
        refine Ok.imp (hl s1 hD1 hL1) fun d s2 ⟨⟨t, e, ho, h1, h2⟩, z1, z2, z3⟩ => ⟨⟨t, e, ho, by omega, by omega⟩, z1, hG1.trans z2, z3⟩
      · rw [if_neg (by rw [decide_eq_false hv]; exact Bool.false_ne_true)]
        exact ⟨by trivial, by omega, hD1, hG1, hL1⟩
  obtain ⟨rfl, hd, hI1, hG1, hL1⟩ := hJ
  have hlt := V.lt hI1
  refine cut_seq (fun en' st' => (∃ o : Str, en' = [some (.loc s), some (.int y), some (.loc L), some (.int deep), some (.str o)] ∧ o ∈ opsT) ∧ I st' ∧ Gr s g st st' ∧ st'[L]? = some (.lst (ws.map D.str))) ?_ (fun en1 st2 hJ => ?_)
  · walk_at "go"
    rw [if_pos (show 3 ≤ sizeLine from by decide)]
    refine Ok.imp (V.pickL (ds := opsT.map D.str) (V.app hI1) last_at (by omega) (by omega) (by decide) (by decide)) fun d s2 ⟨hd, hD2, hG2⟩ => ?_
    obtain ⟨u, hu, rfl⟩ := List.mem_map.mp hd
    exact ⟨⟨u, rfl, hu⟩, hD2, (hG1.trans Gr.app).trans hG2, hG2.keep _ _ n1 n2 (app_get hL1)⟩
  obtain ⟨⟨o, rfl, ho⟩, hI2, hG2, hL2⟩ := hJ
  walk_at "go"
  have hs : ∀ st, oSub (.int (deep : Int)) (.int 1) st = some (.int ((deep - 1 : Nat) : Int), st) := fun st => by
    show some (D.int ((deep : Int) - 1), st) = _
    rw [show ((deep : Int) - 1) = ((deep - 1 : Nat) : Int) from by omega]
  rw [hs]
  walk_at "go"
  refine Ok.imp (ht hd _ hI2 hL2) fun d s3 ⟨⟨t1, e1, ho1, h1, h2⟩, hI3, hG3, hL3⟩ => ?_
  rw [hs]
  walk_at "go"
  refine Ok.imp (ht hd _ hI3 hL3) fun d s4 ⟨⟨t2, e2, ho2, h3, h4⟩, hI4, hG4, hL4⟩ => ?_
  subst e1; subst e2
  rw [if_pos (show 3 ≤ sizeLine from by decide)]
  refine ⟨⟨.op o t1 t2, rfl, ⟨ho, ho1, ho2⟩, ?_, ?_⟩, hI4, (hG2.trans hG3).trans hG4, hL4⟩
  · show 1 + max _ _ ≤ _
    omega
  · show t1.lvs + t2.lvs ≤ _
    obtain ⟨k, rfl⟩ : ∃ k, deep = k + 1 := ⟨deep - 1, by omega⟩
    rw [Nat.add_sub_cancel] at h2 h4
    rw [Nat.pow_succ]
    omega
theorem wide_sp (V : Draws s g c I take pick) {k n : Nat} (hl : ∀ st, I st → st[L]? = some (.lst (ws.map D.str)) → Ok (leaf [.loc s, .int y, .loc L] st) (TmSp (2 ^ w) ws s g L I st fun t => t.dep = 1 ∧ t.lvs = 1))
    (ht : 0 < k → ∀ m st, 1 ≤ m → m ≤ 2 ^ (k - 1) → I st → st[L]? = some (.lst (ws.map D.str)) → Ok (wide [.loc s, .int y, .loc L, .int (m : Nat)] st) (TmSp (2 ^ w) ws s g L I st fun t => t.dep ≤ k ∧ t.lvs = m))
    (h1 : 1 ≤ n) (h2 : n ≤ 2 ^ k) (hL : st[L]? = some (.lst (ws.map D.str))) (n1 : L ≠ s) (n2 : L ≠ g) (hI : I st) :
    Ok (runDef 6 (g_law_wide leaf pick wide) [.loc s, .int y, .loc L, .int n] st) (TmSp (2 ^ w) ws s g L I st fun t => t.dep ≤ k + 1 ∧ t.lvs = n) := by
  unfold Ok
  rw [k_run, st_6_4]
  unfold g_law_wide
  have hlt := V.lt hI
  refine cut_seq (fun en' st' => en' = [some (.loc s), some (.int y), some (.loc L), some (.int n), none, none] ∧ n ≠ 1 ∧ st' = st) ?_ (fun en1 st1 hJ => ?_)
  · walk_at "go"
    rw [eq_i]
    walk_at "go"
    by_cases hd : (n : Int) = 1
    · rw [if_pos (decide_eq_true hd)]
      refine Ok.imp (hl st hI hL) fun d s2 ⟨⟨t, e, ho, h1, h2⟩, z⟩ => ⟨⟨t, e, ho, by omega, by omega⟩, z⟩
    · rw [if_neg (by rw [decide_eq_false hd]; exact Bool.false_ne_true)]
      exact ⟨by trivial, by omega, by trivial⟩
  obtain ⟨rfl, hn, rfl⟩ := hJ
  have hk : 0 < k := by
    rcases Nat.eq_zero_or_pos k with rfl | h
    · rw [Nat.pow_zero] at h2; omega
    · exact h
  obtain ⟨j, rfl⟩ : ∃ j, k = j + 1 := ⟨k - 1, by omega⟩
  rw [Nat.pow_succ] at h2
  refine cut_seq (fun en' st' => (∃ o : Str, en' = [some (.loc s), some (.int y), some (.loc L), some (.int n), some (.str o), some (.int ((n / 2 : Nat) : Int))] ∧ o ∈ opsT) ∧ I st' ∧ Gr s g st1 st' ∧ st'[L]? = some (.lst (ws.map D.str))) ?_ (fun en1 st2 hJ => ?_)
  · walk_at "go"
    rw [if_pos (show 3 ≤ sizeLine from by decide)]
    refine Ok.imp (V.pickL (ds := opsT.map D.str) (V.app hI) last_at (by omega) (by omega) (by decide) (by decide)) fun d s2 ⟨hd, hD2, hG2⟩ => ?_
    obtain ⟨u, hu, rfl⟩ := List.mem_map.mp hd
    rw [div_i (i := (n : Int)) (j := 2) (by omega) (by omega)]
    exact ⟨⟨u, rfl, hu⟩, hD2, Gr.app.trans hG2, hG2.keep _ _ n1 n2 (app_get hL)⟩
  obtain ⟨⟨o, rfl, ho⟩, hI2, hG2, hL2⟩ := hJ
  walk_at "go"
  refine Ok.imp (ht hk (n / 2) _ (by omega) (by rw [Nat.add_sub_cancel]; omega) hI2 hL2) fun d s3 ⟨⟨t1, e1, ho1, h1, h2⟩, hI3, hG3, hL3⟩ => ?_
  have hs : oSub (.int (n : Int)) (.int ((n / 2 : Nat) : Int)) s3 = some (.int ((n - n / 2 : Nat) : Int), s3) := by
    show some (D.int ((n : Int) - ((n / 2 : Nat) : Int)), s3) = _
    rw [show ((n : Int) - ((n / 2 : Nat) : Int)) = ((n - n / 2 : Nat) : Int) from by omega]
  rw [hs]
  walk_at "go"
  refine Ok.imp (ht hk (n - n / 2) _ (by omega) (by rw [Nat.add_sub_cancel]; omega) hI3 hL3) fun d s4 ⟨⟨t2, e2, ho2, h3, h4⟩, hI4, hG4, hL4⟩ => ?_
  subst e1; subst e2
  rw [if_pos (show 3 ≤ sizeLine from by decide)]
  refine ⟨⟨.op o t1 t2, rfl, ⟨ho, ho1, ho2⟩, ?_, ?_⟩, hI4, (hG2.trans hG3).trans hG4, hL4⟩
  · show 1 + max _ _ ≤ _
    omega
  · show t1.lvs + t2.lvs = _
    omega
theorem tall_sp (V : Draws s g c I take pick) {n : Nat} (hl : ∀ st, I st → st[L]? = some (.lst (ws.map D.str)) → Ok (leaf [.loc s, .int y, .loc L] st) (TmSp (2 ^ w) ws s g L I st fun t => t.dep = 1 ∧ t.lvs = 1))
    (h1 : 1 ≤ n) (h2 : n ≤ 1000) (hL : st[L]? = some (.lst (ws.map D.str))) (n1 : L ≠ s) (n2 : L ≠ g) (hI : I st) :
    Ok (runDef 9 (g_law_tall leaf pick take) [.loc s, .int y, .loc L, .int n] st) (TmSp (2 ^ w) ws s g L I st fun t => t.dep = n ∧ t.lvs = n) := by
  unfold Ok
  rw [k_run, st_9_4]
  unfold g_law_tall
  refine cut_seq (fun en' st' => (∃ t : Trm, en' = [some (.loc s), some (.int y), some (.loc L), some (.int n), some t.d, none, none, none, none] ∧ t.ok (2 ^ w) ws ∧ t.dep = 1 ∧ t.lvs = 1) ∧ I st' ∧ Gr s g st st' ∧ st'[L]? = some (.lst (ws.map D.str))) ?_ (fun en1 st1 hJ => ?_)
  · walk_at "go"
    refine Ok.imp (hl st hI hL) fun d s2 ⟨⟨t, e, ho, h1, h2⟩, z⟩ => ?_
    subst e
    exact ⟨⟨t, rfl, ho, h1, h2⟩, z⟩
  obtain ⟨⟨t0, rfl, ho, hd0, hl0⟩, hI1, hG1, hL1⟩ := hJ
  refine cut_seq (fun en' st' => (∃ (t : Trm) (x5 x6 x7 x8 : Option D), en' = [some (.loc s), some (.int y), some (.loc L), some (.int n), some t.d, x5, x6, x7, x8] ∧ t.ok (2 ^ w) ws ∧ t.dep = n ∧ t.lvs = n) ∧ I st' ∧ Gr s g st st' ∧ st'[L]? = some (.lst (ws.map D.str))) ?_ (fun en1 st2 hJ => ?_)
  · walk_at "go"
    rw [show oSub (.int (n : Int)) (.int 1) st1 = some (.int ((n : Int) - 1), st1) from rfl]
    walk_at "go"
    rw [if_pos (by omega)]
    have hlen : ((n : Int) - 1).toNat = ((List.range ((n : Int) - 1).toNat).map fun (k : Nat) => D.int (k : Int)).length := by rw [List.length_map, List.length_range]
    have key : ∀ p : Po, (∀ en' st', ((∃ (t : Trm) (x5 x6 x7 x8 : Option D), en' = [some (.loc s), some (.int y), some (.loc L), some (.int n), some t.d, x5, x6, x7, x8] ∧ t.ok (2 ^ w) ws ∧ t.dep = n ∧ t.lvs = n) ∧ I st' ∧ Gr s g st st' ∧ st'[L]? = some (.lst (ws.map D.str))) → p.nx en' st') → OkS (sFor (sSeq (sPar2 6 7 (aCons (eCall 2 pick (aCons (eVar 0) (aCons (eLst (aCons (eC (.str "sum")) (aCons (eC (.str "less")) (aCons (eC (.str "times")) (aNil))))) (aNil)))) (aCons (eCall 2 take (aCons (eVar 0) (aCons (eC (.int 2)) (aNil)))) (aNil)))) (sSeq (sSet 8 (eCall 3 leaf (aCons (eVar 0) (aCons (eVar 1) (aCons (eVar 2) (aNil)))))) (sSet 4 (eIf (bOf (eOp oEq (eVar 7) (eC (.int 0)))) (eTup (aCons (eVar 6) (aCons (eVar 4) (aCons (eVar 8) (aNil))))) (eTup (aCons (eVar 6) (aCons (eVar 8) (aCons (eVar 4) (aNil))))))))) (gN 5) (srcIts ((List.range ((n : Int) - 1).toNat).map fun (k : Nat) => D.int (k : Int))) ((List.range ((n : Int) - 1).toNat).map fun (k : Nat) => D.int (k : Int)).length 0 [some (.loc s), some (.int y), some (.loc L), some (.int n), some t0.d, none, none, none, none] st1) p := by
      intro p hp
      refine for_its (fun i en' st' => (∃ (t : Trm) (x5 x6 x7 x8 : Option D), en' = [some (.loc s), some (.int y), some (.loc L), some (.int n), some t.d, x5, x6, x7, x8] ∧ t.ok (2 ^ w) ws ∧ t.dep = i + 1 ∧ t.lvs = i + 1) ∧ I st' ∧ Gr s g st st' ∧ st'[L]? = some (.lst (ws.map D.str))) ⟨⟨t0, _, _, _, _, rfl, ho, hd0, hl0⟩, hI1, hG1, hL1⟩ (fun i d en st3 hd hJ => ?_) (fun en st3 hJ => hp en st3 ?_)
      · obtain ⟨⟨t, x5, x6, x7, x8, rfl, ho, hd0, hl0⟩, hI3, hG3, hL3⟩ := hJ
        refine ⟨_, rfl, ?_⟩
        have hlt := V.lt hI3
        refine cut_seq (fun en' st' => (∃ (o : Str) (v : Int), en' = [some (.loc s), some (.int y), some (.loc L), some (.int n), some t.d, some d, some (.str o), some (.int v), x8] ∧ o ∈ opsT) ∧ I st' ∧ Gr s g st st' ∧ st'[L]? = some (.lst (ws.map D.str))) ?_ (fun en1 st4 hJ => ?_)
        · walk_at "go"
          rw [if_pos (show 3 ≤ sizeLine from by decide)]
          refine Ok.imp (V.pickL (ds := opsT.map D.str) (V.app hI3) last_at (by omega) (by omega) (by decide) (by decide)) fun d s2 ⟨hd, hD2, hG2⟩ => ?_
          obtain ⟨u, hu, rfl⟩ := List.mem_map.mp hd
          refine Ok.imp (V.take hD2 (by omega) (by omega)) fun d s1 ⟨⟨v1, e1, h1, h2⟩, hD1, hG1⟩ => ?_
          subst e1
          exact ⟨⟨u, v1, rfl, hu⟩, hD1, ((hG3.trans Gr.app).trans hG2).trans hG1, hG1.keep _ _ n1 n2 (hG2.keep _ _ n1 n2 (app_get hL3))⟩
        obtain ⟨⟨o, v, rfl, hop⟩, hI4, hG4, hL4⟩ := hJ
        refine cut_seq (fun en' st' => (∃ (u : Trm), en' = [some (.loc s), some (.int y), some (.loc L), some (.int n), some t.d, some d, some (.str o), some (.int v), some u.d] ∧ u.ok (2 ^ w) ws ∧ u.dep = 1 ∧ u.lvs = 1) ∧ I st' ∧ Gr s g st st' ∧ st'[L]? = some (.lst (ws.map D.str))) ?_ (fun en1 st5 hJ => ?_)
        · walk_at "go"
          refine Ok.imp (hl st4 hI4 hL4) fun d s2 ⟨⟨t, e, ho, h1, h2⟩, z1, z2, z3⟩ => ?_
          subst e
          exact ⟨⟨t, rfl, ho, h1, h2⟩, z1, hG4.trans z2, z3⟩
        obtain ⟨⟨u, rfl, huo, hud, hul⟩, hI5, hG5, hL5⟩ := hJ
        walk_at "go"
        rw [eq_i]
        walk_at "go"
        rw [if_pos (show 3 ≤ sizeLine from by decide), if_pos (show 3 ≤ sizeLine from by decide)]
        by_cases hv : v = 0
        · rw [if_pos (decide_eq_true hv)]
          refine ⟨⟨.op o t u, _, _, _, _, rfl, ⟨hop, ho, huo⟩, ?_, ?_⟩, hI5, hG5, hL5⟩
          · show 1 + max _ _ = _
            omega
          · show t.lvs + u.lvs = _
            omega
        · rw [if_neg (by rw [decide_eq_false hv]; exact Bool.false_ne_true)]
          refine ⟨⟨.op o u t, _, _, _, _, rfl, ⟨hop, huo, ho⟩, ?_, ?_⟩, hI5, hG5, hL5⟩
          · show 1 + max _ _ = _
            omega
          · show u.lvs + t.lvs = _
            omega
      · obtain ⟨⟨t, x5, x6, x7, x8, rfl, ho, hd0, hl0⟩, z⟩ := hJ
        rw [List.length_map, List.length_range] at hd0 hl0
        exact ⟨⟨t, x5, x6, x7, x8, rfl, ho, by omega, by omega⟩, z⟩
    rw [← hlen] at key
    exact key _ fun _ _ h => h
  obtain ⟨⟨t, x5, x6, x7, x8, rfl, z⟩, z1, z2, z3⟩ := hJ
  walk_at "go"
  exact ⟨⟨t, rfl, z⟩, z1, z2, z3⟩
theorem any_sp (V : Draws s g c I take pick)
    (ht : ∀ (deep : Nat) st, deep ≤ 5 → I st → st[L]? = some (.lst (ws.map D.str)) → Ok (term [.loc s, .int y, .loc L, .int deep] st) (TmSp (2 ^ w) ws s g L I st fun t => t.dep ≤ 60 ∧ t.lvs ≤ 200))
    (hw : ∀ st, I st → st[L]? = some (.lst (ws.map D.str)) → Ok (wide [.loc s, .int y, .loc L, .int 200] st) (TmSp (2 ^ w) ws s g L I st fun t => t.dep ≤ 60 ∧ t.lvs ≤ 200))
    (hta : ∀ (n : Nat) st, 1 ≤ n → n ≤ 60 → I st → st[L]? = some (.lst (ws.map D.str)) → Ok (tall [.loc s, .int y, .loc L, .int n] st) (TmSp (2 ^ w) ws s g L I st fun t => t.dep ≤ 60 ∧ t.lvs ≤ 200))
    (hL : st[L]? = some (.lst (ws.map D.str))) (n1 : L ≠ s) (n2 : L ≠ g) (hI : I st) :
    Ok (runDef 4 (g_law_any take term wide tall) [.loc s, .int y, .loc L] st) (TmSp (2 ^ w) ws s g L I st fun t => t.dep ≤ 60 ∧ t.lvs ≤ 200) := by
  unfold Ok
  rw [k_run, st_4_3]
  unfold g_law_any
  refine cut_seq (fun en' st' => (∃ v : Int, en' = [some (.loc s), some (.int y), some (.loc L), some (.int v)]) ∧ I st' ∧ Gr s g st st' ∧ st'[L]? = some (.lst (ws.map D.str))) ?_ (fun en1 st1 hJ => ?_)
  · walk_at "go"
    refine Ok.imp (V.take hI (by omega) (by omega)) fun d s1 ⟨⟨v1, e1, h1, h2⟩, hD1, hG1⟩ => ?_
    subst e1
    exact ⟨⟨v1, rfl⟩, hD1, hG1, hG1.keep _ _ n1 n2 hL⟩
  obtain ⟨⟨v, rfl⟩, hI1, hG1, hL1⟩ := hJ
  have fin : ∀ {d st'}, TmSp (2 ^ w) ws s g L I st1 (fun t => t.dep ≤ 60 ∧ t.lvs ≤ 200) d st' → TmSp (2 ^ w) ws s g L I st (fun t => t.dep ≤ 60 ∧ t.lvs ≤ 200) d st' := fun ⟨z, z1, z2, z3⟩ => ⟨z, z1, hG1.trans z2, z3⟩
  walk_at "go"
  rw [lt_i]
  walk_at "go"
  by_cases hv : v < 6
  · rw [if_pos (decide_eq_true hv)]
    refine Ok.imp (V.take hI1 (by omega) (by omega)) fun d s1 ⟨⟨v1, e1, h1, h2⟩, hD1, hG2⟩ => ?_
    subst e1
    rw [add_i]
    walk_at "go"
    rw [show (1 + v1 : Int) = (((1 + v1).toNat : Nat) : Int) from by omega]
    exact Ok.imp (ht _ _ (by omega) hD1 (hG2.keep _ _ n1 n2 hL1)) fun d s2 ⟨z, z1, z2, z3⟩ => ⟨z, z1, (hG1.trans hG2).trans z2, z3⟩
  rw [if_neg (by rw [decide_eq_false hv]; exact Bool.false_ne_true), eq_i]
  walk_at "go"
  by_cases hv : v = 6
  · rw [if_pos (decide_eq_true hv)]
    exact Ok.imp (hw _ hI1 hL1) fun d s2 z => fin z
  rw [if_neg (by rw [decide_eq_false hv]; exact Bool.false_ne_true), if_pos (show 4 ≤ sizeLine from by decide)]
  have hlt := V.lt hI1
  refine Ok.imp (V.take (V.app hI1) (by omega) (by omega)) fun d s2 ⟨⟨v2, e2, h3, h4⟩, hD2, hG2⟩ => ?_
  subst e2
  have hLL := hG2.keep st1.length _ (by omega) (by omega) last_at
  have hL2 := hG2.keep _ _ n1 n2 (app_get hL1)
  have hv : v2 = 0 ∨ v2 = 1 ∨ v2 = 2 ∨ v2 = 3 := by omega
  have hG := (hG1.trans Gr.app).trans hG2
  have fin2 : ∀ {d st'}, TmSp (2 ^ w) ws s g L I s2 (fun t => t.dep ≤ 60 ∧ t.lvs ≤ 200) d st' → TmSp (2 ^ w) ws s g L I st (fun t => t.dep ≤ 60 ∧ t.lvs ≤ 200) d st' := fun ⟨z, z1, z2, z3⟩ => ⟨z, z1, hG.trans z2, z3⟩
  rcases hv with rfl | rfl | rfl | rfl
  · rw [ix_lst (lst_at hLL) rfl]; exact Ok.imp (hta 2 _ (by omega) (by omega) hD2 hL2) fun d s2 z => fin2 z
  · rw [ix_lst (lst_at hLL) rfl]; exact Ok.imp (hta 30 _ (by omega) (by omega) hD2 hL2) fun d s2 z => fin2 z
  · rw [ix_lst (lst_at hLL) rfl]; exact Ok.imp (hta 59 _ (by omega) (by omega) hD2 hL2) fun d s2 z => fin2 z
  · rw [ix_lst (lst_at hLL) rfl]; exact Ok.imp (hta 60 _ (by omega) (by omega) hD2 hL2) fun d s2 z => fin2 z
end
end Sh

set_option maxHeartbeats 1000000
namespace Sh
open PySem PySem.Spec PyProof.Rows L2
local macro_rules | `(tactic| walk_at "go") => `(tactic| simp only [k_bnd, k_ret, k_ok, k_bad, k_badM, k_exc, k_lft, k_ite, k_ite', o_some, o_none, o_ite, v_some, k_var, k_c, k_op, k_call, k_call0, k_cb, k_nil, k_cons, k_tup, k_lst, k_bOf, k_bAnd, k_bOr, k_bNot, k_and, k_or, k_not, k_if, k_chain, k_inC, k_neg, k_bm, k_get2, k_pnone, k_psome, k_sl, k_pnil, k_pcons, k_dic, k_gix, k_seq, k_nx, k_rt, k_sbad, k_snil, k_spass, k_set, k_sret, k_sretN, k_sexp, k_sif, k_asg, k_par2, k_par3, k_aug, k_put, k_seqI, k_range1, k_forI, k_lc, List.getElem?_cons_zero, List.getElem?_cons_succ, List.set_cons_zero, List.set_cons_succ, List.length_cons, List.length_nil, if_true, if_false, Bool.not_true, Bool.not_false, Bool.false_eq_true, ite_true, ite_false, reduceIte, Nat.reduceAdd, Nat.zero_add])
def signsC : List (Str × Str) := [("sum", "+"), ("less", "-"), ("times", "*")]
def g_term_text (f_term_text : Fn) : SM :=
  sSeq (sIf (bOf (eOp oEq (eOp oIx (eVar 0) (eC (.int 0))) (eC (.str "number")))) (sRet (eCB oStrI (aCons (eOp oIx (eVar 0) (eC (.int 1))) (aNil)))) (sNil)) (sSeq (sIf (bOf (eOp oEq (eOp oIx (eVar 0) (eC (.int 0))) (eC (.str "at")))) (sRet (eOp oIx (eVar 0) (eC (.int 1)))) (sNil)) (sRet (eOp oAdd (eOp oAdd (eOp oAdd (eOp oAdd (eOp oAdd (eOp oAdd (eC (.str "(")) (eCall 1 f_term_text (aCons (eOp oIx (eVar 0) (eC (.int 1))) (aNil)))) (eC (.str " "))) (eGIx signsC (eOp oIx (eVar 0) (eC (.int 0))))) (eC (.str " "))) (eCall 1 f_term_text (aCons (eOp oIx (eVar 0) (eC (.int 2))) (aNil)))) (eC (.str ")")))))
def g_law_text (f_law_text : Fn) : SM :=
  sSeq (sIf (bOf (eOp oEq (eOp oIx (eVar 0) (eC (.int 0))) (eC (.str "number")))) (sRet (eCB oStrI (aCons (eOp oIx (eVar 0) (eC (.int 1))) (aNil)))) (sNil)) (sSeq (sIf (bOf (eOp oEq (eOp oIx (eVar 0) (eC (.int 0))) (eC (.str "at")))) (sRet (eOp oIx (eVar 0) (eC (.int 1)))) (sNil)) (sSeq (sSet 1 (eOp oIx (eDic [(eC (.str "sum"), eC (.str " + ")), (eC (.str "less"), eC (.str " - ")), (eC (.str "times"), eC (.str " * "))]) (eOp oIx (eVar 0) (eC (.int 0))))) (sRet (eOp oAdd (eOp oAdd (eOp oAdd (eOp oAdd (eC (.str "(")) (eCall 1 f_law_text (aCons (eOp oIx (eVar 0) (eC (.int 1))) (aNil)))) (eVar 1)) (eCall 1 f_law_text (aCons (eOp oIx (eVar 0) (eC (.int 2))) (aNil)))) (eC (.str ")"))))))
/-! ### texts of terms -/
def sg (o : Str) : Str := (lookS signsC o).getD ""
def txt : Trm → Str
  | .num n => Str.ofString (toString n)
  | .at w => w
  | .op o a b => ("(" : Str) ++ txt a ++ (" " : Str) ++ sg o ++ (" " : Str) ++ txt b ++ (")" : Str)
def Trm.gd : Trm → Prop
  | .num n => 0 ≤ n ∧ n < 100000000
  | .at w => w.length ≤ 6
  | .op o a b => o ∈ opsT ∧ a.gd ∧ b.gd
theorem Trm.ok_gd {z : Int} {ws : List Str} (hz : z ≤ 100000000) (hw : ∀ w ∈ ws, w.length ≤ 6) : ∀ {t : Trm}, t.ok z ws → t.gd
  | .num n, h => ⟨h.1, Int.lt_of_lt_of_le h.2 hz⟩
  | .at w, h => hw w h
  | .op o a b, h => ⟨h.1, Trm.ok_gd hz hw h.2.1, Trm.ok_gd hz hw h.2.2⟩
theorem num_txt {n : Int} (h0 : 0 ≤ n) (h1 : n < 100000000) : (Str.ofString (toString n)).length ≤ 8 := by
  obtain ⟨k, rfl⟩ := Int.eq_ofNat_of_zero_le h0
  rw [← len_toL]
  have := TL.numL_len (n := k) (k := 8) (by omega) (by omega)
  have e : (Str.ofString (toString (k : Int))).cps.toList = TL.numL k := TL.tl_num k
  rw [e]
  exact this
theorem sg_facts : ∀ o ∈ opsT, o ≠ "number" ∧ o ≠ "at" ∧ lookS signsC o = some (sg o) ∧ (sg o).length = 1 ∧ lookK (mergeD [] [(.inr "sum", .str " + "), (.inr "less", .str " - "), (.inr "times", .str " * ")]) (.inr o : Key) = some (.str ((" " : Str) ++ sg o ++ (" " : Str))) := by
  intro o ho
  simp only [List.mem_cons, List.mem_nil_iff, or_false] at ho
  have k1 : ¬ (("sum" : Str) = "less") := by decide +kernel
  have k2 : ¬ (("sum" : Str) = "times") := by decide +kernel
  have k3 : ¬ (("less" : Str) = "times") := by decide +kernel
  have k4 := fun h => k1 (Eq.symm h)
  have k5 := fun h => k2 (Eq.symm h)
  have k6 := fun h => k3 (Eq.symm h)
  have e1 : sg "sum" = "+" := by decide +kernel
  have e2 : sg "less" = "-" := by decide +kernel
  have e3 : sg "times" = "*" := by decide +kernel
  rcases ho with rfl | rfl | rfl
  · refine ⟨by decide +kernel, by decide +kernel, by decide +kernel, by decide +kernel, ?_⟩
    rw [e1]
    simp [lookK, mergeD, putD, k1, k2, k3]
    decide +kernel
  · refine ⟨by decide +kernel, by decide +kernel, by decide +kernel, by decide +kernel, ?_⟩
    rw [e2]
    simp [lookK, mergeD, putD, k1, k2, k3]
    decide +kernel
  · refine ⟨by decide +kernel, by decide +kernel, by decide +kernel, by decide +kernel, ?_⟩
    rw [e3]
    simp [lookK, mergeD, putD, k1, k2, k3]
    decide +kernel
theorem txt_len : ∀ {t : Trm}, t.gd → (txt t).length + 5 ≤ 13 * t.lvs
  | .num n, h => by
    have := num_txt h.1 h.2
    show (Str.ofString (toString n)).length + 5 ≤ 13 * 1
    omega
  | .at w, h => by
    have h : w.length ≤ 6 := h
    show w.length + 5 ≤ 13 * 1
    omega
  | .op o a b, h => by
    have h1 := txt_len h.2.1
    have h2 := txt_len h.2.2
    have h3 := (sg_facts o h.1).2.2.2.1
    show (("(" : Str) ++ txt a ++ (" " : Str) ++ sg o ++ (" " : Str) ++ txt b ++ (")" : Str)).length + 5 ≤ 13 * (a.lvs + b.lvs)
    simp only [len_app]
    rw [h3]
    have l1 : ("(" : Str).length = 1 := rfl
    have l2 : (" " : Str).length = 1 := rfl
    have l3 : (")" : Str).length = 1 := rfl
    omega
theorem str_i {n : Int} {st : Sto} (h0 : 0 ≤ n) (h1 : n < 100000000) : oStrI [.int n] st = some (.str (Str.ofString (toString n)), st) := by
  unfold oStrI
  dsimp only
  rw [if_pos]
  have h3 : n.natAbs < 2 ^ 1920 := Nat.lt_of_lt_of_le (show n.natAbs < 2 ^ 64 by omega) (Nat.pow_le_pow_right (by omega) (by omega))
  rcases Nat.eq_zero_or_pos n.natAbs with e | e
  · rw [e]; decide
  · exact (Nat.log2_lt (by omega)).mpr h3
theorem s_assoc (a b c : Str) : a ++ b ++ c = a ++ (b ++ c) := by
  show (⟨(a.cps ++ b.cps) ++ c.cps⟩ : Str) = ⟨a.cps ++ (b.cps ++ c.cps)⟩
  rw [Array.append_assoc]
section
variable {f : Fn} {st : Sto} {t : Trm}
theorem ttext_sp (hz : t.lvs ≤ 1000) (hg : t.gd) (hr : ∀ o a b, t = .op o a b → (∀ st, Ok (f [a.d] st) fun d st' => d = .str (txt a) ∧ st' = st) ∧ (∀ st, Ok (f [b.d] st) fun d st' => d = .str (txt b) ∧ st' = st)) :
    Ok (runDef 1 (g_term_text f) [t.d] st) fun d st' => d = .str (txt t) ∧ st' = st := by
  unfold Ok
  rw [k_run, st_1_1]
  unfold g_term_text
  have hl := txt_len hg
  have k0 : ¬ (("at" : Str) = "number") := by decide +kernel
  cases t with
  | num n =>
    unfold Trm.d
    walk_at "go"
    rw [ix_tup rfl]
    walk_at "go"
    rw [eq_s, decide_eq_true (show Str.ofString "number" = Str.ofString "number" from rfl)]
    walk_at "go"
    rw [ix_tup rfl]
    walk_at "go"
    rw [str_i hg.1 hg.2]
    exact ⟨by rfl, by rfl⟩
  | «at» w =>
    unfold Trm.d
    walk_at "go"
    rw [ix_tup rfl]
    walk_at "go"
    rw [eq_s, decide_eq_false k0]
    walk_at "go"
    rw [ix_tup rfl]
    walk_at "go"
    rw [eq_s, decide_eq_true (show Str.ofString "at" = Str.ofString "at" from rfl)]
    walk_at "go"
    rw [ix_tup rfl]
    exact ⟨by rfl, by rfl⟩
  | op o a b =>
    obtain ⟨q1, q2, q3, q4, q5⟩ := sg_facts o hg.1
    obtain ⟨ha, hb⟩ := hr o a b rfl
    have la := txt_len hg.2.1
    have lb := txt_len hg.2.2
    have hz : a.lvs + b.lvs ≤ 1000 := hz
    have l1 : (Str.ofString "(").length = 1 := rfl
    have l2 : (Str.ofString " ").length = 1 := rfl
    have l3 : (Str.ofString ")").length = 1 := rfl
    unfold Trm.d
    walk_at "go"
    rw [ix_tup rfl]
    walk_at "go"
    rw [eq_s, decide_eq_false q1]
    walk_at "go"
    rw [ix_tup rfl]
    walk_at "go"
    rw [eq_s, decide_eq_false q2]
    walk_at "go"
    rw [ix_tup rfl]
    walk_at "go"
    refine Ok.imp (ha st) fun d s1 ⟨e1, e2⟩ => ?_
    subst e1; subst e2
    rw [add_s (by omega)]
    walk_at "go"
    rw [add_s (by rw [len_app]; omega)]
    walk_at "go"
    rw [ix_tup rfl]
    walk_at "go"
    rw [q3]
    dsimp only
    rw [add_s (by rw [len_app, len_app]; omega)]
    walk_at "go"
    rw [add_s (by rw [len_app, len_app, len_app]; omega)]
    walk_at "go"
    rw [ix_tup rfl]
    walk_at "go"
    refine Ok.imp (hb s1) fun d s2 ⟨e1, e2⟩ => ?_
    subst e1; subst e2
    rw [add_s (by rw [len_app, len_app, len_app, len_app]; omega)]
    walk_at "go"
    rw [add_s (by rw [len_app, len_app, len_app, len_app, len_app]; omega)]
    exact ⟨by rfl, by rfl⟩
theorem ltext_sp (hz : t.lvs ≤ 1000) (hg : t.gd) (hr : ∀ o a b, t = .op o a b → (∀ st, Ok (f [a.d] st) fun d st' => d = .str (txt a) ∧ ∃ u, st' = st ++ u) ∧ (∀ st, Ok (f [b.d] st) fun d st' => d = .str (txt b) ∧ ∃ u, st' = st ++ u)) :
    Ok (runDef 2 (g_law_text f) [t.d] st) fun d st' => d = .str (txt t) ∧ ∃ u, st' = st ++ u := by
  unfold Ok
  rw [k_run, st_2_1]
  unfold g_law_text
  have hl := txt_len hg
  have k0 : ¬ (("at" : Str) = "number") := by decide +kernel
  cases t with
  | num n =>
    unfold Trm.d
    walk_at "go"
    rw [ix_tup rfl]
    walk_at "go"
    rw [eq_s, decide_eq_true (show Str.ofString "number" = Str.ofString "number" from rfl)]
    walk_at "go"
    rw [ix_tup rfl]
    walk_at "go"
    rw [str_i hg.1 hg.2]
    exact ⟨by rfl, [], (List.append_nil _).symm⟩
  | «at» w =>
    unfold Trm.d
    walk_at "go"
    rw [ix_tup rfl]
    walk_at "go"
    rw [eq_s, decide_eq_false k0]
    walk_at "go"
    rw [ix_tup rfl]
    walk_at "go"
    rw [eq_s, decide_eq_true (show Str.ofString "at" = Str.ofString "at" from rfl)]
    walk_at "go"
    rw [ix_tup rfl]
    exact ⟨by rfl, [], (List.append_nil _).symm⟩
  | op o a b =>
    obtain ⟨q1, q2, q3, q4, q5⟩ := sg_facts o hg.1
    obtain ⟨ha, hb⟩ := hr o a b rfl
    have la := txt_len hg.2.1
    have lb := txt_len hg.2.2
    have hz : a.lvs + b.lvs ≤ 1000 := hz
    have l1 : (Str.ofString "(").length = 1 := rfl
    have l2 : (Str.ofString " ").length = 1 := rfl
    have l3 : (Str.ofString ")").length = 1 := rfl
    have l4 : ((" " : Str) ++ sg o ++ (" " : Str)).length = 3 := by rw [len_app, len_app, q4]; rfl
    unfold Trm.d
    walk_at "go"
    rw [ix_tup rfl]
    walk_at "go"
    rw [eq_s, decide_eq_false q1]
    walk_at "go"
    rw [ix_tup rfl]
    walk_at "go"
    rw [eq_s, decide_eq_false q2]
    walk_at "go"
    refine ⟨_, rfl, last_at, by show 3 ≤ 15; omega, ?_⟩
    rw [show (st ++ [O.dic []]).set st.length (.dic (mergeD [] [(.inr "sum", .str " + "), (.inr "less", .str " - "), (.inr "times", .str " * ")])) = st ++ [.dic (mergeD [] [(.inr "sum", .str " + "), (.inr "less", .str " - "), (.inr "times", .str " * ")])] from by rw [List.set_append_right _ _ (Nat.le_refl _), Nat.sub_self]; rfl]
    rw [ix_tup rfl]
    walk_at "go"
    rw [ix_dic last_at q5]
    walk_at "go"
    rw [ix_tup rfl]
    walk_at "go"
    refine Ok.imp (ha _) fun d s1 ⟨e1, u1, e2⟩ => ?_
    subst e1; subst e2
    rw [add_s (by omega)]
    walk_at "go"
    rw [add_s (by rw [len_app]; omega)]
    walk_at "go"
    rw [ix_tup rfl]
    walk_at "go"
    refine Ok.imp (hb _) fun d s2 ⟨e1, u2, e2⟩ => ?_
    subst e1; subst e2
    rw [add_s (by rw [len_app, len_app]; omega)]
    walk_at "go"
    rw [add_s (by rw [len_app, len_app, len_app]; omega)]
    refine ⟨?_, _, by rw [List.append_assoc, List.append_assoc]⟩
    show D.str _ = D.str (("(" : Str) ++ txt a ++ (" " : Str) ++ sg o ++ (" " : Str) ++ txt b ++ (")" : Str))
    congr 3
    rw [s_assoc (("(" : Str) ++ txt a), s_assoc (("(" : Str) ++ txt a)]
end
end Sh

set_option maxHeartbeats 1000000
/-! ShQ: == and in of plain data without truths. -/
namespace Sh
open PySem PySem.Spec PyProof.Rows L2
noncomputable instance : DecidableEq D := fun a b => Classical.propDecidable (a = b)

mutual
/-- numbers, ASCII texts, None, tuples of such -/
def pureD : D → Bool
  | .non => true
  | .int _ => true
  | .str s => PyData.strOk s
  | .tup ds => pureL ds
  | .bl _ => false
  | .loc _ => false
  | .ty _ => false
def pureL : List D → Bool
  | [] => true
  | d :: ds => pureD d && pureL ds
end
mutual
def depD : D → Nat
  | .tup ds => depL ds + 1
  | .non => 0
  | .int _ => 0
  | .str _ => 0
  | .bl _ => 0
  | .loc _ => 0
  | .ty _ => 0
def depL : List D → Nat
  | [] => 0
  | d :: ds => max (depD d) (depL ds)
end
mutual
def toP : D → PyData
  | .non => .none
  | .int i => .int i
  | .str s => .str s
  | .tup ds => .tuple (toPL ds)
  | .bl b => .bool b
  | .loc _ => .none
  | .ty _ => .none
def toPL : List D → List PyData
  | [] => []
  | d :: ds => toP d :: toPL ds
end
mutual
theorem pure_py (res : Nat → Option PyData) : ∀ d : D, pureD d = true → toPyW res d = some (toP d)
  | .non, _ => by unfold toPyW toP; rfl
  | .int _, _ => by unfold toPyW toP; rfl
  | .str _, _ => by unfold toPyW toP; rfl
  | .tup ds, h => by
    unfold pureD at h
    unfold toPyW toP
    rw [pure_pyL res ds h]
    rfl
  | .bl _, h => by simp [pureD] at h
  | .loc _, h => by simp [pureD] at h
  | .ty _, h => by simp [pureD] at h
theorem pure_pyL (res : Nat → Option PyData) : ∀ ds : List D, pureL ds = true → toPyWL res ds = some (toPL ds)
  | [], _ => by unfold toPyWL toPL; rfl
  | d :: ds, h => by
    unfold pureL at h
    rw [Bool.and_eq_true] at h
    unfold toPyWL toPL
    rw [pure_py res d h.1, pure_pyL res ds h.2]
end
mutual
theorem pure_lay : ∀ d : D, pureD d = true → (toP d).canLay0 = true
  | .non, _ => by simp [toP, PyData.canLay0]
  | .int _, _ => by simp [toP, PyData.canLay0]
  | .str _, h => by simpa [toP, PyData.canLay0, pureD] using h
  | .tup ds, h => by
    unfold pureD at h
    simpa [toP, PyData.canLay0] using pure_layL ds h
  | .bl _, h => by simp [pureD] at h
  | .loc _, h => by simp [pureD] at h
  | .ty _, h => by simp [pureD] at h
theorem pure_layL : ∀ ds : List D, pureL ds = true → PyData.canLayAll0 (toPL ds) = true
  | [], _ => by simp [toPL, PyData.canLayAll0]
  | d :: ds, h => by
    unfold pureL at h
    rw [Bool.and_eq_true] at h
    simp [toPL, PyData.canLayAll0, pure_lay d h.1, pure_layL ds h.2]
end
mutual
theorem pure_dep : ∀ d : D, (toP d).depth = depD d
  | .non => by simp [toP, PyData.depth, depD]
  | .int _ => by simp [toP, PyData.depth, depD]
  | .str _ => by simp [toP, PyData.depth, depD]
  | .tup ds => by simp [toP, PyData.depth, depD, pure_depL ds]
  | .bl _ => by simp [toP, PyData.depth, depD]
  | .loc _ => by simp [toP, PyData.depth, depD]
  | .ty _ => by simp [toP, PyData.depth, depD]
theorem pure_depL : ∀ ds : List D, PyData.depthAll (toPL ds) = depL ds
  | [] => by simp [toPL, PyData.depthAll, depL]
  | d :: ds => by simp [toPL, PyData.depthAll, depL, pure_dep d, pure_depL ds]
end
mutual
theorem pure_eqv : ∀ d e : D, pureD d = true → pureD e = true → PyData.eqv (toP d) (toP e) = decide (d = e)
  | .non, .non, _, _ => by simp [toP, PyData.eqv]
  | .non, .int _, _, _ => by simp [toP, PyData.eqv]
  | .non, .str _, _, _ => by simp [toP, PyData.eqv]
  | .non, .tup _, _, _ => by simp [toP, PyData.eqv]
  | .int _, .non, _, _ => by simp [toP, PyData.eqv]
  | .int i, .int j, _, _ => by simp only [toP, PyData.eqv]; by_cases h : i = j <;> simp [h]
  | .int _, .str _, _, _ => by simp [toP, PyData.eqv]
  | .int _, .tup _, _, _ => by simp [toP, PyData.eqv]
  | .str _, .non, _, _ => by simp [toP, PyData.eqv]
  | .str _, .int _, _, _ => by simp [toP, PyData.eqv]
  | .str i, .str j, _, _ => by simp only [toP, PyData.eqv]; by_cases h : i = j <;> simp [h]
  | .str _, .tup _, _, _ => by simp [toP, PyData.eqv]
  | .tup _, .non, _, _ => by simp [toP, PyData.eqv]
  | .tup _, .int _, _, _ => by simp [toP, PyData.eqv]
  | .tup _, .str _, _, _ => by simp [toP, PyData.eqv]
  | .tup ds, .tup es, h, h' => by
    unfold pureD at h h'
    simp only [toP, PyData.eqv]
    rw [pure_eqvL ds es h h']
    by_cases q : ds = es <;> simp [q]
  | .bl _, _, h, _ => by simp [pureD] at h
  | .loc _, _, h, _ => by simp [pureD] at h
  | .ty _, _, h, _ => by simp [pureD] at h
  | .non, .bl _, _, h => by simp [pureD] at h
  | .non, .loc _, _, h => by simp [pureD] at h
  | .non, .ty _, _, h => by simp [pureD] at h
  | .int _, .bl _, _, h => by simp [pureD] at h
  | .int _, .loc _, _, h => by simp [pureD] at h
  | .int _, .ty _, _, h => by simp [pureD] at h
  | .str _, .bl _, _, h => by simp [pureD] at h
  | .str _, .loc _, _, h => by simp [pureD] at h
  | .str _, .ty _, _, h => by simp [pureD] at h
  | .tup _, .bl _, _, h => by simp [pureD] at h
  | .tup _, .loc _, _, h => by simp [pureD] at h
  | .tup _, .ty _, _, h => by simp [pureD] at h
theorem pure_eqvL : ∀ ds es : List D, pureL ds = true → pureL es = true → PyData.eqvAll (toPL ds) (toPL es) = decide (ds = es)
  | [], [], _, _ => by simp [toPL, PyData.eqvAll]
  | [], _ :: _, _, _ => by simp [toPL, PyData.eqvAll]
  | _ :: _, [], _, _ => by simp [toPL, PyData.eqvAll]
  | d :: ds, e :: es, h, h' => by
    unfold pureL at h h'
    rw [Bool.and_eq_true] at h h'
    simp only [toPL, PyData.eqvAll]
    rw [pure_eqv d e h.1 h'.1, pure_eqvL ds es h.2 h'.2]
    by_cases q : d = e <;> by_cases q2 : ds = es <;> simp [q, q2]
end
theorem pureL_iff {ds : List D} : pureL ds = true ↔ ∀ d ∈ ds, pureD d = true := by
  induction ds with
  | nil => simp [pureL]
  | cons d r ih => simp [pureL, ih]
theorem depL_le {ds : List D} {n : Nat} : depL ds ≤ n ↔ ∀ d ∈ ds, depD d ≤ n := by
  induction ds with
  | nil => simp [depL]
  | cons d r ih => rw [depL, Nat.max_le, ih]; simp
/-- plain data that is not too deep -/
structure Pl (d : D) : Prop where
  pu : pureD d = true
  dp : depD d ≤ 180
structure PlL (ds : List D) : Prop where
  pu : pureL ds = true
  dp : depL ds ≤ 179
theorem pl_tup {ds : List D} : Pl (.tup ds) ↔ PlL ds := ⟨fun h => ⟨by have := h.pu; simpa [pureD] using this, by have := h.dp; simp [depD] at this; omega⟩, fun h => ⟨by simpa [pureD] using h.pu, by simp only [depD]; exact Nat.succ_le_succ h.dp⟩⟩
theorem plL_iff {ds : List D} : PlL ds ↔ ∀ d ∈ ds, pureD d = true ∧ depD d ≤ 179 := ⟨fun h d hd => ⟨pureL_iff.mp h.pu d hd, depL_le.mp h.dp d hd⟩, fun h => ⟨pureL_iff.mpr fun d hd => (h d hd).1, depL_le.mpr fun d hd => (h d hd).2⟩⟩
theorem pl_int {i : Int} : Pl (.int i) := ⟨rfl, by simp [depD]⟩
theorem pl_non : Pl .non := ⟨rfl, by simp [depD]⟩
theorem pl_str {s : Str} (h : PyData.strOk s = true) : Pl (.str s) := ⟨h, by simp [depD]⟩
theorem pl_sh {d : D} (h : Pl d) : shX (toP d) = true := by
  unfold shX
  rw [Bool.and_eq_true]
  exact ⟨pure_lay d h.pu, decide_eq_true (by rw [pure_dep]; exact h.dp)⟩
theorem pl_py {d : D} (h : Pl d) (st : Sto) : ∀ n, toPy st n d = some (toP d)
  | 0 => by unfold toPy; exact pure_py _ d h.pu
  | _ + 1 => by unfold toPy; exact pure_py _ d h.pu
theorem deep_pl {d e : D} {st : Sto} (h : Pl d) (h' : Pl e) : deepEq d e st = some (decide (d = e)) := by
  unfold deepEq
  rw [pl_py h, pl_py h']
  dsimp only
  rw [pl_sh h, pl_sh h', Bool.and_self, if_pos rfl, pure_eqv d e h.pu h'.pu]
theorem eq_pl {d e : D} {st : Sto} (h : Pl d) (h' : Pl e) : eqDat d e st = some (decide (d = e)) := by
  unfold eqDat
  split
  · rename_i i j
    by_cases q : i = j <;> simp [q]
  · rename_i i j
    by_cases q : i = j <;> simp [q]
  · rename_i i j
    by_cases q : i = j <;> simp [q]
  · simp
  · exact deep_pl h h'
theorem oEq_pl {d e : D} {st : Sto} (h : Pl d) (h' : Pl e) : oEq d e st = some (.bl (decide (d = e)), st) := by unfold oEq; rw [eq_pl h h']
theorem oNe_pl {d e : D} {st : Sto} (h : Pl d) (h' : Pl e) : oNe d e st = some (.bl (!decide (d = e)), st) := by unfold oNe; rw [eq_pl h h']
/-- a list of plain data in the store -/
theorem py_lst {st : Sto} {l n : Nat} {ds : List D} (hl : lstAt st l = some ds) (h : PlL ds) : toPy st (n + 1) (.loc l) = some (.list (toPL ds)) := py_loc hl fun res => pure_pyL res ds h.pu
theorem sh_lst {ds : List D} (h : PlL ds) : shX (.list (toPL ds)) = true := by
  unfold shX
  rw [Bool.and_eq_true]
  refine ⟨by rw [PyData.canLay0]; exact pure_layL ds h.pu, decide_eq_true ?_⟩
  rw [PyData.depth, pure_depL]
  exact Nat.succ_le_succ h.dp
theorem eq_lstL {st : Sto} {l m : Nat} {ds es : List D} (hl : lstAt st l = some ds) (hm : lstAt st m = some es) (h : PlL ds) (h' : PlL es) : eqDat (.loc l) (.loc m) st = some (decide (ds = es)) := by
  show deepEq (.loc l) (.loc m) st = _
  unfold deepEq
  rw [py_lst hl h, py_lst hm h']
  dsimp only
  rw [sh_lst h, sh_lst h', Bool.and_self, if_pos rfl]
  show some (PyData.eqv (.list (toPL ds)) (.list (toPL es))) = _
  rw [PyData.eqv, pure_eqvL ds es h.pu h'.pu]
theorem oNe_lstL {st : Sto} {l m : Nat} {ds es : List D} (hl : lstAt st l = some ds) (hm : lstAt st m = some es) (h : PlL ds) (h' : PlL es) : oNe (.loc l) (.loc m) st = some (.bl (!decide (ds = es)), st) := by unfold oNe; rw [eq_lstL hl hm h h']
theorem oEq_lstL {st : Sto} {l m : Nat} {ds es : List D} (hl : lstAt st l = some ds) (hm : lstAt st m = some es) (h : PlL ds) (h' : PlL es) : oEq (.loc l) (.loc m) st = some (.bl (decide (ds = es)), st) := by unfold oEq; rw [eq_lstL hl hm h h']
theorem plL_nil : PlL [] := ⟨rfl, by simp [depL]⟩
/-! in -/
theorem any_pl {d : D} (h : Pl d) : ∀ {es : List D}, PlL es → ((toPL es).any fun z => PyData.eqv z (toP d)) = decide (d ∈ es)
  | [], _ => by simp [toPL]
  | e :: r, h' => by
    have h1 := plL_iff.mp h'
    have h2 : PlL r := plL_iff.mpr fun x hx => h1 x (List.mem_cons_of_mem _ hx)
    rw [toPL, List.any_cons, any_pl h h2, pure_eqv e d (h1 e List.mem_cons_self).1 h.pu]
    by_cases q : d = e
    · subst q; simp
    · by_cases q2 : d ∈ r <;> simp [q, q2, Ne.symm q]
theorem eqD_pl {d e : D} (h : pureD d = true) (h' : pureD e = true) (f : flatD d = true) (f' : flatD e = true) : eqD e d = decide (d = e) := by
  cases d <;> cases e <;> simp [pureD, flatD] at h h' f f' <;> simp [eqD]
  · rename_i i j; by_cases q : i = j
    · simp [q]
    · simp [q, Ne.symm q]
  · rename_i i j; by_cases q : i = j
    · simp [q]
    · simp [q, Ne.symm q]
theorem inD_pl {d : D} (h : Pl d) (f : flatD d = true) : ∀ {es : List D}, PlL es → es.all flatD = true → inD d es = decide (d ∈ es)
  | [], _, _ => by simp [inD]
  | e :: r, h', f' => by
    have h1 := plL_iff.mp h'
    have h2 : PlL r := plL_iff.mpr fun x hx => h1 x (List.mem_cons_of_mem _ hx)
    rw [List.all_cons, Bool.and_eq_true] at f'
    have ih := inD_pl h f h2 f'.2
    unfold inD at ih ⊢
    rw [List.any_cons, ih, eqD_pl h.pu (h1 e List.mem_cons_self).1 f f'.1]
    by_cases q : d = e <;> by_cases q2 : d ∈ r <;> simp [q, q2]
theorem in_tupL {d : D} {es : List D} {st : Sto} (h : Pl d) (h' : PlL es) : isInX d (.tup es) st = some (decide (d ∈ es)) := by
  unfold isInX isIn
  dsimp only
  by_cases f : (flatD d && es.all flatD) = true
  · rw [if_pos f]
    rw [Bool.and_eq_true] at f
    dsimp only
    rw [inD_pl h f.1 h' f.2]
  · rw [if_neg f]
    dsimp only
    unfold inDeep
    rw [pl_py h, pl_py (pl_tup.mpr h')]
    have : toP (.tup es) = .tuple (toPL es) := by simp [toP]
    rw [this]
    dsimp only
    rw [pl_sh h, pure_layL es h'.pu, Bool.and_self, if_pos rfl, any_pl h h']
theorem in_lstL {d : D} {es : List D} {st : Sto} {l : Nat} (hl : lstAt st l = some es) (h : Pl d) (h' : PlL es) : isInX d (.loc l) st = some (decide (d ∈ es)) := by
  unfold isInX isIn
  dsimp only
  rw [hl]
  dsimp only
  by_cases f : (flatD d && es.all flatD) = true
  · rw [if_pos f]
    rw [Bool.and_eq_true] at f
    dsimp only
    rw [inD_pl h f.1 h' f.2]
  · rw [if_neg f]
    dsimp only
    unfold inDeep
    rw [pl_py h, py_lst hl h']
    dsimp only
    rw [pl_sh h, pure_layL es h'.pu, Bool.and_self, if_pos rfl, any_pl h h']
theorem oInX_tup {d : D} {es : List D} {st : Sto} (h : Pl d) (h' : PlL es) : oInX d (.tup es) st = some (.bl (decide (d ∈ es)), st) := by unfold oInX; rw [in_tupL h h']
theorem oInX_lst {d : D} {es : List D} {st : Sto} {l : Nat} (hl : lstAt st l = some es) (h : Pl d) (h' : PlL es) : oInX d (.loc l) st = some (.bl (decide (d ∈ es)), st) := by unfold oInX; rw [in_lstL hl h h']
theorem oNotInX_tup {d : D} {es : List D} {st : Sto} (h : Pl d) (h' : PlL es) : oNotInX d (.tup es) st = some (.bl (!decide (d ∈ es)), st) := by unfold oNotInX; rw [in_tupL h h']
theorem oNotInX_lst {d : D} {es : List D} {st : Sto} {l : Nat} (hl : lstAt st l = some es) (h : Pl d) (h' : PlL es) : oNotInX d (.loc l) st = some (.bl (!decide (d ∈ es)), st) := by unfold oNotInX; rw [in_lstL hl h h']
theorem k_sortSet {P : D → Sto → Prop} {E : Str → Sto → Prop} {st : Sto} {en : Ev} (m : EM) : OkX (eSortSet m en st) P E = OkX (m en st) (fun d st1 => match itemsD d st1 with
    | some es => (match asStrs es with
      | some ss => if (uniq ss).length ≤ 4000 then P (.loc st1.length) (st1 ++ [.lst ((srtS (uniq ss)).map D.str)]) else False
      | none => False)
    | none => False) E := by
  unfold eSortSet
  rw [k_bnd]
  congr 1
  funext d st1
  show OkX (match itemsD d st1 with | some es => (match asStrs es with | some ss => if (uniq ss).length ≤ 4000 then R.ok (D.loc st1.length) (st1 ++ [.lst ((srtS (uniq ss)).map D.str)]) else .bad | none => R.bad) | none => R.bad) P E = _
  cases itemsD d st1 with
  | none => rfl
  | some es =>
    dsimp only
    cases asStrs es with
    | none => rfl
    | some ss =>
      dsimp only
      by_cases h : (uniq ss).length ≤ 4000
      · rw [if_pos h, if_pos h]; rfl
      · rw [if_neg h, if_neg h]; rfl
theorem k_range2 {P : Nat × Src → Sto → Prop} {E : Str → Sto → Prop} {st : Sto} {en : Ev} (as : AM) : OkX (iRange2 as en st) P E = OkX (as en st) (fun ds st1 => match ds with
    | [.int i, .int j] => if -(2 ^ 62) ≤ i ∧ i < 2 ^ 62 ∧ -(2 ^ 62) ≤ j ∧ j < 2 ^ 62 then P ((j - i).toNat, srcIts ((List.range (j - i).toNat).map fun (k : Nat) => D.int (i + (k : Int)))) st1 else False
    | _ => False) E := by
  unfold iRange2
  rw [k_bnd]
  congr 1
  funext ds st1
  rcases ds with _ | ⟨a, _ | ⟨b, _ | ⟨c, r⟩⟩⟩
  · rfl
  · cases a <;> rfl
  · cases a <;> cases b <;> try rfl
    dsimp only
    rw [k_ite']
    rfl
  · cases a <;> cases b <;> rfl
theorem cut_upto {xs : List D} {n : Nat} : cutD xs none (some (n : Int)) = xs.take n := by
  unfold cutD
  rw [HT.sIx_none, HT.sIx_nat, List.drop_zero, Nat.sub_zero]
  by_cases h : n ≤ xs.length
  · rw [Nat.min_eq_left h]
  · rw [Nat.min_eq_right (by omega), List.take_length, List.take_of_length_le (by omega)]
theorem sl_upto {st : Sto} {l n : Nat} {xs : List D} (h : st[l]? = some (.lst xs)) : slD (.loc l) none (some (n : Int)) st = some (.loc st.length, st ++ [.lst (xs.take n)]) := by
  unfold slD
  dsimp only
  rw [lst_at h]
  dsimp only
  rw [cut_upto]
/-! words of the walk -/
theorem iadd_i {i j : Int} {st : Sto} : oIAddX (.int i) (.int j) st = some (.int (i + j), st) := rfl
theorem ix_0 {d : D} {ds : List D} {st : Sto} : oIx (.tup (d :: ds)) (.int 0) st = some (d, st) := ix_tup (by rw [at_nat (by omega) (by rw [List.length_cons]; omega)]; rfl)
theorem ix_1 {d e : D} {ds : List D} {st : Sto} : oIx (.tup (d :: e :: ds)) (.int 1) st = some (e, st) := ix_tup (by rw [at_nat (by omega) (by rw [List.length_cons, List.length_cons]; omega)]; rfl)
theorem ix_2 {d e f : D} {ds : List D} {st : Sto} : oIx (.tup (d :: e :: f :: ds)) (.int 2) st = some (f, st) := ix_tup (by rw [at_nat (by omega) (by rw [List.length_cons, List.length_cons, List.length_cons]; omega)]; rfl)
theorem sub_i {i j : Int} {st : Sto} : oSub (.int i) (.int j) st = some (.int (i - j), st) := rfl
theorem flat_str {s : Str} : flatD (.str s) = true := rfl
theorem flat_int {i : Int} : flatD (.int i) = true := rfl
theorem flat_non : flatD .non = true := rfl
theorem sz_0 : (0 ≤ sizeLine) = True := eq_true (by decide)
theorem sz_1 : (1 ≤ sizeLine) = True := eq_true (by decide)
theorem sz_2 : (2 ≤ sizeLine) = True := eq_true (by decide)
theorem sz_3 : (3 ≤ sizeLine) = True := eq_true (by decide)
theorem sz_4 : (4 ≤ sizeLine) = True := eq_true (by decide)
theorem sz_5 : (5 ≤ sizeLine) = True := eq_true (by decide)
theorem sz_6 : (6 ≤ sizeLine) = True := eq_true (by decide)
theorem sz_7 : (7 ≤ sizeLine) = True := eq_true (by decide)
theorem sz_8 : (8 ≤ sizeLine) = True := eq_true (by decide)
theorem sz_9 : (9 ≤ sizeLine) = True := eq_true (by decide)
theorem inC_strs {s : Str} {ws : List Str} : inD (.str s) (ws.map D.str) = decide (s ∈ ws) := inC_str s ws
theorem tup_i {ds es : List D} {st : Sto} (h : ds.length + es.length ≤ 100000) : oAdd (.tup ds) (.tup es) st = some (.tup (ds ++ es), st) := by
  unfold oAdd
  dsimp only
  exact if_pos (sz h)
/-- what stood stands; more may have come behind -/
structure Ext (st st' : Sto) : Prop where
  len : st.length ≤ st'.length
  keep : ∀ l, l < st.length → st'[l]? = st[l]?
theorem Ext.refl {st : Sto} : Ext st st := ⟨Nat.le_refl _, fun _ _ => rfl⟩
theorem Ext.trans {a b c : Sto} (h : Ext a b) (k : Ext b c) : Ext a c := ⟨Nat.le_trans h.len k.len, fun l hl => (k.keep l (Nat.lt_of_lt_of_le hl h.len)).trans (h.keep l hl)⟩
theorem Ext.app {st u : Sto} : Ext st (st ++ u) := ⟨by rw [List.length_append]; omega, fun l hl => List.getElem?_append_left hl⟩
theorem Ext.appR {st s u : Sto} (h : Ext st s) : Ext st (s ++ u) := h.trans Ext.app
theorem Ext.setR {st s : Sto} {l : Nat} {o : O} (h : Ext st s) (n : st.length ≤ l) : Ext st (s.set l o) := ⟨by rw [List.length_set]; exact h.len, fun j hj => by rw [List.getElem?_set_ne (by omega)]; exact h.keep j hj⟩
theorem Ext.get {st s : Sto} {l : Nat} {o : O} (h : Ext st s) (e : st[l]? = some o) : s[l]? = some o := (h.keep l (lift_len e)).trans e
theorem Ext.out {st s : Sto} (h : Ext st s) : ∃ u, s = st ++ u := ⟨s.drop st.length, by
  apply List.ext_getElem?
  intro i
  by_cases hi : i < st.length
  · rw [List.getElem?_append_left hi, h.keep i hi]
  · rw [List.getElem?_append_right (by omega), List.getElem?_drop]
    congr 1
    omega⟩
theorem Ext.of {st u : Sto} {s : Sto} (e : s = st ++ u) : Ext st s := e ▸ Ext.app
theorem Ext.gr {s g : Nat} {st st' : Sto} (h : Ext st st') : Gr s g st st' := ⟨h.len, fun l o _ _ e => h.get e⟩
theorem Ext.dr {s g c : Nat} {st st' : Sto} (h : Ext st st') (d : Dr s g c st) : Dr s g c st' := by
  obtain ⟨u, rfl⟩ := h.out
  exact d.app
theorem isTy_lst {st : Sto} {l : Nat} {ds : List D} (h : st[l]? = some (.lst ds)) : isTyD "list" (.loc l) st = true := by
  unfold isTyD
  dsimp only
  rw [h]
  rfl
theorem oNotIn_strs {st : Sto} {l : Nat} {ws : List Str} {z : Str} (h : lstAt st l = some (ws.map D.str)) : oNotIn (.str z) (.loc l) st = some (.bl (!decide (z ∈ ws)), st) := by
  unfold oNotIn
  rw [in_strs h]
theorem oIn_strs {st : Sto} {l : Nat} {ws : List Str} {z : Str} (h : lstAt st l = some (ws.map D.str)) : oIn (.str z) (.loc l) st = some (.bl (decide (z ∈ ws)), st) := by
  unfold oIn
  rw [in_strs h]
theorem for_rng {b : SM} {tg : D → Ev → Option Ev} {n : Nat} {en : Ev} {st : Sto} {p : Po} (I : Nat → Ev → Sto → Prop) (h0 : I 0 en st)
    (hs : ∀ (i : Nat) en st, i < n → I i en st → ∃ en1, tg (.int (i : Int)) en = some en1 ∧ OkS (b en1 st) { p with nx := I (i + 1), ct := I (i + 1), bk := p.nx })
    (hd : ∀ en st, I n en st → p.nx en st) : OkS (sFor b tg (srcIts ((List.range n).map fun (k : Nat) => D.int (k : Int))) n 0 en st) p := by
  have hl : ((List.range n).map fun (k : Nat) => D.int (k : Int)).length = n := by rw [List.length_map, List.length_range]
  have := for_its (b := b) (tg := tg) (p := p) (ds := (List.range n).map fun (k : Nat) => D.int (k : Int)) I h0 (fun i d en st hd hI => by
    have hi : i < n := by
      have := (List.getElem?_eq_some_iff.mp hd).1
      rwa [hl] at this
    rw [List.getElem?_map, List.getElem?_range hi] at hd
    cases hd
    exact hs i en st hi hI) (fun en st h => hd en st (by rw [hl] at h; exact h))
  rw [hl] at this
  exact this
/-! lists of texts in order -/
theorem srt_eq {l m : List Str} (h1 : l.Nodup) (h2 : m.Nodup) (h : ∀ x, x ∈ l ↔ x ∈ m) : srtS l = srtS m := pw_unique (srt_pw l) (srt_pw m) ((srt_perm l).trans (((List.perm_ext_iff_of_nodup h1 h2).mpr h).trans (srt_perm m).symm))
theorem srt_filter (p : Str → Bool) (l : List Str) : (srtS l).filter p = srtS (l.filter p) := pw_unique (List.Pairwise.filter p (srt_pw l)) (srt_pw _) (((srt_perm l).filter p).trans (srt_perm _).symm)
end Sh

set_option maxHeartbeats 1000000
namespace Sh
open PySem PySem.Spec PyProof.Rows L2
local macro_rules | `(tactic| walk_at "go") => `(tactic| simp only [k_bnd, k_ret, k_ok, k_bad, k_badM, k_exc, k_lft, k_ite, k_ite', o_some, o_none, o_ite, v_some, k_var, k_c, k_op, k_call, k_call0, k_cb, k_nil, k_cons, k_tup, k_lst, k_bOf, k_bAnd, k_bOr, k_bNot, k_and, k_or, k_not, k_if, k_chain, k_inC, k_neg, k_bm, k_get2, k_pnone, k_psome, k_sl, k_pnil, k_pcons, k_dic, k_gix, k_seq, k_nx, k_rt, k_sbad, k_snil, k_spass, k_set, k_sret, k_sretN, k_sexp, k_sif, k_asg, k_par2, k_par3, k_aug, k_put, k_seqI, k_range1, k_forI, k_lc, List.getElem?_cons_zero, List.getElem?_cons_succ, List.set_cons_zero, List.set_cons_succ, List.length_cons, List.length_nil, if_true, if_false, Bool.not_true, Bool.not_false, Bool.false_eq_true, ite_true, ite_false, reduceIte, Nat.reduceAdd, Nat.zero_add])
def g_size_of : SM :=
  sSeq (sSet 1 (eC (.int 1))) (sSeq (sForI (iRange1 (aCons (eVar 0) (aNil))) (gN 2) (sSet 1 (eOp oMul (eVar 1) (eC (.int 2))))) (sRet (eVar 1)))
def g_worked (f_size_of : Fn) : SM :=
  sSeq (sIf (bOf (eOp oEq (eVar 0) (eC (.str "sum")))) (sRet (eOp oMod (eOp oAdd (eVar 1) (eVar 2)) (eCall 1 f_size_of (aCons (eVar 3) (aNil))))) (sNil)) (sSeq (sIf (bOf (eOp oEq (eVar 0) (eC (.str "less")))) (sRet (eOp oMod (eOp oSub (eVar 1) (eVar 2)) (eCall 1 f_size_of (aCons (eVar 3) (aNil))))) (sNil)) (sRet (eOp oMod (eOp oMul (eVar 1) (eVar 2)) (eCall 1 f_size_of (aCons (eVar 3) (aNil))))))
def g_worth (f_worked f_worth : Fn) : SM :=
  sSeq (sIf (bOf (eOp oEq (eOp oIx (eVar 0) (eC (.int 0))) (eC (.str "number")))) (sRet (eOp oIx (eVar 0) (eC (.int 1)))) (sNil)) (sSeq (sIf (bOf (eOp oEq (eOp oIx (eVar 0) (eC (.int 0))) (eC (.str "at")))) (sRet (eGet2 (eVar 2) (eOp oIx (eVar 0) (eC (.int 1))) (eC (.int 0)))) (sNil)) (sRet (eCall 4 f_worked (aCons (eOp oIx (eVar 0) (eC (.int 0))) (aCons (eCall 3 f_worth (aCons (eOp oIx (eVar 0) (eC (.int 1))) (aCons (eVar 1) (aCons (eVar 2) (aNil))))) (aCons (eCall 3 f_worth (aCons (eOp oIx (eVar 0) (eC (.int 2))) (aCons (eVar 1) (aCons (eVar 2) (aNil))))) (aCons (eVar 1) (aNil))))))))
def g_law_worth (f_law_worth f_law_size : Fn) : SM :=
  sSeq (sIf (bOf (eOp oEq (eOp oIx (eVar 0) (eC (.int 0))) (eC (.str "number")))) (sRet (eOp oIx (eVar 0) (eC (.int 1)))) (sNil)) (sSeq (sIf (bOf (eOp oEq (eOp oIx (eVar 0) (eC (.int 0))) (eC (.str "at")))) (sRet (eGet2 (eVar 2) (eOp oIx (eVar 0) (eC (.int 1))) (eC (.int 0)))) (sNil)) (sSeq (sPar2 3 4 (aCons (eCall 3 f_law_worth (aCons (eOp oIx (eVar 0) (eC (.int 1))) (aCons (eVar 1) (aCons (eVar 2) (aNil))))) (aCons (eCall 3 f_law_worth (aCons (eOp oIx (eVar 0) (eC (.int 2))) (aCons (eVar 1) (aCons (eVar 2) (aNil))))) (aNil)))) (sRet (eOp oMod (eOp oIx (eDic [(eC (.str "sum"), eOp oAdd (eVar 3) (eVar 4)), (eC (.str "less"), eOp oSub (eVar 3) (eVar 4)), (eC (.str "times"), eOp oMul (eVar 3) (eVar 4))]) (eOp oIx (eVar 0) (eC (.int 0)))) (eCall 1 f_law_size (aCons (eVar 1) (aNil)))))))
/-! ### worths of terms -/
def wv (z : Int) (kvs : List (Key × D)) : Trm → Int
  | .num n => n
  | .at u => match lookK kvs (.inr u) with
    | some (.int v) => v
    | _ => 0
  | .op o a b => (if o = "sum" then wv z kvs a + wv z kvs b else if o = "less" then wv z kvs a - wv z kvs b else wv z kvs a * wv z kvs b) % z
def GoodK (z : Int) (kvs : List (Key × D)) : Prop := ∀ kv ∈ kvs, ∃ v : Int, kv.2 = .int v ∧ 0 ≤ v ∧ v < z
theorem GoodK.look {z : Int} {kvs : List (Key × D)} (h : GoodK z kvs) (k : Key) : lookK kvs k = none ∨ ∃ v : Int, lookK kvs k = some (.int v) ∧ 0 ≤ v ∧ v < z := by
  unfold lookK
  cases q : kvs.find? fun kv => decide (kv.1 = k) with
  | none => exact .inl rfl
  | some kv =>
    obtain ⟨v, e, h1⟩ := h kv (List.mem_of_find?_eq_some q)
    exact .inr ⟨v, by rw [Option.map_some, e], h1⟩
theorem wv_rng {z : Int} {kvs : List (Key × D)} {ws : List Str} (hz : 0 < z) (hk : GoodK z kvs) : ∀ {t : Trm}, t.ok z ws → 0 ≤ wv z kvs t ∧ wv z kvs t < z
  | .num n, h => h
  | .at u, _ => by
    unfold wv
    rcases hk.look (.inr u) with e | ⟨v, e, h⟩
    · rw [e]; exact ⟨Int.le_refl 0, hz⟩
    · rw [e]; exact h
  | .op o a b, h => ⟨Int.emod_nonneg _ (by omega), Int.emod_lt_of_pos _ hz⟩
theorem dk_of {st : Sto} {l : Nat} {kvs : List (Key × D)} (h : st[l]? = some (.dic kvs)) : dkAt st l = some kvs := by unfold dkAt; rw [h]
theorem isTy_dic {st : Sto} {l : Nat} {kvs : List (Key × D)} (h : st[l]? = some (.dic kvs)) : isTyD "dict" (.loc l) st = true := by
  unfold isTyD
  dsimp only
  rw [h]
  rfl
section
variable {size worked worth : Fn} {st : Sto} {y : Int} {w K : Nat} {kvs : List (Key × D)} {ws : List Str}
theorem worked_sp (hs : SizeSp size) (hy : y = (w : Int)) (hw : w ≤ 24) {o : Str} (ho : o ∈ opsT) {i j : Int} (h0 : 0 ≤ i) (h1 : i < 2 ^ w) :
    Ok (runDef 4 (g_worked size) [.str o, .int i, .int j, .int y] st) fun d st' => d = .int ((if o = "sum" then i + j else if o = "less" then i - j else i * j) % 2 ^ w) ∧ st' = st := by
  unfold Ok
  rw [k_run, st_4_4]
  unfold g_worked
  have hp := pow24 hw
  have hq := pow_pos' w
  have hs' := fun st => hs st y w hy hw
  generalize (2 : Int) ^ w = z at hp hq h1 hs' ⊢
  walk_at "go"
  rw [eq_s]
  walk_at "go"
  by_cases e1 : o = "sum"
  · rw [if_pos (decide_eq_true e1), if_pos e1, add_i]
    walk_at "go"
    refine Ok.imp (hs' st) fun d s1 ⟨a1, a2⟩ => ?_
    subst a1; subst a2
    rw [mod_i hq]
    exact ⟨by trivial, by trivial⟩
  rw [if_neg (by rw [decide_eq_false e1]; exact Bool.false_ne_true), if_neg e1, eq_s]
  walk_at "go"
  by_cases e2 : o = "less"
  · rw [if_pos (decide_eq_true e2), if_pos e2, sub_i]
    walk_at "go"
    refine Ok.imp (hs' st) fun d s1 ⟨a1, a2⟩ => ?_
    subst a1; subst a2
    rw [mod_i hq]
    exact ⟨by trivial, by trivial⟩
  rw [if_neg (by rw [decide_eq_false e2]; exact Bool.false_ne_true), if_neg e2, mul_l (i := i) (j := j) (by omega)]
  walk_at "go"
  refine Ok.imp (hs' st) fun d s1 ⟨a1, a2⟩ => ?_
  subst a1; subst a2
  rw [mod_i hq]
  exact ⟨by trivial, by trivial⟩
theorem worth_sp (hs : SizeSp size) (hy : y = (w : Int)) (hw : w ≤ 24) {t : Trm} (ht : t.ok (2 ^ w) ws) (hk : GoodK (2 ^ w) kvs) (hK : st[K]? = some (.dic kvs))
    (hwk : ∀ o i j st, o ∈ opsT → 0 ≤ i → i < 2 ^ w → Ok (worked [.str o, .int i, .int j, .int y] st) fun d st' => d = .int ((if o = "sum" then i + j else if o = "less" then i - j else i * j) % 2 ^ w) ∧ st' = st)
    (hr : ∀ o a b, t = .op o a b → (∀ st, st[K]? = some (.dic kvs) → Ok (worth [a.d, .int y, .loc K] st) fun d st' => d = .int (wv (2 ^ w) kvs a) ∧ st' = st) ∧ (∀ st, st[K]? = some (.dic kvs) → Ok (worth [b.d, .int y, .loc K] st) fun d st' => d = .int (wv (2 ^ w) kvs b) ∧ st' = st)) :
    Ok (runDef 3 (g_worth worked worth) [t.d, .int y, .loc K] st) fun d st' => d = .int (wv (2 ^ w) kvs t) ∧ st' = st := by
  unfold Ok
  rw [k_run, st_3_3]
  unfold g_worth
  have k0 : ¬ (("at" : Str) = "number") := by decide +kernel
  have hq := pow_pos' w
  generalize (2 : Int) ^ w = z at hq ht hk hwk hr ⊢
  cases t with
  | num n =>
    unfold Trm.d
    walk_at "go"
    rw [ix_tup rfl]
    walk_at "go"
    rw [eq_s, decide_eq_true (show Str.ofString "number" = Str.ofString "number" from rfl)]
    walk_at "go"
    rw [ix_tup rfl]
    exact ⟨by trivial, by trivial⟩
  | «at» u =>
    unfold Trm.d
    walk_at "go"
    rw [ix_tup rfl]
    walk_at "go"
    rw [eq_s, decide_eq_false k0]
    walk_at "go"
    rw [ix_tup rfl]
    walk_at "go"
    rw [eq_s, decide_eq_true (show Str.ofString "at" = Str.ofString "at" from rfl)]
    walk_at "go"
    rw [if_pos (isTy_dic hK), ix_tup rfl]
    walk_at "go"
    rw [dk_of hK]
    dsimp only [keyOf]
    refine ⟨?_, by trivial⟩
    unfold wv
    rcases hk.look (.inr u) with e | ⟨v, e, h⟩
    · rw [e]; rfl
    · rw [e]; rfl
  | op o a b =>
    obtain ⟨q1, q2, q3, q4, q5⟩ := sg_facts o ht.1
    obtain ⟨ha, hb⟩ := hr o a b rfl
    unfold Trm.d
    walk_at "go"
    rw [ix_tup rfl]
    walk_at "go"
    rw [eq_s, decide_eq_false q1]
    walk_at "go"
    rw [ix_tup rfl]
    walk_at "go"
    rw [eq_s, decide_eq_false q2]
    walk_at "go"
    rw [ix_tup rfl]
    walk_at "go"
    rw [ix_tup rfl]
    walk_at "go"
    refine Ok.imp (ha st hK) fun d s1 ⟨e1, e2⟩ => ?_
    subst e1; subst e2
    rw [ix_tup rfl]
    walk_at "go"
    refine Ok.imp (hb s1 hK) fun d s2 ⟨e1, e2⟩ => ?_
    subst e1; subst e2
    have hra := wv_rng hq hk ht.2.1
    exact hwk o _ _ _ ht.1 hra.1 hra.2
theorem lworth_sp (hs : SizeSp size) (hy : y = (w : Int)) (hw : w ≤ 24) {t : Trm} (ht : t.ok (2 ^ w) ws) (hk : GoodK (2 ^ w) kvs) (hK : st[K]? = some (.dic kvs))
    (hr : ∀ o a b, t = .op o a b → (∀ st, st[K]? = some (.dic kvs) → Ok (worth [a.d, .int y, .loc K] st) fun d st' => d = .int (wv (2 ^ w) kvs a) ∧ ∃ u, st' = st ++ u) ∧ (∀ st, st[K]? = some (.dic kvs) → Ok (worth [b.d, .int y, .loc K] st) fun d st' => d = .int (wv (2 ^ w) kvs b) ∧ ∃ u, st' = st ++ u)) :
    Ok (runDef 5 (g_law_worth worth size) [t.d, .int y, .loc K] st) fun d st' => d = .int (wv (2 ^ w) kvs t) ∧ ∃ u, st' = st ++ u := by
  unfold Ok
  rw [k_run, st_5_3]
  unfold g_law_worth
  have k0 : ¬ (("at" : Str) = "number") := by decide +kernel
  have hp := pow24 hw
  have hq := pow_pos' w
  have hs' := fun st => hs st y w hy hw
  generalize (2 : Int) ^ w = z at hp hq ht hk hr hs' ⊢
  cases t with
  | num n =>
    unfold Trm.d
    walk_at "go"
    rw [ix_tup rfl]
    walk_at "go"
    rw [eq_s, decide_eq_true (show Str.ofString "number" = Str.ofString "number" from rfl)]
    walk_at "go"
    rw [ix_tup rfl]
    exact ⟨by trivial, [], (List.append_nil _).symm⟩
  | «at» u =>
    unfold Trm.d
    walk_at "go"
    rw [ix_tup rfl]
    walk_at "go"
    rw [eq_s, decide_eq_false k0]
    walk_at "go"
    rw [ix_tup rfl]
    walk_at "go"
    rw [eq_s, decide_eq_true (show Str.ofString "at" = Str.ofString "at" from rfl)]
    walk_at "go"
    rw [if_pos (isTy_dic hK), ix_tup rfl]
    walk_at "go"
    rw [dk_of hK]
    dsimp only [keyOf]
    refine ⟨?_, [], (List.append_nil _).symm⟩
    unfold wv
    rcases hk.look (.inr u) with e | ⟨v, e, h⟩
    · rw [e]; rfl
    · rw [e]; rfl
  | op o a b =>
    obtain ⟨q1, q2, q3, q4, q5⟩ := sg_facts o ht.1
    obtain ⟨ha, hb⟩ := hr o a b rfl
    have hra := wv_rng hq hk ht.2.1
    unfold Trm.d
    walk_at "go"
    rw [ix_tup rfl]
    walk_at "go"
    rw [eq_s, decide_eq_false q1]
    walk_at "go"
    rw [ix_tup rfl]
    walk_at "go"
    rw [eq_s, decide_eq_false q2]
    walk_at "go"
    rw [ix_tup rfl]
    walk_at "go"
    refine Ok.imp (ha st hK) fun d s1 ⟨e1, u1, e2⟩ => ?_
    subst e1; subst e2
    rw [ix_tup rfl]
    walk_at "go"
    refine Ok.imp (hb _ (app_get hK)) fun d s2 ⟨e1, u2, e2⟩ => ?_
    subst e1; subst e2
    rw [add_i]
    walk_at "go"
    rw [sub_i]
    walk_at "go"
    rw [mul_l (i := wv z kvs a) (j := wv z kvs b) (by omega)]
    walk_at "go"
    refine ⟨_, rfl, last_at, by show 3 ≤ 15; omega, ?_⟩
    generalize hX : wv z kvs a = X
    generalize hY : wv z kvs b = Y
    rw [show ∀ q : Sto, (q ++ [O.dic []]).set q.length (.dic (mergeD [] [(.inr "sum", .int (X + Y)), (.inr "less", .int (X - Y)), (.inr "times", .int (X * Y))])) = q ++ [.dic (mergeD [] [(.inr "sum", .int (X + Y)), (.inr "less", .int (X - Y)), (.inr "times", .int (X * Y))])] from fun q => by rw [List.set_append_right _ _ (Nat.le_refl _), Nat.sub_self]; rfl]
    rw [ix_tup rfl]
    walk_at "go"
    have hlk : lookK (mergeD [] [(.inr "sum", .int (X + Y)), (.inr "less", .int (X - Y)), (.inr "times", .int (X * Y))]) (.inr o : Key) = some (.int (if o = "sum" then X + Y else if o = "less" then X - Y else X * Y)) := by
      have ho := ht.1
      simp only [List.mem_cons, List.mem_nil_iff, or_false] at ho
      have k1 : ¬ (("sum" : Str) = "less") := by decide +kernel
      have k2 : ¬ (("sum" : Str) = "times") := by decide +kernel
      have k3 : ¬ (("less" : Str) = "times") := by decide +kernel
      have k4 : ¬ (("less" : Str) = "sum") := fun h => k1 (Eq.symm h)
      have k5 : ¬ (("times" : Str) = "sum") := fun h => k2 (Eq.symm h)
      have k6 : ¬ (("times" : Str) = "less") := fun h => k3 (Eq.symm h)
      rcases ho with rfl | rfl | rfl
      · simp [lookK, mergeD, putD, k1, k2, k3, k4, k5, k6]
      · simp [lookK, mergeD, putD, k1, k2, k3, k4, k5, k6]
      · simp [lookK, mergeD, putD, k1, k2, k3, k4, k5, k6]
    rw [ix_dic last_at hlk]
    walk_at "go"
    refine Ok.imp (hs' _) fun d s1 ⟨a1, a2⟩ => ?_
    subst a1; subst a2
    rw [mod_i hq]
    refine ⟨?_, _, by rw [List.append_assoc, List.append_assoc]⟩
    rw [← hX, ← hY]
    rfl
end
/-! ### dicts of numbers -/
theorem putD_good {z v : Int} {kvs : List (Key × D)} {k : Key} (h : GoodK z kvs) (h0 : 0 ≤ v) (h1 : v < z) : GoodK z (putD kvs k (.int v)) := by
  intro kv hkv
  unfold putD at hkv
  split at hkv
  · obtain ⟨x, hx, rfl⟩ := List.mem_map.mp hkv
    split
    · exact ⟨v, rfl, h0, h1⟩
    · exact h x hx
  · rcases List.mem_append.mp hkv with hx | hx
    · exact h kv hx
    · rw [List.mem_singleton.mp hx]
      exact ⟨v, rfl, h0, h1⟩
theorem putD_len {kvs : List (Key × D)} {k : Key} {v : D} : (putD kvs k v).length ≤ kvs.length + 1 := by
  unfold putD
  split
  · rw [List.length_map]; omega
  · rw [List.length_append, List.length_singleton]; omega
theorem putD_nd {kvs : List (Key × D)} {k : Key} {v : D} (h : (kvs.map (·.1)).Nodup) : ((putD kvs k v).map (·.1)).Nodup := by
  unfold putD
  split
  · rw [List.map_map]
    have : (Prod.fst ∘ fun kv : Key × D => if kv.1 = k then (kv.1, v) else kv) = Prod.fst := by
      funext kv
      show (if kv.1 = k then (kv.1, v) else kv).1 = kv.1
      split <;> rfl
    rw [this]
    exact h
  · rename_i hn
    rw [List.map_append, List.nodup_append]
    refine ⟨h, by simp, fun a ha b hb e => hn ?_⟩
    have hb : b = k := by simpa using hb
    obtain ⟨x, hx, rfl⟩ := List.mem_map.mp ha
    exact List.any_eq_true.mpr ⟨x, hx, decide_eq_true (e.trans hb)⟩
theorem mergeD_all {z : Int} : ∀ {more acc : List (Key × D)}, GoodK z acc → GoodK z more → (acc.map (·.1)).Nodup → GoodK z (mergeD acc more) ∧ ((mergeD acc more).map (·.1)).Nodup ∧ (mergeD acc more).length ≤ acc.length + more.length
  | [], acc, h, _, hn => ⟨h, hn, Nat.le_refl _⟩
  | kv :: r, acc, h, hm, hn => by
    obtain ⟨v, e, h0, h1⟩ := hm kv List.mem_cons_self
    have h2 : GoodK z (putD acc kv.1 kv.2) := by rw [e]; exact putD_good h h0 h1
    obtain ⟨a, b, c⟩ := mergeD_all (more := r) (acc := putD acc kv.1 kv.2) h2 (fun x hx => hm x (List.mem_cons_of_mem _ hx)) (putD_nd hn)
    have := putD_len (kvs := acc) (k := kv.1) (v := kv.2)
    refine ⟨a, b, Nat.le_trans c ?_⟩
    rw [List.length_cons]
    omega
theorem look_nd {κ : Type} [DecidableEq κ] : ∀ {kvs : List (κ × D)}, (kvs.map (·.1)).Nodup → ∀ p ∈ kvs, lookK kvs p.1 = some p.2
  | [], _, _, h => by cases h
  | q :: r, h, p, hp => by
    rw [List.map_cons, List.nodup_cons] at h
    unfold lookK
    rw [List.find?_cons]
    rcases List.mem_cons.mp hp with rfl | hp
    · rw [decide_eq_true rfl]; rfl
    · have : ¬ q.1 = p.1 := fun e => h.1 (List.mem_map.mpr ⟨p, hp, e.symm⟩)
      rw [decide_eq_false this]
      exact look_nd h.2 p hp
theorem alike_self {z : Int} {kvs : List (Key × D)} (h : GoodK z kvs) (hn : (kvs.map (·.1)).Nodup) : alikeD kvs kvs = true := by
  unfold alikeD
  rw [decide_eq_true rfl, Bool.true_and]
  refine List.all_eq_true.mpr fun p hp => ?_
  rw [look_nd hn p hp]
  obtain ⟨v, e, _⟩ := h p hp
  dsimp only
  rw [e]
  exact decide_eq_true rfl
/-- the pairs of a comprehension -/
theorem asDP_pairs : ∀ l : List (Str × Int), asDP (l.map fun p => D.tup [.str p.1, .int p.2]) = some (l.map fun p => ((.inr p.1 : Key), D.int p.2))
  | [] => rfl
  | p :: r => by
    rw [List.map_cons]
    unfold asDP
    rw [asDP_pairs r]
    rfl
end Sh

set_option maxHeartbeats 1000000
namespace Sh
open PySem PySem.Spec PyProof.Rows L2
local macro_rules | `(tactic| walk_at "go") => `(tactic| simp only [k_bnd, k_ret, k_ok, k_bad, k_badM, k_exc, k_lft, k_ite, k_ite', o_some, o_none, o_ite, v_some, k_var, k_c, k_op, k_call, k_call0, k_cb, k_nil, k_cons, k_tup, k_lst, k_bOf, k_bAnd, k_bOr, k_bNot, k_and, k_or, k_not, k_if, k_chain, k_inC, k_neg, k_bm, k_get2, k_pnone, k_psome, k_sl, k_pnil, k_pcons, k_dic, k_gix, k_seq, k_nx, k_rt, k_sbad, k_snil, k_spass, k_set, k_sret, k_sretN, k_sexp, k_sif, k_asg, k_par2, k_par3, k_aug, k_put, k_seqI, k_range1, k_forI, k_lc, List.getElem?_cons_zero, List.getElem?_cons_succ, List.set_cons_zero, List.set_cons_succ, List.length_cons, List.length_nil, if_true, if_false, Bool.not_true, Bool.not_false, Bool.false_eq_true, ite_true, ite_false, reduceIte, Nat.reduceAdd, Nat.zero_add])
local macro_rules | `(tactic| walk_at "gg") => `(tactic| simp only [k_bnd, k_ret, k_ok, k_bad, k_badM, k_exc, k_lft, k_ite, k_ite', o_some, o_none, o_ite, v_some, k_var, k_c, k_op, k_call, k_call0, k_cb, k_nil, k_cons, k_tup, k_lst, k_bOf, k_bAnd, k_bOr, k_bNot, k_and, k_or, k_not, k_if, k_chain, k_inC, k_neg, k_bm, k_get2, k_pnone, k_psome, k_sl, k_pnil, k_pcons, k_dic, k_gix, k_seq, k_nx, k_rt, k_sbad, k_snil, k_spass, k_set, k_sret, k_sretN, k_sexp, k_sif, k_asg, k_par2, k_par3, k_aug, k_put, k_seqI, k_range1, k_forI, k_lc, List.getElem?_cons_zero, List.getElem?_cons_succ, List.set_cons_zero, List.set_cons_succ, List.length_cons, List.length_nil, if_true, if_false, Bool.not_true, Bool.not_false, Bool.false_eq_true, ite_true, ite_false, reduceIte, Nat.reduceAdd, Nat.zero_add, k_sortSet, k_range2, iadd_i, add_i, sub_i, eq_i, eq_s, ne_i, ne_s, ne_b, lt_i, le_i, gt_i, ge_i, ix_0, ix_1, ix_2, flat_str, flat_int, flat_non, sz_0, sz_1, sz_2, sz_3, sz_4, sz_5, sz_6, sz_7, sz_8, sz_9, decide_eq_true_eq, Bool.not_eq_eq_eq_not, decide_eq_false_iff_not, decide_true, decide_false, true_and, and_true, exists_eq_left, inC_strs, not_true_eq_false, not_false_eq_true])
def g_parts_in (f_parts_in : Fn) : SM :=
  sSeq (sSet 1 (eTup (aCons (eVar 0) (aNil)))) (sSeq (sIf (bOf (eInC false opsT (eOp oIx (eVar 0) (eC (.int 0))))) (sSet 1 (eOp oAdd (eOp oAdd (eVar 1) (eCall 1 f_parts_in (aCons (eOp oIx (eVar 0) (eC (.int 1))) (aNil)))) (eCall 1 f_parts_in (aCons (eOp oIx (eVar 0) (eC (.int 2))) (aNil))))) (sNil)) (sRet (eVar 1)))
def g_names_in (f_parts_in : Fn) : SM :=
  sRet (eCB oTuple (aCons (eSortSet (eLc (iSeq (eCall 1 f_parts_in (aCons (eVar 0) (aNil)))) (gN 1) (bOf (eOp oEq (eOp oIx (eVar 1) (eC (.int 0))) (eC (.str "at")))) (eOp oIx (eVar 1) (eC (.int 1))) [1])) (aNil)))
def g_law_parts (NW : Nat) : SM :=
  sSeq (sSet 1 (eLst (aNil))) (sSeq (sSet 2 (eLst (aCons (eVar 0) (aNil)))) (sSeq (sWhile (bOf (eOp oNe (eVar 2) (eLst (aNil)))) (sSeq (sSet 3 (eBM "list" oPop (eVar 2) aNil)) (sSeq (sExp (eBM "list" oAppend (eVar 1) (aCons (eVar 3) (aNil)))) (sIf (bOf (eOp oNotIn (eOp oIx (eVar 3) (eC (.int 0))) (eLst (aCons (eC (.str "number")) (aCons (eC (.str "at")) (aNil)))))) (sSet 2 (eOp oAdd (eVar 2) (eLst (aCons (eOp oIx (eVar 3) (eC (.int 2))) (aCons (eOp oIx (eVar 3) (eC (.int 1))) (aNil)))))) (sNil)))) NW) (sRet (eCB oTuple (aCons (eVar 1) (aNil))))))
/-! ### terms as plain data -/
theorem opsT_ok : ∀ o ∈ opsT, PyData.strOk o = true ∧ o ≠ "at" ∧ o ≠ "number" := by decide +kernel
theorem ok_num : PyData.strOk "number" = true := by decide +kernel
theorem ok_at : PyData.strOk "at" = true := by decide +kernel
theorem no_num : ¬ (("number" : Str) ∈ opsT) := by decide +kernel
theorem no_at : ¬ (("at" : Str) ∈ opsT) := by decide +kernel
theorem ne_na : ¬ (("number" : Str) = "at") := by decide +kernel
theorem name_ok {w : Str} (h : Name w) : PyData.strOk w = true := asc_ok (nmB_asc h.1).1
theorem Trm.d_dep : ∀ t : Trm, depD t.d = t.dep
  | .num _ => by simp [Trm.d, depD, depL, Trm.dep]
  | .at _ => by simp [Trm.d, depD, depL, Trm.dep]
  | .op o a b => by simp [Trm.d, depD, depL, Trm.dep, a.d_dep, b.d_dep]; omega
theorem Trm.d_pure {z : Int} {ws : List Str} (hw : ∀ w ∈ ws, PyData.strOk w = true) : ∀ {t : Trm}, t.ok z ws → pureD t.d = true
  | .num _, _ => by simp [Trm.d, pureD, pureL, ok_num]
  | .at w, h => by
    have : PyData.strOk w = true := hw w h
    simp [Trm.d, pureD, pureL, this, ok_at]
  | .op o a b, h => by
    have h1 := (opsT_ok o h.1).1
    simp [Trm.d, pureD, pureL, h1, Trm.d_pure hw h.2.1, Trm.d_pure hw h.2.2]
def Trm.parts : Trm → List Trm
  | .num n => [.num n]
  | .at w => [.at w]
  | .op o a b => .op o a b :: (a.parts ++ b.parts)
theorem Trm.parts_len : ∀ t : Trm, t.parts.length + 1 = 2 * t.lvs
  | .num _ => rfl
  | .at _ => rfl
  | .op o a b => by
    have h1 := a.parts_len
    have h2 := b.parts_len
    simp only [Trm.parts, Trm.lvs, List.length_cons, List.length_append]
    omega
theorem Trm.parts_sub {z : Int} {ws : List Str} : ∀ {t : Trm}, t.ok z ws → ∀ u ∈ t.parts, u.ok z ws ∧ u.dep ≤ t.dep
  | .num _, h, u, hu => by simp [Trm.parts] at hu; subst hu; exact ⟨h, Nat.le_refl _⟩
  | .at _, h, u, hu => by simp [Trm.parts] at hu; subst hu; exact ⟨h, Nat.le_refl _⟩
  | .op o a b, h, u, hu => by
    simp only [Trm.parts, List.mem_cons, List.mem_append] at hu
    have hd : (Trm.op o a b).dep = 1 + max a.dep b.dep := rfl
    rcases hu with rfl | hu | hu
    · exact ⟨h, Nat.le_refl _⟩
    · have := parts_sub h.2.1 u hu; exact ⟨this.1, by omega⟩
    · have := parts_sub h.2.2 u hu; exact ⟨this.1, by omega⟩
theorem Trm.d_inj : ∀ {t u : Trm}, t.d = u.d → (∀ o a b, t = .op o a b → o ≠ "at") → (∀ o a b, u = .op o a b → o ≠ "at") → ∀ w, u = .at w → t = .at w := by
  intro t u h ht hu w hw
  subst hw
  cases t with
  | num n => simp [Trm.d] at h
  | «at» v => simp [Trm.d] at h; rw [h]
  | op o a b => simp [Trm.d] at h
/-- the names in a term, as they stand -/
def Trm.nms (t : Trm) : List Str := t.parts.filterMap fun u => match u with
  | .at w => some w
  | _ => none
theorem mem_nms {t : Trm} {w : Str} : w ∈ t.nms ↔ .at w ∈ t.parts := by
  unfold Trm.nms
  rw [List.mem_filterMap]
  constructor
  · rintro ⟨u, hu, e⟩
    cases u with
    | num n => cases e
    | «at» v => cases e; exact hu
    | op o a b => cases e
  · intro h
    exact ⟨_, h, rfl⟩
theorem nms_sub {z : Int} {ws : List Str} {t : Trm} (h : t.ok z ws) : ∀ w ∈ t.nms, w ∈ ws := fun w hw => (Trm.parts_sub h _ (mem_nms.mp hw)).1
theorem nms_len (t : Trm) : t.nms.length ≤ t.parts.length := List.length_filterMap_le _ _
theorem mem_partsD {z : Int} {ws : List Str} {t : Trm} (h : t.ok z ws) {w : Str} : D.tup [.str "at", .str w] ∈ t.parts.map Trm.d ↔ w ∈ t.nms := by
  rw [mem_nms, List.mem_map]
  constructor
  · rintro ⟨u, hu, e⟩
    cases u with
    | num n => simp [Trm.d] at e
    | «at» v => simp [Trm.d] at e; rw [e] at hu; exact hu
    | op o a b => simp [Trm.d] at e
  · intro hw
    exact ⟨_, hw, rfl⟩
section
variable {f : Fn} {t : Trm} {st : Sto}
theorem parts_sp (hz : t.lvs ≤ 1000) {z : Int} {ws : List Str} (ho : t.ok z ws) (hr : ∀ o a b, t = .op o a b → (∀ st, Ok (f [a.d] st) fun d st' => d = .tup (a.parts.map Trm.d) ∧ st' = st) ∧ (∀ st, Ok (f [b.d] st) fun d st' => d = .tup (b.parts.map Trm.d) ∧ st' = st)) :
    Ok (runDef 2 (g_parts_in f) [t.d] st) fun d st' => d = .tup (t.parts.map Trm.d) ∧ st' = st := by
  unfold Ok
  rw [k_run, st_2_1]
  unfold g_parts_in
  cases t with
  | num n =>
    simp only [Trm.d]
    walk_at "gg"
    rw [if_neg no_num]
    simp [Trm.parts, Trm.d]
  | «at» w =>
    simp only [Trm.d]
    walk_at "gg"
    rw [if_neg no_at]
    simp [Trm.parts, Trm.d]
  | op o a b =>
    have h1 := a.parts_len
    have h2 := b.parts_len
    have h3 : a.lvs + b.lvs ≤ 1000 := hz
    obtain ⟨ha, hb⟩ := hr o a b rfl
    simp only [Trm.d]
    walk_at "gg"
    rw [if_pos ho.1]
    refine Ok.imp (ha st) fun d1 s1 ⟨e1, e2⟩ => ?_
    subst e1; subst e2
    rw [tup_i (by simp; omega)]
    walk_at "gg"
    refine Ok.imp (hb s1) fun d2 s2 ⟨e1, e2⟩ => ?_
    subst e1; subst e2
    rw [tup_i (by simp; omega)]
    exact ⟨by simp [Trm.parts, Trm.d], rfl⟩
end
/-- the names' terms among parts, as the comprehension takes them -/
def atQ (d : D) : Bool := match d with
  | .tup [.str k, _] => decide (k = "at")
  | _ => false
def atF (d : D) : D := match d with
  | .tup [_, x] => x
  | x => x
theorem nms_filter (ps : List Trm) : ((ps.map Trm.d).filter atQ).map atF = (ps.filterMap fun u => match u with | .at w => some w | _ => none).map D.str := by
  induction ps with
  | nil => rfl
  | cons p r ih =>
    cases p with
    | num n =>
      rw [List.map_cons, List.filter_cons_of_neg (by simp [Trm.d, atQ, ne_na]), List.filterMap_cons]
      exact ih
    | «at» w =>
      rw [List.map_cons, List.filter_cons_of_pos (by simp [Trm.d, atQ]), List.filterMap_cons, List.map_cons, ih]
      rfl
    | op o a b =>
      rw [List.map_cons, List.filter_cons_of_neg (by simp [Trm.d, atQ]), List.filterMap_cons]
      exact ih
section
variable {f : Fn} {t : Trm} {st : Sto}
theorem uniq_len : ∀ (m l : List Str), (m.foldl uAdd l).length ≤ l.length + m.length
  | [], l => Nat.le_refl _
  | k :: m, l => by
    rw [List.foldl_cons, List.length_cons]
    have h1 := uniq_len m (uAdd l k)
    have h2 : (uAdd l k).length ≤ l.length + 1 := by unfold uAdd; split <;> simp
    omega
theorem names_in_sp (hz : t.lvs ≤ 1000) {z : Int} {ws : List Str} (ho : t.ok z ws) (hf : ∀ st, Ok (f [t.d] st) fun d st' => d = .tup (t.parts.map Trm.d) ∧ st' = st) :
    Ok (runDef 2 (g_names_in f) [t.d] st) fun d st' => d = .tup ((srtS (uniq t.nms)).map D.str) ∧ ∃ u, st' = st ++ u := by
  unfold Ok
  rw [k_run, st_2_1]
  unfold g_names_in
  have h1 := t.parts_len
  have h2 := nms_len t
  walk_at "gg"
  refine Ok.imp (hf st) fun d s1 ⟨e1, e2⟩ => ?_
  subst e1; subst e2
  refine Ok.imp (lc_pure (st0 := s1) atF atQ (by rw [List.length_map]; exact szl (by omega)) ?_) fun _ s2 e => ?_
  · intro d hd
    obtain ⟨u, hu, rfl⟩ := List.mem_map.mp hd
    have hu2 := (Trm.parts_sub ho u hu).1
    refine ⟨_, rfl, fun acc => ?_⟩
    cases u with
    | num n => exact ⟨rfl, fun h => rfl⟩
    | «at» w => exact ⟨rfl, fun h => rfl⟩
    | op o a b =>
      refine ⟨?_, fun h => by simp [Trm.d, atQ] at h⟩
      have e : ¬ o = "at" := (opsT_ok o hu2.1).2.1
      show R.ok (decide (o = "at")) _ = R.ok false _
      rw [decide_eq_false e]
  · subst e
    rw [show ((t.parts.map Trm.d).filter atQ).map atF = t.nms.map D.str from nms_filter t.parts]
    have e4 : itemsD (.loc s1.length) (s1 ++ [O.lst (t.nms.map D.str)]) = some (t.nms.map D.str) := lst_at last_at
    show match itemsD (.loc s1.length) (s1 ++ [O.lst (t.nms.map D.str)]) with | some es => _ | none => _
    rw [e4]
    dsimp only
    rw [asStrs_map]
    dsimp only
    have e5 : (uniq t.nms).length ≤ t.nms.length := by have := uniq_len t.nms []; rw [List.length_nil, Nat.zero_add] at this; exact this
    rw [if_pos (by omega)]
    have e6 : oTuple [.loc (s1 ++ [O.lst (t.nms.map D.str)]).length] ((s1 ++ [O.lst (t.nms.map D.str)]) ++ [.lst ((srtS (uniq t.nms)).map D.str)]) = some (.tup ((srtS (uniq t.nms)).map D.str), (s1 ++ [O.lst (t.nms.map D.str)]) ++ [.lst ((srtS (uniq t.nms)).map D.str)]) := by
      unfold oTuple
      dsimp only
      rw [show itemsD (.loc (s1 ++ [O.lst (t.nms.map D.str)]).length) ((s1 ++ [O.lst (t.nms.map D.str)]) ++ [.lst ((srtS (uniq t.nms)).map D.str)]) = some ((srtS (uniq t.nms)).map D.str) from lst_at last_at]
    rw [e6]
    exact ⟨rfl, _, List.append_assoc _ _ _⟩
end
/-! ### a law's own parts of a term -/
theorem pl_terms {z : Int} {ws : List Str} (hw : ∀ w ∈ ws, PyData.strOk w = true) {ts : List Trm} (h : ∀ t ∈ ts, t.ok z ws ∧ t.dep ≤ 170) : PlL (ts.map Trm.d) := plL_iff.mpr fun d hd => by
  obtain ⟨t, ht, rfl⟩ := List.mem_map.mp hd
  exact ⟨Trm.d_pure hw (h t ht).1, by rw [Trm.d_dep]; have := (h t ht).2; omega⟩
def rest (ts : List Trm) : List Trm := ts.reverse.flatMap Trm.parts
theorem rest_snoc (ts : List Trm) (t : Trm) : rest (ts ++ [t]) = t.parts ++ rest ts := by simp [rest]
theorem rest_two (ts : List Trm) (a b : Trm) : rest (ts ++ [b, a]) = a.parts ++ (b.parts ++ rest ts) := by simp [rest]
theorem rest_len : ∀ ts : List Trm, ts.length ≤ (rest ts).length := fun ts => by
  unfold rest
  rw [List.length_flatMap, ← List.length_reverse]
  generalize ts.reverse = us
  induction us with
  | nil => simp
  | cons u r ih =>
    have h1 := u.parts_len
    have h2 := u.lvs_pos
    simp only [List.map_cons, List.sum_cons, List.length_cons]
    omega
abbrev naT : List Str := ["number", "at"]
theorem notIn_na {z : Str} {st : Sto} : oNotIn (.str z) (.loc st.length) (st ++ [.lst [.str "number", .str "at"]]) = some (.bl (!decide (z ∈ naT)), st ++ [.lst [.str "number", .str "at"]]) := oNotIn_strs (ws := naT) (lst_at last_at)
theorem na_ops : ∀ o ∈ opsT, ¬ o ∈ naT := by decide +kernel
theorem law_parts_sp {z : Int} {ws : List Str} {t : Trm} {st : Sto} {NW : Nat} (hw : ∀ w ∈ ws, PyData.strOk w = true) (ht : t.ok z ws) (hd : t.dep ≤ 60) (hl : t.lvs ≤ 1000) (hNW : 10000 ≤ NW) :
    Ok (runDef 4 (g_law_parts NW) [t.d] st) fun d st' => d = .tup (t.parts.map Trm.d) ∧ Ext st st' := by
  unfold Ok
  rw [k_run, st_4_1]
  unfold g_law_parts
  have hpl := t.parts_len
  refine cut_seq (fun en' st' => en' = [some t.d, some (.loc st.length), none, none] ∧ st' = st ++ [.lst []]) ?_ (fun en1 st1 hI => ?_)
  · walk_at "gg"
  obtain ⟨rfl, rfl⟩ := hI
  refine cut_seq (fun en' st' => en' = [some t.d, some (.loc st.length), some (.loc (st.length + 1)), none] ∧ st' = st ++ [.lst [], .lst [t.d]]) ?_ (fun en1 st1 hI => ?_)
  · walk_at "gg"
    refine ⟨?_, ?_⟩
    · rw [List.length_append]; rfl
    · rw [List.append_assoc]; rfl
  obtain ⟨rfl, rfl⟩ := hI
  refine cut_seq (fun en' st' => ∃ (w : Nat) (x3 : Option D), en' = [some t.d, some (.loc st.length), some (.loc w), x3] ∧ st'[st.length]? = some (.lst (t.parts.map Trm.d)) ∧ Ext st st') ?_ (fun en1 st1 hI => ?_)
  · refine while_m (fun m en' st' => ∃ (w : Nat) (x3 : Option D) (done wait : List Trm), en' = [some t.d, some (.loc st.length), some (.loc w), x3] ∧ st'[st.length]? = some (.lst (done.map Trm.d)) ∧ st'[w]? = some (.lst (wait.map Trm.d)) ∧ st.length < w ∧ Ext st st' ∧ t.parts = done ++ rest wait ∧ (∀ u ∈ wait, u.ok z ws ∧ u.dep ≤ 60) ∧ m = (rest wait).length) (m := t.parts.length) (by omega) ⟨_, _, [], [t], rfl, ?_, ?_, by omega, ?_, by simp [rest], by simpa using ⟨ht, hd⟩, by simp [rest]⟩ ?_
    · rw [List.getElem?_append_right (Nat.le_refl _), Nat.sub_self]; rfl
    · rw [List.getElem?_append_right (by omega), Nat.add_sub_cancel_left]; rfl
    · exact Ext.app
    intro m en st1 hI
    obtain ⟨w, x3, done, wait, rfl, hF, hW, hw1, hE, hp, hq, rfl⟩ := hI
    have hz := hE.len
    have hWl := lift_len hW
    have hplW : PlL (wait.map Trm.d) := pl_terms hw fun u hu => ⟨(hq u hu).1, by have := (hq u hu).2; omega⟩
    have hlen : done.length + (rest wait).length = t.parts.length := by rw [hp, List.length_append]
    walk_at "gg"
    rw [oNe_lstL (lst_at (app_get hW)) (lst_at last_at) hplW plL_nil]
    walk_at "gg"
    have hE1 : Ext st (st1 ++ [O.lst []]) := hE.appR
    have hF1 := app_get (t := [O.lst []]) hF
    have hW1 := app_get (t := [O.lst []]) hW
    generalize st1 ++ [O.lst []] = s1 at hE1 hF1 hW1 ⊢
    clear hF hW hE hz
    by_cases hc : wait = []
    · subst hc
      rw [if_neg (by simp)]
      refine ⟨_, _, rfl, ?_, hE1⟩
      rw [hF1, hp]
      simp [rest]
    · rw [if_pos (by simpa using hc)]
      obtain ⟨w0, u, rfl⟩ : ∃ w0 u, wait = w0 ++ [u] := ⟨wait.dropLast, wait.getLast hc, (List.dropLast_concat_getLast hc).symm⟩
      have hu := hq u (by simp)
      rw [rest_snoc] at hp
      have hpop : oPop (.loc w) [] s1 = some (u.d, s1.set w (.lst (w0.map Trm.d))) := by
        unfold oPop
        dsimp only
        rw [hW1]
        dsimp only
        simp
      have hty : isTyD "list" (.loc w) s1 = true := isTy_lst hW1
      rw [hty, hpop]
      walk_at "gg"
      have hlw := lift_len hW1
      have hF2 : (s1.set w (.lst (w0.map Trm.d)))[st.length]? = some (.lst (done.map Trm.d)) := by rw [List.getElem?_set_ne (by omega)]; exact hF1
      have hW2 : (s1.set w (.lst (w0.map Trm.d)))[w]? = some (.lst (w0.map Trm.d)) := List.getElem?_set_self hlw
      have hE2 : Ext st (s1.set w (.lst (w0.map Trm.d))) := hE1.setR (by omega)
      generalize s1.set w (.lst (w0.map Trm.d)) = s2 at hF2 hW2 hE2 ⊢
      clear hF1 hW1 hE1
      have hlf := lift_len hF2
      have hlw2 := lift_len hW2
      rw [isTy_lst hF2]
      have happ : oAppend (.loc st.length) [u.d] s2 = some (.non, s2.set st.length (.lst ((done ++ [u]).map Trm.d))) := by
        unfold oAppend
        dsimp only
        rw [hF2]
        dsimp only
        rw [if_pos (by rw [List.length_map]; exact szl (by omega)), List.map_append]
        rfl
      rw [happ]
      walk_at "gg"
      have hF3 : (s2.set st.length (.lst ((done ++ [u]).map Trm.d)))[st.length]? = some (.lst ((done ++ [u]).map Trm.d)) := List.getElem?_set_self hlf
      have hW3 : (s2.set st.length (.lst ((done ++ [u]).map Trm.d)))[w]? = some (.lst (w0.map Trm.d)) := by rw [List.getElem?_set_ne (by omega)]; exact hW2
      have hE3 : Ext st (s2.set st.length (.lst ((done ++ [u]).map Trm.d))) := hE2.setR (Nat.le_refl _)
      generalize s2.set st.length (.lst ((done ++ [u]).map Trm.d)) = s3 at hF3 hW3 hE3 ⊢
      clear hF2 hW2 hE2
      have hq0 : ∀ x ∈ w0, x.ok z ws ∧ x.dep ≤ 60 := fun x hx => hq x (List.mem_append_left _ hx)
      cases u with
      | num n =>
        simp only [Trm.d]
        walk_at "gg"
        rw [notIn_na]
        walk_at "gg"
        rw [if_neg (by decide +kernel)]
        exact ⟨(rest w0).length, by rw [rest_snoc]; simp [Trm.parts], w, _, done ++ [Trm.num n], w0, rfl, app_get hF3, app_get hW3, hw1, hE3.appR, by rw [hp]; simp [Trm.parts], hq0, rfl⟩
      | «at» v =>
        simp only [Trm.d]
        walk_at "gg"
        rw [notIn_na]
        walk_at "gg"
        rw [if_neg (by decide +kernel)]
        exact ⟨(rest w0).length, by rw [rest_snoc]; simp [Trm.parts], w, _, done ++ [Trm.at v], w0, rfl, app_get hF3, app_get hW3, hw1, hE3.appR, by rw [hp]; simp [Trm.parts], hq0, rfl⟩
      | op o a b =>
        simp only [Trm.d]
        walk_at "gg"
        rw [notIn_na]
        walk_at "gg"
        rw [if_pos (na_ops o hu.1.1)]
        have hF4 := app_get (t := [O.lst [.str "number", .str "at"]]) hF3
        have hW4 := app_get (t := [O.lst [.str "number", .str "at"]]) hW3
        have hE4 := hE3.appR (u := [O.lst [.str "number", .str "at"]])
        generalize s3 ++ [O.lst [.str "number", .str "at"]] = s4 at hF4 hW4 hE4 ⊢
        clear hF3 hW3 hE3
        have hlw4 := lift_len hW4
        have hlen2 : w0.length ≤ 10000 := by
          have h1 := rest_len w0
          have h2 := hlen
          rw [rest_snoc, List.length_append] at h2
          omega
        have hadd : oAdd (.loc w) (.loc s4.length) (s4 ++ [.lst [b.d, a.d]]) = some (.loc (s4.length + 1), s4 ++ [.lst [b.d, a.d]] ++ [.lst ((w0 ++ [b, a]).map Trm.d)]) := by
          unfold oAdd
          dsimp only
          rw [app_get hW4, last_at]
          dsimp only
          rw [if_pos (sz (by rw [List.length_map]; show w0.length + 2 ≤ _; omega)), List.map_append, List.length_append]
          rfl
        rw [hadd]
        have hdo : (Trm.op o a b).dep = 1 + max a.dep b.dep := rfl
        refine ⟨(rest (w0 ++ [b, a])).length, ?_, s4.length + 1, _, done ++ [.op o a b], w0 ++ [b, a], rfl, app_get (app_get hF4), ?_, by omega, hE4.appR.appR, ?_, ?_, rfl⟩
        · rw [rest_snoc, rest_two]; simp [Trm.parts]
        · rw [List.getElem?_append_right (by rw [List.length_append]; exact Nat.le_refl _), List.length_append]
          show [_][s4.length + 1 - (s4.length + 1)]? = _
          rw [Nat.sub_self]; rfl
        · rw [hp, rest_two]; simp [Trm.parts]
        · intro x hx
          rcases List.mem_append.mp hx with hx | hx
          · exact hq0 x hx
          · simp only [List.mem_cons, List.not_mem_nil, or_false] at hx
            rcases hx with rfl | rfl
            · exact ⟨hu.1.2.2, by omega⟩
            · exact ⟨hu.1.2.1, by omega⟩
  obtain ⟨w, x3, rfl, hF, hE⟩ := hI
  walk_at "gg"
  have e6 : oTuple [.loc st.length] st1 = some (.tup (t.parts.map Trm.d), st1) := by
    unfold oTuple
    dsimp only
    rw [show itemsD (.loc st.length) st1 = some (t.parts.map Trm.d) from lst_at hF]
  rw [e6]
  exact ⟨rfl, hE⟩
end Sh

set_option maxHeartbeats 1000000
namespace Sh
open PySem PySem.Spec PyProof.Rows L2
local macro_rules | `(tactic| walk_at "go") => `(tactic| simp only [k_bnd, k_ret, k_ok, k_bad, k_badM, k_exc, k_lft, k_ite, k_ite', o_some, o_none, o_ite, v_some, k_var, k_c, k_op, k_call, k_call0, k_cb, k_nil, k_cons, k_tup, k_lst, k_bOf, k_bAnd, k_bOr, k_bNot, k_and, k_or, k_not, k_if, k_chain, k_inC, k_neg, k_bm, k_get2, k_pnone, k_psome, k_sl, k_pnil, k_pcons, k_dic, k_gix, k_seq, k_nx, k_rt, k_sbad, k_snil, k_spass, k_set, k_sret, k_sretN, k_sexp, k_sif, k_asg, k_par2, k_par3, k_aug, k_put, k_seqI, k_range1, k_forI, k_lc, List.getElem?_cons_zero, List.getElem?_cons_succ, List.set_cons_zero, List.set_cons_succ, List.length_cons, List.length_nil, if_true, if_false, Bool.not_true, Bool.not_false, Bool.false_eq_true, ite_true, ite_false, reduceIte, Nat.reduceAdd, Nat.zero_add])
local macro_rules | `(tactic| walk_at "gg") => `(tactic| simp only [k_bnd, k_ret, k_ok, k_bad, k_badM, k_exc, k_lft, k_ite, k_ite', o_some, o_none, o_ite, v_some, k_var, k_c, k_op, k_call, k_call0, k_cb, k_nil, k_cons, k_tup, k_lst, k_bOf, k_bAnd, k_bOr, k_bNot, k_and, k_or, k_not, k_if, k_chain, k_inC, k_neg, k_bm, k_get2, k_pnone, k_psome, k_sl, k_pnil, k_pcons, k_dic, k_gix, k_seq, k_nx, k_rt, k_sbad, k_snil, k_spass, k_set, k_sret, k_sretN, k_sexp, k_sif, k_asg, k_par2, k_par3, k_aug, k_put, k_seqI, k_range1, k_forI, k_lc, List.getElem?_cons_zero, List.getElem?_cons_succ, List.set_cons_zero, List.set_cons_succ, List.length_cons, List.length_nil, if_true, if_false, Bool.not_true, Bool.not_false, Bool.false_eq_true, ite_true, ite_false, reduceIte, Nat.reduceAdd, Nat.zero_add, k_sortSet, k_range2, iadd_i, add_i, sub_i, eq_i, eq_s, ne_i, ne_s, ne_b, lt_i, le_i, gt_i, ge_i, ix_0, ix_1, ix_2, flat_str, flat_int, flat_non, sz_0, sz_1, sz_2, sz_3, sz_4, sz_5, sz_6, sz_7, sz_8, sz_9, decide_eq_true_eq, Bool.not_eq_eq_eq_not, decide_eq_false_iff_not, decide_true, decide_false, true_and, and_true, exists_eq_left, inC_strs, not_true_eq_false, not_false_eq_true, Bool.true_eq_false, reduceCtorEq])
abbrev c_KEPT : List Str := keptT
abbrev c_WORDS : List Str := opsT
def g_is_name : SM :=
  sSeq (sIf (bOr (bNot (bOf (eCB oIsi (aCons (eVar 0) (aCons (eC (.ty "str")) (aNil)))))) (bOr (bNot (bOf (eChain oLe oLe (eC (.int 1)) (eCB oLen (aCons (eVar 0) (aNil))) (eC (.int 6))))) (bOf (eInC false c_KEPT (eVar 0))))) (sRet (eC (.bl false))) (sNil)) (sRet (eAnd (eOp oIn (eOp oIx (eVar 0) (eC (.int 0))) (eC (.str "abcdefghijklmnopqrstuvwxyz"))) (eCB oAll (aCons (eLc (iSeq (eVar 0)) (gN 1) (bYes) (eOp oIn (eVar 1) (eOp oAdd (eC (.str "abcdefghijklmnopqrstuvwxyz")) (eC (.str "0123456789")))) [1]) (aNil)))))
def g_is_number (f_size_of : Fn) : SM :=
  sRet (eAnd (eCB oIsi (aCons (eVar 0) (aCons (eC (.ty "int")) (aNil)))) (eAnd (eNot (eCB oIsi (aCons (eVar 0) (aCons (eC (.ty "bool")) (aNil))))) (eChain oLe oLt (eC (.int 0)) (eVar 0) (eCall 1 f_size_of (aCons (eVar 1) (aNil))))))
def g_is_leaf (f_is_number f_is_name : Fn) : SM :=
  sRet (eIf (bOf (eOp oEq (eOp oIx (eVar 0) (eC (.int 0))) (eC (.str "number")))) (eCall 2 f_is_number (aCons (eOp oIx (eVar 0) (eC (.int 1))) (aCons (eVar 1) (aNil)))) (eAnd (eOp oEq (eOp oIx (eVar 0) (eC (.int 0))) (eC (.str "at"))) (eCall 1 f_is_name (aCons (eOp oIx (eVar 0) (eC (.int 1))) (aNil)))))
def g_parts_of (f_is_leaf f_parts_of : Fn) : SM :=
  sSeq (sIf (bOr (bOf (eOp oEq (eVar 2) (eC (.int 0)))) (bOr (bOf (eOp oLt (eVar 3) (eC (.int 1)))) (bOr (bNot (bOf (eCB oIsi (aCons (eVar 0) (aCons (eC (.ty "tuple")) (aNil)))))) (bOr (bOf (eOp oLt (eCB oLen (aCons (eVar 0) (aNil))) (eC (.int 2)))) (bNot (bOf (eCB oIsi (aCons (eOp oIx (eVar 0) (eC (.int 0))) (aCons (eC (.ty "str")) (aNil)))))))))) (sRet (eC (.int 0))) (sNil)) (sSeq (sIf (bOf (eOp oEq (eCB oLen (aCons (eVar 0) (aNil))) (eC (.int 2)))) (sRet (eCB oIntX (aCons (eCall 2 f_is_leaf (aCons (eVar 0) (aCons (eVar 1) (aNil)))) (aNil)))) (sNil)) (sSeq (sIf (bOr (bOf (eInC true c_WORDS (eOp oIx (eVar 0) (eC (.int 0))))) (bOf (eOp oNe (eCB oLen (aCons (eVar 0) (aNil))) (eC (.int 3))))) (sRet (eC (.int 0))) (sNil)) (sSeq (sSet 4 (eCall 4 f_parts_of (aCons (eOp oIx (eVar 0) (eC (.int 1))) (aCons (eVar 1) (aCons (eOp oSub (eVar 2) (eC (.int 1))) (aCons (eOp oSub (eVar 3) (eC (.int 1))) (aNil))))))) (sSeq (sSet 5 (eIf (bOf (eOp oEq (eVar 4) (eC (.int 0)))) (eC (.int 0)) (eCall 4 f_parts_of (aCons (eOp oIx (eVar 0) (eC (.int 2))) (aCons (eVar 1) (aCons (eOp oSub (eVar 2) (eC (.int 1))) (aCons (eOp oSub (eOp oSub (eVar 3) (eC (.int 1))) (eVar 4)) (aNil)))))))) (sRet (eIf (bOf (eOp oEq (eVar 5) (eC (.int 0)))) (eC (.int 0)) (eOp oAdd (eOp oAdd (eC (.int 1)) (eVar 4)) (eVar 5))))))))
def g_is_term (f_parts_of : Fn) : SM :=
  sRet (eOp oGt (eCall 4 f_parts_of (aCons (eVar 0) (aCons (eVar 1) (aCons (eC (.int 60)) (aCons (eC (.int 400)) (aNil)))))) (eC (.int 0)))
def g_law_is_name (f_law_kept : Fn) : SM :=
  sSeq (sSet 1 (eC (.str "abcdefghijklmnopqrstuvwxyz"))) (sSeq (sIf (bOr (bNot (bOf (eCB oIsi (aCons (eVar 0) (aCons (eC (.ty "str")) (aNil)))))) (bOr (bOf (eOp oLt (eCB oLen (aCons (eVar 0) (aNil))) (eC (.int 1)))) (bOr (bOf (eOp oGt (eCB oLen (aCons (eVar 0) (aNil))) (eC (.int 6)))) (bOf (eOp oIn (eVar 0) (eCall0 f_law_kept)))))) (sRet (eC (.bl false))) (sNil)) (sSeq (sIf (bOf (eOp oNotIn (eOp oIx (eVar 0) (eC (.int 0))) (eVar 1))) (sRet (eC (.bl false))) (sNil)) (sRet (eOp oEq (eLc (iSeq (eVar 0)) (gN 2) (bOf (eOp oNotIn (eVar 2) (eOp oAdd (eVar 1) (eC (.str "0123456789"))))) (eVar 2) [2]) (eLst (aNil))))))
def g_law_whole : SM :=
  sRet (eAnd (eCB oIsi (aCons (eVar 0) (aCons (eC (.ty "int")) (aNil)))) (eAnd (eNot (eCB oIsi (aCons (eVar 0) (aCons (eC (.ty "bool")) (aNil))))) (eChain oLe oLe (eC (.int 0)) (eVar 0) (eVar 1))))
def g_law_parts_of (f_law_is_name f_law_whole f_law_size f_law_parts_of : Fn) : SM :=
  sSeq (sIf (bOr (bOf (eOp oEq (eVar 2) (eC (.int 0)))) (bOr (bOf (eOp oLt (eVar 3) (eC (.int 1)))) (bOr (bNot (bOf (eCB oIsi (aCons (eVar 0) (aCons (eC (.ty "tuple")) (aNil)))))) (bOf (eOp oLt (eCB oLen (aCons (eVar 0) (aNil))) (eC (.int 2))))))) (sRet (eC (.int 0))) (sNil)) (sSeq (sIf (bOf (eOp oEq (eOp oIx (eVar 0) (eC (.int 0))) (eC (.str "at")))) (sRet (eCB oIntX (aCons (eAnd (eOp oEq (eCB oLen (aCons (eVar 0) (aNil))) (eC (.int 2))) (eCall 1 f_law_is_name (aCons (eOp oIx (eVar 0) (eC (.int 1))) (aNil)))) (aNil)))) (sNil)) (sSeq (sIf (bOf (eOp oEq (eOp oIx (eVar 0) (eC (.int 0))) (eC (.str "number")))) (sRet (eCB oIntX (aCons (eAnd (eOp oEq (eCB oLen (aCons (eVar 0) (aNil))) (eC (.int 2))) (eCall 2 f_law_whole (aCons (eOp oIx (eVar 0) (eC (.int 1))) (aCons (eOp oSub (eCall 1 f_law_size (aCons (eVar 1) (aNil))) (eC (.int 1))) (aNil))))) (aNil)))) (sNil)) (sSeq (sIf (bOr (bOf (eOp oNotInX (eOp oIx (eVar 0) (eC (.int 0))) (eLst (aCons (eC (.str "sum")) (aCons (eC (.str "less")) (aCons (eC (.str "times")) (aNil))))))) (bOf (eOp oNe (eCB oLen (aCons (eVar 0) (aNil))) (eC (.int 3))))) (sRet (eC (.int 0))) (sNil)) (sSeq (sSet 4 (eCall 4 f_law_parts_of (aCons (eOp oIx (eVar 0) (eC (.int 1))) (aCons (eVar 1) (aCons (eOp oSub (eVar 2) (eC (.int 1))) (aCons (eOp oSub (eVar 3) (eC (.int 1))) (aNil))))))) (sSeq (sIf (bOf (eOp oEq (eVar 4) (eC (.int 0)))) (sRet (eC (.int 0))) (sNil)) (sSeq (sSet 5 (eCall 4 f_law_parts_of (aCons (eOp oIx (eVar 0) (eC (.int 2))) (aCons (eVar 1) (aCons (eOp oSub (eVar 2) (eC (.int 1))) (aCons (eOp oSub (eOp oSub (eVar 3) (eC (.int 1))) (eVar 4)) (aNil))))))) (sRet (eIf (bOf (eOp oEq (eVar 5) (eC (.int 0)))) (eC (.int 0)) (eOp oAdd (eOp oAdd (eC (.int 1)) (eVar 4)) (eVar 5))))))))))
def g_law_is_term (f_law_parts_of : Fn) : SM :=
  sRet (eOp oGt (eCall 4 f_law_parts_of (aCons (eVar 0) (aCons (eVar 1) (aCons (eC (.int 60)) (aCons (eC (.int 400)) (aNil)))))) (eC (.int 0)))
def g_law_ways (f_law_ways : Fn) : SM :=
  sSeq (sSet 1 (eLst (aCons (eTup (aNil)) (aNil)))) (sSeq (sIf (bOf (eCB oIsi (aCons (eVar 0) (aCons (eC (.ty "tuple")) (aNil))))) (sForI (iEnum (aCons (eVar 0) (aNil))) (gT [gN 2, gN 3]) (sSet 1 (eOp oAdd (eVar 1) (eLc (iSeq (eCall 1 f_law_ways (aCons (eVar 3) (aNil)))) (gN 4) (bYes) (eOp oAdd (eTup (aCons (eVar 2) (aNil))) (eVar 4)) [4])))) (sNil)) (sRet (eVar 1)))
def g_law_put (f_law_put : Fn) : SM :=
  sSeq (sIf (bOf (eOp oEq (eVar 1) (eTup (aNil)))) (sRet (eVar 2)) (sNil)) (sSeq (sSet 3 (eOp oIx (eVar 1) (eC (.int 0)))) (sRet (eOp oAdd (eOp oAdd (eSl (eVar 0) none (some (eVar 3))) (eTup (aCons (eCall 3 f_law_put (aCons (eOp oIx (eVar 0) (eVar 3)) (aCons (eSl (eVar 1) (some (eC (.int 1))) none) (aCons (eVar 2) (aNil))))) (aNil)))) (eSl (eVar 0) (some (eOp oAdd (eVar 3) (eC (.int 1)))) none))))
def g_law_bent_word (f_law_take f_law_pick : Fn) : SM :=
  sSeq (sPar2 3 4 (aCons (eCall 2 f_law_take (aCons (eVar 0) (aCons (eC (.int 8)) (aNil)))) (aCons (eCall 2 f_law_take (aCons (eVar 0) (aCons (eOp oAdd (eCB oLen (aCons (eVar 1) (aNil))) (eC (.int 1))) (aNil)))) (aNil)))) (sSeq (sSet 5 (eCall 2 f_law_pick (aCons (eVar 0) (aCons (eC (.str "abcdefghijklmnopqrstuvwxyz0123456789ABCZ_ -+.")) (aNil))))) (sSeq (sIf (bOf (eOp oLt (eVar 3) (eC (.int 3)))) (sRet (eCall 2 f_law_pick (aCons (eVar 0) (aCons (eVar 2) (aNil))))) (sNil)) (sSeq (sSet 6 (eLst (aCons (eOp oAdd (eOp oAdd (eSl (eVar 1) none (some (eVar 4))) (eVar 5)) (eSl (eVar 1) (some (eVar 4)) none)) (aCons (eOp oAdd (eOp oAdd (eSl (eVar 1) none (some (eVar 4))) (eVar 5)) (eSl (eVar 1) (some (eOp oAdd (eVar 4) (eC (.int 1)))) none)) (aCons (eOp oAdd (eSl (eVar 1) none (some (eVar 4))) (eSl (eVar 1) (some (eOp oAdd (eVar 4) (eC (.int 1)))) none)) (aCons (eBM "str" oUpper (eVar 1) aNil) (aNil))))))) (sRet (eOp oIx (eOp oAdd (eVar 6) (eLst (aCons (eOp oIx (eLst (aCons (eC .non) (aCons (eC (.int 7)) (aCons (eLst (aCons (eVar 1) (aNil))) (aCons (eTup (aCons (eVar 1) (aNil))) (aCons (eC (.str "")) (aNil))))))) (eOp oMod (eVar 4) (eC (.int 5)))) (aNil)))) (eOp oSub (eVar 3) (eC (.int 3))))))))
def g_law_otherwise (f_law_take f_law_bent_word : Fn) : SM :=
  sSeq (sSet 3 (eCall 2 f_law_take (aCons (eVar 0) (aCons (eC (.int 13)) (aNil))))) (sSeq (sIf (bOf (eCB oIsi (aCons (eVar 1) (aCons (eC (.ty "tuple")) (aNil))))) (sSeq (sSet 4 (eLst (aCons (eCB oList (aCons (eVar 1) (aNil))) (aCons (eSl (eVar 1) none (some (eNeg (eC (.int 1))))) (aCons (eSl (eVar 1) (some (eC (.int 1))) none) (aCons (eOp oAdd (eVar 1) (eSl (eVar 1) (some (eNeg (eC (.int 1)))) none)) (aCons (eOp oAdd (eSl (eVar 1) none (some (eC (.int 1)))) (eVar 1)) (aCons (eBack (eVar 1)) (aCons (eTup (aNil)) (aCons (eC .non) (aNil))))))))))) (sSeq (sSet 4 (eOp oAdd (eVar 4) (eLst (aCons (eSl (eVar 1) none (some (eC (.int 1)))) (aCons (eTup (aCons (eVar 1) (aNil))) (aCons (eC (.str "a")) (aCons (eC (.int 5)) (aCons (eOp oAdd (eOp oAdd (eSl (eVar 1) none (some (eC (.int 1)))) (eSl (eVar 1) (some (eC (.int 2))) none)) (eSl (eVar 1) (some (eC (.int 1))) (some (eC (.int 2))))) (aNil))))))))) (sRet (eOp oIx (eVar 4) (eVar 3))))) (sNil)) (sSeq (sIf (bOf (eCB oIsi (aCons (eVar 1) (aCons (eC (.ty "str")) (aNil))))) (sRet (eCall 3 f_law_bent_word (aCons (eVar 0) (aCons (eVar 1) (aCons (eVar 2) (aNil)))))) (sNil)) (sSeq (sIf (bNot (bOf (eCB oIsi (aCons (eVar 1) (aCons (eC (.ty "int")) (aNil)))))) (sRet (eOp oIx (eLst (aCons (eTup (aNil)) (aCons (eC (.int 0)) (aCons (eC (.str "a")) (aNil))))) (eOp oMod (eVar 3) (eC (.int 3))))) (sNil)) (sSeq (sSet 4 (eLst (aCons (eOp oAdd (eVar 1) (eC (.int 1))) (aCons (eOp oSub (eVar 1) (eC (.int 1))) (aCons (eOp oSub (eNeg (eC (.int 1))) (eVar 1)) (aCons (eC (.int 0)) (aCons (eC (.int 1)) (aCons (eC (.bl true)) (aCons (eC (.bl false)) (aCons (eC .non) (aCons (eCB oStrI (aCons (eVar 1) (aNil))) (aCons (eTup (aCons (eVar 1) (aNil))) (aCons (eLst (aCons (eVar 1) (aNil))) (aNil)))))))))))))) (sRet (eOp oIx (eOp oAdd (eVar 4) (eLst (aCons (eC (.int 16777215)) (aCons (eC (.int 16777216)) (aNil))))) (eVar 3)))))))
def g_law_bent (f_law_ways f_law_take f_law_put f_law_otherwise : Fn) : SM :=
  sSeq (sSet 3 (eCall 1 f_law_ways (aCons (eVar 1) (aNil)))) (sSeq (sSet 4 (eOp oIx (eVar 3) (eCall 2 f_law_take (aCons (eVar 0) (aCons (eCB oLen (aCons (eVar 3) (aNil))) (aNil)))))) (sSeq (sSet 5 (eVar 1)) (sSeq (sForI (iSeq (eVar 4)) (gN 6) (sSet 5 (eOp oIx (eVar 5) (eVar 6)))) (sRet (eCall 3 f_law_put (aCons (eVar 1) (aCons (eVar 4) (aCons (eCall 3 f_law_otherwise (aCons (eVar 0) (aCons (eVar 5) (aCons (eVar 2) (aNil))))) (aNil)))))))))
def g_law_right (f_is_term f_law_is_term : Fn) : SM :=
  sSeq (sSet 2 (eCall 2 f_is_term (aCons (eVar 0) (aCons (eVar 1) (aNil))))) (sRet (eAnd (eCB oIsi (aCons (eVar 2) (aCons (eC (.ty "bool")) (aNil)))) (eOp oEq (eVar 2) (eCall 2 f_law_is_term (aCons (eVar 0) (aCons (eVar 1) (aNil)))))))
/-! ### what == with a text tells of any thing -/
section
variable {res res' : Nat → Option PyData}
mutual
theorem pyW_mono (h : ∀ l p, res l = some p → res' l = some p) : ∀ (d : D) (p : PyData), toPyW res d = some p → toPyW res' d = some p
  | .non, _, q => by unfold toPyW at q ⊢; exact q
  | .bl _, _, q => by unfold toPyW at q ⊢; exact q
  | .int _, _, q => by unfold toPyW at q ⊢; exact q
  | .str _, _, q => by unfold toPyW at q ⊢; exact q
  | .ty _, _, q => by unfold toPyW at q; cases q
  | .loc l, p, q => by unfold toPyW at q ⊢; exact h l p q
  | .tup ds, p, q => by
    unfold toPyW at q ⊢
    cases e : toPyWL res ds with
    | none => rw [e] at q; cases q
    | some ps => rw [e] at q; rw [pyWL_mono h ds ps e]; exact q
theorem pyWL_mono (h : ∀ l p, res l = some p → res' l = some p) : ∀ (ds : List D) (ps : List PyData), toPyWL res ds = some ps → toPyWL res' ds = some ps
  | [], _, q => by unfold toPyWL at q ⊢; exact q
  | d :: ds, p, q => by
    unfold toPyWL at q ⊢
    cases e : toPyW res d with
    | none => rw [e] at q; cases q
    | some a =>
      cases e2 : toPyWL res ds with
      | none => rw [e, e2] at q; cases q
      | some as => rw [e, e2] at q; rw [pyW_mono h d a e, pyWL_mono h ds as e2]; exact q
end
end
theorem lstAt_ext {st st' : Sto} (h : Ext st st') {l : Nat} {ds : List D} (e : lstAt st l = some ds) : lstAt st' l = some ds := by
  unfold lstAt at e ⊢
  cases q : st[l]? with
  | none => rw [q] at e; cases e
  | some o => rw [h.get q]; rw [q] at e; exact e
theorem py_ext {st st' : Sto} (h : Ext st st') : ∀ (n : Nat) {d : D} {p : PyData}, toPy st n d = some p → toPy st' n d = some p
  | 0, _, _, q => by unfold toPy at q ⊢; exact q
  | n + 1, d, p, q => by
    unfold toPy at q ⊢
    refine pyW_mono (fun l p e => ?_) d p q
    cases e2 : lstAt st l with
    | none => rw [e2] at e; cases e
    | some ds =>
      rw [e2] at e
      rw [lstAt_ext h e2]
      dsimp only at e ⊢
      cases e3 : toPyWL (fun m => toPy st n (.loc m)) ds with
      | none => rw [e3] at e; cases e
      | some ps =>
        rw [e3] at e
        rw [pyWL_mono (fun m p e => py_ext h n e) ds ps e3]
        exact e
/-- what stands at a tuple's head: == tells of it -/
def Cmp (st : Sto) (d : D) : Prop := ∃ p, toPy st 2 d = some p ∧ shX p = true
theorem Cmp.ext {st st' : Sto} (h : Ext st st') {d : D} : Cmp st d → Cmp st' d := fun ⟨p, e, q⟩ => ⟨p, py_ext h 2 e, q⟩
theorem cmp_str {st : Sto} {z : Str} (h : PyData.strOk z = true) : Cmp st (.str z) := ⟨_, pl_py (pl_str h) st 2, pl_sh (pl_str h)⟩
/-- what a thing's data are, but for what is in it -/
theorem py_kind {st : Sto} {d : D} {p : PyData} (e : toPy st 2 d = some p) : match d with
    | .non => p = .none
    | .bl b => p = .bool b
    | .int i => p = .int i
    | .str z => p = .str z
    | .tup _ => ∃ ps, p = .tuple ps
    | .loc _ => ∃ ps, p = .list ps
    | .ty _ => False := by
  unfold toPy at e
  cases d with
  | non => unfold toPyW at e; cases e; rfl
  | bl b => unfold toPyW at e; cases e; rfl
  | int b => unfold toPyW at e; cases e; rfl
  | str b => unfold toPyW at e; cases e; rfl
  | ty b => unfold toPyW at e; cases e
  | tup ds =>
    unfold toPyW at e
    dsimp only
    generalize toPyWL _ ds = w at e
    cases w with
    | none => cases e
    | some ps => cases e; exact ⟨ps, rfl⟩
  | loc l =>
    unfold toPyW at e
    dsimp only at e ⊢
    cases q : lstAt st l with
    | none => rw [q] at e; cases e
    | some ds =>
      rw [q] at e
      dsimp only at e
      generalize toPyWL _ ds = w at e
      cases w with
      | none => cases e
      | some ps => cases e; exact ⟨ps, rfl⟩
theorem eqv_txt {st : Sto} {d : D} {p : PyData} {z : Str} (e : toPy st 2 d = some p) : PyData.eqv p (.str z) = decide (d = .str z) ∧ PyData.eqv (.str z) p = decide (d = .str z) := by
  have k := py_kind e
  cases d with
  | non => dsimp only at k; subst k; simp [PyData.eqv]
  | bl b => dsimp only at k; subst k; simp [PyData.eqv]
  | int b => dsimp only at k; subst k; simp [PyData.eqv]
  | str b =>
    dsimp only at k; subst k
    simp only [PyData.eqv]
    by_cases h : b = z
    · simp [h]
    · simp [h, Ne.symm h]
  | ty b => exact k.elim
  | tup ds => obtain ⟨ps, rfl⟩ := k; simp [PyData.eqv]
  | loc l => obtain ⟨ps, rfl⟩ := k; simp [PyData.eqv]
theorem eq_txt {st : Sto} {d : D} {z : Str} (h : Cmp st d) (hz : PyData.strOk z = true) : oEq d (.str z) st = some (.bl (decide (d = .str z)), st) := by
  obtain ⟨p, e, hs⟩ := h
  have key : deepEq d (.str z) st = some (decide (d = .str z)) := by
    unfold deepEq
    rw [e, pl_py (pl_str hz) st 2]
    dsimp only
    rw [hs, pl_sh (pl_str hz), Bool.and_self, if_pos rfl, show toP (.str z) = .str z by simp [toP], (eqv_txt e).1]
  unfold oEq
  cases d with
  | str b =>
    show (match some (decide (b = z)) with | some b => some (D.bl b, st) | none => none) = _
    dsimp only
    by_cases h : b = z
    · simp [h]
    · simp [h]
  | non => rw [show eqDat .non (.str z) st = deepEq .non (.str z) st from rfl, key]
  | bl b => rw [show eqDat (.bl b) (.str z) st = deepEq (.bl b) (.str z) st from rfl, key]
  | int b => rw [show eqDat (.int b) (.str z) st = deepEq (.int b) (.str z) st from rfl, key]
  | ty b => rw [show eqDat (.ty b) (.str z) st = deepEq (.ty b) (.str z) st from rfl, key]
  | tup b => rw [show eqDat (.tup b) (.str z) st = deepEq (.tup b) (.str z) st from rfl, key]
  | loc b => rw [show eqDat (.loc b) (.str z) st = deepEq (.loc b) (.str z) st from rfl, key]
theorem inD_strs {d : D} (f : flatD d = true) : ∀ ws : List Str, inD d (ws.map D.str) = decide (d ∈ ws.map D.str)
  | [] => by simp [inD]
  | w :: ws => by
    have ih := inD_strs f ws
    have e1 : eqD (.str w) d = decide (d = .str w) := by
      cases d with
      | str b =>
        by_cases h : b = w
        · simp [eqD, h]
        · simp [eqD, h, Ne.symm h]
      | non => simp [eqD]
      | bl b => simp [eqD]
      | int b => simp [eqD]
      | ty b => simp [flatD] at f
      | tup b => simp [flatD] at f
      | loc b => simp [flatD] at f
    unfold inD at ih ⊢
    rw [List.map_cons, List.any_cons, ih, e1]
    by_cases q : d = .str w <;> by_cases q2 : d ∈ ws.map D.str <;> simp [q, q2]
theorem in_txts {st : Sto} {d : D} {l : Nat} {ws : List Str} (h : Cmp st d) (hl : lstAt st l = some (ws.map D.str)) (hw : ∀ w ∈ ws, PyData.strOk w = true) : isInX d (.loc l) st = some (decide (d ∈ ws.map D.str)) := by
  obtain ⟨p, e, hs⟩ := h
  have hall : (ws.map D.str).all flatD = true := List.all_eq_true.mpr fun x hx => by
    obtain ⟨w, _, rfl⟩ := List.mem_map.mp hx
    rfl
  have hpl : PlL (ws.map D.str) := plL_iff.mpr fun x hx => by
    obtain ⟨w, hw', rfl⟩ := List.mem_map.mp hx
    exact ⟨hw w hw', by simp [depD]⟩
  unfold isInX isIn
  dsimp only
  rw [hl]
  dsimp only
  rw [hall, Bool.and_true]
  by_cases f : flatD d = true
  · rw [if_pos f]
    dsimp only
    rw [inD_strs f]
  · rw [if_neg f]
    dsimp only
    unfold inDeep
    rw [e, py_lst hl hpl]
    dsimp only
    rw [hs, pure_layL _ hpl.pu, Bool.and_self, if_pos rfl]
    clear hl hall hpl hw
    congr 1
    induction ws with
    | nil => simp [toPL]
    | cons w ws ih =>
      rw [List.map_cons, toPL, List.any_cons, ih, show toP (.str w) = .str w by simp [toP], (eqv_txt e).2]
      by_cases q : d = .str w <;> by_cases q2 : d ∈ ws.map D.str <;> simp [q, q2]
theorem notIn_txts {st : Sto} {d : D} {l : Nat} {ws : List Str} (h : Cmp st d) (hl : lstAt st l = some (ws.map D.str)) (hw : ∀ w ∈ ws, PyData.strOk w = true) : oNotInX d (.loc l) st = some (.bl (!decide (d ∈ ws.map D.str)), st) := by
  unfold oNotInX
  rw [in_txts h hl hw]
/-! ### things -/
inductive Fit (st : Sto) : D → Prop
  | non : Fit st .non
  | bl (b : Bool) : Fit st (.bl b)
  | int (i : Int) : Fit st (.int i)
  | str {z : Str} (h : ascS z) (hz : z.length ≤ 1000) : Fit st (.str z)
  | lst {l : Nat} {ds : List D} (h : st[l]? = some (.lst ds)) : Fit st (.loc l)
  | tup {ds : List D} (hz : ds.length ≤ 1000) (hc : ∀ h, ds[0]? = some h → Cmp st h) (hf : ∀ d ∈ ds, Fit st d) : Fit st (.tup ds)
theorem Fit.ext {st st' : Sto} (e : Ext st st') {d : D} (h : Fit st d) : Fit st' d := by
  induction h with
  | non => exact .non
  | bl b => exact .bl b
  | int i => exact .int i
  | str h hz => exact .str h hz
  | lst h => exact .lst (e.get h)
  | tup hz hc hf ih => exact .tup hz (fun h q => (hc h q).ext e) ih
theorem isi_str {d : D} {st : Sto} (h : Fit st d) : oIsi [d, .ty "str"] st = some (.bl (match d with | .str _ => true | _ => false), st) := by
  unfold oIsi
  dsimp only
  cases h with
  | non => rw [show tyName .non st = some "NoneType" from rfl]; dsimp only; rw [show kitB "NoneType" "str" = some false from by decide +kernel]
  | bl b => rw [show tyName (.bl b) st = some "bool" from rfl]; dsimp only; rw [show kitB "bool" "str" = some false from by decide +kernel]
  | int b => rw [show tyName (.int b) st = some "int" from rfl]; dsimp only; rw [show kitB "int" "str" = some false from by decide +kernel]
  | str b _ => rw [show tyName (.str _) st = some "str" from rfl]; dsimp only; rw [show kitB "str" "str" = some true from by decide +kernel]
  | tup b _ _ => rw [show tyName (.tup _) st = some "tuple" from rfl]; dsimp only; rw [show kitB "tuple" "str" = some false from by decide +kernel]
  | lst e => unfold tyName; dsimp only; rw [e]; dsimp only; rw [show kitB "list" "str" = some false from by decide +kernel]
theorem isi_tup {d : D} {st : Sto} (h : Fit st d) : oIsi [d, .ty "tuple"] st = some (.bl (match d with | .tup _ => true | _ => false), st) := by
  unfold oIsi
  dsimp only
  cases h with
  | non => rw [show tyName .non st = some "NoneType" from rfl]; dsimp only; rw [show kitB "NoneType" "tuple" = some false from by decide +kernel]
  | bl b => rw [show tyName (.bl b) st = some "bool" from rfl]; dsimp only; rw [show kitB "bool" "tuple" = some false from by decide +kernel]
  | int b => rw [show tyName (.int b) st = some "int" from rfl]; dsimp only; rw [show kitB "int" "tuple" = some false from by decide +kernel]
  | str b _ => rw [show tyName (.str _) st = some "str" from rfl]; dsimp only; rw [show kitB "str" "tuple" = some false from by decide +kernel]
  | tup b _ _ => rw [show tyName (.tup _) st = some "tuple" from rfl]; dsimp only; rw [show kitB "tuple" "tuple" = some true from by decide +kernel]
  | lst e => unfold tyName; dsimp only; rw [e]; dsimp only; rw [show kitB "list" "tuple" = some false from by decide +kernel]
theorem isi_int {d : D} {st : Sto} (h : Fit st d) : oIsi [d, .ty "int"] st = some (.bl (match d with | .int _ => true | .bl _ => true | _ => false), st) := by
  unfold oIsi
  dsimp only
  cases h with
  | non => rw [show tyName .non st = some "NoneType" from rfl]; dsimp only; rw [show kitB "NoneType" "int" = some false from by decide +kernel]
  | bl b => rw [show tyName (.bl b) st = some "bool" from rfl]; dsimp only; rw [show kitB "bool" "int" = some true from by decide +kernel]
  | int b => rw [show tyName (.int b) st = some "int" from rfl]; dsimp only; rw [show kitB "int" "int" = some true from by decide +kernel]
  | str b _ => rw [show tyName (.str _) st = some "str" from rfl]; dsimp only; rw [show kitB "str" "int" = some false from by decide +kernel]
  | tup b _ _ => rw [show tyName (.tup _) st = some "tuple" from rfl]; dsimp only; rw [show kitB "tuple" "int" = some false from by decide +kernel]
  | lst e => unfold tyName; dsimp only; rw [e]; dsimp only; rw [show kitB "list" "int" = some false from by decide +kernel]
theorem isi_bool {d : D} {st : Sto} (h : Fit st d) : oIsi [d, .ty "bool"] st = some (.bl (match d with | .bl _ => true | _ => false), st) := by
  unfold oIsi
  dsimp only
  cases h with
  | non => rw [show tyName .non st = some "NoneType" from rfl]; dsimp only; rw [show kitB "NoneType" "bool" = some false from by decide +kernel]
  | bl b => rw [show tyName (.bl b) st = some "bool" from rfl]; dsimp only; rw [show kitB "bool" "bool" = some true from by decide +kernel]
  | int b => rw [show tyName (.int b) st = some "int" from rfl]; dsimp only; rw [show kitB "int" "bool" = some false from by decide +kernel]
  | str b _ => rw [show tyName (.str _) st = some "str" from rfl]; dsimp only; rw [show kitB "str" "bool" = some false from by decide +kernel]
  | tup b _ _ => rw [show tyName (.tup _) st = some "tuple" from rfl]; dsimp only; rw [show kitB "tuple" "bool" = some false from by decide +kernel]
  | lst e => unfold tyName; dsimp only; rw [e]; dsimp only; rw [show kitB "list" "bool" = some false from by decide +kernel]
def inLF (x : Nat) : Bool := strIn (lettersT ++ figuresT) (oneS x)
def nmS (z : Str) : Bool := match z.cps.toList with
  | [] => false
  | c :: r => decide (z.length ≤ 6) && (!decide (z ∈ keptT) && (strIn lettersT (oneS c) && (c :: r).all inLF))
theorem at_zero {α : Type} {c : α} {r : List α} : atI (c :: r) 0 = some c := by
  rw [at_nat (Int.le_refl 0) (by rw [List.length_cons]; omega)]
  rfl
theorem nm_nil {z : Str} (h : z.length = 0) : nmS z = false := by
  have : z.cps.toList = [] := List.length_eq_zero_iff.mp (by rw [len_toL]; exact h)
  unfold nmS
  rw [this]
theorem nm_cons {z : Str} {c : Nat} {r : List Nat} (h : z.cps.toList = c :: r) : nmS z = (decide (z.length ≤ 6) && (!decide (z ∈ keptT) && (strIn lettersT (oneS c) && z.cps.toList.all inLF))) := by
  unfold nmS
  rw [h]
theorem signs_map (z : Str) : signsD z = z.cps.toList.map fun c => D.str (oneS c) := rfl
theorem signs_len (z : Str) : z.length = (signsD z).length := by
  rw [signs_map, List.length_map, len_toL]
theorem add_lf (st : Sto) : oAdd (.str (Str.ofString "abcdefghijklmnopqrstuvwxyz")) (.str (Str.ofString "0123456789")) st = some (.str (lettersT ++ figuresT), st) := add_s (by decide)
theorem asBls_mapF {α : Type} (f : α → Bool) : ∀ l : List α, asBls (l.map fun x => D.bl (f x)) = some (l.map f)
  | [] => rfl
  | x :: r => by
    rw [List.map_cons]
    unfold asBls
    rw [asBls_mapF f r]
    rfl
def nmV : D → Bool
  | .str z => nmS z
  | _ => false
theorem sub_lc {α : Type} {l : List α} {P : α → Bool} : (l.filter fun x => !P x).isEmpty = l.all P := by
  induction l with
  | nil => rfl
  | cons x r ih =>
    rw [List.filter_cons, List.all_cons]
    cases P x
    · rfl
    · exact ih
theorem is_name_at {d : D} {st : Sto} (h : Fit st d) : Ok (runDef 2 g_is_name [d] st) fun d' st' => d' = .bl (nmV d) ∧ ∃ t, st' = st ++ t := by
  unfold Ok
  rw [k_run, st_2_1]
  unfold g_is_name
  walk_at "go"
  rw [isi_str h]
  cases h with
  | @str z ha hz =>
    walk_at "go"
    rw [len_txt (sz (by omega))]
    walk_at "go"
    rw [le_i]
    walk_at "go"
    by_cases h0 : z.length = 0
    · rw [if_neg (by rw [decide_eq_true_eq]; omega)]
      exact ⟨by rw [show nmV (.str z) = false from nm_nil h0], [], (List.append_nil _).symm⟩
    rw [if_pos (by rw [decide_eq_true_eq]; omega), le_i]
    walk_at "go"
    have hlen := len_toL z
    cases hz' : z.cps.toList with
    | nil => rw [hz'] at hlen; exact absurd hlen.symm h0
    | cons c r =>
      have hnm := nm_cons hz'
      by_cases h6 : z.length ≤ 6
      · rw [decide_eq_true h6] at hnm
        rw [if_neg (by rw [Bool.not_eq_true, Bool.not_eq_false', decide_eq_true_eq]; omega), if_pos (show flatD (.str z) = true from rfl), inC_str, show c_KEPT = keptT from rfl]
        by_cases hk : z ∈ keptT
        · rw [decide_eq_true hk] at hnm
          rw [if_pos (decide_eq_true hk)]
          exact ⟨by rw [show nmV (.str z) = nmS z from rfl, hnm]; rfl, [], (List.append_nil _).symm⟩
        · rw [decide_eq_false hk] at hnm
          rw [if_neg (by rw [decide_eq_false hk]; exact Bool.false_ne_true), ix_str (c := c) (sz (by omega)) (by rw [hz']; exact at_zero)]
          walk_at "go"
          rw [show oIn (.str (oneS c)) (.str (Str.ofString "abcdefghijklmnopqrstuvwxyz")) st = some (.bl (strIn lettersT (oneS c)), st) from rfl]
          walk_at "go"
          by_cases hl : strIn lettersT (oneS c) = true
          · rw [hl] at hnm
            rw [if_pos hl, signs_len]
            refine Ok.imp (lc_pure (fun d => match d with | .str x => .bl (strIn (lettersT ++ figuresT) x) | _ => .non) (fun _ => true) ?_ ?_) (fun _ st' e => ?_)
            · rw [← signs_len]; exact szl (by omega)
            · intro d hd
              rw [signs_map] at hd
              obtain ⟨x, _, rfl⟩ := List.mem_map.mp hd
              refine ⟨_, rfl, fun acc => ⟨rfl, fun _ => ?_⟩⟩
              rfl
            · subst e
              have h1 : lstAt (st ++ [O.lst (((signsD z).filter fun _ => true).map fun d => match d with | .str x => .bl (strIn (lettersT ++ figuresT) x) | _ => .non)]) st.length = some (z.cps.toList.map fun x => D.bl (inLF x)) := by
                unfold lstAt
                rw [List.getElem?_append_right (Nat.le_refl _), Nat.sub_self, List.filter_eq_self.mpr (fun _ _ => rfl), signs_map, List.map_map]
                rfl
              have h2 : oAll [.loc st.length] (st ++ [O.lst (((signsD z).filter fun _ => true).map fun d => match d with | .str x => .bl (strIn (lettersT ++ figuresT) x) | _ => .non)]) = some (.bl ((z.cps.toList.map inLF).all id), st ++ [O.lst (((signsD z).filter fun _ => true).map fun d => match d with | .str x => .bl (strIn (lettersT ++ figuresT) x) | _ => .non)]) := by
                unfold oAll
                dsimp only
                rw [h1]
                dsimp only
                rw [asBls_mapF]
              rw [h2]
              refine ⟨?_, _, rfl⟩
              rw [show nmV (.str z) = nmS z from rfl, hnm, List.all_map]
              rfl
          · rw [Bool.not_eq_true _ |>.mp hl] at hnm
            rw [if_neg hl]
            exact ⟨by rw [show nmV (.str z) = nmS z from rfl, hnm]; rfl, [], (List.append_nil _).symm⟩
      · rw [decide_eq_false h6] at hnm
        rw [if_pos (by rw [Bool.not_eq_true', decide_eq_false_iff_not]; omega)]
        exact ⟨by rw [show nmV (.str z) = nmS z from rfl, hnm]; rfl, [], (List.append_nil _).symm⟩
  | _ => exact ⟨rfl, [], (List.append_nil _).symm⟩
theorem two_lst {st : Sto} {a b : O} : (st ++ [a] ++ [b])[st.length]? = some a := by
  rw [List.append_assoc, List.getElem?_append_right (Nat.le_refl _), Nat.sub_self]
  rfl
theorem last_lst {st : Sto} {b : O} : (st ++ [b])[st.length]? = some b := by
  rw [List.getElem?_append_right (Nat.le_refl _), Nat.sub_self]
  rfl
theorem law_is_name_at {kept : Fn} (hkp : KeptSp kept) {d : D} {st : Sto} (h : Fit st d) : Ok (runDef 3 (g_law_is_name kept) [d] st) fun d' st' => d' = .bl (nmV d) ∧ ∃ t, st' = st ++ t := by
  unfold Ok
  rw [k_run, st_3_1]
  unfold g_law_is_name
  walk_at "go"
  rw [isi_str h]
  cases h with
  | @str z ha hz =>
    walk_at "go"
    rw [len_txt (sz (by omega))]
    walk_at "go"
    rw [lt_i]
    walk_at "go"
    by_cases h0 : z.length = 0
    · rw [if_pos (by rw [decide_eq_true_eq]; omega)]
      exact ⟨by rw [show nmV (.str z) = false from nm_nil h0], [], (List.append_nil _).symm⟩
    rw [if_neg (by rw [decide_eq_true_eq]; omega), len_txt (sz (by omega))]
    walk_at "go"
    rw [gt_i]
    walk_at "go"
    have hlen := len_toL z
    cases hz' : z.cps.toList with
    | nil => rw [hz'] at hlen; exact absurd hlen.symm h0
    | cons c r =>
      have hnm := nm_cons hz'
      by_cases h6 : z.length ≤ 6
      · rw [decide_eq_true h6] at hnm
        rw [if_neg (by rw [decide_eq_true_eq]; omega)]
        refine OkX.of_eq (hkp _) ?_
        have hin : oIn (.str z) (.loc st.length) (st ++ [.lst (keptT.map D.str)]) = some (.bl (decide (z ∈ keptT)), st ++ [.lst (keptT.map D.str)]) := by
          unfold oIn
          rw [in_strs (lst_at last_lst)]
        rw [hin]
        walk_at "go"
        by_cases hk : z ∈ keptT
        · rw [decide_eq_true hk] at hnm
          rw [if_pos (decide_eq_true hk)]
          exact ⟨by rw [show nmV (.str z) = nmS z from rfl, hnm]; rfl, _, rfl⟩
        · rw [decide_eq_false hk] at hnm
          rw [if_neg (by rw [decide_eq_false hk]; exact Bool.false_ne_true), ix_str (c := c) (sz (by omega)) (by rw [hz']; exact at_zero)]
          walk_at "go"
          rw [show oNotIn (.str (oneS c)) (.str lettersT) (st ++ [O.lst (keptT.map D.str)]) = some (.bl (!strIn lettersT (oneS c)), st ++ [O.lst (keptT.map D.str)]) from rfl]
          walk_at "go"
          by_cases hl : strIn lettersT (oneS c) = true
          · rw [hl] at hnm
            rw [if_neg (by rw [hl]; exact Bool.false_ne_true), signs_len]
            refine Ok.imp (lc_pure (fun d => d) (fun d => match d with | .str x => !strIn (lettersT ++ figuresT) x | _ => false) ?_ ?_) (fun _ st' e => ?_)
            · rw [← signs_len]; exact szl (by omega)
            · intro d hd
              rw [signs_map] at hd
              obtain ⟨x, _, rfl⟩ := List.mem_map.mp hd
              refine ⟨_, rfl, fun acc => ⟨rfl, fun _ => ?_⟩⟩
              rfl
            · rw [if_pos (Nat.zero_le _)]
              have e3 : ((signsD z).filter fun d => match d with | .str x => !strIn (lettersT ++ figuresT) x | _ => false).map (fun d => d) = ((z.cps.toList.filter fun x => !inLF x).map oneS).map D.str := by
                rw [List.map_id', signs_map, List.filter_map, List.map_map]
                rfl
              rw [e3] at e
              subst e
              have hq := eq_nilS (st := st ++ [O.lst (keptT.map D.str)] ++ [O.lst (((z.cps.toList.filter fun x => !inLF x).map oneS).map D.str)] ++ [O.lst []]) (l := (st ++ [O.lst (keptT.map D.str)]).length) (k := (st ++ [O.lst (keptT.map D.str)] ++ [O.lst (((z.cps.toList.filter fun x => !inLF x).map oneS).map D.str)]).length) (ns := (z.cps.toList.filter fun x => !inLF x).map oneS) (fun w hw => by
                obtain ⟨x, hx, rfl⟩ := List.mem_map.mp hw
                exact asc_ok (asc_one (ha x (List.mem_filter.mp hx).1))) (lst_at two_lst) (lst_at last_lst)
              unfold oEq
              rw [hq]
              refine ⟨?_, [O.lst (keptT.map D.str), O.lst (((z.cps.toList.filter fun x => !inLF x).map oneS).map D.str), O.lst []], ?_⟩
              · rw [show nmV (.str z) = nmS z from rfl, hnm, List.isEmpty_map, sub_lc]
                rfl
              · rw [List.append_assoc, List.append_assoc]
                rfl
          · rw [Bool.not_eq_true _ |>.mp hl] at hnm ⊢
            exact ⟨by rw [show nmV (.str z) = nmS z from rfl, hnm]; rfl, _, rfl⟩
      · rw [decide_eq_false h6] at hnm
        rw [if_pos (by rw [decide_eq_true_eq]; omega)]
        exact ⟨by rw [show nmV (.str z) = nmS z from rfl, hnm]; rfl, [], (List.append_nil _).symm⟩
  | _ => exact ⟨rfl, [], (List.append_nil _).symm⟩
theorem is_name_sp {d : D} {st : Sto} (h : Fit st d) : Ok (runDef 2 g_is_name [d] st) fun e st' => e = .bl (nmV d) ∧ Ext st st' :=
  Ok.imp (is_name_at h) fun d' st' ⟨e, t, e2⟩ => ⟨e, Ext.of e2⟩
theorem law_is_name_sp {kept : Fn} (hkp : KeptSp kept) {d : D} {st : Sto} (h : Fit st d) : Ok (runDef 3 (g_law_is_name kept) [d] st) fun e st' => e = .bl (nmV d) ∧ Ext st st' :=
  Ok.imp (law_is_name_at hkp h) fun d' st' ⟨e, t, e2⟩ => ⟨e, Ext.of e2⟩
/-! ### numbers -/
def whV (z : Int) : D → Bool
  | .int i => decide (0 ≤ i ∧ i < z)
  | _ => false
section
variable {d : D} {st : Sto} {y : Int} {w : Nat} {size : Fn}
theorem is_number_sp (hs : SizeSp size) (hy : y = (w : Int)) (hw : w ≤ 24) (h : Fit st d) : Ok (runDef 2 (g_is_number size) [d, .int y] st) fun e st' => e = .bl (whV (2 ^ w) d) ∧ Ext st st' := by
  unfold Ok
  rw [k_run, st_2_2]
  unfold g_is_number
  walk_at "gg"
  rw [isi_int h]
  cases h with
  | int i =>
    walk_at "gg"
    rw [isi_bool (.int i)]
    walk_at "gg"
    by_cases h0 : 0 ≤ i
    · rw [if_pos h0]
      refine Ok.imp (hs st y w hy hw) fun e st' ⟨e1, e2⟩ => ?_
      subst e1; subst e2
      walk_at "gg"
      refine ⟨?_, Ext.refl⟩
      unfold whV
      simp [h0]
    · rw [if_neg h0]
      refine ⟨?_, Ext.refl⟩
      unfold whV
      simp [h0]
  | bl b =>
    walk_at "gg"
    rw [isi_bool (.bl b)]
    walk_at "gg"
    exact ⟨rfl, Ext.refl⟩
  | _ => exact ⟨rfl, Ext.refl⟩
theorem law_whole_sp {z : Int} (h : Fit st d) : Ok (runDef 2 g_law_whole [d, .int (z - 1)] st) fun e st' => e = .bl (whV z d) ∧ Ext st st' := by
  unfold Ok
  rw [k_run, st_2_2]
  unfold g_law_whole
  walk_at "gg"
  rw [isi_int h]
  cases h with
  | int i =>
    walk_at "gg"
    rw [isi_bool (.int i)]
    walk_at "gg"
    by_cases h0 : 0 ≤ i
    · rw [if_pos h0]
      refine ⟨?_, Ext.refl⟩
      unfold whV
      by_cases h1 : i < z
      · rw [decide_eq_true (show i ≤ z - 1 by omega)]; simp [h0, h1]
      · rw [decide_eq_false (show ¬ i ≤ z - 1 by omega)]; simp [h1]
    · rw [if_neg h0]
      refine ⟨?_, Ext.refl⟩
      unfold whV
      simp [h0]
  | bl b =>
    walk_at "gg"
    rw [isi_bool (.bl b)]
    walk_at "gg"
    exact ⟨rfl, Ext.refl⟩
  | _ => exact ⟨rfl, Ext.refl⟩
end
/-! ### terms -/
noncomputable def leafV (z : Int) (o x : D) : Bool := if o = .str "number" then whV z x else if o = .str "at" then nmV x else false
def opD (o : D) : Prop := o = .str "sum" ∨ o = .str "less" ∨ o = .str "times"
/-- how many parts; 0 of none -/
noncomputable def prtS (z : Int) (f : Int → D → Nat) (most : Int) : D → Nat
  | .tup [o, x] => if leafV z o x then 1 else 0
  | .tup [o, a, b] => if o = .str "sum" ∨ o = .str "less" ∨ o = .str "times" then
      (if f (most - 1) a = 0 then 0 else if f (most - 1 - (f (most - 1) a : Int)) b = 0 then 0 else 1 + f (most - 1) a + f (most - 1 - (f (most - 1) a : Int)) b)
      else 0
  | _ => 0
noncomputable def prt (z : Int) : Nat → Int → D → Nat
  | 0, _, _ => 0
  | k + 1, most, d => if most < 1 then 0 else prtS z (prt z k) most d
theorem fit_tup {st : Sto} {ds : List D} (h : Fit st (.tup ds)) : ds.length ≤ 1000 ∧ (∀ h, ds[0]? = some h → Cmp st h) ∧ ∀ d ∈ ds, Fit st d := by
  cases h with
  | tup hz hc hf => exact ⟨hz, hc, hf⟩
theorem len_tupD {ds : List D} {st : Sto} (h : ds.length ≤ 100000) : oLen [.tup ds] st = some (.int ds.length, st) := by
  rfl
def PtSp (z : Int) (k : Nat) (most : Int) (d : D) (st : Sto) : D → Sto → Prop := fun e st' => e = .int (prt z k most d : Int) ∧ Ext st st'
theorem ok_sum : PyData.strOk "sum" = true := by decide +kernel
theorem ok_less : PyData.strOk "less" = true := by decide +kernel
theorem ok_times : PyData.strOk "times" = true := by decide +kernel
theorem ok_numb : PyData.strOk "number" = true := by decide +kernel
section
variable {d : D} {st : Sto} {y : Int} {w : Nat} {isn isname leaf rec size whole : Fn}
theorem is_leaf_sp (hn : ∀ x st, Fit st x → Ok (isn [x, .int y] st) fun e st' => e = .bl (whV (2 ^ w) x) ∧ Ext st st') (hm : ∀ x st, Fit st x → Ok (isname [x] st) fun e st' => e = .bl (nmV x) ∧ Ext st st')
    {o : Str} {x : D} (h : Fit st x) : Ok (runDef 2 (g_is_leaf isn isname) [.tup [.str o, x], .int y] st) fun e st' => e = .bl (leafV (2 ^ w) (.str o) x) ∧ Ext st st' := by
  unfold Ok
  rw [k_run, st_2_2]
  unfold g_is_leaf
  walk_at "gg"
  by_cases h1 : o = Str.ofString "number"
  · rw [if_pos h1]
    refine Ok.imp (hn x st h) fun e st' ⟨e1, e2⟩ => ⟨?_, e2⟩
    rw [e1]; unfold leafV; rw [if_pos (by rw [h1])]
  · rw [if_neg h1]
    by_cases h2 : o = Str.ofString "at"
    · rw [if_pos h2]
      refine Ok.imp (hm x st h) fun e st' ⟨e1, e2⟩ => ⟨?_, e2⟩
      rw [e1]; unfold leafV; rw [if_neg (fun q => h1 (D.str.inj q)), if_pos (by rw [h2])]
    · rw [if_neg h2]
      refine ⟨?_, Ext.refl⟩
      unfold leafV; rw [if_neg (fun q => h1 (D.str.inj q)), if_neg (fun q => h2 (D.str.inj q))]
theorem int_of_bl {b : Bool} {st : Sto} : oIntX [.bl b] st = some (.int (if b then 1 else 0), st) := rfl
theorem parts_of_sp (hl : ∀ (o : Str) x st, Fit st x → Ok (leaf [.tup [.str o, x], .int y] st) fun e st' => e = .bl (leafV (2 ^ w) (.str o) x) ∧ Ext st st')
    {k : Nat} (hr : ∀ a most st, 1 ≤ k → Fit st a → Ok (rec [a, .int y, .int ((k : Int) - 1), .int most] st) (PtSp (2 ^ w) (k - 1) most a st)) {most : Int} (h : Fit st d) :
    Ok (runDef 6 (g_parts_of leaf rec) [d, .int y, .int (k : Int), .int most] st) (PtSp (2 ^ w) k most d st) := by
  unfold Ok
  rw [k_run, st_6_4]
  unfold g_parts_of
  cases k with
  | zero =>
    walk_at "gg"
    rw [if_pos (by simp)]
    exact ⟨by simp [prt], Ext.refl⟩
  | succ k =>
    have hk0 : ¬ ((k + 1 : Nat) : Int) = 0 := by omega
    walk_at "gg"
    rw [if_neg hk0]
    by_cases hm : most < 1
    · rw [if_pos hm]
      exact ⟨by simp [prt, hm], Ext.refl⟩
    rw [if_neg hm, isi_tup h]
    walk_at "gg"
    cases h with
    | @tup ds hz hc hf =>
      have e9 : ∀ v, prt (2 ^ w) (k + 1) most v = prtS (2 ^ w) (prt (2 ^ w) k) most v := fun v => by rw [prt, if_neg hm]
      walk_at "gg"
      rw [len_tupD (by omega)]
      walk_at "gg"
      rcases ds with _ | ⟨o, _ | ⟨x, r⟩⟩
      · walk_at "gg"
        exact ⟨by rw [e9]; rfl, Ext.refl⟩
      · walk_at "gg"
        exact ⟨by rw [e9]; rfl, Ext.refl⟩
      · rw [if_neg (by first | omega | (simp only [List.length_cons]; omega))]
        walk_at "gg"
        have ho := hf o List.mem_cons_self
        have hx := hf x (List.mem_cons_of_mem _ List.mem_cons_self)
        rw [isi_str ho]
        cases ho with
        | @str o ha hoz =>
          walk_at "gg"
          rw [len_tupD (by omega)]
          walk_at "gg"
          rcases r with _ | ⟨b, r⟩
          · try walk_at "gg"
            refine Ok.imp (hl o x st hx) fun e st' ⟨e1, e2⟩ => ?_
            subst e1
            rw [int_of_bl]
            refine ⟨?_, e2⟩
            rw [e9]
            unfold prtS
            dsimp only
            cases leafV (2 ^ w) (.str o) x <;> rfl
          · rw [if_neg (by first | omega | (simp only [List.length_cons]; omega))]
            walk_at "gg"
            by_cases hw : o ∈ c_WORDS
            · rw [if_neg (fun q => q hw)]
              rw [len_tupD (by omega)]
              walk_at "gg"
              rcases r with _ | ⟨c, r⟩
              · walk_at "gg"
                have hb := hf b (by simp)
                have how : (D.str o = .str "sum" ∨ D.str o = .str "less" ∨ D.str o = .str "times") := by
                  simp only [D.str.injEq]
                  simpa using hw
                refine Ok.imp (hr x (most - 1) st (by omega) hx) fun e s1 ⟨e1, e2⟩ => ?_
                subst e1
                simp only [Nat.add_sub_cancel]
                have e8 := e9 (.tup [.str o, x, b])
                unfold prtS at e8
                dsimp only at e8
                rw [if_pos how] at e8
                by_cases h0 : prt (2 ^ w) k (most - 1) x = 0
                · rw [if_pos h0] at e8
                  rw [h0]
                  walk_at "gg"
                  exact ⟨by rw [e8]; rfl, e2⟩
                · rw [if_neg h0] at e8
                  have h0' : ¬ ((prt (2 ^ w) k (most - 1) x : Nat) : Int) = 0 := by omega
                  walk_at "gg"
                  rw [if_neg h0']
                  refine Ok.imp (hr b (most - 1 - (prt (2 ^ w) k (most - 1) x : Int)) s1 (by omega) (hb.ext e2)) fun e s2 ⟨e3, e4⟩ => ?_
                  subst e3
                  simp only [Nat.add_sub_cancel]
                  generalize hq : prt (2 ^ w) k (most - 1 - (prt (2 ^ w) k (most - 1) x : Int)) b = q at e8
                  by_cases h1 : q = 0
                  · rw [if_pos h1] at e8
                    rw [h1]
                    walk_at "gg"
                    exact ⟨by rw [e8]; rfl, e2.trans e4⟩
                  · rw [if_neg h1] at e8
                    have h1' : ¬ ((q : Nat) : Int) = 0 := by omega
                    walk_at "gg"
                    rw [if_neg h1']
                    try walk_at "gg"
                    exact ⟨by rw [e8]; simp, e2.trans e4⟩
              · rw [if_pos (by first | omega | (simp only [List.length_cons]; omega))]
                exact ⟨by rw [e9]; rfl, Ext.refl⟩
            · rw [if_pos hw]
              refine ⟨?_, Ext.refl⟩
              rw [e9]
              rcases r with _ | ⟨c, r⟩
              · unfold prtS
                dsimp only
                rw [if_neg]
                · rfl
                · simp only [D.str.injEq]
                  simpa using hw
              · rfl
        | _ =>
          walk_at "gg"
          refine ⟨?_, Ext.refl⟩
          rw [e9]
          rcases r with _ | ⟨b, _ | ⟨c, r⟩⟩
          · simp [prtS, leafV]
          · simp [prtS]
          · rfl
    | _ => exact ⟨by simp [prt, prtS], Ext.refl⟩
theorem is_term_sp {rec : Fn} {z : Int} (hr : ∀ st, Fit st d → Ok (rec [d, .int y, .int 60, .int 400] st) (PtSp z 60 400 d st)) (h : Fit st d) :
    Ok (runDef 2 (g_is_term rec) [d, .int y] st) fun e st' => e = .bl (decide (0 < prt z 60 400 d)) ∧ Ext st st' := by
  unfold Ok
  rw [k_run, st_2_2]
  unfold g_is_term
  walk_at "gg"
  refine Ok.imp (hr st h) fun e st' ⟨e1, e2⟩ => ?_
  subst e1
  walk_at "gg"
  refine ⟨?_, e2⟩
  congr 1
  by_cases h : 0 < prt z 60 400 d
  · rw [decide_eq_true h, decide_eq_true (by omega)]
  · rw [decide_eq_false h, decide_eq_false (by omega)]
end
theorem leafV_at {z : Int} {x : D} : leafV z (.str (Str.ofString "at")) x = nmV x := by
  unfold leafV
  rw [if_neg (fun q => absurd (D.str.inj q) (by decide)), if_pos rfl]
theorem leafV_num {z : Int} {x : D} : leafV z (.str (Str.ofString "number")) x = whV z x := by
  unfold leafV
  rw [if_pos rfl]
theorem prtS_two {z m : Int} {f : Int → D → Nat} {o x : D} : prtS z f m (.tup [o, x]) = if leafV z o x then 1 else 0 := rfl
theorem prtS_no {z m : Int} {f : Int → D → Nat} {o a b : D} (h : ¬ (o = .str (Str.ofString "sum") ∨ o = .str (Str.ofString "less") ∨ o = .str (Str.ofString "times"))) : prtS z f m (.tup [o, a, b]) = 0 := by
  unfold prtS
  dsimp only
  exact if_neg h
theorem at_no : ¬ (D.str (Str.ofString "at") = .str (Str.ofString "sum") ∨ D.str (Str.ofString "at") = .str (Str.ofString "less") ∨ D.str (Str.ofString "at") = .str (Str.ofString "times")) := fun q => by
  rcases q with q | q | q <;> exact absurd (D.str.inj q) (by decide)
theorem num_no : ¬ (D.str (Str.ofString "number") = .str (Str.ofString "sum") ∨ D.str (Str.ofString "number") = .str (Str.ofString "less") ∨ D.str (Str.ofString "number") = .str (Str.ofString "times")) := fun q => by
  rcases q with q | q | q <;> exact absurd (D.str.inj q) (by decide)
section
variable {d : D} {st : Sto} {y : Int} {w : Nat} {isname whole size rec : Fn}
theorem txt3 {st : Sto} {d : D} (h : Cmp st d) {ws : List Str} (hw : ∀ w ∈ ws, PyData.strOk w = true) : oNotInX d (.loc st.length) (st ++ [.lst (ws.map D.str)]) = some (.bl (!decide (d ∈ ws.map D.str)), st ++ [.lst (ws.map D.str)]) := notIn_txts (h.ext Ext.app) (lst_at last_at) hw
theorem ok_ops : ∀ w ∈ opsT, PyData.strOk w = true := by decide +kernel
theorem notOp {st : Sto} {d : D} (h : Cmp st d) : oNotInX d (.loc st.length) (st ++ [.lst [.str (Str.ofString "sum"), .str (Str.ofString "less"), .str (Str.ofString "times")]]) = some (.bl (!decide (d = .str "sum" ∨ d = .str "less" ∨ d = .str "times")), st ++ [.lst [.str (Str.ofString "sum"), .str (Str.ofString "less"), .str (Str.ofString "times")]]) := by
  have := txt3 (ws := opsT) h ok_ops
  rw [show opsT.map D.str = [.str (Str.ofString "sum"), .str (Str.ofString "less"), .str (Str.ofString "times")] from rfl] at this
  rw [this]
  simp
theorem law_parts_of_sp (hm : ∀ x st, Fit st x → Ok (isname [x] st) fun e st' => e = .bl (nmV x) ∧ Ext st st') (hwh : ∀ x st, Fit st x → Ok (whole [x, .int (2 ^ w - 1)] st) fun e st' => e = .bl (whV (2 ^ w) x) ∧ Ext st st')
    (hs : SizeSp size) (hy : y = (w : Int)) (hw : w ≤ 24)
    {k : Nat} (hr : ∀ a most st, 1 ≤ k → Fit st a → Ok (rec [a, .int y, .int ((k : Int) - 1), .int most] st) (PtSp (2 ^ w) (k - 1) most a st)) {most : Int} (h : Fit st d) :
    Ok (runDef 6 (g_law_parts_of isname whole size rec) [d, .int y, .int (k : Int), .int most] st) (PtSp (2 ^ w) k most d st) := by
  unfold Ok
  rw [k_run, st_6_4]
  unfold g_law_parts_of
  cases k with
  | zero =>
    walk_at "gg"
    rw [if_pos (by simp)]
    exact ⟨by simp [prt], Ext.refl⟩
  | succ k =>
    have hk0 : ¬ ((k + 1 : Nat) : Int) = 0 := by omega
    walk_at "gg"
    rw [if_neg hk0]
    by_cases hm1 : most < 1
    · rw [if_pos hm1]
      exact ⟨by simp [prt, hm1], Ext.refl⟩
    rw [if_neg hm1, isi_tup h]
    walk_at "gg"
    cases h with
    | @tup ds hz hc hf =>
      have e9 : ∀ v, prt (2 ^ w) (k + 1) most v = prtS (2 ^ w) (prt (2 ^ w) k) most v := fun v => by rw [prt, if_neg hm1]
      walk_at "gg"
      rw [len_tupD (by omega)]
      walk_at "gg"
      rcases ds with _ | ⟨o, _ | ⟨x, r⟩⟩
      · walk_at "gg"
        exact ⟨by rw [e9]; rfl, Ext.refl⟩
      · walk_at "gg"
        exact ⟨by rw [e9]; rfl, Ext.refl⟩
      · rw [if_neg (by first | omega | (simp only [List.length_cons]; omega))]
        walk_at "gg"
        have hco := hc o rfl
        have hx := hf x (List.mem_cons_of_mem _ List.mem_cons_self)
        rw [eq_txt hco ok_at]
        walk_at "gg"
        by_cases ha : o = .str (Str.ofString "at")
        · rw [if_pos ha, len_tupD (by omega)]
          walk_at "gg"
          rcases r with _ | ⟨b, r⟩
          · try walk_at "gg"
            refine Ok.imp (hm x st hx) fun e st' ⟨e1, e2⟩ => ?_
            subst e1
            rw [int_of_bl]
            refine ⟨?_, e2⟩
            rw [e9, ha, prtS_two, leafV_at]
            cases nmV x <;> rfl
          · rw [if_neg (by first | omega | (simp only [List.length_cons]; omega)), int_of_bl]
            refine ⟨?_, Ext.refl⟩
            rw [e9, ha]
            rcases r with _ | ⟨c, r⟩
            · rw [prtS_no at_no]; rfl
            · rfl
        rw [if_neg ha, eq_txt hco ok_numb]
        walk_at "gg"
        by_cases hn : o = .str (Str.ofString "number")
        · rw [if_pos hn, len_tupD (by omega)]
          walk_at "gg"
          rcases r with _ | ⟨b, r⟩
          · try walk_at "gg"
            refine Ok.imp (hs st y w hy hw) fun e st' ⟨e1, e2⟩ => ?_
            subst e1; subst e2
            walk_at "gg"
            refine Ok.imp (hwh x st' hx) fun e st' ⟨e1, e2⟩ => ?_
            subst e1
            rw [int_of_bl]
            refine ⟨?_, e2⟩
            rw [e9, hn, prtS_two, leafV_num]
            cases whV (2 ^ w) x <;> rfl
          · rw [if_neg (by first | omega | (simp only [List.length_cons]; omega)), int_of_bl]
            refine ⟨?_, Ext.refl⟩
            rw [e9, hn]
            rcases r with _ | ⟨c, r⟩
            · rw [prtS_no num_no]; rfl
            · rfl
        rw [if_neg hn, notOp hco]
        walk_at "gg"
        have e0 : Ext st (st ++ [O.lst [.str (Str.ofString "sum"), .str (Str.ofString "less"), .str (Str.ofString "times")]]) := Ext.app
        generalize st ++ [O.lst [.str (Str.ofString "sum"), .str (Str.ofString "less"), .str (Str.ofString "times")]] = s0 at e0 ⊢
        by_cases how : (o = .str (Str.ofString "sum") ∨ o = .str (Str.ofString "less") ∨ o = .str (Str.ofString "times"))
        · rw [if_neg (fun q => q how), len_tupD (by omega)]
          walk_at "gg"
          rcases r with _ | ⟨b, _ | ⟨c, r⟩⟩
          · try walk_at "gg"
            refine ⟨?_, e0⟩
            rw [e9]
            unfold prtS leafV
            dsimp only
            rw [if_neg hn, if_neg ha]
            rfl
          · try walk_at "gg"
            have hb := hf b (by simp)
            have e8 := e9 (.tup [o, x, b])
            unfold prtS at e8
            dsimp only at e8
            rw [if_pos how] at e8
            refine Ok.imp (hr x (most - 1) s0 (by omega) (hx.ext e0)) fun e s1 ⟨e1, e2⟩ => ?_
            subst e1
            simp only [Nat.add_sub_cancel]
            have e3 := e0.trans e2
            by_cases h0 : prt (2 ^ w) k (most - 1) x = 0
            · rw [if_pos h0] at e8
              rw [h0]
              walk_at "gg"
              exact ⟨by rw [e8]; rfl, e3⟩
            · rw [if_neg h0] at e8
              have h0' : ¬ ((prt (2 ^ w) k (most - 1) x : Nat) : Int) = 0 := by omega
              walk_at "gg"
              rw [if_neg h0']
              try walk_at "gg"
              refine Ok.imp (hr b (most - 1 - (prt (2 ^ w) k (most - 1) x : Int)) s1 (by omega) (hb.ext e3)) fun e s2 ⟨e5, e4⟩ => ?_
              subst e5
              simp only [Nat.add_sub_cancel]
              generalize hq : prt (2 ^ w) k (most - 1 - (prt (2 ^ w) k (most - 1) x : Int)) b = q at e8
              by_cases h1 : q = 0
              · rw [if_pos h1] at e8
                rw [h1]
                walk_at "gg"
                exact ⟨by rw [e8]; rfl, e3.trans e4⟩
              · rw [if_neg h1] at e8
                have h1' : ¬ ((q : Nat) : Int) = 0 := by omega
                walk_at "gg"
                rw [if_neg h1']
                try walk_at "gg"
                exact ⟨by rw [e8]; simp, e3.trans e4⟩
          · rw [if_pos (by first | omega | (simp only [List.length_cons]; omega))]
            exact ⟨by rw [e9]; rfl, e0⟩
        · rw [if_pos how]
          refine ⟨?_, e0⟩
          rw [e9]
          rcases r with _ | ⟨b, _ | ⟨c, r⟩⟩
          · unfold prtS leafV
            dsimp only
            rw [if_neg hn, if_neg ha]
            rfl
          · unfold prtS
            dsimp only
            rw [if_neg how]
            rfl
          · rfl
    | _ => exact ⟨by simp [prt, prtS], Ext.refl⟩
theorem law_is_term_sp {rec : Fn} {z : Int} (hr : ∀ st, Fit st d → Ok (rec [d, .int y, .int 60, .int 400] st) (PtSp z 60 400 d st)) (h : Fit st d) :
    Ok (runDef 2 (g_law_is_term rec) [d, .int y] st) fun e st' => e = .bl (decide (0 < prt z 60 400 d)) ∧ Ext st st' := is_term_sp hr h
theorem right_sp {it lit : Fn} {b : Bool} (h1 : ∀ st, Fit st d → Ok (it [d, .int y] st) fun e st' => e = .bl b ∧ Ext st st') (h2 : ∀ st, Fit st d → Ok (lit [d, .int y] st) fun e st' => e = .bl b ∧ Ext st st') (h : Fit st d) :
    Ok (runDef 3 (g_law_right it lit) [d, .int y] st) fun e st' => e = .bl true ∧ Ext st st' := by
  unfold Ok
  rw [k_run, st_3_2]
  unfold g_law_right
  walk_at "gg"
  refine Ok.imp (h1 st h) fun e s1 ⟨e1, e2⟩ => ?_
  subst e1
  rw [isi_bool (.bl b)]
  walk_at "gg"
  refine Ok.imp (h2 s1 (h.ext e2)) fun e s2 ⟨e3, e4⟩ => ?_
  subst e3
  rw [show oEq (.bl b) (.bl b) s2 = some (.bl true, s2) from by show some (D.bl (decide (b = b)), s2) = _; simp]
  exact ⟨rfl, e2.trans e4⟩
end
end Sh

set_option maxHeartbeats 1000000
namespace Sh
open PySem PySem.Spec PyProof.Rows L2
local macro_rules | `(tactic| walk_at "go") => `(tactic| simp only [k_bnd, k_ret, k_ok, k_bad, k_badM, k_exc, k_lft, k_ite, k_ite', o_some, o_none, o_ite, v_some, k_var, k_c, k_op, k_call, k_call0, k_cb, k_nil, k_cons, k_tup, k_lst, k_bOf, k_bAnd, k_bOr, k_bNot, k_and, k_or, k_not, k_if, k_chain, k_inC, k_neg, k_bm, k_get2, k_pnone, k_psome, k_sl, k_pnil, k_pcons, k_dic, k_gix, k_seq, k_nx, k_rt, k_sbad, k_snil, k_spass, k_set, k_sret, k_sretN, k_sexp, k_sif, k_asg, k_par2, k_par3, k_aug, k_put, k_seqI, k_range1, k_forI, k_lc, List.getElem?_cons_zero, List.getElem?_cons_succ, List.set_cons_zero, List.set_cons_succ, List.length_cons, List.length_nil, if_true, if_false, Bool.not_true, Bool.not_false, Bool.false_eq_true, ite_true, ite_false, reduceIte, Nat.reduceAdd, Nat.zero_add])
local macro_rules | `(tactic| walk_at "gg") => `(tactic| simp only [k_bnd, k_ret, k_ok, k_bad, k_badM, k_exc, k_lft, k_ite, k_ite', o_some, o_none, o_ite, v_some, k_var, k_c, k_op, k_call, k_call0, k_cb, k_nil, k_cons, k_tup, k_lst, k_bOf, k_bAnd, k_bOr, k_bNot, k_and, k_or, k_not, k_if, k_chain, k_inC, k_neg, k_bm, k_get2, k_pnone, k_psome, k_sl, k_pnil, k_pcons, k_dic, k_gix, k_seq, k_nx, k_rt, k_sbad, k_snil, k_spass, k_set, k_sret, k_sretN, k_sexp, k_sif, k_asg, k_par2, k_par3, k_aug, k_put, k_seqI, k_range1, k_forI, k_lc, List.getElem?_cons_zero, List.getElem?_cons_succ, List.set_cons_zero, List.set_cons_succ, List.length_cons, List.length_nil, if_true, if_false, Bool.not_true, Bool.not_false, Bool.false_eq_true, ite_true, ite_false, reduceIte, Nat.reduceAdd, Nat.zero_add, k_sortSet, k_range2, iadd_i, add_i, sub_i, eq_i, eq_s, ne_i, ne_s, ne_b, lt_i, le_i, gt_i, ge_i, ix_0, ix_1, ix_2, flat_str, flat_int, flat_non, sz_0, sz_1, sz_2, sz_3, sz_4, sz_5, sz_6, sz_7, sz_8, sz_9, decide_eq_true_eq, Bool.not_eq_eq_eq_not, decide_eq_false_iff_not, decide_true, decide_false, true_and, and_true, exists_eq_left, inC_strs, not_true_eq_false, not_false_eq_true, Bool.true_eq_false, reduceCtorEq])
/-! ### drawn things: n lists, k tuples or lists within one another -/
inductive Th (s g : Nat) (st : Sto) : Nat → Nat → D → Prop
  | non {n k : Nat} : Th s g st n k .non
  | bl {n k : Nat} (b : Bool) : Th s g st n k (.bl b)
  | int {n k : Nat} {i : Int} (h : i.natAbs ≤ 100000000 * 3 ^ n) : Th s g st n k (.int i)
  | str {n k : Nat} {z : Str} (h : ascS z) (hz : z.length ≤ 100 * 3 ^ n) : Th s g st n k (.str z)
  | tup {n k : Nat} {ds : List D} (hz : ds.length ≤ 100 * 3 ^ n) (hf : ∀ d ∈ ds, Th s g st n k d) : Th s g st n (k + 1) (.tup ds)
  | lst {n k l : Nat} {ds : List D} (h : st[l]? = some (.lst ds)) (n1 : l ≠ s) (n2 : l ≠ g) (hf : ∀ d ∈ ds, Th s g st n k d) : Th s g st (n + 1) (k + 1) (.loc l)
theorem pow3 (n : Nat) : 1 ≤ 3 ^ n := Nat.one_le_iff_ne_zero.mpr (by simp)
theorem pow3s (n : Nat) : 3 ^ (n + 1) = 3 * 3 ^ n := by rw [Nat.pow_succ]; omega
section
variable {s g n k : Nat} {st : Sto} {d : D}
theorem Th.up (h : Th s g st n k d) : Th s g st (n + 1) k d := by
  induction h with
  | non => exact .non
  | bl b => exact .bl b
  | @int n k i h => have := pow3s n; exact .int (by omega)
  | @str n k z h hz => have := pow3s n; exact .str h (by omega)
  | @tup n k ds hz hf ih => have := pow3s n; exact .tup (by omega) ih
  | lst h n1 n2 hf ih => exact .lst h n1 n2 ih
theorem Th.dn (h : Th s g st n k d) : Th s g st n (k + 1) d := by
  induction h with
  | non => exact .non
  | bl b => exact .bl b
  | int h => exact .int h
  | str h hz => exact .str h hz
  | tup hz hf ih => exact .tup hz ih
  | lst h n1 n2 hf ih => exact .lst h n1 n2 ih
theorem Th.mono {n' k' : Nat} (hn : n ≤ n') (hk : k ≤ k') (h : Th s g st n k d) : Th s g st n' k' d := by
  have h1 : ∀ j, Th s g st (n + j) k d := fun j => by
    induction j with
    | zero => exact h
    | succ j ih => exact ih.up
  have h2 : ∀ j, Th s g st n' (k + j) d := fun j => by
    induction j with
    | zero => have := h1 (n' - n); rwa [show n + (n' - n) = n' by omega] at this
    | succ j ih => exact ih.dn
  have := h2 (k' - k)
  rwa [show k + (k' - k) = k' by omega] at this
theorem Th.gr {st' : Sto} (e : Gr s g st st') (h : Th s g st n k d) : Th s g st' n k d := by
  induction h with
  | non => exact .non
  | bl b => exact .bl b
  | int h => exact .int h
  | str h hz => exact .str h hz
  | tup hz hf ih => exact .tup hz ih
  | lst h n1 n2 hf ih => exact .lst (e.keep _ _ n1 n2 h) n1 n2 ih
theorem Th.ext {st' : Sto} (e : Ext st st') (h : Th s g st n k d) : Th s g st' n k d := h.gr e.gr
theorem pyWL_all {res : Nat → Option PyData} {P : PyData → Prop} : ∀ {ds : List D}, (∀ d ∈ ds, ∃ p, toPyW res d = some p ∧ P p) → ∃ ps, toPyWL res ds = some ps ∧ ∀ p ∈ ps, P p
  | [], _ => ⟨[], by unfold toPyWL; rfl, by simp⟩
  | d :: ds, h => by
    obtain ⟨p, e1, q1⟩ := h d List.mem_cons_self
    obtain ⟨ps, e2, q2⟩ := pyWL_all (ds := ds) fun x hx => h x (List.mem_cons_of_mem _ hx)
    refine ⟨p :: ps, ?_, fun x hx => ?_⟩
    · unfold toPyWL
      rw [e1, e2]
    · rcases List.mem_cons.mp hx with rfl | hx
      · exact q1
      · exact q2 x hx
theorem layAll {ps : List PyData} (h : ∀ p ∈ ps, p.canLay0 = true) : PyData.canLayAll0 ps = true := by
  induction ps with
  | nil => simp [PyData.canLayAll0]
  | cons p ps ih =>
    simp [PyData.canLayAll0, h p List.mem_cons_self, ih fun x hx => h x (List.mem_cons_of_mem _ hx)]
theorem depAll {ps : List PyData} {k : Nat} (h : ∀ p ∈ ps, p.depth ≤ k) : PyData.depthAll ps ≤ k := by
  induction ps with
  | nil => simp [PyData.depthAll]
  | cons p ps ih =>
    have h1 := h p List.mem_cons_self
    have h2 := ih fun x hx => h x (List.mem_cons_of_mem _ hx)
    simp only [PyData.depthAll]
    omega
theorem Th.py (h : Th s g st n k d) : ∀ N, n ≤ N → ∃ p, toPy st N d = some p ∧ p.canLay0 = true ∧ p.depth ≤ k := by
  induction h with
  | non => exact fun N _ => ⟨.none, by cases N <;> (unfold toPy; unfold toPyW; rfl), by simp [PyData.canLay0], by simp [PyData.depth]⟩
  | bl b => exact fun N _ => ⟨.bool b, by cases N <;> (unfold toPy; unfold toPyW; rfl), by simp [PyData.canLay0], by simp [PyData.depth]⟩
  | @int n k i h => exact fun N _ => ⟨.int i, by cases N <;> (unfold toPy; unfold toPyW; rfl), by simp [PyData.canLay0], by simp [PyData.depth]⟩
  | @str n k z h hz => exact fun N _ => ⟨.str z, by cases N <;> (unfold toPy; unfold toPyW; rfl), by simpa [PyData.canLay0] using asc_ok h, by simp [PyData.depth]⟩
  | @tup n k ds hz hf ih =>
    intro N hN
    have key : ∃ res, ∀ x, toPy st N x = toPyW res x := by cases N <;> (unfold toPy; exact ⟨_, fun _ => rfl⟩)
    obtain ⟨res, hr⟩ := key
    obtain ⟨ps, e1, q1⟩ := pyWL_all (res := res) (P := fun p => p.canLay0 = true ∧ p.depth ≤ k) fun x hx => by
      obtain ⟨p, e, q⟩ := ih x hx N hN
      exact ⟨p, by rw [← hr]; exact e, q⟩
    refine ⟨.tuple ps, ?_, ?_, ?_⟩
    · rw [hr]; unfold toPyW; rw [e1]; rfl
    · rw [PyData.canLay0]; exact layAll fun p hp => (q1 p hp).1
    · rw [PyData.depth]; exact Nat.succ_le_succ (depAll fun p hp => (q1 p hp).2)
  | @lst n k l ds h n1 n2 hf ih =>
    intro N hN
    obtain ⟨M, rfl⟩ : ∃ M, N = M + 1 := ⟨N - 1, by omega⟩
    obtain ⟨res, hr⟩ : ∃ res, ∀ x, toPy st M x = toPyW res x := by cases M <;> (unfold toPy; exact ⟨_, fun _ => rfl⟩)
    have hloc : (fun m => toPy st M (.loc m)) = res := by
      funext m
      rw [hr]
      unfold toPyW
      rfl
    obtain ⟨ps, e1, q1⟩ := pyWL_all (res := res) (P := fun p => p.canLay0 = true ∧ p.depth ≤ k) fun x hx => by
      obtain ⟨p, e, q⟩ := ih x hx M (by omega)
      exact ⟨p, by rw [← hr]; exact e, q⟩
    refine ⟨.list ps, ?_, ?_, ?_⟩
    · unfold toPy toPyW
      rw [lst_at h]
      dsimp only
      rw [hloc, e1]
      rfl
    · rw [PyData.canLay0]; exact layAll fun p hp => (q1 p hp).1
    · rw [PyData.depth]; exact Nat.succ_le_succ (depAll fun p hp => (q1 p hp).2)
theorem Th.cmp (h : Th s g st n k d) (hn : n ≤ 2) (hk : k ≤ 180) : Cmp st d := by
  obtain ⟨p, e, q1, q2⟩ := h.py 2 hn
  refine ⟨p, e, ?_⟩
  unfold shX
  rw [q1, decide_eq_true (Nat.le_trans q2 hk)]
  rfl
theorem Th.fit (h : Th s g st n k d) (hn : n ≤ 2) (hk : k ≤ 180) : Fit st d := by
  have h3 : 3 ^ n ≤ 9 := Nat.pow_le_pow_right (by omega) hn
  induction h with
  | non => exact .non
  | bl b => exact .bl b
  | int h => exact .int _
  | str h hz => exact .str h (by omega)
  | @tup n k ds hz hf ih => exact .tup (by omega) (fun x hx => (hf x (List.mem_of_getElem? hx)).cmp hn (by omega)) fun x hx => ih x hx hn (by omega) h3
  | lst h n1 n2 hf ih => exact .lst h
end
/-! ### ways into a thing -/
mutual
def waysD : D → List (List Nat)
  | .tup ds => [] :: waysL 0 ds
  | .non => [[]]
  | .bl _ => [[]]
  | .int _ => [[]]
  | .str _ => [[]]
  | .loc _ => [[]]
  | .ty _ => [[]]
def waysL : Nat → List D → List (List Nat)
  | _, [] => []
  | i, d :: ds => (waysD d).map (i :: ·) ++ waysL (i + 1) ds
end
def wayT (w : List Nat) : D := .tup (w.map fun (i : Nat) => D.int (i : Int))
def subD : D → List Nat → Option D
  | d, [] => some d
  | .tup ds, i :: w => match ds[i]? with
    | some x => subD x w
    | none => none
  | _, _ :: _ => none
def swapD : D → List Nat → D → D
  | _, [], e => e
  | .tup ds, i :: w, e => .tup (ds.take i ++ [swapD (ds[i]?.getD .non) w e] ++ ds.drop (i + 1))
  | d, _ :: _, _ => d
mutual
theorem ways_ok : ∀ (d : D) (w : List Nat), w ∈ waysD d → ∃ p, subD d w = some p
  | .tup ds, w, h => by
    unfold waysD at h
    rcases List.mem_cons.mp h with rfl | h
    · exact ⟨_, rfl⟩
    · obtain ⟨j, v, x, rfl, hj, hx⟩ := waysL_ok ds 0 w h
      simp only [Nat.zero_add] 
      obtain ⟨p, hp⟩ := hx
      exact ⟨p, by unfold subD; rw [hj]; exact hp⟩
  | .non, w, h => by unfold waysD at h; rw [List.mem_singleton.mp h]; exact ⟨_, rfl⟩
  | .bl _, w, h => by unfold waysD at h; rw [List.mem_singleton.mp h]; exact ⟨_, rfl⟩
  | .int _, w, h => by unfold waysD at h; rw [List.mem_singleton.mp h]; exact ⟨_, rfl⟩
  | .str _, w, h => by unfold waysD at h; rw [List.mem_singleton.mp h]; exact ⟨_, rfl⟩
  | .loc _, w, h => by unfold waysD at h; rw [List.mem_singleton.mp h]; exact ⟨_, rfl⟩
  | .ty _, w, h => by unfold waysD at h; rw [List.mem_singleton.mp h]; exact ⟨_, rfl⟩
theorem waysL_ok : ∀ (ds : List D) (i : Nat) (w : List Nat), w ∈ waysL i ds → ∃ (j : Nat) (v : List Nat) (x : D), w = (i + j) :: v ∧ ds[j]? = some x ∧ ∃ p, subD x v = some p
  | [], _, _, h => by unfold waysL at h; cases h
  | d :: ds, i, w, h => by
    unfold waysL at h
    rcases List.mem_append.mp h with h | h
    · obtain ⟨v, hv, rfl⟩ := List.mem_map.mp h
      exact ⟨0, v, d, rfl, rfl, ways_ok d v hv⟩
    · obtain ⟨j, v, x, rfl, hj, hx⟩ := waysL_ok ds (i + 1) w h
      exact ⟨j + 1, v, x, by rw [show i + 1 + j = i + (j + 1) by omega], hj, hx⟩
end
theorem Th.sub {s g n : Nat} {st : Sto} : ∀ {w : List Nat} {d p : D} {k : Nat}, Th s g st n k d → subD d w = some p → Th s g st n k p
  | [], d, p, k, h, e => by cases e; exact h
  | i :: w, d, p, k, h, e => by
    cases h with
    | @tup _ k ds hz hf =>
      unfold subD at e
      cases q : ds[i]? with
      | none => rw [q] at e; cases e
      | some x =>
        rw [q] at e
        exact ((hf x (List.mem_of_getElem? q)).sub e).dn
    | _ => cases e
theorem Th.put {s g n m j : Nat} {st : Sto} {e : D} (hm : n ≤ m) (he : Th s g st m j e) : ∀ {w : List Nat} {d p : D} {k : Nat}, Th s g st n k d → subD d w = some p → Th s g st m (k + j) (swapD d w e)
  | [], d, p, k, h, _ => he.mono (Nat.le_refl _) (by omega)
  | i :: w, d, p, k, h, q => by
    cases h with
    | @tup _ k ds hz hf =>
      unfold subD at q
      unfold swapD
      cases q2 : ds[i]? with
      | none => rw [q2] at q; cases q
      | some x =>
        rw [q2] at q
        have hi := (List.getElem?_eq_some_iff.mp q2).1
        have hp : 3 ^ n ≤ 3 ^ m := Nat.pow_le_pow_right (by omega) hm
        rw [show k + 1 + j = (k + j) + 1 by omega]
        refine .tup ?_ fun y hy => ?_
        · rw [List.length_append, List.length_append, List.length_take, List.length_drop, List.length_singleton]
          omega
        · rcases List.mem_append.mp hy with hy | hy
          · rcases List.mem_append.mp hy with hy | hy
            · exact (hf y (List.mem_of_mem_take hy)).mono hm (by omega)
            · rw [List.mem_singleton.mp hy]
              exact Th.put hm he (hf x (List.mem_of_getElem? q2)) q
          · exact (hf y (List.mem_of_mem_drop hy)).mono hm (by omega)
    | _ => cases q
/-! how many -/
mutual
def nodD : D → Nat
  | .tup ds => nodL ds + 1
  | .non => 1
  | .bl _ => 1
  | .int _ => 1
  | .str _ => 1
  | .loc _ => 1
  | .ty _ => 1
def nodL : List D → Nat
  | [] => 0
  | d :: ds => nodD d + nodL ds
end
mutual
theorem ways_len : ∀ d : D, (waysD d).length = nodD d
  | .tup ds => by unfold waysD nodD; rw [List.length_cons, waysL_len 0 ds]
  | .non => by unfold waysD nodD; rfl
  | .bl _ => by unfold waysD nodD; rfl
  | .int _ => by unfold waysD nodD; rfl
  | .str _ => by unfold waysD nodD; rfl
  | .loc _ => by unfold waysD nodD; rfl
  | .ty _ => by unfold waysD nodD; rfl
theorem waysL_len : ∀ (i : Nat) (ds : List D), (waysL i ds).length = nodL ds
  | _, [] => by unfold waysL nodL; rfl
  | i, d :: ds => by unfold waysL nodL; rw [List.length_append, List.length_map, ways_len d, waysL_len (i + 1) ds]
end
theorem waysL_take : ∀ (ds : List D) (i j : Nat) (x : D), ds[j]? = some x → waysL i (ds.take (j + 1)) = waysL i (ds.take j) ++ (waysD x).map ((i + j) :: ·)
  | [], _, _, _, h => by cases h
  | d :: ds, i, 0, x, h => by
    cases h
    simp [waysL]
  | d :: ds, i, j + 1, x, h => by
    have := waysL_take ds (i + 1) j x h
    rw [List.take_succ_cons, List.take_succ_cons, waysL, waysL, this, List.append_assoc, show i + 1 + j = i + (j + 1) by omega]
theorem nodL_take (ds : List D) : ∀ j, nodL (ds.take j) ≤ nodL ds := by
  induction ds with
  | nil => intro j; simp [nodL]
  | cons d ds ih =>
    intro j
    cases j with
    | zero => simp [nodL]
    | succ j => rw [List.take_succ_cons, nodL, nodL]; have := ih j; omega
theorem nod_mem {ds : List D} {x : D} (h : x ∈ ds) : nodD x ≤ nodL ds := by
  induction ds with
  | nil => cases h
  | cons d ds ih =>
    rw [nodL]
    rcases List.mem_cons.mp h with rfl | h
    · omega
    · have := ih h; omega
theorem k_enum {P : Nat × Src → Sto → Prop} {E : Str → Sto → Prop} {st : Sto} {en : Ev} (m : AM) : OkX (iEnum m en st) P E = OkX (m en st) (fun ds st1 => match ds with
    | [.tup es] => P (es.length, srcIts (enumD es)) st1
    | [.loc l] => (match lstAt st1 l with | some es => P (es.length, srcEn l) st1 | none => False)
    | _ => False) E := by
  unfold iEnum
  rw [k_bnd]
  congr 1
  funext ds st1
  rcases ds with _ | ⟨a, _ | ⟨b, r⟩⟩
  · rfl
  · cases a <;> try rfl
    rename_i l
    dsimp only
    cases lstAt st1 l <;> rfl
  · cases a <;> rfl
theorem for_en {b : SM} {tg : D → Ev → Option Ev} {ds : List D} {en : Ev} {st : Sto} {p : Po} (I : Nat → Ev → Sto → Prop) (h0 : I 0 en st)
    (hs : ∀ (i : Nat) d en st, ds[i]? = some d → I i en st → ∃ en1, tg (.tup [.int (i : Int), d]) en = some en1 ∧ OkS (b en1 st) { p with nx := I (i + 1), ct := I (i + 1), bk := p.nx })
    (hd : ∀ en st, I ds.length en st → p.nx en st) : OkS (sFor b tg (srcIts (enumD ds)) ds.length 0 en st) p := by
  have := for_its (b := b) (tg := tg) (p := p) (ds := enumD ds) I h0 (fun i d en st hd hI => by
    rw [enumD_get] at hd
    obtain ⟨x, hx, rfl⟩ := Option.map_eq_some_iff.mp hd
    exact hs i x en st hx hI) (fun en st h => hd en st (by rw [enumD_len] at h; exact h))
  rw [enumD_len] at this
  exact this
theorem addL2 {st : Sto} {l m : Nat} {xs ys : List D} (h : st[l]? = some (.lst xs)) (h' : st[m]? = some (.lst ys)) (hz : xs.length + ys.length ≤ 100000) : oAdd (.loc l) (.loc m) st = some (.loc st.length, st ++ [.lst (xs ++ ys)]) := by
  unfold oAdd
  dsimp only
  rw [h, h']
  dsimp only
  rw [if_pos (sz hz)]
mutual
theorem way_len : ∀ (d : D) (w : List Nat), w ∈ waysD d → w.length ≤ nodD d
  | .tup ds, w, h => by
    unfold waysD at h
    unfold nodD
    rcases List.mem_cons.mp h with rfl | h
    · simp
    · exact wayL_len ds 0 w h
  | .non, w, h => by unfold waysD at h; rw [List.mem_singleton.mp h]; simp
  | .bl _, w, h => by unfold waysD at h; rw [List.mem_singleton.mp h]; simp
  | .int _, w, h => by unfold waysD at h; rw [List.mem_singleton.mp h]; simp
  | .str _, w, h => by unfold waysD at h; rw [List.mem_singleton.mp h]; simp
  | .loc _, w, h => by unfold waysD at h; rw [List.mem_singleton.mp h]; simp
  | .ty _, w, h => by unfold waysD at h; rw [List.mem_singleton.mp h]; simp
theorem wayL_len : ∀ (ds : List D) (i : Nat) (w : List Nat), w ∈ waysL i ds → w.length ≤ nodL ds + 1
  | [], _, _, h => by unfold waysL at h; cases h
  | d :: ds, i, w, h => by
    unfold waysL at h
    unfold nodL
    rcases List.mem_append.mp h with h | h
    · obtain ⟨v, hv, rfl⟩ := List.mem_map.mp h
      have := way_len d v hv
      rw [List.length_cons]
      omega
    · have := wayL_len ds (i + 1) w h
      omega
end
def WaySp (d : D) (st : Sto) : D → Sto → Prop := fun e st' => ∃ l, e = .loc l ∧ st'[l]? = some (.lst ((waysD d).map wayT)) ∧ st.length ≤ l ∧ Ext st st'
def wayF (i : Nat) : D → D
  | .tup js => .tup (.int (i : Int) :: js)
  | _ => .non
theorem law_ways_sp {f : Fn} {d : D} {st : Sto} (h : Fit st d) (hz : nodD d ≤ 50000) (hf : ∀ ds x, d = .tup ds → x ∈ ds → ∀ st, Fit st x → Ok (f [x] st) (WaySp x st)) : Ok (runDef 5 (g_law_ways f) [d] st) (WaySp d st) := by
  unfold Ok
  rw [k_run, st_5_1]
  unfold g_law_ways
  refine cut_seq (fun en' st' => en' = [some d, some (.loc st.length), none, none, none] ∧ st' = st ++ [.lst [.tup []]]) ?_ (fun en1 s1 hJ => ?_)
  · walk_at "gg"
  obtain ⟨rfl, rfl⟩ := hJ
  refine cut_seq (fun en' st' => ∃ (l : Nat) (x2 x3 x4 : Option D), en' = [some d, some (.loc l), x2, x3, x4] ∧ st'[l]? = some (.lst ((waysD d).map wayT)) ∧ st.length ≤ l ∧ Ext st st') ?_ (fun en1 s1 hJ => ?_)
  · walk_at "gg"
    rw [isi_tup (h.ext Ext.app)]
    walk_at "gg"
    cases h with
    | @tup ds hz1 hc hff =>
      walk_at "gg"
      rw [k_enum]
      walk_at "gg"
      have hn0 : nodD (.tup ds) = nodL ds + 1 := by rw [nodD]
      refine for_en (fun i en st' => ∃ (l : Nat) (x2 x3 x4 : Option D), en = [some (.tup ds), some (.loc l), x2, x3, x4] ∧ st'[l]? = some (.lst (([] :: waysL 0 (ds.take i)).map wayT)) ∧ st.length ≤ l ∧ Ext st st') ⟨_, _, _, _, rfl, by simpa [waysL, wayT] using last_at, Nat.le_refl _, Ext.app⟩ (fun i x en s2 hx hK => ?_) (fun en s2 hK => ?_)
      · obtain ⟨l, x2, x3, x4, rfl, hA, hl, hE⟩ := hK
        refine ⟨_, rfl, ?_⟩
        have hm := List.mem_of_getElem? hx
        walk_at "gg"
        refine Ok.imp (hf ds x rfl hm s2 ((hff x hm).ext hE)) fun d s3 ⟨b0, e1, hB, hbl, hE3⟩ => ?_
        subst e1
        dsimp only
        rw [lst_at hB]
        dsimp only
        have hnx := nod_mem hm
        refine Ok.imp (lc_pureAt (st0 := s3) (l := b0) (wayF i) (fun _ => true) (by rw [List.length_map, ways_len]; exact szl (by omega)) (lst_at hB) ?_) fun _ s4 e => ?_
        · intro d hd
          obtain ⟨v, hv, rfl⟩ := List.mem_map.mp hd
          refine ⟨_, rfl, fun acc => ⟨rfl, fun _ => ?_⟩⟩
          have hv2 := way_len x v hv
          show (match oAdd (.tup [.int (i : Int)]) (wayT v) (s3 ++ [O.lst acc]) with | some (d, st') => R.ok d st' | none => R.bad) = _
          unfold wayT
          rw [tup_i (by rw [List.length_map, List.length_singleton]; omega)]
          rfl
        · subst e
          rw [List.filter_eq_self.mpr (fun _ _ => rfl), List.map_map]
          have e5 : (waysD x).map (wayF i ∘ wayT) = ((waysD x).map (i :: ·)).map wayT := by
            rw [List.map_map]
            rfl
          rw [e5]
          have hn1 := nodL_take ds i
          rw [addL2 (app_get (hE3.get hA)) last_at (by rw [List.length_map, List.length_map, List.length_map, List.length_cons, waysL_len, ways_len]; omega)]
          refine ⟨_, _, _, _, rfl, ?_, ?_, (hE.trans hE3).appR.appR⟩
          · rw [last_at, waysL_take ds 0 i x hx, Nat.zero_add, ← List.map_append]
            rfl
          · have := hE.len; have := hE3.len
            rw [List.length_append]
            omega
      · obtain ⟨l, x2, x3, x4, rfl, hA, hl, hE⟩ := hK
        refine ⟨l, _, _, _, rfl, ?_, hl, hE⟩
        rw [hA, List.take_length, waysD]
    | _ => exact ⟨_, _, _, _, rfl, by simpa [waysD, wayT] using last_at, Nat.le_refl _, Ext.app⟩
  obtain ⟨l, x2, x3, x4, rfl, hA, hl, hE⟩ := hJ
  walk_at "gg"
  exact ⟨l, rfl, hA, hl, hE⟩
/-! ### another thing at a way -/
theorem sl_tupD {ds : List D} {lo hi : Option Int} {st : Sto} : slD (.tup ds) lo hi st = some (.tup (cutD ds lo hi), st) := rfl
theorem cut_from {xs : List D} {n : Nat} : cutD xs (some (n : Int)) none = xs.drop n := by
  unfold cutD
  rw [HT.sIx_none, HT.sIx_nat]
  by_cases h : n ≤ xs.length
  · rw [Nat.min_eq_left h, List.take_of_length_le (by rw [List.length_drop]; omega)]
  · rw [Nat.min_eq_right (by omega), List.drop_length, List.drop_of_length_le (by omega)]
    simp
theorem way_nil {w : List Nat} {st : Sto} (hz : w.length ≤ 100000) : oEq (wayT w) (.tup []) st = some (.bl (decide (w = [])), st) := by
  have h1 : PlL (w.map fun (i : Nat) => D.int (i : Int)) := plL_iff.mpr fun x hx => by
    obtain ⟨i, _, rfl⟩ := List.mem_map.mp hx
    exact ⟨rfl, by simp [depD]⟩
  unfold wayT
  rw [oEq_pl (pl_tup.mpr h1) (pl_tup.mpr plL_nil)]
  cases w <;> simp
theorem law_put_sp {f : Fn} {d e p : D} {st : Sto} {w : List Nat} (hw : w.length ≤ 100000) (hs : subD d w = some p) (hz : ∀ ds, d = .tup ds → ds.length ≤ 50000)
    (hf : ∀ ds i v x, d = .tup ds → w = i :: v → ds[i]? = some x → Ok (f [x, wayT v, e] st) fun r st' => r = swapD x v e ∧ st' = st) :
    Ok (runDef 4 (g_law_put f) [d, wayT w, e] st) fun r st' => r = swapD d w e ∧ st' = st := by
  unfold Ok
  rw [k_run, st_4_3]
  unfold g_law_put
  walk_at "gg"
  rw [way_nil hw]
  walk_at "gg"
  cases w with
  | nil =>
    rw [if_pos rfl]
    cases d <;> rfl
  | cons i v =>
    rw [if_neg (by simp)]
    have e1 : wayT (i :: v) = .tup (.int (i : Int) :: v.map fun (i : Nat) => D.int (i : Int)) := rfl
    rw [e1]
    walk_at "gg"
    cases d with
    | tup ds =>
      unfold subD at hs
      cases q : ds[i]? with
      | none => rw [q] at hs; cases hs
      | some x =>
        rw [sl_tupD]
        walk_at "gg"
        rw [show oIx (.tup ds) (.int (i : Int)) st = some (x, st) from ix_tup (by rw [at_nat (by omega) (by have := (List.getElem?_eq_some_iff.mp q).1; omega)]; exact q)]
        walk_at "gg"
        rw [show (1 : Int) = ((1 : Nat) : Int) from rfl, sl_tupD, cut_from]
        walk_at "gg"
        rw [show D.tup (List.drop 1 (.int (i : Int) :: v.map fun (i : Nat) => D.int (i : Int))) = wayT v from rfl]
        refine Ok.imp (hf ds i v x rfl rfl q) fun r st' ⟨e2, e3⟩ => ?_
        subst e2; subst e3
        have hi := (List.getElem?_eq_some_iff.mp q).1
        have hl := hz ds rfl
        try walk_at "gg"
        rw [cut_upto, tup_i (by rw [List.length_take, List.length_singleton]; omega)]
        walk_at "gg"
        rw [show ((i : Int) + ((1 : Nat) : Int)) = ((i + 1 : Nat) : Int) by omega, sl_tupD, cut_from]
        walk_at "gg"
        rw [tup_i (by rw [List.length_append, List.length_take, List.length_singleton, List.length_drop]; omega)]
        refine ⟨?_, rfl⟩
        rw [swapD, q]
        rfl
    | _ => cases hs
/-! ### things put otherwise -/
theorem ix_in {l : Nat} {st : Sto} {ds : List D} {i : Int} (h : lstAt st l = some ds) (h0 : 0 ≤ i) (h1 : i < ds.length) : ∃ d ∈ ds, oIx (.loc l) (.int i) st = some (d, st) := by
  have hi : i.toNat < ds.length := by omega
  exact ⟨ds[i.toNat], List.getElem_mem hi, ix_lst h (by rw [at_nat h0 h1]; exact List.getElem?_eq_getElem hi)⟩
theorem cutD_mem {ds : List D} {lo hi : Option Int} {x : D} (h : x ∈ cutD ds lo hi) : x ∈ ds := List.mem_of_mem_drop (List.mem_of_mem_take h)
theorem cutD_le (ds : List D) (lo hi : Option Int) : (cutD ds lo hi).length ≤ ds.length := by
  unfold cutD
  rw [List.length_take, List.length_drop]
  omega
theorem asc_nat (k : Nat) : ascS (Str.ofString (toString (k : Int))) ∧ (∀ m, k < 10 ^ (m + 1) → (Str.ofString (toString (k : Int))).length ≤ m + 1) := by
  have e : (Str.ofString (toString (k : Int))).cps.toList = TL.numL k := TL.tl_num k
  refine ⟨fun c hc => ?_, fun m hm => ?_⟩
  · rw [e] at hc
    have := TL.numL_digits k c hc
    omega
  · rw [← len_toL, e]
    exact TL.numL_len (by omega) hm
section
variable {s g c n k : Nat} {I : Sto → Prop} {take pick : Fn} {st : Sto}
theorem bent_word_sp (V : Draws s g c I take pick) {W : Nat} {ws : List Str} {w : Str} (hI : I st) (hW : st[W]? = some (.lst (ws.map D.str))) (n1 : W ≠ s) (n2 : W ≠ g) (h0 : 0 < ws.length) (hl : ws.length ≤ 1000)
    (hws : ∀ w ∈ ws, ascS w ∧ w.length ≤ 100) (ha : ascS w) (hw : w.length ≤ 100 * 3 ^ n) (hn : n ≤ 2) :
    Ok (runDef 7 (g_law_bent_word take pick) [.loc s, .str w, .loc W] st) fun e st' => Th s g st' (n + 1) 1 e ∧ I st' ∧ Gr s g st st' := by
  unfold Ok
  rw [k_run, st_7_3]
  unfold g_law_bent_word
  have h3 : 3 ^ n ≤ 9 := Nat.pow_le_pow_right (by omega) hn
  have h1n := pow3 n
  have hs3 := pow3s n
  refine cut_seq (fun en' st' => (∃ v a : Int, en' = [some (.loc s), some (.str w), some (.loc W), some (.int v), some (.int a), none, none] ∧ 0 ≤ v ∧ v < 8 ∧ 0 ≤ a ∧ a ≤ w.length) ∧ I st' ∧ Gr s g st st') ?_ (fun en1 s1 hJ => ?_)
  · walk_at "gg"
    refine Ok.imp (V.take hI (by omega) (by omega)) fun d s1 ⟨⟨v, e1, v1, v2⟩, hI1, hG1⟩ => ?_
    subst e1
    try walk_at "gg"
    rw [len_txt (sz (by omega))]
    walk_at "gg"
    refine Ok.imp (V.take hI1 (by omega) (by omega)) fun d s2 ⟨⟨a, e1, a1, a2⟩, hI2, hG2⟩ => ?_
    subst e1
    exact ⟨⟨v, a, by rfl, v1, v2, a1, by omega⟩, hI2, hG1.trans hG2⟩
  obtain ⟨⟨v, a, rfl, v1, v2, a1, a2⟩, hI1, hG1⟩ := hJ
  refine cut_seq (fun en' st' => (∃ x : Str, en' = [some (.loc s), some (.str w), some (.loc W), some (.int v), some (.int a), some (.str x), none] ∧ ascS x ∧ x.length = 1) ∧ I st' ∧ Gr s g st st') ?_ (fun en1 s2 hJ => ?_)
  · walk_at "gg"
    refine Ok.imp (V.pickS hI1 (by decide) (by decide)) fun d s2 ⟨⟨x, e1, hx⟩, hI2, hG2⟩ => ?_
    subst e1
    have hasc : ascS (Str.ofString "abcdefghijklmnopqrstuvwxyz0123456789ABCZ_ -+.") := asc_of (by decide +kernel)
    exact ⟨⟨oneS x, by rfl, asc_one (hasc x hx), len_one x⟩, hI2, hG1.trans hG2⟩
  obtain ⟨⟨x, rfl, x1, x2⟩, hI2, hG2⟩ := hJ
  refine cut_seq (fun en' st' => (en' = [some (.loc s), some (.str w), some (.loc W), some (.int v), some (.int a), some (.str x), none] ∧ 3 ≤ v) ∧ I st' ∧ Gr s g st st') ?_ (fun en1 s3 hJ => ?_)
  · walk_at "gg"
    by_cases hv : v < 3
    · rw [if_pos hv]
      refine Ok.imp (V.pickL hI2 (hG2.keep _ _ n1 n2 hW) n1 n2 (by rw [List.length_map]; omega) (by rw [List.length_map]; omega)) fun d s3 ⟨hd, hI3, hG3⟩ => ?_
      obtain ⟨z, hz, rfl⟩ := List.mem_map.mp hd
      have := hws z hz
      exact ⟨.str this.1 (by omega), hI3, hG2.trans hG3⟩
    · rw [if_neg hv]
      exact ⟨by omega, hI2, hG2⟩
  obtain ⟨⟨rfl, hv⟩, hI3, hG3⟩ := hJ
  have c1 := cut_le w none (some a)
  have c2 := cut_le w (some a) none
  have c3 := cut_le w (some (a + 1)) none
  have l1 := len_app (cutS w none (some a)) x
  have l2 := len_app (cutS w none (some a) ++ x) (cutS w (some a) none)
  have l3 := len_app (cutS w none (some a) ++ x) (cutS w (some (a + 1)) none)
  have l4 := len_app (cutS w none (some a)) (cutS w (some (a + 1)) none)
  have up := asc_up ha
  have key : ∀ y ∈ [D.str (cutS w none (some a) ++ x ++ cutS w (some a) none), .str (cutS w none (some a) ++ x ++ cutS w (some (a + 1)) none), .str (cutS w none (some a) ++ cutS w (some (a + 1)) none), .str (Txt.upper w)], ∃ z, y = .str z ∧ ascS z ∧ z.length ≤ 100 * 3 ^ (n + 1) := by
    intro y hy
    simp only [List.mem_cons, List.not_mem_nil, or_false] at hy
    rcases hy with rfl | rfl | rfl | rfl
    · exact ⟨_, rfl, asc_app (asc_app (asc_cut ha) x1) (asc_cut ha), by omega⟩
    · exact ⟨_, rfl, asc_app (asc_app (asc_cut ha) x1) (asc_cut ha), by omega⟩
    · exact ⟨_, rfl, asc_app (asc_cut ha) (asc_cut ha), by omega⟩
    · exact ⟨_, rfl, up.1, by omega⟩
  refine cut_seq (fun en' st' => (∃ (l : Nat) (ys : List D), en' = [some (.loc s), some (.str w), some (.loc W), some (.int v), some (.int a), some (.str x), some (.loc l)] ∧ st'[l]? = some (.lst ys) ∧ ys.length = 4 ∧ ∀ y ∈ ys, ∃ z, y = .str z ∧ ascS z ∧ z.length ≤ 100 * 3 ^ (n + 1)) ∧ I st' ∧ Gr s g st st') ?_ (fun en1 s4 hJ => ?_)
  · walk_at "gg"
    rw [sl_txt (by omega)]
    walk_at "gg"
    rw [add_s (by omega)]
    walk_at "gg"
    rw [sl_txt (by omega)]
    walk_at "gg"
    rw [add_s (by omega)]
    walk_at "gg"
    rw [sl_txt (by omega)]
    walk_at "gg"
    rw [add_s (by omega)]
    walk_at "gg"
    rw [sl_txt (by omega)]
    walk_at "gg"
    rw [add_s (by omega)]
    walk_at "gg"
    rw [sl_txt (by omega)]
    walk_at "gg"
    rw [sl_txt (by omega)]
    walk_at "gg"
    rw [add_s (by omega)]
    walk_at "gg"
    rw [if_pos (show isTyD "str" (.str w) s3 = true from rfl), show oUpper (.str w) [] s3 = some (.str (Txt.upper w), s3) from if_pos (by omega)]
    walk_at "gg"
    exact ⟨⟨s3.length, _, by rfl, last_at, rfl, key⟩, V.app hI3, hG3.trans Gr.app⟩
  obtain ⟨⟨l, ys, rfl, hL, hy4, hys⟩, hI4, hG4⟩ := hJ
  have hlt := V.lt hI4
  walk_at "gg"
  rw [mod_i (by omega)]
  walk_at "gg"
  have hb1 : (s4 ++ [O.lst [D.str w]])[s4.length]? = some (.lst [D.str w]) := last_at
  have hI5 : I (s4 ++ [O.lst [D.str w]]) := V.app hI4
  have hG5 : Gr s g st (s4 ++ [O.lst [D.str w]]) := hG4.trans Gr.app
  have hL5 : (s4 ++ [O.lst [D.str w]])[l]? = some (.lst ys) := app_get hL
  generalize s4 ++ [O.lst [D.str w]] = s5 at hb1 hI5 hG5 hL5 ⊢
  obtain ⟨q, hq, e1⟩ := ix_in (l := s5.length) (st := s5 ++ [O.lst [.non, .int 7, .loc s4.length, .tup [.str w], .str (Str.ofString "")]]) (i := a % 5) (lst_at last_at) (by omega) (by simp only [List.length_cons, List.length_nil]; omega)
  rw [e1]
  walk_at "gg"
  have hw1 : ∀ {m j : Nat}, n ≤ m → Th s g s5 m j (.str w) := fun {m j} h => .str ha (by have := Nat.pow_le_pow_right (n := 3) (by omega) h; omega)
  have hqt : Th s g s5 (n + 1) 1 q := by
    simp only [List.mem_cons, List.not_mem_nil, or_false] at hq
    rcases hq with rfl | rfl | rfl | rfl | rfl
    · exact .non
    · exact .int (by omega)
    · exact .lst hb1 (by omega) (by omega) fun d hd => by rw [List.mem_singleton.mp hd]; exact hw1 (Nat.le_refl _)
    · exact .tup (by simp only [List.length_singleton]; omega) fun d hd => by rw [List.mem_singleton.mp hd]; exact hw1 (by omega)
    · exact .str (asc_of (by decide +kernel)) (by rw [show (Str.ofString "").length = 0 from rfl]; omega)
  rw [addL2 (app_get (app_get hL5)) last_at (by rw [hy4, List.length_singleton]; omega)]
  walk_at "gg"
  obtain ⟨r, hr, e2⟩ := ix_in (l := (s5 ++ [O.lst [.non, .int 7, .loc s4.length, .tup [.str w], .str (Str.ofString "")]] ++ [O.lst [q]]).length) (st := s5 ++ [O.lst [.non, .int 7, .loc s4.length, .tup [.str w], .str (Str.ofString "")]] ++ [O.lst [q]] ++ [O.lst (ys ++ [q])]) (i := v - 3) (lst_at last_at) (by omega) (by rw [List.length_append, hy4, List.length_singleton]; omega)
  rw [e2]
  refine ⟨?_, V.app (V.app (V.app hI5)), ((hG5.trans Gr.app).trans Gr.app).trans Gr.app⟩
  refine Th.gr ((Gr.app.trans Gr.app).trans Gr.app) ?_
  rcases List.mem_append.mp hr with hr | hr
  · obtain ⟨z, rfl, z1, z2⟩ := hys r hr
    exact .str z1 z2
  · rw [List.mem_singleton.mp hr]
    exact hqt
end
theorem ok_ix {l : Nat} {st : Sto} {ds : List D} {i : Int} {P : D → Sto → Prop} (h : lstAt st l = some ds) (h0 : 0 ≤ i) (h1 : i < ds.length) (k : ∀ d ∈ ds, P d st) : OkO (oIx (.loc l) (.int i) st) P := by
  obtain ⟨d, hd, e⟩ := ix_in h h0 h1
  rw [e]
  exact k d hd
theorem k_back {P : D → Sto → Prop} {E : Str → Sto → Prop} {st : Sto} {en : Ev} (a : EM) : OkX (eBack a en st) P E = OkX (a en st) (fun d st1 => match d with | .tup ds => P (.tup ds.reverse) st1 | _ => False) E := by
  unfold eBack
  rw [k_bnd]
  congr 1
  funext d st1
  cases d <;> rfl
theorem oList_tt {ds : List D} {st : Sto} : oList [.tup ds] st = some (.loc st.length, st ++ [.lst ds]) := rfl
theorem neg_txt (k : Nat) : toString (Int.negSucc k) = "-" ++ toString ((k + 1 : Nat) : Int) := rfl
theorem int_txt (i : Int) (h : i.natAbs < 10 ^ 12) : ascS (Str.ofString (toString i)) ∧ (Str.ofString (toString i)).length ≤ 13 := by
  cases i with
  | ofNat k =>
    have := asc_nat k
    have h2 := this.2 11 h
    exact ⟨this.1, by show (Str.ofString (toString (k : Int))).length ≤ 13; omega⟩
  | negSucc k =>
    have := asc_nat (k + 1)
    have h2 := this.2 11 h
    have e : Str.ofString (toString (Int.negSucc k)) = ("-" : Str) ++ Str.ofString (toString ((k + 1 : Nat) : Int)) := by
      rw [neg_txt, Str.ofString_eq_toList ("-" ++ _), Str.ofString_eq_toList (toString ((k + 1 : Nat) : Int)), Str.ofString_eq_toList "-"]
      show _ = Str.mk (_ ++ _)
      rw [String.toList_append, List.map_append, List.append_toArray]
    rw [e]
    refine ⟨asc_app (asc_of (by decide +kernel)) this.1, ?_⟩
    have l := len_app ("-" : Str) (Str.ofString (toString ((k + 1 : Nat) : Int)))
    have l1 : ("-" : Str).length = 1 := rfl
    omega
theorem str_any {i : Int} {st : Sto} (h : i.natAbs < 10 ^ 12) : oStrI [.int i] st = some (.str (Str.ofString (toString i)), st) := by
  unfold oStrI
  dsimp only
  rw [if_pos]
  have h3 : i.natAbs < 2 ^ 1920 := Nat.lt_of_lt_of_le (show i.natAbs < 2 ^ 64 by omega) (Nat.pow_le_pow_right (by omega) (by omega))
  rcases Nat.eq_zero_or_pos i.natAbs with e | e
  · rw [e]; decide
  · exact (Nat.log2_lt (by omega)).mpr h3
section
variable {s g c n k : Nat} {I : Sto → Prop} {take pick bent : Fn} {st : Sto} {d : D}
theorem tupOk {ds es : List D} (hz : ds.length ≤ 100 * 3 ^ n) (hf : ∀ x ∈ ds, Th s g st n k x) (hm : ∀ x ∈ es, x ∈ ds) (hl : es.length ≤ 3 * ds.length) : Th s g st (n + 1) (k + 2) (.tup es) := by
  have := pow3s n
  exact .tup (by omega) fun x hx => (hf x (hm x hx)).mono (by omega) (by omega)
theorem otherwise_sp (V : Draws s g c I take pick) {W : Nat} (hI : I st) (h : Th s g st n k d) (hb : ∀ b, d ≠ .bl b) (hn : n ≤ 1) (hk : k ≤ 170)
    (hw : ∀ z st', d = .str z → I st' → Gr s g st st' → Ok (bent [.loc s, .str z, .loc W] st') fun e st2 => Th s g st2 (n + 1) 1 e ∧ I st2 ∧ Gr s g st' st2) :
    Ok (runDef 5 (g_law_otherwise take bent) [.loc s, d, .loc W] st) fun e st' => Th s g st' (n + 1) (k + 1) e ∧ I st' ∧ Gr s g st st' := by
  unfold Ok
  rw [k_run, st_5_3]
  unfold g_law_otherwise
  have h3 : 3 ^ n ≤ 3 := by simpa using Nat.pow_le_pow_right (n := 3) (by omega) hn
  have h1n := pow3 n
  have hs3 := pow3s n
  refine cut_seq (fun en' st' => (∃ v : Int, en' = [some (.loc s), some d, some (.loc W), some (.int v), none] ∧ 0 ≤ v ∧ v < 13) ∧ I st' ∧ Gr s g st st') ?_ (fun en1 s1 hJ => ?_)
  · walk_at "gg"
    refine Ok.imp (V.take hI (by omega) (by omega)) fun d s1 ⟨⟨v, e1, v1, v2⟩, hI1, hG1⟩ => ?_
    subst e1
    exact ⟨⟨v, by rfl, v1, v2⟩, hI1, hG1⟩
  obtain ⟨⟨v, rfl, v1, v2⟩, hI1, hG1⟩ := hJ
  have h := h.gr hG1
  have hf1 := h.fit (by omega) (by omega)
  have hlt := V.lt hI1
  walk_at "gg"
  rw [isi_tup hf1]
  cases h with
  | @tup _ k ds hz hf =>
    walk_at "gg"
    have c1 := cutD_le ds none (some (-1))
    have c2 := cutD_le ds (some 1) none
    have c3 := cutD_le ds (some (-1)) none
    have c4 := cutD_le ds none (some 1)
    have c5 := cutD_le ds (some 2) none
    have c6 := cutD_le ds (some 1) (some 2)
    rw [oList_tt]
    walk_at "gg"
    rw [sl_tupD]
    walk_at "gg"
    rw [sl_tupD]
    walk_at "gg"
    rw [sl_tupD]
    walk_at "gg"
    rw [tup_i (by omega)]
    walk_at "gg"
    rw [sl_tupD]
    walk_at "gg"
    rw [tup_i (by omega)]
    walk_at "gg"
    rw [k_back]
    walk_at "gg"
    have hb1 : (s1 ++ [O.lst ds])[s1.length]? = some (.lst ds) := last_at
    have hI2 : I (s1 ++ [O.lst ds]) := V.app hI1
    have hG2 : Gr s g s1 (s1 ++ [O.lst ds]) := Gr.app
    generalize s1 ++ [O.lst ds] = s2 at hb1 hI2 hG2 ⊢
    rw [sl_tupD]
    walk_at "gg"
    rw [sl_tupD]
    walk_at "gg"
    rw [sl_tupD]
    walk_at "gg"
    rw [tup_i (by omega)]
    walk_at "gg"
    rw [sl_tupD]
    walk_at "gg"
    rw [tup_i (by rw [List.length_append]; omega)]
    walk_at "gg"
    rw [addL2 (app_get last_at) last_at (by simp only [List.length_cons, List.length_nil]; omega)]
    walk_at "gg"
    have hf2 : ∀ x ∈ ds, Th s g s2 n k x := fun x hx => (hf x hx).gr hG2
    have key : ∀ y ∈ [D.loc s1.length, .tup (cutD ds none (some (-1))), .tup (cutD ds (some 1) none), .tup (ds ++ cutD ds (some (-1)) none), .tup (cutD ds none (some 1) ++ ds), .tup ds.reverse, .tup [], .non] ++ [.tup (cutD ds none (some 1)), .tup [.tup ds], .str (Str.ofString "a"), .int 5, .tup (cutD ds none (some 1) ++ cutD ds (some 2) none ++ cutD ds (some 1) (some 2))], Th s g s2 (n + 1) (k + 2) y := by
      intro y hy
      simp only [List.cons_append, List.nil_append, List.mem_cons, List.not_mem_nil, or_false] at hy
      have ap : ∀ {as bs : List D}, (∀ x ∈ as, x ∈ ds) → (∀ x ∈ bs, x ∈ ds) → ∀ x ∈ as ++ bs, x ∈ ds := fun ha hb x hx => (List.mem_append.mp hx).elim (ha x) (hb x)
      rcases hy with rfl | rfl | rfl | rfl | rfl | rfl | rfl | rfl | rfl | rfl | rfl | rfl | rfl
      · exact .lst hb1 (by omega) (by omega) fun x hx => (hf2 x hx).dn
      · exact tupOk hz hf2 (fun x => cutD_mem) (by omega)
      · exact tupOk hz hf2 (fun x => cutD_mem) (by omega)
      · exact tupOk hz hf2 (ap (fun _ h => h) fun _ => cutD_mem) (by rw [List.length_append]; omega)
      · exact tupOk hz hf2 (ap (fun _ => cutD_mem) fun _ h => h) (by rw [List.length_append]; omega)
      · exact tupOk hz hf2 (fun x hx => List.mem_reverse.mp hx) (by rw [List.length_reverse]; omega)
      · exact tupOk hz hf2 (fun x hx => by cases hx) (by simp)
      · exact .non
      · exact tupOk hz hf2 (fun x => cutD_mem) (by omega)
      · exact .tup (by simp only [List.length_singleton]; omega) fun x hx => by rw [List.mem_singleton.mp hx]; exact (Th.tup hz hf2).up
      · exact .str (asc_of (by decide +kernel)) (by rw [show (Str.ofString "a").length = 1 from rfl]; omega)
      · exact .int (by omega)
      · exact tupOk hz hf2 (ap (ap (fun _ => cutD_mem) fun _ => cutD_mem) fun _ => cutD_mem) (by rw [List.length_append, List.length_append]; omega)
    refine ok_ix (lst_at last_at) v1 (by simp only [List.length_append, List.length_cons, List.length_nil]; omega) fun r hr => ?_
    exact ⟨(key r hr).gr ((Gr.app.trans Gr.app).trans Gr.app), V.app (V.app (V.app hI2)), (((hG1.trans hG2).trans Gr.app).trans Gr.app).trans Gr.app⟩
  | @str _ _ z ha hz =>
    walk_at "gg"
    rw [isi_str hf1]
    walk_at "gg"
    refine Ok.imp (hw z s1 rfl hI1 hG1) fun e s2 ⟨e1, e2, e3⟩ => ⟨e1.mono (Nat.le_refl _) (by omega), e2, hG1.trans e3⟩
  | bl b => exact absurd rfl (hb b)
  | @int _ _ i hi =>
    walk_at "gg"
    rw [isi_str hf1]
    walk_at "gg"
    rw [isi_int hf1]
    walk_at "gg"
    rw [str_any (by omega)]
    walk_at "gg"
    have hb1 : (s1 ++ [O.lst [D.int i]])[s1.length]? = some (.lst [D.int i]) := last_at
    have hI2 : I (s1 ++ [O.lst [D.int i]]) := V.app hI1
    have hG2 : Gr s g s1 (s1 ++ [O.lst [D.int i]]) := Gr.app
    generalize s1 ++ [O.lst [D.int i]] = s2 at hb1 hI2 hG2 ⊢
    rw [addL2 (app_get last_at) last_at (by simp only [List.length_cons, List.length_nil]; omega)]
    walk_at "gg"
    have hin : ∀ {m : Nat}, n ≤ m → Th s g s2 m 0 (.int i) := fun {m} q => .int (by have := Nat.pow_le_pow_right (n := 3) (by omega) q; omega)
    have it := int_txt i (by omega)
    rw [if_pos (show 11 ≤ sizeLine by decide)]
    refine ok_ix (lst_at last_at) v1 (by simp only [List.length_append, List.length_cons, List.length_nil]; omega) fun r hr => ?_
    refine ⟨?_, V.app (V.app (V.app hI2)), (((hG1.trans hG2).trans Gr.app).trans Gr.app).trans Gr.app⟩
    refine Th.gr ((Gr.app.trans Gr.app).trans Gr.app) ?_
    simp only [List.cons_append, List.nil_append, List.mem_cons, List.not_mem_nil, or_false] at hr
    rcases hr with rfl | rfl | rfl | rfl | rfl | rfl | rfl | rfl | rfl | rfl | rfl | rfl | rfl
    · exact .int (by omega)
    · exact .int (by omega)
    · exact .int (by omega)
    · exact .int (by omega)
    · exact .int (by omega)
    · exact .bl _
    · exact .bl _
    · exact .non
    · exact .str it.1 (by omega)
    · exact .tup (by simp only [List.length_singleton]; omega) fun x hx => by rw [List.mem_singleton.mp hx]; exact (hin (by omega)).mono (Nat.le_refl _) (by omega)
    · exact .lst hb1 (by omega) (by omega) fun x hx => by rw [List.mem_singleton.mp hx]; exact (hin (Nat.le_refl _)).mono (Nat.le_refl _) (by omega)
    · exact .int (by omega)
    · exact .int (by omega)
  | non =>
    walk_at "gg"
    rw [isi_str hf1]
    walk_at "gg"
    rw [isi_int hf1]
    walk_at "gg"
    rw [mod_i (by omega)]
    walk_at "gg"
    refine ok_ix (lst_at last_at) (by omega) (by simp only [List.length_cons, List.length_nil]; omega) fun r hr => ?_
    refine ⟨?_, V.app hI1, hG1.trans Gr.app⟩
    simp only [List.mem_cons, List.not_mem_nil, or_false] at hr
    rcases hr with rfl | rfl | rfl
    · exact .tup (by simp) (fun x hx => by cases hx)
    · exact .int (by omega)
    · exact .str (asc_of (by decide +kernel)) (by rw [show (Str.ofString "a").length = 1 from rfl]; omega)
  | lst hl n1 n2 hf =>
    walk_at "gg"
    rw [isi_str hf1]
    walk_at "gg"
    rw [isi_int hf1]
    walk_at "gg"
    rw [mod_i (by omega)]
    walk_at "gg"
    refine ok_ix (lst_at last_at) (by omega) (by simp only [List.length_cons, List.length_nil]; omega) fun r hr => ?_
    refine ⟨?_, V.app hI1, hG1.trans Gr.app⟩
    simp only [List.mem_cons, List.not_mem_nil, or_false] at hr
    rcases hr with rfl | rfl | rfl
    · exact .tup (by simp) (fun x hx => by cases hx)
    · exact .int (by omega)
    · exact .str (asc_of (by decide +kernel)) (by rw [show (Str.ofString "a").length = 1 from rfl]; omega)
end
section
variable {s g c n k : Nat} {I : Sto → Prop} {take : Fn} {st : Sto} {d : D}
theorem sub_app {d : D} : ∀ {w : List Nat} {i : Nat} {d p : D}, subD d w = some p → ∀ {x : D}, subD p [i] = some x → subD d (w ++ [i]) = some x
  | [], i, d, p, h, x, h' => by cases h; exact h'
  | j :: w, i, d, p, h, x, h' => by
    cases d with
    | tup ds =>
      unfold subD at h
      rw [List.cons_append]
      unfold subD
      cases q : ds[j]? with
      | none => rw [q] at h; cases h
      | some y => rw [q] at h; exact sub_app (d := d) h h'
    | _ => cases h
theorem sub_take {d p : D} {w : List Nat} (h : subD d w = some p) : ∀ i, ∃ q, subD d (w.take i) = some q := by
  intro i
  induction w generalizing d i with
  | nil => exact ⟨d, by cases i <;> rfl⟩
  | cons j w ih =>
    cases i with
    | zero => exact ⟨d, rfl⟩
    | succ i =>
      cases d with
      | tup ds =>
        unfold subD at h
        rw [List.take_succ_cons]
        unfold subD
        cases q : ds[j]? with
        | none => rw [q] at h; cases h
        | some y => rw [q] at h; exact ih h i
      | _ => cases h
theorem sub_step {d p : D} {w : List Nat} {i j : Nat} (h : subD d w = some p) (hj : w[i]? = some j) {q : D} (hq : subD d (w.take i) = some q) : ∃ ds x, q = .tup ds ∧ ds[j]? = some x ∧ subD d (w.take (i + 1)) = some x := by
  induction w generalizing d i with
  | nil => cases hj
  | cons a w ih =>
    cases d with
    | tup ds =>
      unfold subD at h
      cases e : ds[a]? with
      | none => rw [e] at h; cases h
      | some y =>
        rw [e] at h
        cases i with
        | zero =>
          cases hj
          cases hq
          exact ⟨ds, y, rfl, e, by rw [List.take_succ_cons]; unfold subD; rw [e]; rfl⟩
        | succ i =>
          rw [List.take_succ_cons] at hq
          unfold subD at hq
          rw [e] at hq
          obtain ⟨es, x, e1, e2, e3⟩ := ih h hj hq
          refine ⟨es, x, e1, e2, ?_⟩
          rw [List.take_succ_cons]
          unfold subD
          rw [e]
          exact e3
    | _ => cases h
theorem bent_sp {ways put other : Fn} (V : ∀ {st : Sto} {many : Int}, I st → 0 < many → many < 1073741824 → Ok (take [.loc s, .int many] st) fun d st' => (∃ v : Int, d = .int v ∧ 0 ≤ v ∧ v < many) ∧ I st' ∧ Gr s g st st')
    {W : Nat} (hI : I st) (hlt : s < st.length ∧ g < st.length) (hE : ∀ {a b}, I a → Ext a b → I b) (h : Th s g st n k d) (hz : nodD d ≤ 50000)
    (hw : ∀ st', Gr s g st st' → Ok (ways [d] st') (WaySp d st'))
    (ho : ∀ p w st', subD d w = some p → I st' → Gr s g st st' → Ok (other [.loc s, p, .loc W] st') fun e st2 => Th s g st2 (n + 1) (k + 1) e ∧ I st2 ∧ Gr s g st' st2)
    (hp : ∀ w p e st', w.length ≤ 100000 → subD d w = some p → Ok (put [d, wayT w, e] st') fun r st2 => r = swapD d w e ∧ st2 = st') :
    Ok (runDef 7 (g_law_bent ways take put other) [.loc s, d, .loc W] st) fun e st' => Th s g st' (n + 1) (k + (k + 1)) e ∧ I st' ∧ Gr s g st st' := by
  unfold Ok
  rw [k_run, st_7_3]
  unfold g_law_bent
  refine cut_seq (fun en' st' => (∃ l : Nat, en' = [some (.loc s), some d, some (.loc W), some (.loc l), none, none, none] ∧ st'[l]? = some (.lst ((waysD d).map wayT)) ∧ l ≠ s ∧ l ≠ g) ∧ I st' ∧ Gr s g st st') ?_ (fun en1 s1 hJ => ?_)
  · walk_at "gg"
    refine Ok.imp (hw st Gr.refl) fun e s1 ⟨l, e1, hl, hle, hx⟩ => ?_
    subst e1
    exact ⟨⟨l, by rfl, hl, by omega, by omega⟩, hE hI hx, hx.gr⟩
  obtain ⟨⟨l, rfl, hl, l1, l2⟩, hI1, hG1⟩ := hJ
  refine cut_seq (fun en' st' => (∃ w : List Nat, en' = [some (.loc s), some d, some (.loc W), some (.loc l), some (wayT w), none, none] ∧ w ∈ waysD d) ∧ I st' ∧ Gr s g st st') ?_ (fun en1 s2 hJ => ?_)
  · walk_at "gg"
    have hwl := ways_len d
    have hpos : 0 < nodD d := by cases d <;> simp [nodD]
    rw [len_lst hl]
    walk_at "gg"
    refine Ok.imp (V hI1 (by rw [List.length_map, hwl]; omega) (by rw [List.length_map, hwl]; omega)) fun e s2 ⟨⟨v, e1, v1, v2⟩, hI2, hG2⟩ => ?_
    subst e1
    refine ok_ix (lst_at (hG2.keep _ _ l1 l2 hl)) v1 v2 fun r hr => ?_
    obtain ⟨w, hw, rfl⟩ := List.mem_map.mp hr
    exact ⟨⟨w, by rfl, hw⟩, hI2, hG1.trans hG2⟩
  obtain ⟨⟨w, rfl, hwm⟩, hI2, hG2⟩ := hJ
  obtain ⟨p, hsub⟩ := ways_ok d w hwm
  have hwz := way_len d w hwm
  refine cut_seq (fun en' st' => en' = [some (.loc s), some d, some (.loc W), some (.loc l), some (wayT w), some d, none] ∧ st' = s2) ?_ (fun en1 s3 hJ => ?_)
  · walk_at "gg"
  obtain ⟨rfl, rfl⟩ := hJ
  refine cut_seq (fun en' st' => (∃ x6 : Option D, en' = [some (.loc s), some d, some (.loc W), some (.loc l), some (wayT w), some p, x6]) ∧ st' = s3) ?_ (fun en1 s4 hJ => ?_)
  · unfold wayT
    walk_at "gg"
    refine for_its (ds := w.map fun (i : Nat) => D.int (i : Int)) (fun i en st' => (∃ (q : D) (x6 : Option D), en = [some (.loc s), some d, some (.loc W), some (.loc l), some (.tup (w.map fun (i : Nat) => D.int (i : Int))), some q, x6] ∧ subD d (w.take i) = some q) ∧ st' = s3) ⟨⟨d, _, rfl, rfl⟩, rfl⟩ (fun i y en s4 hy hK => ?_) (fun en s4 hK => ?_)
    · obtain ⟨⟨q, x6, rfl, hq⟩, rfl⟩ := hK
      refine ⟨_, rfl, ?_⟩
      rw [List.getElem?_map] at hy
      obtain ⟨j, hj, rfl⟩ := Option.map_eq_some_iff.mp hy
      obtain ⟨es, x, rfl, e2, e3⟩ := sub_step hsub hj hq
      walk_at "gg"
      rw [show oIx (.tup es) (.int (j : Int)) s4 = some (x, s4) from ix_tup (by rw [at_nat (by omega) (by have := (List.getElem?_eq_some_iff.mp e2).1; omega)]; exact e2)]
      exact ⟨⟨x, _, by rfl, e3⟩, rfl⟩
    · obtain ⟨⟨q, x6, rfl, hq⟩, rfl⟩ := hK
      rw [List.length_map, List.take_length, hsub] at hq
      cases hq
      exact ⟨⟨_, rfl⟩, rfl⟩
  obtain ⟨⟨x6, rfl⟩, rfl⟩ := hJ
  walk_at "gg"
  refine Ok.imp (ho p w s4 hsub hI2 hG2) fun e s5 ⟨h1, h2, h3⟩ => ?_
  refine Ok.imp (hp w p e s5 (by omega) hsub) fun r s6 ⟨e1, e2⟩ => ?_
  subst e1; subst e2
  exact ⟨Th.put (by omega) h1 (h.gr (hG2.trans h3)) hsub, h2, hG2.trans h3⟩
end
/-! ### drawn terms are things -/
theorem name_asc {w : Str} (h : Name w) : ascS w ∧ w.length ≤ 6 := ⟨(nmB_asc h.1).1, by obtain ⟨_, _, _, _, _, q⟩ := nmB_out h.1; exact q⟩
theorem ops_asc : ∀ o ∈ opsT, ascS o ∧ o.length ≤ 6 := by
  intro o ho
  simp only [List.mem_cons, List.not_mem_nil, or_false] at ho
  rcases ho with rfl | rfl | rfl
  · exact ⟨asc_of (by decide +kernel), by decide⟩
  · exact ⟨asc_of (by decide +kernel), by decide⟩
  · exact ⟨asc_of (by decide +kernel), by decide⟩
theorem trm_fit {z : Int} {ws : List Str} {st : Sto} (hnm : ∀ x ∈ ws, Name x) : ∀ {t : Trm}, t.ok z ws → Fit st t.d
  | .num n, _ => .tup (by simp) (fun h q => by cases q; exact cmp_str (by decide +kernel)) fun d hd => by
    simp only [List.mem_cons, List.not_mem_nil, or_false] at hd
    rcases hd with rfl | rfl
    · exact .str (asc_of (by decide +kernel)) (by decide)
    · exact .int n
  | .at w, h => .tup (by simp) (fun h q => by cases q; exact cmp_str (by decide +kernel)) fun d hd => by
    simp only [List.mem_cons, List.not_mem_nil, or_false] at hd
    rcases hd with rfl | rfl
    · exact .str (asc_of (by decide +kernel)) (by decide)
    · have := name_asc (hnm w h)
      exact .str this.1 (by omega)
  | .op o a b, h => .tup (by simp) (fun x q => by cases q; exact cmp_str (asc_ok (ops_asc o h.1).1)) fun d hd => by
    simp only [List.mem_cons, List.not_mem_nil, or_false] at hd
    rcases hd with rfl | rfl | rfl
    · have := ops_asc o h.1
      exact .str this.1 (by omega)
    · exact trm_fit hnm h.2.1
    · exact trm_fit hnm h.2.2
theorem trm_th {z : Int} {ws : List Str} {s g : Nat} {st : Sto} (hnm : ∀ x ∈ ws, Name x) (hz : z ≤ 100000000) : ∀ {t : Trm}, t.ok z ws → Th s g st 0 t.dep t.d
  | .num n, h => .tup (by simp) fun d hd => by
    have h : 0 ≤ n ∧ n < z := h
    simp only [List.mem_cons, List.not_mem_nil, or_false] at hd
    rcases hd with rfl | rfl
    · exact .str (asc_of (by decide +kernel)) (by decide)
    · exact .int (by simp; omega)
  | .at w, h => .tup (by simp) fun d hd => by
    simp only [List.mem_cons, List.not_mem_nil, or_false] at hd
    rcases hd with rfl | rfl
    · exact .str (asc_of (by decide +kernel)) (by decide)
    · have := name_asc (hnm w h)
      exact .str this.1 (by simp; omega)
  | .op o a b, h => by
    have h : o ∈ opsT ∧ a.ok z ws ∧ b.ok z ws := h
    have e : (Trm.op o a b).dep = max a.dep b.dep + 1 := by show 1 + max a.dep b.dep = _; omega
    rw [e]
    refine .tup (by simp) fun d hd => ?_
    simp only [List.mem_cons, List.not_mem_nil, or_false] at hd
    rcases hd with rfl | rfl | rfl
    · have := ops_asc o h.1
      exact .str this.1 (by simp; omega)
    · exact (trm_th hnm hz h.2.1).mono (Nat.le_refl _) (by omega)
    · exact (trm_th hnm hz h.2.2).mono (Nat.le_refl _) (by omega)
theorem trm_nod : ∀ t : Trm, nodD t.d + 2 ≤ 5 * t.lvs
  | .num n => by simp [Trm.d, nodD, nodL, Trm.lvs]
  | .at w => by simp [Trm.d, nodD, nodL, Trm.lvs]
  | .op o a b => by
    have h1 := trm_nod a
    have h2 := trm_nod b
    simp only [Trm.d, nodD, nodL, Trm.lvs]
    omega
theorem Th.dep {s g n k : Nat} {st : Sto} {d : D} (h : Th s g st n k d) : depD d ≤ k := by
  induction h with
  | tup hz hf ih => rw [depD]; exact Nat.succ_le_succ (depL_le.mpr ih)
  | _ => simp [depD]
theorem sub_len : ∀ {w : List Nat} {d p : D}, subD d w = some p → w.length ≤ depD d
  | [], _, _, _ => Nat.zero_le _
  | i :: w, d, p, h => by
    cases d with
    | tup ds =>
      unfold subD at h
      cases q : ds[i]? with
      | none => rw [q] at h; cases h
      | some x =>
        rw [q] at h
        have h1 := sub_len h
        have h2 := depL_le.mp (Nat.le_refl (depL ds)) x (List.mem_of_getElem? q)
        rw [depD, List.length_cons]
        omega
    | _ => cases h
theorem nod_pos (d : D) : 1 ≤ nodD d := by cases d <;> simp [nodD]
theorem len_nod : ∀ ds : List D, ds.length ≤ nodL ds
  | [] => by simp
  | d :: ds => by
    have := nod_pos d
    have := len_nod ds
    rw [nodL, List.length_cons]
    omega
theorem dep_mem {ds : List D} {x : D} (h : x ∈ ds) : depD x + 1 ≤ depD (.tup ds) := by
  rw [depD]
  exact Nat.succ_le_succ (depL_le.mp (Nat.le_refl (depL ds)) x h)
end Sh

set_option maxHeartbeats 1000000
namespace Sh
open PySem PySem.Spec PyProof.Rows L2
local macro_rules | `(tactic| walk_at "go") => `(tactic| simp only [k_bnd, k_ret, k_ok, k_bad, k_badM, k_exc, k_lft, k_ite, k_ite', o_some, o_none, o_ite, v_some, k_var, k_c, k_op, k_call, k_call0, k_cb, k_nil, k_cons, k_tup, k_lst, k_bOf, k_bAnd, k_bOr, k_bNot, k_and, k_or, k_not, k_if, k_chain, k_inC, k_neg, k_bm, k_get2, k_pnone, k_psome, k_sl, k_pnil, k_pcons, k_dic, k_gix, k_seq, k_nx, k_rt, k_sbad, k_snil, k_spass, k_set, k_sret, k_sretN, k_sexp, k_sif, k_asg, k_par2, k_par3, k_aug, k_put, k_seqI, k_range1, k_forI, k_lc, List.getElem?_cons_zero, List.getElem?_cons_succ, List.set_cons_zero, List.set_cons_succ, List.length_cons, List.length_nil, if_true, if_false, Bool.not_true, Bool.not_false, Bool.false_eq_true, ite_true, ite_false, reduceIte, Nat.reduceAdd, Nat.zero_add])
local macro_rules | `(tactic| walk_at "gg") => `(tactic| simp only [k_bnd, k_ret, k_ok, k_bad, k_badM, k_exc, k_lft, k_ite, k_ite', o_some, o_none, o_ite, v_some, k_var, k_c, k_op, k_call, k_call0, k_cb, k_nil, k_cons, k_tup, k_lst, k_bOf, k_bAnd, k_bOr, k_bNot, k_and, k_or, k_not, k_if, k_chain, k_inC, k_neg, k_bm, k_get2, k_pnone, k_psome, k_sl, k_pnil, k_pcons, k_dic, k_gix, k_seq, k_nx, k_rt, k_sbad, k_snil, k_spass, k_set, k_sret, k_sretN, k_sexp, k_sif, k_asg, k_par2, k_par3, k_aug, k_put, k_seqI, k_range1, k_forI, k_lc, List.getElem?_cons_zero, List.getElem?_cons_succ, List.set_cons_zero, List.set_cons_succ, List.length_cons, List.length_nil, if_true, if_false, Bool.not_true, Bool.not_false, Bool.false_eq_true, ite_true, ite_false, reduceIte, Nat.reduceAdd, Nat.zero_add, k_sortSet, k_range2, iadd_i, add_i, sub_i, eq_i, eq_s, ne_i, ne_s, ne_b, lt_i, le_i, gt_i, ge_i, ix_0, ix_1, ix_2, flat_str, flat_int, flat_non, sz_0, sz_1, sz_2, sz_3, sz_4, sz_5, sz_6, sz_7, sz_8, sz_9, decide_eq_true_eq, Bool.not_eq_eq_eq_not, decide_eq_false_iff_not, decide_true, decide_false, true_and, and_true, exists_eq_left, inC_strs, not_true_eq_false, not_false_eq_true, Bool.true_eq_false, reduceCtorEq])
def c_WORDS_BY_SIGN : List (Str × Str) := [("+", "sum"), ("-", "less"), ("*", "times")]
def g_blanks_passed (NW : Nat) : SM :=
  sSeq (sWhile (bOf (eOp oEq (eSl (eVar 0) (some (eVar 1)) (some (eOp oAdd (eVar 1) (eC (.int 1))))) (eC (.str " ")))) (sAug 1 oIAddX (eC (.int 1))) NW) (sRet (eVar 1))
def g_run_at (NW : Nat) : SM :=
  sSeq (sSet 2 (eVar 1)) (sSeq (sWhile (bAnd (bOf (eOp oLt (eVar 2) (eCB oLen (aCons (eVar 0) (aNil))))) (bOf (eOp oIn (eOp oIx (eVar 0) (eVar 2)) (eOp oAdd (eC (.str "abcdefghijklmnopqrstuvwxyz")) (eC (.str "0123456789")))))) (sAug 2 oIAddX (eC (.int 1))) NW) (sRet (eSl (eVar 0) (some (eVar 1)) (some (eVar 2)))))
def g_are_figures : SM :=
  sSeq (sIf (bOr (bOf (eOp oEq (eVar 0) (eC (.str "")))) (bNot (bOf (eCB oAll (aCons (eLc (iSeq (eVar 0)) (gN 1) (bYes) (eOp oIn (eVar 1) (eC (.str "0123456789"))) [1]) (aNil)))))) (sRet (eC (.bl false))) (sNil)) (sRet (eOr (eOp oEq (eVar 0) (eC (.str "0"))) (eOp oNe (eOp oIx (eVar 0) (eC (.int 0))) (eC (.str "0")))))
def g_number_read (f_are_figures : Fn) : SM :=
  sSeq (sIf (bOr (bNot (bOf (eCall 1 f_are_figures (aCons (eVar 0) (aNil))))) (bOr (bOf (eOp oGt (eCB oLen (aCons (eVar 0) (aNil))) (eC (.int 8)))) (bOf (eOp oGt (eCB oIntX (aCons (eVar 0) (aNil))) (eVar 1))))) (sRaise "NoText") (sNil)) (sRet (eCB oIntX (aCons (eVar 0) (aNil))))
def g_leaf_read (f_number_read f_size_of f_is_name : Fn) : SM :=
  sSeq (sIf (bAnd (bOf (eOp oIn (eSl (eVar 0) none (some (eC (.int 1)))) (eC (.str "0123456789")))) (bOf (eOp oNe (eVar 0) (eC (.str ""))))) (sRet (eTup (aCons (eC (.str "number")) (aCons (eCall 2 f_number_read (aCons (eVar 0) (aCons (eOp oSub (eCall 1 f_size_of (aCons (eVar 1) (aNil))) (eC (.int 1))) (aNil)))) (aNil))))) (sNil)) (sSeq (sIf (bNot (bOf (eCall 1 f_is_name (aCons (eVar 0) (aNil))))) (sRaise "NoText") (sNil)) (sRet (eTup (aCons (eC (.str "at")) (aCons (eVar 0) (aNil))))))
def g_part_read (f_blanks_passed f_run_at f_leaf_read f_part_read : Fn) : SM :=
  sSeq (sIf (bOf (eOp oEq (eVar 3) (eC (.int 0)))) (sRaise "NoText") (sNil)) (sSeq (sSet 1 (eCall 2 f_blanks_passed (aCons (eVar 0) (aCons (eVar 1) (aNil))))) (sSeq (sIf (bOf (eOp oNe (eSl (eVar 0) (some (eVar 1)) (some (eOp oAdd (eVar 1) (eC (.int 1))))) (eC (.str "(")))) (sSeq (sSet 4 (eCall 2 f_run_at (aCons (eVar 0) (aCons (eVar 1) (aNil))))) (sRet (eTup (aCons (eCall 2 f_leaf_read (aCons (eVar 4) (aCons (eVar 2) (aNil)))) (aCons (eOp oAdd (eVar 1) (eCB oLen (aCons (eVar 4) (aNil)))) (aNil)))))) (sNil)) (sSeq (sAsg (eCall 4 f_part_read (aCons (eVar 0) (aCons (eOp oAdd (eVar 1) (eC (.int 1))) (aCons (eVar 2) (aCons (eOp oSub (eVar 3) (eC (.int 1))) (aNil)))))) (gT [gN 5, gN 1])) (sSeq (sSet 1 (eCall 2 f_blanks_passed (aCons (eVar 0) (aCons (eVar 1) (aNil))))) (sSeq (sIf (bOf (eGIn true c_WORDS_BY_SIGN (eSl (eVar 0) (some (eVar 1)) (some (eOp oAdd (eVar 1) (eC (.int 1))))))) (sRaise "NoText") (sNil)) (sSeq (sSet 4 (eGIx c_WORDS_BY_SIGN (eOp oIx (eVar 0) (eVar 1)))) (sSeq (sAsg (eCall 4 f_part_read (aCons (eVar 0) (aCons (eOp oAdd (eVar 1) (eC (.int 1))) (aCons (eVar 2) (aCons (eOp oSub (eVar 3) (eC (.int 1))) (aNil)))))) (gT [gN 6, gN 1])) (sSeq (sSet 1 (eCall 2 f_blanks_passed (aCons (eVar 0) (aCons (eVar 1) (aNil))))) (sSeq (sIf (bOf (eOp oNe (eSl (eVar 0) (some (eVar 1)) (some (eOp oAdd (eVar 1) (eC (.int 1))))) (eC (.str ")")))) (sRaise "NoText") (sNil)) (sRet (eTup (aCons (eTup (aCons (eVar 4) (aCons (eVar 5) (aCons (eVar 6) (aNil))))) (aCons (eOp oAdd (eVar 1) (eC (.int 1))) (aNil))))))))))))))
def g_read_term (f_part_read f_blanks_passed f_is_term : Fn) : SM :=
  sSeq (sIf (bNot (bOf (eCB oIsi (aCons (eVar 0) (aCons (eC (.ty "str")) (aNil)))))) (sRaise "NoText") (sNil)) (sSeq (sAsg (eCall 4 f_part_read (aCons (eVar 0) (aCons (eC (.int 0)) (aCons (eVar 1) (aCons (eC (.int 60)) (aNil)))))) (gT [gN 2, gN 3])) (sSeq (sIf (bOr (bOf (eOp oNe (eCall 2 f_blanks_passed (aCons (eVar 0) (aCons (eVar 3) (aNil)))) (eCB oLen (aCons (eVar 0) (aNil))))) (bNot (bOf (eCall 2 f_is_term (aCons (eVar 2) (aCons (eVar 1) (aNil))))))) (sRaise "NoText") (sNil)) (sRet (eVar 2))))
def g_law_pieces (f_law_pieces : Fn) : SM :=
  sSeq (sIf (bOf (eOp oIn (eOp oIx (eVar 0) (eC (.int 0))) (eLst (aCons (eC (.str "number")) (aCons (eC (.str "at")) (aNil)))))) (sRet (eLst (aCons (eCB oStrX (aCons (eOp oIx (eVar 0) (eC (.int 1))) (aNil))) (aNil)))) (sNil)) (sSeq (sSet 1 (eOp oIx (eDic [(eC (.str "sum"), eC (.str "+")), (eC (.str "less"), eC (.str "-")), (eC (.str "times"), eC (.str "*"))]) (eOp oIx (eVar 0) (eC (.int 0))))) (sRet (eOp oAdd (eOp oAdd (eOp oAdd (eOp oAdd (eLst (aCons (eC (.str "(")) (aNil))) (eCall 1 f_law_pieces (aCons (eOp oIx (eVar 0) (eC (.int 1))) (aNil)))) (eLst (aCons (eVar 1) (aNil)))) (eCall 1 f_law_pieces (aCons (eOp oIx (eVar 0) (eC (.int 2))) (aNil)))) (eLst (aCons (eC (.str ")")) (aNil))))))
def g_law_loose (f_law_take f_law_pieces : Fn) : SM :=
  sSeq (sSet 2 (eOp oAdd (eC (.int 1)) (eCall 2 f_law_take (aCons (eVar 0) (aCons (eC (.int 3)) (aNil)))))) (sSeq (sSet 3 (eOp oMulX (eC (.str " ")) (eCall 2 f_law_take (aCons (eVar 0) (aCons (eVar 2) (aNil)))))) (sSeq (sForI (iSeq (eCall 1 f_law_pieces (aCons (eVar 1) (aNil)))) (gN 4) (sSet 3 (eOp oAdd (eOp oAdd (eVar 3) (eVar 4)) (eOp oMulX (eC (.str " ")) (eCall 2 f_law_take (aCons (eVar 0) (aCons (eVar 2) (aNil)))))))) (sRet (eVar 3))))
/-! ### texts as lists of signs -/
def mkT (l : List Nat) : Str := ⟨l.toArray⟩
theorem mkT_l (l : List Nat) : (mkT l).cps.toList = l := List.toList_toArray
theorem mkT_len (l : List Nat) : (mkT l).length = l.length := List.size_toArray
theorem mkT_inj {a b : List Nat} : mkT a = mkT b ↔ a = b := ⟨fun h => by have := congrArg (fun z : Str => z.cps.toList) h; simpa [mkT] using this, fun h => by rw [h]⟩
theorem mkT_of (z : Str) : mkT z.cps.toList = z := by cases z; simp [mkT]
theorem cut_seg {z : Str} {p q : Nat} (hpq : p ≤ q) : cutS z (some (p : Int)) (some (q : Int)) = mkT ((z.cps.toList.drop p).take (q - p)) := by
  unfold cutS mkT
  rw [HT.sIx_nat, HT.sIx_nat]
  have hl := len_toL z
  congr 2
  by_cases h : p ≤ z.length
  · rw [Nat.min_eq_left h]
    by_cases h2 : q ≤ z.length
    · rw [Nat.min_eq_left h2]
    · rw [Nat.min_eq_right (by omega), List.take_of_length_le (by rw [List.length_drop]; omega), List.take_of_length_le (by rw [List.length_drop]; omega)]
  · rw [List.drop_of_length_le (by omega), List.drop_of_length_le (by omega)]
    simp
theorem cut_one {z : Str} {p : Nat} : cutS z (some (p : Int)) (some ((p : Int) + 1)) = mkT ((z.cps.toList.drop p).take 1) := by
  rw [show ((p : Int) + 1) = ((p + 1 : Nat) : Int) by omega, cut_seg (by omega), Nat.add_sub_cancel_left]
theorem one_is {l : List Nat} {c : Nat} : mkT (l.take 1) = mkT [c] ↔ ∃ r, l = c :: r := by
  rw [mkT_inj]
  cases l with
  | nil => simp
  | cons a r => simp
theorem blank_is : Str.ofString " " = mkT [32] := by decide +kernel
theorem open_is : Str.ofString "(" = mkT [40] := by decide +kernel
theorem close_is : Str.ofString ")" = mkT [41] := by decide +kernel
theorem drop_cons {l r : List Nat} {p c : Nat} (h : l.drop p = c :: r) : l.drop (p + 1) = r ∧ p < l.length ∧ l[p]? = some c := by
  have h1 : p < l.length := by
    apply Classical.byContradiction
    intro h2
    rw [List.drop_of_length_le (by omega)] at h
    cases h
  refine ⟨?_, h1, ?_⟩
  · rw [← List.drop_drop, h]
    rfl
  · have := congrArg List.head? h
    rw [List.head?_drop] at this
    exact this
section
variable {st : Sto} {z : Str} {NW : Nat}
/-- behind blanks -/
theorem blanks_passed_sp (hz : z.length ≤ 50000) (hN : 60000 ≤ NW) {k p : Nat} {r : List Nat} {i : Int} (hi : i = (p : Int)) (h : z.cps.toList.drop p = List.replicate k 32 ++ r) (hr : ∀ t, r ≠ 32 :: t) :
    Ok (runDef 2 (g_blanks_passed NW) [.str z, .int i] st) fun d st' => d = .int ((p + k : Nat) : Int) ∧ st' = st := by
  unfold Ok
  rw [k_run, st_2_2]
  unfold g_blanks_passed
  have hl := len_toL z
  refine cut_seq (fun en' st' => en' = [some (.str z), some (.int ((p + k : Nat) : Int))] ∧ st' = st) ?_ (fun en1 s1 hJ => ?_)
  · refine while_m (fun m en' st' => (∃ q : Nat, en' = [some (.str z), some (.int (q : Int))] ∧ q + m = p + k ∧ z.cps.toList.drop q = List.replicate m 32 ++ r) ∧ st' = st) (m := k) ?_ ⟨⟨p, by rw [hi], rfl, h⟩, rfl⟩ ?_
    · have := congrArg List.length h
      rw [List.length_drop, List.length_append, List.length_replicate] at this
      omega
    · intro m en s2 hK
      obtain ⟨⟨q, rfl, hq, hd⟩, rfl⟩ := hK
      walk_at "gg"
      rw [sl_txt (by omega), cut_one, hd]
      walk_at "gg"
      rw [blank_is]
      cases m with
      | zero =>
        rw [if_neg (fun e => by obtain ⟨t, ht⟩ := one_is.mp e; exact hr t (by simpa using ht))]
        have : q = p + k := by omega
        subst this
        first | exact ⟨rfl, rfl⟩ | rfl
      | succ m =>
        rw [List.replicate_succ, List.cons_append] at hd ⊢
        rw [if_pos (one_is.mpr ⟨_, rfl⟩)]
        try walk_at "gg"
        first | exact ⟨m, by omega, ⟨q + 1, by simp, by omega, (drop_cons hd).1⟩, by rfl⟩ | exact ⟨m, by omega, q + 1, by simp, by omega, (drop_cons hd).1⟩
  obtain ⟨rfl, rfl⟩ := hJ
  walk_at "gg"
theorem lf_in {c : Nat} {st : Sto} : oIn (.str (oneS c)) (.str (lettersT ++ figuresT)) st = some (.bl (inLF c), st) := rfl
/-- the letters and figures there -/
theorem run_at_sp (hz : z.length ≤ 50000) (hN : 60000 ≤ NW) {p : Nat} {w r : List Nat} {i : Int} (hi : i = (p : Int)) (h : z.cps.toList.drop p = w ++ r) (hw : ∀ c ∈ w, inLF c = true) (hr : ∀ c t, r = c :: t → inLF c = false) :
    Ok (runDef 3 (g_run_at NW) [.str z, .int i] st) fun d st' => d = .str (mkT w) ∧ st' = st := by
  unfold Ok
  rw [k_run, st_3_2]
  unfold g_run_at
  have hl := len_toL z
  have hlen := congrArg List.length h
  rw [List.length_drop, List.length_append] at hlen
  refine cut_seq (fun en' st' => en' = [some (.str z), some (.int (p : Int)), some (.int (p : Int))] ∧ st' = st) ?_ (fun en1 s1 hJ => ?_)
  · subst hi
    walk_at "gg"
  obtain ⟨rfl, rfl⟩ := hJ
  refine cut_seq (fun en' st' => en' = [some (.str z), some (.int (p : Int)), some (.int ((p + w.length : Nat) : Int))] ∧ st' = s1) ?_ (fun en1 s2 hJ => ?_)
  · refine while_m (fun m en' st' => (∃ (q : Nat) (v : List Nat), en' = [some (.str z), some (.int (p : Int)), some (.int (q : Int))] ∧ m = v.length ∧ q + v.length = p + w.length ∧ z.cps.toList.drop q = v ++ r ∧ ∀ c ∈ v, inLF c = true) ∧ st' = s1) (m := w.length) (by omega) ⟨⟨p, w, rfl, rfl, rfl, h, hw⟩, rfl⟩ ?_
    intro m en s2 hK
    obtain ⟨⟨q, v, rfl, rfl, hq, hd, hv⟩, rfl⟩ := hK
    have hld := congrArg List.length hd
    rw [List.length_drop, List.length_append] at hld
    walk_at "gg"
    rw [len_txt (sz (by omega))]
    walk_at "gg"
    rcases hvr : v ++ r with _ | ⟨c, t⟩
    · obtain ⟨rfl, rfl⟩ := List.append_eq_nil_iff.mp hvr
      simp only [List.length_nil] at hld hq
      rw [if_neg (by omega)]
      have : q = p + w.length := by omega
      subst this
      first | exact ⟨rfl, rfl⟩ | rfl
    · rw [hvr] at hd
      obtain ⟨h1, h2, h3⟩ := drop_cons hd
      rw [if_pos (by omega), ix_str (c := c) (sz (by omega)) (by rw [at_nat (by omega) (by omega)]; exact h3)]
      walk_at "gg"
      rw [add_lf]
      walk_at "gg"
      rw [lf_in]
      walk_at "gg"
      cases v with
      | nil =>
        have hc := hr c t hvr
        rw [hc]
        walk_at "gg"
        have : q = p + w.length := by simpa using hq
        subst this
        first | exact ⟨rfl, rfl⟩ | rfl
      | cons a v =>
        cases hvr
        rw [hv c List.mem_cons_self]
        walk_at "gg"
        have hq' : q + 1 + v.length = p + w.length := by rw [List.length_cons] at hq; omega
        first
          | exact ⟨v.length, by simp, ⟨q + 1, v, by simp, rfl, hq', h1, fun x hx => hv x (List.mem_cons_of_mem _ hx)⟩, by rfl⟩
          | exact ⟨v.length, by simp, q + 1, v, by simp, rfl, hq', h1, fun x hx => hv x (List.mem_cons_of_mem _ hx)⟩
  obtain ⟨rfl, rfl⟩ := hJ
  walk_at "gg"
  rw [sl_txt (by omega), cut_seg (by omega), h, Nat.add_sub_cancel_left, List.take_left]
  exact ⟨rfl, rfl⟩
end
theorem k_gin {P : D → Sto → Prop} {E : Str → Sto → Prop} {st : Sto} {en : Ev} (neg : Bool) (kvs : List (Str × Str)) (a : EM) : OkX (eGIn neg kvs a en st) P E = OkX (a en st) (fun d st1 => match d with
    | .str z => P (.bl (if neg then !(lookS kvs z).isSome else (lookS kvs z).isSome)) st1
    | _ => False) E := by
  unfold eGIn
  rw [k_bnd]
  congr 1
  funext d st1
  cases d <;> rfl
/-! ### numbers and names in a text -/
theorem fig_in : ∀ c, 48 ≤ c ∧ c ≤ 57 → strIn (Str.ofString "0123456789") (oneS c) = true ∧ inLF c = true := by
  have : ∀ c ∈ List.range 58, 48 ≤ c → strIn (Str.ofString "0123456789") (oneS c) = true ∧ inLF c = true := by decide +kernel
  exact fun c h => this c (List.mem_range.mpr (by omega)) h.1
theorem let_out : ∀ c ∈ lettersT.cps.toList, strIn (Str.ofString "0123456789") (oneS c) = false ∧ strIn lettersT (oneS c) = true := by decide +kernel
theorem lf_yes : ∀ c ∈ (lettersT ++ figuresT).cps.toList, inLF c = true := by decide +kernel
theorem numL_head (n : Nat) : ∃ c r, TL.numL n = c :: r ∧ (n ≠ 0 → c ≠ 48) ∧ (n = 0 → r = []) := by
  induction n using Nat.strongRecOn with
  | ind n ih =>
    by_cases h : n < 10
    · exact ⟨48 + n, [], TL.numL_lt h, fun h0 => by omega, fun _ => rfl⟩
    · obtain ⟨c, r, e, h1, _⟩ := ih (n / 10) (by omega)
      exact ⟨c, r ++ [48 + n % 10], by rw [TL.numL_step (by omega), e]; rfl, fun _ => h1 (by omega), fun h0 => by omega⟩
def numT (n : Nat) : Str := Str.ofString (toString (n : Int))
theorem numT_l (n : Nat) : (numT n).cps.toList = TL.numL n := TL.tl_num n
theorem numT_mk (n : Nat) : mkT (TL.numL n) = numT n := by rw [← numT_l, mkT_of]
theorem numT_len {n : Nat} (h : n < 10 ^ 8) : (numT n).length ≤ 8 := by rw [← len_toL, numT_l]; exact TL.numL_len (by omega) h
theorem name_nm {w : Str} (h : Name w) : nmS w = true := by
  obtain ⟨c, r, e, h1, h2, h3⟩ := nmB_out h.1
  rw [nm_cons e, decide_eq_true h3, decide_eq_false h.2, (let_out c h1).2, e, List.all_cons, lf_yes c (letters_lf c h1), List.all_eq_true.mpr fun x hx => lf_yes x (h2 x hx)]
  rfl
theorem nul_is : Str.ofString "" = mkT [] := by decide +kernel
theorem nought_is : Str.ofString "0" = mkT [48] := by decide +kernel
theorem cut_first {z : Str} : cutS z none (some 1) = mkT (z.cps.toList.take 1) := by
  have := cut_seg (z := z) (p := 0) (q := 1) (by omega)
  rw [List.drop_zero] at this
  rw [← this]
  unfold cutS
  have e0 : HT.sIx z.length 0 (some ((0 : Nat) : Int)) = 0 := by rw [HT.sIx_nat]; simp
  rw [e0, HT.sIx_none]
  rfl
section
variable {st : Sto} {NW w : Nat} {y : Int}
theorem are_figures_sp {n : Nat} (hn : n < 10 ^ 8) (st : Sto) : Ok (runDef 2 g_are_figures [.str (numT n)] st) fun d st' => d = .bl true ∧ Ext st st' := by
  unfold Ok
  rw [k_run, st_2_1]
  unfold g_are_figures
  obtain ⟨c, r, e, h1, h2⟩ := numL_head n
  have hl := numT_len hn
  have hz : numT n = mkT (c :: r) := by rw [← numT_mk, e]
  have hall : ∀ x ∈ (numT n).cps.toList, strIn (Str.ofString "0123456789") (oneS x) = true := fun x hx => by
    rw [numT_l] at hx
    exact (fig_in x (TL.numL_digits n x hx)).1
  walk_at "gg"
  rw [if_neg (fun q => by rw [nul_is, hz, mkT_inj] at q; cases q), signs_len]
  refine Ok.imp (lc_pure (fun d => match d with | .str x => .bl (strIn (Str.ofString "0123456789") x) | _ => .non) (fun _ => true) ?_ ?_) (fun _ st' e => ?_)
  · rw [← signs_len]; exact szl (by omega)
  · intro d hd
    rw [signs_map] at hd
    obtain ⟨x, _, rfl⟩ := List.mem_map.mp hd
    exact ⟨_, rfl, fun acc => ⟨rfl, fun _ => rfl⟩⟩
  · subst e
    rw [List.filter_eq_self.mpr (fun _ _ => rfl), signs_map, List.map_map]
    have e5 : (numT n).cps.toList.map ((fun d => match d with | .str x => D.bl (strIn (Str.ofString "0123456789") x) | _ => .non) ∘ fun c => D.str (oneS c)) = (numT n).cps.toList.map fun _ => D.bl true := List.map_congr_left fun x hx => by
      show D.bl (strIn (Str.ofString "0123456789") (oneS x)) = _
      rw [hall x hx]
    rw [e5]
    have h3 : oAll [.loc st.length] (st ++ [O.lst ((numT n).cps.toList.map fun _ => D.bl true)]) = some (.bl true, st ++ [O.lst ((numT n).cps.toList.map fun _ => D.bl true)]) := by
      unfold oAll
      dsimp only
      rw [lst_at last_at]
      dsimp only
      rw [asBls_mapF (fun _ => true)]
      simp
    rw [h3]
    walk_at "gg"
    by_cases h0 : numT n = Str.ofString "0"
    · rw [if_pos h0]
      first | exact ⟨rfl, Ext.app⟩ | exact Ext.app
    · rw [if_neg h0, ix_str (c := c) (sz (by omega)) (by rw [numT_l, e]; exact at_zero)]
      walk_at "gg"
      have hc : c ≠ 48 := h1 fun q => h0 (by rw [hz, h2 q, nought_is]; subst q; rw [show c = 48 by have := TL.numL_lt (n := 0) (by omega); rw [e] at this; cases this; rfl])
      refine ⟨?_, Ext.app⟩
      have : ¬ oneS c = Str.ofString "0" := fun q => by rw [nought_is] at q; exact hc (by have := mkT_inj.mp (show mkT [c] = mkT [48] from q); simpa using this)
      simp [this]
theorem number_read_sp {f : Fn} {n : Nat} {most : Int} (hf : ∀ st, Ok (f [.str (numT n)] st) fun d st' => d = .bl true ∧ Ext st st') (hn : n < 10 ^ 8) (hm : (n : Int) ≤ most) (st : Sto) :
    Ok (runDef 2 (g_number_read f) [.str (numT n), .int most] st) fun d st' => d = .int (n : Int) ∧ Ext st st' := by
  unfold Ok
  rw [k_run, st_2_2]
  unfold g_number_read
  have hl := numT_len hn
  have hi : ∀ st, oIntX [.str (numT n)] st = some (.int (n : Int), st) := fun st => by
    unfold oIntX
    dsimp only
    have : PySem.intText? (numT n) = some (n : Int) := TL.int_num (by have := TL.numL_len (n := n) (k := 8) (by omega) hn; omega)
    rw [this]
    dsimp only
    rw [if_pos (by omega)]
  walk_at "gg"
  refine Ok.imp (hf st) fun d s1 ⟨e1, e2⟩ => ?_
  subst e1
  walk_at "gg"
  rw [len_txt (sz (by omega))]
  walk_at "gg"
  rw [if_neg (by omega), hi]
  walk_at "gg"
  rw [if_neg (by omega), hi]
  exact ⟨rfl, e2⟩
theorem leaf_num_sp {num size isn : Fn} {n : Nat} (hs : SizeSp size) (hy : y = (w : Int)) (hw : w ≤ 24) (hn : (n : Int) < 2 ^ w)
    (hf : ∀ most st, (n : Int) ≤ most → Ok (num [.str (numT n), .int most] st) fun d st' => d = .int (n : Int) ∧ Ext st st') (st : Sto) :
    Ok (runDef 2 (g_leaf_read num size isn) [.str (numT n), .int y] st) fun d st' => d = .tup [.str "number", .int (n : Int)] ∧ Ext st st' := by
  unfold Ok
  rw [k_run, st_2_2]
  unfold g_leaf_read
  obtain ⟨c, r, e, h1, h2⟩ := numL_head n
  have hz : numT n = mkT (c :: r) := by rw [← numT_mk, e]
  have h10 : n < 10 ^ 8 := by
    have : (2 : Nat) ^ w ≤ 2 ^ 24 := Nat.pow_le_pow_right (by omega) hw
    have h2 : ((2 ^ w : Nat) : Int) = (2 : Int) ^ w := by simp
    omega
  have hl := numT_len h10
  have hc : 48 ≤ c ∧ c ≤ 57 := TL.numL_digits n c (by rw [e]; exact List.mem_cons_self)
  walk_at "gg"
  rw [sl_txt (by omega)]
  walk_at "gg"
  rw [cut_first, numT_l, e, show oIn (.str (mkT (List.take 1 (c :: r)))) (.str (Str.ofString "0123456789")) st = some (.bl (strIn (Str.ofString "0123456789") (oneS c)), st) from rfl, (fig_in c hc).1]
  walk_at "gg"
  rw [if_pos (fun q => by rw [nul_is, hz, mkT_inj] at q; cases q)]
  try walk_at "gg"
  refine Ok.imp (hs st y w hy hw) fun d s1 ⟨e1, e2⟩ => ?_
  subst e1; subst e2
  try walk_at "gg"
  refine Ok.imp (hf _ s1 (by omega)) fun d s2 ⟨e1, e2⟩ => ?_
  subst e1
  exact ⟨rfl, e2⟩
theorem leaf_at_sp {num size isn : Fn} {v : Str} (hv : Name v) (hf : ∀ st, Ok (isn [.str v] st) fun d st' => d = .bl true ∧ Ext st st') (st : Sto) :
    Ok (runDef 2 (g_leaf_read num size isn) [.str v, .int y] st) fun d st' => d = .tup [.str "at", .str v] ∧ Ext st st' := by
  unfold Ok
  rw [k_run, st_2_2]
  unfold g_leaf_read
  obtain ⟨c, r, e, h1, h2, h3⟩ := nmB_out hv.1
  walk_at "gg"
  rw [sl_txt (by omega)]
  walk_at "gg"
  rw [cut_first, e, show oIn (.str (mkT (List.take 1 (c :: r)))) (.str (Str.ofString "0123456789")) st = some (.bl (strIn (Str.ofString "0123456789") (oneS c)), st) from rfl, (let_out c h1).1]
  walk_at "gg"
  refine Ok.imp (hf st) fun d s2 ⟨e1, e2⟩ => ?_
  subst e1
  walk_at "gg"
  exact e2
end
/-! ### a term in a text -/
def sgC (o : Str) : Nat := if o = "sum" then 43 else if o = "less" then 45 else 42
inductive Sp : Trm → List Nat → Prop
  | num (n k : Nat) : Sp (.num (n : Int)) (List.replicate k 32 ++ TL.numL n)
  | at (w : Str) (k : Nat) : Sp (.at w) (List.replicate k 32 ++ w.cps.toList)
  | op {o : Str} {a b : Trm} {sa sb : List Nat} (k j i : Nat) (ha : Sp a sa) (hb : Sp b sb) :
    Sp (.op o a b) (List.replicate k 32 ++ 40 :: (sa ++ (List.replicate j 32 ++ sgC o :: (sb ++ (List.replicate i 32 ++ [41])))))
/-- nothing of a word's stands behind -/
def Stop (r : List Nat) : Prop := ∀ c t, r = c :: t → inLF c = false
theorem stop_of {k c : Nat} {r : List Nat} (hc : inLF c = false) : Stop (List.replicate k 32 ++ c :: r) := by
  intro x t h
  cases k with
  | zero => cases h; exact hc
  | succ k => rw [List.replicate_succ] at h; cases h; decide +kernel
theorem sgC_facts : ∀ o ∈ opsT, inLF (sgC o) = false ∧ lookS c_WORDS_BY_SIGN (oneS (sgC o)) = some o ∧ sgC o ≠ 32 := by decide +kernel
theorem blanks_no {k : Nat} {l : List Nat} : ∀ {c : Nat} {r : List Nat}, l = c :: r → c ≠ 32 → ∀ t, l ≠ 32 :: t := fun e h t q => h (by rw [e] at q; cases q; rfl)
section
variable {st : Sto} {NW w : Nat} {y : Int} {blanks run leaf rec : Fn} {z : Str} {ws : List Str}
def BlSp (z : Str) (f : Fn) : Prop := ∀ (k p : Nat) (r : List Nat) (i : Int) (st : Sto), i = (p : Int) → z.cps.toList.drop p = List.replicate k 32 ++ r → (∀ t, r ≠ 32 :: t) → Ok (f [.str z, .int i] st) fun d st' => d = .int ((p + k : Nat) : Int) ∧ st' = st
def RnSp (z : Str) (f : Fn) : Prop := ∀ (p : Nat) (v r : List Nat) (i : Int) (st : Sto), i = (p : Int) → z.cps.toList.drop p = v ++ r → (∀ c ∈ v, inLF c = true) → Stop r → Ok (f [.str z, .int i] st) fun d st' => d = .str (mkT v) ∧ st' = st
theorem drop_rep {l r : List Nat} {p k : Nat} (h : l.drop p = List.replicate k 32 ++ r) : l.drop (p + k) = r := by rw [← List.drop_drop, h, List.drop_left' (by simp)]
theorem part_word_sp (hz : z.length ≤ 50000) (hb : BlSp z blanks) (hr : RnSp z run) {deep : Int} (hd : 1 ≤ deep) {p k c : Nat} {u : List Nat} {i : Int} {d : D} (hi : i = (p : Int)) {r : List Nat} (h : z.cps.toList.drop p = (List.replicate k 32 ++ c :: u) ++ r) (hst : Stop r)
    (h1 : c ≠ 32) (h2 : c ≠ 40) (hv : ∀ x ∈ c :: u, inLF x = true) (hlf : ∀ st, Ok (leaf [.str (mkT (c :: u)), .int y] st) fun e st' => e = d ∧ Ext st st') :
    Ok (runDef 7 (g_part_read blanks run leaf rec) [.str z, .int i, .int y, .int deep] st) fun e st' => e = .tup [d, .int ((p + (List.replicate k 32 ++ c :: u).length : Nat) : Int)] ∧ Ext st st' := by
  unfold Ok
  rw [k_run, st_7_4]
  unfold g_part_read
  have hl := len_toL z
  have h' : z.cps.toList.drop p = List.replicate k 32 ++ (c :: (u ++ r)) := by rw [h, List.append_assoc]; rfl
  have hpk := drop_rep h'
  obtain ⟨_, hlt, _⟩ := drop_cons hpk
  try walk_at "gg"
  rw [if_neg (by omega)]
  refine Ok.imp (hb k p (c :: (u ++ r)) i st hi h' (fun t q => h1 (by cases q; rfl))) fun e s1 ⟨e1, e2⟩ => ?_
  subst e1; subst e2
  try walk_at "gg"
  rw [sl_txt (by omega), cut_one, hpk]
  try walk_at "gg"
  rw [open_is, if_pos (fun q => by obtain ⟨t, ht⟩ := one_is.mp q; cases ht; exact h2 rfl)]
  refine Ok.imp (hr (p + k) (c :: u) r _ s1 rfl hpk hv hst) fun e s2 ⟨e1, e2⟩ => ?_
  subst e1; subst e2
  try walk_at "gg"
  refine Ok.imp (hlf s2) fun e s3 ⟨e1, e2⟩ => ?_
  subst e1
  have hlen := congrArg List.length hpk
  rw [List.length_drop, List.length_cons, List.length_append] at hlen
  rw [len_txt (by rw [mkT_len, List.length_cons]; exact sz (by omega)), mkT_len]
  try walk_at "gg"
  refine ⟨?_, e2⟩
  rw [List.length_append, List.length_replicate, List.length_cons]
  have e9 : (((p + k : Nat) : Int) + ((u.length + 1 : Nat) : Int)) = ((p + (k + (u.length + 1)) : Nat) : Int) := by omega
  first | rw [e9] | (simp only [List.length_cons]; rw [e9])
theorem part_op_sp (hz : z.length ≤ 50000) (hb : BlSp z blanks) {deep : Int} (hd : 1 ≤ deep) {p k j m : Nat} {sa sb : List Nat} {i : Int} {o : Str} {a b : Trm} (ho : o ∈ opsT) (hi : i = (p : Int)) {r : List Nat}
    (h : z.cps.toList.drop p = (List.replicate k 32 ++ 40 :: (sa ++ (List.replicate j 32 ++ sgC o :: (sb ++ (List.replicate m 32 ++ [41]))))) ++ r)
    (ha : ∀ (r : List Nat) (p : Nat) (i : Int) st, i = (p : Int) → z.cps.toList.drop p = sa ++ r → Stop r → Ok (rec [.str z, .int i, .int y, .int (deep - 1)] st) fun d st' => d = .tup [a.d, .int ((p + sa.length : Nat) : Int)] ∧ Ext st st')
    (hbb : ∀ (r : List Nat) (p : Nat) (i : Int) st, i = (p : Int) → z.cps.toList.drop p = sb ++ r → Stop r → Ok (rec [.str z, .int i, .int y, .int (deep - 1)] st) fun d st' => d = .tup [b.d, .int ((p + sb.length : Nat) : Int)] ∧ Ext st st') :
    Ok (runDef 7 (g_part_read blanks run leaf rec) [.str z, .int i, .int y, .int deep] st) fun e st' => e = .tup [(Trm.op o a b).d, .int ((p + (List.replicate k 32 ++ 40 :: (sa ++ (List.replicate j 32 ++ sgC o :: (sb ++ (List.replicate m 32 ++ [41]))))).length : Nat) : Int)] ∧ Ext st st' := by
  unfold Ok
  rw [k_run, st_7_4]
  unfold g_part_read
  have hl := len_toL z
  obtain ⟨f1, f2, f3⟩ := sgC_facts o ho
  have h' : z.cps.toList.drop p = List.replicate k 32 ++ (40 :: (sa ++ (List.replicate j 32 ++ sgC o :: (sb ++ (List.replicate m 32 ++ 41 :: r))))) := by rw [h]; simp
  have hpk := drop_rep h'
  obtain ⟨h1, hlt, _⟩ := drop_cons hpk
  try walk_at "gg"
  rw [if_neg (by omega)]
  refine Ok.imp (hb k p _ i st hi h' (fun t q => by cases q)) fun e s1 ⟨e1, e2⟩ => ?_
  subst e1; subst e2
  try walk_at "gg"
  rw [sl_txt (by omega), cut_one, hpk]
  try walk_at "gg"
  rw [open_is, if_neg (fun q => q (one_is.mpr ⟨_, rfl⟩))]
  try walk_at "gg"
  refine Ok.imp (ha _ (p + k + 1) _ s1 (by omega) h1 (stop_of f1)) fun e s2 ⟨e1, e2⟩ => ?_
  subst e1
  have h3 : z.cps.toList.drop (p + k + 1 + sa.length) = List.replicate j 32 ++ (sgC o :: (sb ++ (List.replicate m 32 ++ 41 :: r))) := by rw [← List.drop_drop, h1, List.drop_left]
  try walk_at "gg"
  refine Ok.imp (hb j (p + k + 1 + sa.length) _ _ s2 rfl h3 (fun t q => f3 (List.cons.inj q).1)) fun e s3 ⟨e1, e3⟩ => ?_
  subst e1; subst e3
  have h4 := drop_rep h3
  obtain ⟨h5, hlt5, hg5⟩ := drop_cons h4
  try walk_at "gg"
  rw [k_gin]
  try walk_at "gg"
  rw [sl_txt (by omega), cut_one, h4]
  try walk_at "gg"
  rw [show mkT (List.take 1 (sgC o :: (sb ++ (List.replicate m 32 ++ 41 :: r)))) = oneS (sgC o) from rfl, f2]
  try walk_at "gg"
  rw [if_neg (by simp)]
  try walk_at "gg"
  rw [ix_str (c := sgC o) (sz (by omega)) (by rw [at_nat (by omega) (by omega)]; exact hg5)]
  try walk_at "gg"
  rw [f2]
  try walk_at "gg"
  have c41 : inLF 41 = false := by decide +kernel
  refine Ok.imp (hbb _ (p + k + 1 + sa.length + j + 1) _ s3 (by omega) h5 (stop_of c41)) fun e s4 ⟨e1, e4⟩ => ?_
  subst e1
  have h6 : z.cps.toList.drop (p + k + 1 + sa.length + j + 1 + sb.length) = List.replicate m 32 ++ (41 :: r) := by rw [← List.drop_drop, h5, List.drop_left]
  try walk_at "gg"
  refine Ok.imp (hb m (p + k + 1 + sa.length + j + 1 + sb.length) _ _ s4 rfl h6 (fun t q => by cases q)) fun e s5 ⟨e1, e5⟩ => ?_
  subst e1; subst e5
  have h7 := drop_rep h6
  obtain ⟨h8, hlt8, hg8⟩ := drop_cons h7
  try walk_at "gg"
  rw [sl_txt (by omega), cut_one, h7]
  try walk_at "gg"
  rw [close_is, if_neg (fun q => q (one_is.mpr ⟨_, rfl⟩))]
  try walk_at "gg"
  refine ⟨?_, e2.trans e4⟩
  have e9 : (((p + k + 1 + sa.length + j + 1 + sb.length + m : Nat) : Int) + 1) = ((p + (List.replicate k 32 ++ 40 :: (sa ++ (List.replicate j 32 ++ sgC o :: (sb ++ (List.replicate m 32 ++ [41]))))).length : Nat) : Int) := by
    simp only [List.length_append, List.length_replicate, List.length_cons, List.length_nil]
    omega
  rw [e9]
  rfl
end
theorem num_free {n : Nat} : ∃ c u, TL.numL n = c :: u ∧ c ≠ 32 ∧ c ≠ 40 ∧ ∀ x ∈ c :: u, inLF x = true := by
  obtain ⟨c, r, e, _, _⟩ := numL_head n
  have hd : ∀ x ∈ c :: r, 48 ≤ x ∧ x ≤ 57 := fun x hx => TL.numL_digits n x (by rw [e]; exact hx)
  have h1 := hd c List.mem_cons_self
  exact ⟨c, r, e, by omega, by omega, fun x hx => (fig_in x (hd x hx)).2⟩
theorem let_free : ∀ c ∈ lettersT.cps.toList, c ≠ 32 ∧ c ≠ 40 := by decide +kernel
theorem name_free {w : Str} (h : Name w) : ∃ c u, w.cps.toList = c :: u ∧ c ≠ 32 ∧ c ≠ 40 ∧ ∀ x ∈ c :: u, inLF x = true := by
  obtain ⟨c, r, e, h1, h2, h3⟩ := nmB_out h.1
  have := let_free c h1
  refine ⟨c, r, e, this.1, this.2, fun x hx => ?_⟩
  rcases List.mem_cons.mp hx with rfl | hx
  · exact lf_yes _ (letters_lf _ h1)
  · exact lf_yes x (h2 x hx)
/-- what reading a term at a place comes to -/
def RdSp (z : Str) (f : Fn) (y deep : Int) (t : Trm) (s : List Nat) : Prop := ∀ (r : List Nat) (p : Nat) (i : Int) (st : Sto), i = (p : Int) → z.cps.toList.drop p = s ++ r → Stop r → Ok (f [.str z, .int i, .int y, .int deep] st) fun d st' => d = .tup [t.d, .int ((p + s.length : Nat) : Int)] ∧ Ext st st'
section
variable {NW w : Nat} {y deep : Int} {blanks run leaf rec : Fn} {z : Str} {ws : List Str}
theorem part_read_sp (hz : z.length ≤ 50000) (hb : BlSp z blanks) (hr : RnSp z run)
    (hln : ∀ (n : Nat) st, (n : Int) < 2 ^ w → Ok (leaf [.str (numT n), .int y] st) fun d st' => d = .tup [.str "number", .int (n : Int)] ∧ Ext st st')
    (hla : ∀ (v : Str) st, Name v → Ok (leaf [.str v, .int y] st) fun d st' => d = .tup [.str "at", .str v] ∧ Ext st st')
    (hnm : ∀ x ∈ ws, Name x) (hd : 1 ≤ deep) {t : Trm} {s : List Nat} (hs : Sp t s) (ht : t.ok (2 ^ w) ws)
    (hrec : ∀ o a b, t = .op o a b → ∀ (u : Trm) (su : List Nat), (u = a ∨ u = b) → Sp u su → RdSp z rec y (deep - 1) u su) :
    RdSp z (runDef 7 (g_part_read blanks run leaf rec)) y deep t s := by
  intro r p i st hi h hst
  cases hs with
  | num n k =>
    obtain ⟨c, u, e, h1, h2, h3⟩ := num_free (n := n)
    have hn : (n : Int) < 2 ^ w := ht.2
    rw [e] at h ⊢
    refine part_word_sp hz hb hr hd hi h hst h1 h2 h3 fun st => ?_
    have := hln n st hn
    rwa [← numT_mk, e] at this
  | «at» v k =>
    have hv : Name v := hnm v ht
    obtain ⟨c, u, e, h1, h2, h3⟩ := name_free hv
    rw [e] at h ⊢
    refine part_word_sp hz hb hr hd hi h hst h1 h2 h3 fun st => ?_
    have := hla v st hv
    rw [show mkT (c :: u) = v by rw [← e, mkT_of]]
    exact this
  | @op o a b sa sb k j m ha hbb =>
    exact part_op_sp hz hb hd ht.1 hi h (hrec o a b rfl a sa (.inl rfl) ha) (hrec o a b rfl b sb (.inr rfl) hbb)
theorem read_term_sp {part isn : Fn} {t : Trm} {s : List Nat} {m : Nat} {b : Bool} (hz : z.length ≤ 50000) (hb : BlSp z blanks) (hs : z.cps.toList = s ++ List.replicate m 32) (hp : RdSp z part y 60 t s)
    (hi : ∀ st, Ok (isn [t.d, .int y] st) fun d st' => d = .bl true ∧ Ext st st') (st : Sto) : Ok (runDef 4 (g_read_term part blanks isn) [.str z, .int y] st) fun d st' => d = t.d ∧ Ext st st' := by
  unfold Ok
  rw [k_run, st_4_2]
  unfold g_read_term
  have hl := len_toL z
  walk_at "gg"
  rw [show oIsi [.str z, .ty "str"] st = some (.bl true, st) from by unfold oIsi; dsimp only; rw [show tyName (.str z) st = some "str" from rfl]; dsimp only; rw [show kitB "str" "str" = some true from by decide +kernel]]
  walk_at "gg"
  have hst : Stop (List.replicate m 32) := fun c t q => by
    cases m with
    | zero => cases q
    | succ m => rw [List.replicate_succ] at q; cases q; decide +kernel
  refine Ok.imp (hp (List.replicate m 32) 0 0 st rfl (by rw [List.drop_zero]; exact hs) hst) fun d s1 ⟨e1, e2⟩ => ?_
  subst e1
  try walk_at "gg"
  have h2 : z.cps.toList.drop (0 + s.length) = List.replicate m 32 ++ [] := by rw [Nat.zero_add, hs, List.drop_left, List.append_nil]
  refine Ok.imp (hb m (0 + s.length) [] _ s1 (by omega) h2 (fun t q => by cases q)) fun d s2 ⟨e1, e3⟩ => ?_
  subst e1; subst e3
  try walk_at "gg"
  rw [len_txt (sz (by omega))]
  try walk_at "gg"
  have hlen := congrArg List.length hs
  rw [List.length_append, List.length_replicate] at hlen
  rw [if_neg (fun q => q (by omega))]
  try walk_at "gg"
  refine Ok.imp (hi s2) fun d s3 ⟨e1, e3⟩ => ?_
  subst e1
  try walk_at "gg"
  first | exact ⟨rfl, e2.trans e3⟩ | exact e2.trans e3
end
/-! ### what repr tells of a drawn term -/
theorem join2_len (a b : Str) : (Str.join ", " [a, b]).length = a.length + b.length + 2 := by
  show (a ++ ", " ++ b).length = _
  rw [len_app, len_app]
  have : ((", " : String) : Str).length = 2 := rfl
  omega
theorem tup2_len (a b : Str) : (tupleText [a, b]).length = a.length + b.length + 4 := by
  show (("(" : Str) ++ Str.join ", " [a, b] ++ ((")" : String) : Str)).length = _
  rw [len_app, len_app, join2_len]
  have h1 : ("(" : Str).length = 1 := rfl
  have h2 : ((")" : String) : Str).length = 1 := rfl
  omega
theorem tup3_len (a b c : Str) : (tupleText [a, b, c]).length = a.length + b.length + c.length + 6 := by
  show (("(" : Str) ++ (a ++ ", " ++ Str.join ", " [b, c]) ++ ((")" : String) : Str)).length = _
  rw [len_app, len_app, len_app, len_app, join2_len]
  have h1 : ("(" : Str).length = 1 := rfl
  have h2 : ((")" : String) : Str).length = 1 := rfl
  have h3 : ((", " : String) : Str).length = 2 := rfl
  omega
theorem rep_len {x : Str} (h : ascS x) (hl : x.length ≤ 6) : (reprText x).length ≤ 62 := by
  have := PySem.StrLaws.reprText_len x (fun c hc => by have := h c hc; omega)
  omega
theorem trm_shown {w : Nat} {ws : List Str} (hnm : ∀ x ∈ ws, Name x) (hw : (2 : Int) ^ w ≤ 100000000) : ∀ {t : Trm}, t.ok (2 ^ w) ws → (toP t.d).showable = true ∧ (toP t.d).shown.length + 80 ≤ 240 * t.lvs
  | .num n, h => by
    have h : 0 ≤ n ∧ n < 2 ^ w := h
    have e : toP (Trm.num n).d = .tuple [.str "number", .int n] := by simp [Trm.d, toP, toPL]
    have l2 : n.natAbs.log2 < 1920 := by
      have h3 : n.natAbs < 2 ^ 1920 := Nat.lt_of_lt_of_le (show n.natAbs < 2 ^ 64 by omega) (Nat.pow_le_pow_right (by omega) (by omega))
      rcases Nat.eq_zero_or_pos n.natAbs with e | e
      · rw [e]; decide
      · exact (Nat.log2_lt (by omega)).mpr h3
    rw [e]
    refine ⟨by simp [PyData.showable, PyData.showableAll, l2], ?_⟩
    simp only [PyData.shown, PyData.shownAll]
    rw [tup2_len]
    have h1 := rep_len (x := "number") (asc_of (by decide +kernel)) (by decide)
    have h2 := (int_txt n (by omega)).2
    show _ ≤ 240 * 1
    omega
  | .at v, h => by
    have e : toP (Trm.at v).d = .tuple [.str "at", .str v] := by simp [Trm.d, toP, toPL]
    rw [e]
    refine ⟨by simp [PyData.showable, PyData.showableAll], ?_⟩
    simp only [PyData.shown, PyData.shownAll]
    rw [tup2_len]
    have h1 := rep_len (x := "at") (asc_of (by decide +kernel)) (by decide)
    have hv := name_asc (hnm v h)
    have h2 := rep_len hv.1 hv.2
    show _ ≤ 240 * 1
    omega
  | .op o a b, h => by
    have h : o ∈ opsT ∧ a.ok (2 ^ w) ws ∧ b.ok (2 ^ w) ws := h
    have e : toP (Trm.op o a b).d = .tuple [.str o, toP a.d, toP b.d] := by simp [Trm.d, toP, toPL]
    rw [e]
    have ha := trm_shown hnm hw h.2.1
    have hb := trm_shown hnm hw h.2.2
    refine ⟨by simp [PyData.showable, PyData.showableAll, ha.1, hb.1], ?_⟩
    simp only [PyData.shown, PyData.shownAll]
    rw [tup3_len]
    have ho := ops_asc o h.1
    have h1 := rep_len ho.1 ho.2
    show _ ≤ 240 * (a.lvs + b.lvs)
    omega
theorem trm_pl {z : Int} {ws : List Str} (hnm : ∀ x ∈ ws, Name x) {t : Trm} (h : t.ok z ws) (hd : t.dep ≤ 100) : Pl t.d := by
  have key : ∀ {t : Trm}, t.ok z ws → pureD t.d = true ∧ depD t.d ≤ t.dep := by
    intro t
    induction t with
    | num n => exact fun _ => ⟨by simp [Trm.d, pureD, pureL, ok_numb], by simp [Trm.d, depD, depL, Trm.dep]⟩
    | «at» v => exact fun h => ⟨by simp [Trm.d, pureD, pureL, ok_at, asc_ok (name_asc (hnm v h)).1], by simp [Trm.d, depD, depL, Trm.dep]⟩
    | op o a b iha ihb =>
      intro h
      have h : o ∈ opsT ∧ a.ok z ws ∧ b.ok z ws := h
      obtain ⟨a1, a2⟩ := iha h.2.1
      obtain ⟨b1, b2⟩ := ihb h.2.2
      refine ⟨by simp [Trm.d, pureD, pureL, a1, b1, asc_ok (ops_asc o h.1).1], ?_⟩
      simp only [Trm.d, depD, depL, Trm.dep]
      omega
  have := key h
  exact ⟨this.1, by omega⟩
theorem trm_repr {w : Nat} {ws : List Str} (hnm : ∀ x ∈ ws, Name x) (hw : (2 : Int) ^ w ≤ 100000000) {t : Trm} (h : t.ok (2 ^ w) ws) (hd : t.dep ≤ 100) (hl : t.lvs ≤ 1000) : ∃ x : Str, ∀ st, oRepr [t.d] st = some (.str x, st) := by
  refine ⟨(toP t.d).shown, fun st => ?_⟩
  have hp := trm_pl hnm h hd
  obtain ⟨h1, h2⟩ := trm_shown hnm hw h
  unfold oRepr
  dsimp only
  unfold reprD
  rw [pl_py hp]
  dsimp only
  rw [pl_sh hp, h1, decide_eq_true (show (toP t.d).shown.length ≤ sizeLine from Nat.le_trans (show _ ≤ 240000 by omega) (by decide))]
  rfl
/-! ### a drawn term is a term -/
theorem trm_prt {z : Int} {ws : List Str} (hnm : ∀ x ∈ ws, Name x) : ∀ {t : Trm} (k : Nat) (m : Int), t.ok z ws → t.dep ≤ k → (2 * t.lvs : Int) - 1 ≤ m → (prt z k m t.d : Int) = 2 * t.lvs - 1
  | .num n, k, m, h, hk, hm => by
    obtain ⟨k, rfl⟩ : ∃ j, k = j + 1 := ⟨k - 1, by have : 1 ≤ k := hk; omega⟩
    have hm : (2 * (1 : Nat) : Int) - 1 ≤ m := hm
    have h : 0 ≤ n ∧ n < z := h
    rw [prt, if_neg (by omega), show (Trm.num n).d = .tup [.str (Str.ofString "number"), .int n] from rfl, prtS_two, leafV_num]
    simp [whV, h, Trm.lvs]
  | .at v, k, m, h, hk, hm => by
    obtain ⟨k, rfl⟩ : ∃ j, k = j + 1 := ⟨k - 1, by have : 1 ≤ k := hk; omega⟩
    have hm : (2 * (1 : Nat) : Int) - 1 ≤ m := hm
    rw [prt, if_neg (by omega), show (Trm.at v).d = .tup [.str (Str.ofString "at"), .str v] from rfl, prtS_two, leafV_at]
    simp [nmV, name_nm (hnm v h), Trm.lvs]
  | .op o a b, k, m, h, hk, hm => by
    have h : o ∈ opsT ∧ a.ok z ws ∧ b.ok z ws := h
    have hk : 1 + max a.dep b.dep ≤ k := hk
    have hm : (2 * ((a.lvs + b.lvs : Nat) : Int)) - 1 ≤ m := hm
    obtain ⟨k, rfl⟩ : ∃ j, k = j + 1 := ⟨k - 1, by omega⟩
    have pa := a.lvs_pos
    have pb := b.lvs_pos
    have e1 := trm_prt hnm k (m - 1) h.2.1 (by omega) (by omega)
    have e2 := trm_prt hnm k (m - 1 - (prt z k (m - 1) a.d : Int)) h.2.2 (by omega) (by omega)
    have how : (D.str o = .str "sum" ∨ D.str o = .str "less" ∨ D.str o = .str "times") := by
      simp only [D.str.injEq]
      simpa using h.1
    rw [prt, if_neg (by omega), show (Trm.op o a b).d = .tup [.str o, a.d, b.d] from rfl]
    unfold prtS
    dsimp only
    rw [if_pos how, if_neg (by omega), if_neg (by omega)]
    show ((1 + _ + _ : Nat) : Int) = 2 * ((a.lvs + b.lvs : Nat) : Int) - 1
    omega
/-! ### pieces, with blanks behind each -/
def pcs : Trm → List Str
  | .num n => [Str.ofString (toString n)]
  | .at w => [w]
  | .op o a b => [Str.ofString "("] ++ pcs a ++ [oneS (sgC o)] ++ pcs b ++ [Str.ofString ")"]
inductive Lz : List Str → List Nat → Prop
  | nil : Lz [] []
  | cons (p : Str) (k : Nat) {ps : List Str} {s : List Nat} (h : Lz ps s) : Lz (p :: ps) (p.cps.toList ++ (List.replicate k 32 ++ s))
theorem Lz.snoc {ps : List Str} {s : List Nat} (p : Str) (k : Nat) (h : Lz ps s) : Lz (ps ++ [p]) (s ++ (p.cps.toList ++ List.replicate k 32)) := by
  induction h with
  | nil => simpa using Lz.cons p k .nil
  | cons q j h ih => simpa using Lz.cons q j ih
theorem Lz.split {qs : List Str} : ∀ {ps : List Str} {s : List Nat}, Lz (ps ++ qs) s → ∃ s1 s2, s = s1 ++ s2 ∧ Lz ps s1 ∧ Lz qs s2
  | [], s, h => ⟨[], s, rfl, .nil, h⟩
  | p :: ps, _, .cons _ k h => by
    obtain ⟨s1, s2, e, h1, h2⟩ := Lz.split h
    exact ⟨_, s2, by rw [e, List.append_assoc, List.append_assoc], .cons p k h1, h2⟩
theorem Lz.one {p : Str} {s : List Nat} (h : Lz [p] s) : ∃ k, s = p.cps.toList ++ List.replicate k 32 := by
  cases h with
  | cons _ k h => cases h; exact ⟨k, by simp⟩
theorem rep_app (k j : Nat) (x : List Nat) : List.replicate k 32 ++ (List.replicate j 32 ++ x) = List.replicate (k + j) 32 ++ x := by rw [← List.append_assoc, List.replicate_append_replicate]
theorem Sp.lead {t : Trm} {s : List Nat} (k : Nat) (h : Sp t s) : Sp t (List.replicate k 32 ++ s) := by
  cases h with
  | num n j => rw [rep_app]; exact .num n _
  | «at» w j => rw [rep_app]; exact .at w _
  | op j i m ha hb => rw [rep_app]; exact .op _ i m ha hb
theorem par_l : (Str.ofString "(").cps.toList = [40] ∧ (Str.ofString ")").cps.toList = [41] := by decide +kernel
theorem lz_sp {z : Int} {ws : List Str} : ∀ {t : Trm} {s : List Nat}, t.ok z ws → Lz (pcs t) s → ∃ s' m, s = s' ++ List.replicate m 32 ∧ Sp t s'
  | .num n, s, h, hl => by
    have h : 0 ≤ n ∧ n < z := h
    obtain ⟨k, e⟩ := hl.one
    obtain ⟨q, rfl⟩ := Int.eq_ofNat_of_zero_le h.1
    refine ⟨_, k, e, ?_⟩
    have := Sp.num q 0
    rw [show (Str.ofString (toString (q : Int))).cps.toList = TL.numL q from numT_l q]
    simpa using this
  | .at w, s, _, hl => by
    obtain ⟨k, e⟩ := hl.one
    exact ⟨_, k, e, by simpa using Sp.at w 0⟩
  | .op o a b, s, h, hl => by
    have h : o ∈ opsT ∧ a.ok z ws ∧ b.ok z ws := h
    obtain ⟨x1, x2, rfl, h1, h2⟩ := Lz.split (show Lz (([Str.ofString "("] ++ pcs a ++ [oneS (sgC o)] ++ pcs b) ++ [Str.ofString ")"]) s from hl)
    obtain ⟨x3, x4, rfl, h3, h4⟩ := Lz.split h1
    obtain ⟨x5, x6, rfl, h5, h6⟩ := Lz.split h3
    obtain ⟨x7, x8, rfl, h7, h8⟩ := Lz.split h5
    obtain ⟨k1, rfl⟩ := h7.one
    obtain ⟨k2, rfl⟩ := h6.one
    obtain ⟨k3, rfl⟩ := h2.one
    obtain ⟨sa, m1, rfl, ha⟩ := lz_sp h.2.1 h8
    obtain ⟨sb, m2, rfl, hb⟩ := lz_sp h.2.2 h4
    refine ⟨_, k3, ?_, Sp.op 0 m1 m2 (ha.lead k1) (hb.lead k2)⟩
    rw [par_l.1, par_l.2, show (oneS (sgC o)).cps.toList = [sgC o] from rfl]
    simp
theorem sg_one : ∀ o ∈ opsT, (sg o).cps.toList = [sgC o] ∧ lookK (mergeD [] [(.inr "sum", .str "+"), (.inr "less", .str "-"), (.inr "times", .str "*")]) (.inr o : Key) = some (.str (oneS (sgC o))) := by
  intro o ho
  simp only [List.mem_cons, List.mem_nil_iff, or_false] at ho
  have k1 : ¬ (("sum" : Str) = "less") := by decide +kernel
  have k2 : ¬ (("sum" : Str) = "times") := by decide +kernel
  have k3 : ¬ (("less" : Str) = "times") := by decide +kernel
  have k4 := fun h => k1 (Eq.symm h)
  have k5 := fun h => k2 (Eq.symm h)
  have k6 := fun h => k3 (Eq.symm h)
  rcases ho with rfl | rfl | rfl
  · refine ⟨by decide +kernel, ?_⟩
    simp [lookK, mergeD, putD, k1, k2, k3]
    decide +kernel
  · refine ⟨by decide +kernel, ?_⟩
    simp [lookK, mergeD, putD, k1, k2, k3]
    decide +kernel
  · refine ⟨by decide +kernel, ?_⟩
    simp [lookK, mergeD, putD, k1, k2, k3]
    decide +kernel
theorem app_l (a b : Str) : (a ++ b).cps.toList = a.cps.toList ++ b.cps.toList := Array.toList_append ..
theorem txt_sp {z : Int} {ws : List Str} : ∀ {t : Trm}, t.ok z ws → Sp t (txt t).cps.toList
  | .num n, h => by
    have h : 0 ≤ n ∧ n < z := h
    obtain ⟨q, rfl⟩ := Int.eq_ofNat_of_zero_le h.1
    have := Sp.num q 0
    rw [show (txt (.num ((q : Nat) : Int))).cps.toList = TL.numL q from numT_l q]
    simpa using this
  | .at w, _ => by simpa [txt] using Sp.at w 0
  | .op o a b, h => by
    have h : o ∈ opsT ∧ a.ok z ws ∧ b.ok z ws := h
    have := Sp.op (o := o) 0 1 0 (txt_sp h.2.1) ((txt_sp h.2.2).lead 1)
    have e : (txt (.op o a b)).cps.toList = 40 :: ((txt a).cps.toList ++ (32 :: sgC o :: (32 :: ((txt b).cps.toList ++ [41])))) := by
      show ((("(" : Str) ++ txt a ++ (" " : Str) ++ sg o ++ (" " : Str) ++ txt b ++ (")" : Str))).cps.toList = _
      simp only [app_l, (sg_one o h.1).1]
      rw [show ("(" : Str).cps.toList = [40] from par_l.1, show (")" : Str).cps.toList = [41] from par_l.2, show (" " : Str).cps.toList = [32] from by decide +kernel]
      simp
    rw [e]
    simpa using this
theorem pcs_len : ∀ {t : Trm}, t.gd → (pcs t).length + 3 ≤ 5 * t.lvs ∧ ∀ p ∈ pcs t, p.length ≤ 8
  | .num n, h => by
    refine ⟨by simp [pcs, Trm.lvs], fun p hp => ?_⟩
    rw [pcs] at hp
    rw [List.mem_singleton.mp hp]
    exact num_txt h.1 h.2
  | .at w, h => by
    refine ⟨by simp [pcs, Trm.lvs], fun p hp => ?_⟩
    rw [pcs] at hp
    rw [List.mem_singleton.mp hp]
    have : w.length ≤ 6 := h
    omega
  | .op o a b, h => by
    have h : o ∈ opsT ∧ a.gd ∧ b.gd := h
    obtain ⟨a1, a2⟩ := pcs_len h.2.1
    obtain ⟨b1, b2⟩ := pcs_len h.2.2
    have pa := a.lvs_pos
    have pb := b.lvs_pos
    refine ⟨?_, fun p hp => ?_⟩
    · show ([Str.ofString "("] ++ pcs a ++ [oneS (sgC o)] ++ pcs b ++ [Str.ofString ")"]).length + 3 ≤ 5 * (a.lvs + b.lvs)
      simp only [List.length_append, List.length_singleton]
      omega
    · have hp : p ∈ [Str.ofString "("] ++ pcs a ++ [oneS (sgC o)] ++ pcs b ++ [Str.ofString ")"] := hp
      simp only [List.mem_append, List.mem_singleton] at hp
      rcases hp with (((rfl | hp) | rfl) | hp) | rfl
      · decide
      · exact a2 p hp
      · rw [len_one]; omega
      · exact b2 p hp
      · decide
def PcSp (t : Trm) (st : Sto) : D → Sto → Prop := fun e st' => ∃ l, e = .loc l ∧ st'[l]? = some (.lst ((pcs t).map D.str)) ∧ st.length ≤ l ∧ Ext st st'
theorem two_in {x : Str} {st : Sto} : oIn (.str x) (.loc st.length) (st ++ [.lst [.str (Str.ofString "number"), .str (Str.ofString "at")]]) = some (.bl (decide (x ∈ (["number", "at"] : List Str))), st ++ [.lst [.str (Str.ofString "number"), .str (Str.ofString "at")]]) := oIn_strs (ws := ["number", "at"]) (lst_at last_at)
section
variable {f : Fn} {t : Trm} {st : Sto}
theorem law_pieces_sp (hz : t.lvs ≤ 1000) (hg : t.gd) (hr : ∀ o a b, t = .op o a b → (∀ st, Ok (f [a.d] st) (PcSp a st)) ∧ (∀ st, Ok (f [b.d] st) (PcSp b st))) : Ok (runDef 2 (g_law_pieces f) [t.d] st) (PcSp t st) := by
  unfold Ok
  rw [k_run, st_2_1]
  unfold g_law_pieces
  have hp := pcs_len hg
  cases t with
  | num n =>
    unfold Trm.d
    walk_at "gg"
    rw [two_in, decide_eq_true (show Str.ofString "number" ∈ (["number", "at"] : List Str) from List.mem_cons_self)]
    walk_at "gg"
    rw [show ∀ st, oStrX [.int n] st = oStrI [.int n] st from fun _ => rfl, str_i hg.1 hg.2]
    walk_at "gg"
    exact ⟨_, rfl, last_at, by rw [List.length_append]; omega, Ext.app.appR⟩
  | «at» w =>
    unfold Trm.d
    walk_at "gg"
    rw [two_in, decide_eq_true (show Str.ofString "at" ∈ (["number", "at"] : List Str) from List.mem_cons_of_mem _ List.mem_cons_self)]
    walk_at "gg"
    rw [show ∀ st, oStrX [.str w] st = some (.str w, st) from fun _ => rfl]
    walk_at "gg"
    exact ⟨_, rfl, last_at, by rw [List.length_append]; omega, Ext.app.appR⟩
  | op o a b =>
    obtain ⟨q1, q2, _⟩ := sg_facts o hg.1
    obtain ⟨s1, s2⟩ := sg_one o hg.1
    obtain ⟨ha, hb⟩ := hr o a b rfl
    have la := pcs_len hg.2.1
    have lb := pcs_len hg.2.2
    have hz : a.lvs + b.lvs ≤ 1000 := hz
    unfold Trm.d
    walk_at "gg"
    rw [two_in, decide_eq_false (fun q => (List.mem_cons.mp q).elim q1 fun q => q2 (List.mem_singleton.mp q))]
    walk_at "gg"
    have e0 : Ext st (st ++ [O.lst [.str (Str.ofString "number"), .str (Str.ofString "at")]]) := Ext.app
    generalize st ++ [O.lst [.str (Str.ofString "number"), .str (Str.ofString "at")]] = t0 at e0 ⊢
    refine ⟨_, rfl, last_at, by show 3 ≤ 15; omega, ?_⟩
    rw [show (t0 ++ [O.dic []]).set t0.length (.dic (mergeD [] [(.inr "sum", .str "+"), (.inr "less", .str "-"), (.inr "times", .str "*")])) = t0 ++ [.dic (mergeD [] [(.inr "sum", .str "+"), (.inr "less", .str "-"), (.inr "times", .str "*")])] from by rw [List.set_append_right _ _ (Nat.le_refl _), Nat.sub_self]; rfl]
    rw [ix_dic last_at s2]
    walk_at "gg"
    have e1 : Ext st (t0 ++ [O.dic (mergeD [] [(.inr "sum", .str "+"), (.inr "less", .str "-"), (.inr "times", .str "*")])] ++ [O.lst [.str (Str.ofString "(")]]) := (e0.appR).appR
    have hb1 : (t0 ++ [O.dic (mergeD [] [(.inr "sum", .str "+"), (.inr "less", .str "-"), (.inr "times", .str "*")])] ++ [O.lst [.str (Str.ofString "(")]])[(t0 ++ [O.dic (mergeD [] [(.inr "sum", .str "+"), (.inr "less", .str "-"), (.inr "times", .str "*")])]).length]? = some (.lst [.str (Str.ofString "(")]) := last_at
    generalize t0 ++ [O.dic (mergeD [] [(.inr "sum", .str "+"), (.inr "less", .str "-"), (.inr "times", .str "*")])] = t1 at e1 hb1 ⊢
    refine Ok.imp (ha _) fun d t2 ⟨l2, e2, h2, h2l, x2⟩ => ?_
    subst e2
    try walk_at "gg"
    rw [addL2 (x2.get hb1) h2 (by rw [List.length_map, List.length_singleton]; omega)]
    try walk_at "gg"
    have e3 : Ext st (t2 ++ [O.lst ([.str (Str.ofString "(")] ++ (pcs a).map D.str)] ++ [O.lst [.str (oneS (sgC o))]]) := ((e1.trans x2).appR).appR
    rw [addL2 (app_get last_at) last_at (by simp only [List.length_append, List.length_map, List.length_singleton]; omega)]
    try walk_at "gg"
    refine Ok.imp (hb _) fun d t3 ⟨l3, e4, h3, h3l, x3⟩ => ?_
    subst e4
    try walk_at "gg"
    rw [addL2 (x3.get last_at) h3 (by simp only [List.length_append, List.length_map, List.length_singleton]; omega)]
    try walk_at "gg"
    rw [addL2 (app_get last_at) last_at (by simp only [List.length_append, List.length_map, List.length_singleton]; omega)]
    have x4 := (e3.appR (u := [O.lst ([.str (Str.ofString "(")] ++ (pcs a).map D.str ++ [.str (oneS (sgC o))])])).trans x3
    refine ⟨_, rfl, ?_, ?_, ((x4.appR).appR).appR⟩
    · rw [last_at]
      simp [pcs]
    · have := x4.len
      simp only [List.length_append]
      omega
end
theorem repS_l (k : Nat) : (repS (Str.ofString " ") k).cps.toList = List.replicate k 32 := by
  unfold repS
  rw [List.toList_toArray, show (Str.ofString " ").cps.toList = [32] from by decide +kernel]
  induction k with
  | zero => rfl
  | succ k ih => rw [List.replicate_succ, List.flatten_cons, ih, List.replicate_succ]; rfl
theorem mulX_i {v : Int} {st : Sto} (h0 : 0 ≤ v) (h1 : v ≤ 1000) : oMulX (.str (Str.ofString " ")) (.int v) st = some (.str (repS (Str.ofString " ") v.toNat), st) := if_pos ⟨h0, h1, by decide⟩
section
variable {s g c : Nat} {I : Sto → Prop} {take pieces : Fn} {st : Sto} {t : Trm}
theorem law_loose_sp (V : ∀ {st : Sto} {many : Int}, I st → 0 < many → many < 1073741824 → Ok (take [.loc s, .int many] st) fun d st' => (∃ v : Int, d = .int v ∧ 0 ≤ v ∧ v < many) ∧ I st' ∧ Gr s g st st')
    (hE : ∀ {a b}, I a → Ext a b → I b) (hlt : ∀ {a}, I a → s < a.length ∧ g < a.length) (hI : I st) (hg : t.gd) (hl : t.lvs ≤ 1000) (hp : ∀ st, Ok (pieces [t.d] st) (PcSp t st)) :
    Ok (runDef 5 (g_law_loose take pieces) [.loc s, t.d] st) fun d st' => (∃ (z : Str) (k : Nat) (q : List Nat), d = .str z ∧ z.cps.toList = List.replicate k 32 ++ q ∧ Lz (pcs t) q ∧ z.length ≤ 50000) ∧ I st' ∧ Gr s g st st' := by
  unfold Ok
  rw [k_run, st_5_2]
  unfold g_law_loose
  obtain ⟨p1, p2⟩ := pcs_len hg
  refine cut_seq (fun en' st' => (∃ m : Int, en' = [some (.loc s), some t.d, some (.int m), none, none] ∧ 1 ≤ m ∧ m ≤ 3) ∧ I st' ∧ Gr s g st st') ?_ (fun en1 s1 hJ => ?_)
  · walk_at "gg"
    refine Ok.imp (V hI (by omega) (by omega)) fun d s1 ⟨⟨v, e1, v1, v2⟩, hI1, hG1⟩ => ?_
    subst e1
    try walk_at "gg"
    exact ⟨⟨_, by rfl, by omega, by omega⟩, hI1, hG1⟩
  obtain ⟨⟨m, rfl, m1, m2⟩, hI1, hG1⟩ := hJ
  refine cut_seq (fun en' st' => (∃ k : Nat, en' = [some (.loc s), some t.d, some (.int m), some (.str (repS (Str.ofString " ") k)), none] ∧ k ≤ 2) ∧ I st' ∧ Gr s g st st') ?_ (fun en1 s2 hJ => ?_)
  · walk_at "gg"
    refine Ok.imp (V hI1 (by omega) (by omega)) fun d s2 ⟨⟨v, e1, v1, v2⟩, hI2, hG2⟩ => ?_
    subst e1
    try walk_at "gg"
    rw [mulX_i v1 (by omega)]
    try walk_at "gg"
    exact ⟨⟨_, by rfl, by omega⟩, hI2, hG1.trans hG2⟩
  obtain ⟨⟨k, rfl, hk⟩, hI2, hG2⟩ := hJ
  refine cut_seq (fun en' st' => (∃ (z : Str) (x4 : Option D) (q : List Nat), en' = [some (.loc s), some t.d, some (.int m), some (.str z), x4] ∧ z.cps.toList = List.replicate k 32 ++ q ∧ Lz (pcs t) q ∧ z.length ≤ 50000) ∧ I st' ∧ Gr s g st st') ?_ (fun en1 s3 hJ => ?_)
  · walk_at "gg"
    refine Ok.imp (hp s2) fun d s3 ⟨l, e1, hL, hle, hx⟩ => ?_
    subst e1
    have hI3 := hE hI2 hx
    have hlt2 := hlt hI2
    dsimp only
    rw [lst_at hL]
    dsimp only
    refine for_at (l := l) (ds := (pcs t).map D.str) (fun i en s4 => (∃ (z : Str) (x4 : Option D) (q : List Nat), en = [some (.loc s), some t.d, some (.int m), some (.str z), x4] ∧ z.cps.toList = List.replicate k 32 ++ q ∧ Lz ((pcs t).take i) q ∧ z.length ≤ 2 + 10 * i) ∧ s4[l]? = some (.lst ((pcs t).map D.str)) ∧ I s4 ∧ Gr s g st s4) ⟨⟨_, _, [], rfl, by rw [repS_l, List.append_nil], .nil, by rw [← len_toL, repS_l, List.length_replicate]; omega⟩, hL, hI3, hG2.trans hx.gr⟩ (fun i en s4 h => lst_at h.2.1) (fun i d en s4 hd hK => ?_) (fun en s4 hK => ?_)
    · obtain ⟨⟨z, x4, q, rfl, hz, hq, hzl⟩, hL4, hI4, hG4⟩ := hK
      refine ⟨_, rfl, ?_⟩
      rw [List.getElem?_map] at hd
      obtain ⟨p, hpi, rfl⟩ := Option.map_eq_some_iff.mp hd
      have hi := (List.getElem?_eq_some_iff.mp hpi).1
      have hp8 := p2 p (List.mem_of_getElem? hpi)
      walk_at "gg"
      rw [add_s (by omega)]
      try walk_at "gg"
      refine Ok.imp (V hI4 (by omega) (by omega)) fun d s5 ⟨⟨v, e1, v1, v2⟩, hI5, hG5⟩ => ?_
      subst e1
      try walk_at "gg"
      rw [mulX_i v1 (by omega)]
      have lz1 := len_app z p
      have lz2 := len_app (z ++ p) (repS (Str.ofString " ") v.toNat)
      have lz3 : (repS (Str.ofString " ") v.toNat).length = v.toNat := by rw [← len_toL, repS_l, List.length_replicate]
      try walk_at "gg"
      rw [add_s (by omega)]
      refine ⟨⟨_, _, q ++ (p.cps.toList ++ List.replicate v.toNat 32), by rfl, ?_, ?_, by omega⟩, hG5.keep _ _ (by omega) (by omega) hL4, hI5, hG4.trans hG5⟩
      · rw [app_l, app_l, hz, repS_l]
        simp
      · rw [List.take_add_one, hpi]
        exact hq.snoc p v.toNat
    · obtain ⟨⟨z, x4, q, rfl, hz, hq, hzl⟩, hL4, hI4, hG4⟩ := hK
      rw [List.length_map] at hq hzl
      rw [List.take_length] at hq
      exact ⟨⟨z, _, q, rfl, hz, hq, by omega⟩, hI4, hG4⟩
  obtain ⟨⟨z, x4, q, rfl, hz, hq, hzl⟩, hI3, hG3⟩ := hJ
  walk_at "gg"
  exact ⟨⟨z, k, q, by rfl, hz, hq, hzl⟩, hI3, hG3⟩
end
end Sh

set_option maxHeartbeats 1000000
namespace Sh
open PySem PySem.Spec PyProof.Rows L2
local macro_rules | `(tactic| walk_at "go") => `(tactic| simp only [k_bnd, k_ret, k_ok, k_bad, k_badM, k_exc, k_lft, k_ite, k_ite', o_some, o_none, o_ite, v_some, k_var, k_c, k_op, k_call, k_call0, k_cb, k_nil, k_cons, k_tup, k_lst, k_bOf, k_bAnd, k_bOr, k_bNot, k_and, k_or, k_not, k_if, k_chain, k_inC, k_neg, k_bm, k_get2, k_pnone, k_psome, k_sl, k_pnil, k_pcons, k_dic, k_gix, k_seq, k_nx, k_rt, k_sbad, k_snil, k_spass, k_set, k_sret, k_sretN, k_sexp, k_sif, k_asg, k_par2, k_par3, k_aug, k_put, k_seqI, k_range1, k_forI, k_lc, List.getElem?_cons_zero, List.getElem?_cons_succ, List.set_cons_zero, List.set_cons_succ, List.length_cons, List.length_nil, if_true, if_false, Bool.not_true, Bool.not_false, Bool.false_eq_true, ite_true, ite_false, reduceIte, Nat.reduceAdd, Nat.zero_add])
local macro_rules | `(tactic| walk_at "gg") => `(tactic| simp only [k_bnd, k_ret, k_ok, k_bad, k_badM, k_exc, k_lft, k_ite, k_ite', o_some, o_none, o_ite, v_some, k_var, k_c, k_op, k_call, k_call0, k_cb, k_nil, k_cons, k_tup, k_lst, k_bOf, k_bAnd, k_bOr, k_bNot, k_and, k_or, k_not, k_if, k_chain, k_inC, k_neg, k_bm, k_get2, k_pnone, k_psome, k_sl, k_pnil, k_pcons, k_dic, k_gix, k_seq, k_nx, k_rt, k_sbad, k_snil, k_spass, k_set, k_sret, k_sretN, k_sexp, k_sif, k_asg, k_par2, k_par3, k_aug, k_put, k_seqI, k_range1, k_forI, k_lc, List.getElem?_cons_zero, List.getElem?_cons_succ, List.set_cons_zero, List.set_cons_succ, List.length_cons, List.length_nil, if_true, if_false, Bool.not_true, Bool.not_false, Bool.false_eq_true, ite_true, ite_false, reduceIte, Nat.reduceAdd, Nat.zero_add, k_sortSet, k_range2, iadd_i, add_i, sub_i, eq_i, eq_s, ne_i, ne_s, ne_b, lt_i, le_i, gt_i, ge_i, ix_0, ix_1, ix_2, flat_str, flat_int, flat_non, sz_0, sz_1, sz_2, sz_3, sz_4, sz_5, sz_6, sz_7, sz_8, sz_9, decide_eq_true_eq, Bool.not_eq_eq_eq_not, decide_eq_false_iff_not, decide_true, decide_false, true_and, and_true, exists_eq_left, inC_strs, not_true_eq_false, not_false_eq_true, Bool.true_eq_false, reduceCtorEq])
def g_law_put_together (f_worth f_law_size : Fn) : SM :=
  sSeq (sPar2 3 4 (aCons (eCall 3 f_worth (aCons (eOp oIx (eVar 0) (eC (.int 1))) (aCons (eVar 1) (aCons (eVar 2) (aNil))))) (aCons (eCall 3 f_worth (aCons (eOp oIx (eVar 0) (eC (.int 2))) (aCons (eVar 1) (aCons (eVar 2) (aNil))))) (aNil)))) (sRet (eOp oMod (eOp oIx (eDic [(eC (.str "sum"), eOp oAdd (eVar 3) (eVar 4)), (eC (.str "less"), eOp oSub (eVar 3) (eVar 4)), (eC (.str "times"), eOp oMul (eVar 3) (eVar 4))]) (eOp oIx (eVar 0) (eC (.int 0)))) (eCall 1 f_law_size (aCons (eVar 1) (aNil)))))
section
variable {st : Sto} {NW w K : Nat} {y : Int} {worth size : Fn} {kvs : List (Key × D)} {ws : List Str}
theorem put_together_sp (hs : SizeSp size) (hy : y = (w : Int)) (hw : w ≤ 24) {o : Str} {a b : Trm} (ht : (Trm.op o a b).ok (2 ^ w) ws) (hk : GoodK (2 ^ w) kvs) (hK : st[K]? = some (.dic kvs))
    (ha : ∀ st, st[K]? = some (.dic kvs) → Ok (worth [a.d, .int y, .loc K] st) fun d st' => d = .int (wv (2 ^ w) kvs a) ∧ st' = st) (hb : ∀ st, st[K]? = some (.dic kvs) → Ok (worth [b.d, .int y, .loc K] st) fun d st' => d = .int (wv (2 ^ w) kvs b) ∧ st' = st) :
    Ok (runDef 5 (g_law_put_together worth size) [(Trm.op o a b).d, .int y, .loc K] st) fun d st' => d = .int (wv (2 ^ w) kvs (.op o a b)) ∧ Ext st st' := by
  unfold Ok
  rw [k_run, st_5_3]
  unfold g_law_put_together
  have hp := pow24 hw
  have hq := pow_pos' w
  have hs' := fun st => hs st y w hy hw
  generalize (2 : Int) ^ w = z at hp hq ht hk ha hb hs' ⊢
  have hra := wv_rng hq hk ht.2.1
  unfold Trm.d
  walk_at "go"
  rw [ix_tup rfl]
  walk_at "go"
  refine Ok.imp (ha st hK) fun d s1 ⟨e1, e2⟩ => ?_
  subst e1; subst e2
  rw [ix_tup rfl]
  walk_at "go"
  refine Ok.imp (hb _ hK) fun d s2 ⟨e1, e2⟩ => ?_
  subst e1; subst e2
  rw [add_i]
  walk_at "go"
  rw [sub_i]
  walk_at "go"
  rw [mul_l (i := wv z kvs a) (j := wv z kvs b) (by omega)]
  walk_at "go"
  refine ⟨_, rfl, last_at, by show 3 ≤ 15; omega, ?_⟩
  generalize hX : wv z kvs a = X
  generalize hY : wv z kvs b = Y
  rw [show ∀ q : Sto, (q ++ [O.dic []]).set q.length (.dic (mergeD [] [(.inr "sum", .int (X + Y)), (.inr "less", .int (X - Y)), (.inr "times", .int (X * Y))])) = q ++ [.dic (mergeD [] [(.inr "sum", .int (X + Y)), (.inr "less", .int (X - Y)), (.inr "times", .int (X * Y))])] from fun q => by rw [List.set_append_right _ _ (Nat.le_refl _), Nat.sub_self]; rfl]
  rw [ix_tup rfl]
  walk_at "go"
  have hlk : lookK (mergeD [] [(.inr "sum", .int (X + Y)), (.inr "less", .int (X - Y)), (.inr "times", .int (X * Y))]) (.inr o : Key) = some (.int (if o = "sum" then X + Y else if o = "less" then X - Y else X * Y)) := by
    have ho := ht.1
    simp only [List.mem_cons, List.mem_nil_iff, or_false] at ho
    have k1 : ¬ (("sum" : Str) = "less") := by decide +kernel
    have k2 : ¬ (("sum" : Str) = "times") := by decide +kernel
    have k3 : ¬ (("less" : Str) = "times") := by decide +kernel
    have k4 : ¬ (("less" : Str) = "sum") := fun h => k1 (Eq.symm h)
    have k5 : ¬ (("times" : Str) = "sum") := fun h => k2 (Eq.symm h)
    have k6 : ¬ (("times" : Str) = "less") := fun h => k3 (Eq.symm h)
    rcases ho with rfl | rfl | rfl
    · simp [lookK, mergeD, putD, k1, k2, k3, k4, k5, k6]
    · simp [lookK, mergeD, putD, k1, k2, k3, k4, k5, k6]
    · simp [lookK, mergeD, putD, k1, k2, k3, k4, k5, k6]
  rw [ix_dic last_at hlk]
  walk_at "go"
  refine Ok.imp (hs' _) fun d s1 ⟨a1, a2⟩ => ?_
  subst a1; subst a2
  rw [mod_i hq]
  refine ⟨?_, Ext.app⟩
  rw [← hX, ← hY]
  rfl
end
/-! ### a part's text in the text -/
theorem strIn_mid {z v : Str} {a b : List Nat} (h : z.cps.toList = a ++ v.cps.toList ++ b) : strIn z v = true := by
  have hl := congrArg List.length h
  rw [List.length_append, List.length_append, len_toL, len_toL] at hl
  refine (PySem.StrLaws.found_iff z v).mpr ⟨a.length, by omega, ?_⟩
  unfold Builtin.Str.subAt
  have e : z.cps.extract a.length (a.length + v.length) = v.cps := by
    apply Array.ext'
    rw [Array.toList_extract, List.extract_eq_drop_take, h, List.append_assoc, List.drop_left, Nat.add_sub_cancel_left, ← len_toL, List.take_left]
  rw [e]
  exact beq_self_eq_true _
theorem txt_mid {z : Int} {ws : List Str} : ∀ {t : Trm}, t.ok z ws → ∀ u ∈ t.parts, ∃ a b, (txt t).cps.toList = a ++ (txt u).cps.toList ++ b
  | .num n, _, u, hu => by simp [Trm.parts] at hu; subst hu; exact ⟨[], [], by simp⟩
  | .at n, _, u, hu => by simp [Trm.parts] at hu; subst hu; exact ⟨[], [], by simp⟩
  | .op o a b, h, u, hu => by
    have h : o ∈ opsT ∧ a.ok z ws ∧ b.ok z ws := h
    have e : (txt (.op o a b)).cps.toList = 40 :: ((txt a).cps.toList ++ (32 :: sgC o :: (32 :: ((txt b).cps.toList ++ [41])))) := by
      show ((("(" : Str) ++ txt a ++ (" " : Str) ++ sg o ++ (" " : Str) ++ txt b ++ (")" : Str))).cps.toList = _
      simp only [app_l, (sg_one o h.1).1]
      rw [show ("(" : Str).cps.toList = [40] from par_l.1, show (")" : Str).cps.toList = [41] from par_l.2, show (" " : Str).cps.toList = [32] from by decide +kernel]
      simp
    rw [Trm.parts] at hu
    rcases List.mem_cons.mp hu with rfl | hu
    · exact ⟨[], [], by simp⟩
    · rcases List.mem_append.mp hu with hu | hu
      · obtain ⟨x, y, q⟩ := txt_mid h.2.1 u hu
        exact ⟨40 :: x, y ++ (32 :: sgC o :: (32 :: ((txt b).cps.toList ++ [41]))), by rw [e, q]; simp⟩
      · obtain ⟨x, y, q⟩ := txt_mid h.2.2 u hu
        exact ⟨40 :: ((txt a).cps.toList ++ (32 :: sgC o :: 32 :: x)), y ++ [41], by rw [e, q]; simp⟩
/-! ### parts and names -/
theorem parts_tr : ∀ {t : Trm}, ∀ u ∈ t.parts, ∀ p ∈ u.parts, p ∈ t.parts
  | .num n, u, hu, v, hv => by simp [Trm.parts] at hu; subst hu; exact hv
  | .at n, u, hu, v, hv => by simp [Trm.parts] at hu; subst hu; exact hv
  | .op o a b, u, hu, v, hv => by
    rw [Trm.parts] at hu
    rcases List.mem_cons.mp hu with rfl | hu
    · exact hv
    · rw [Trm.parts]
      rcases List.mem_append.mp hu with hu | hu
      · exact List.mem_cons_of_mem _ (List.mem_append_left _ (parts_tr u hu v hv))
      · exact List.mem_cons_of_mem _ (List.mem_append_right _ (parts_tr u hu v hv))
theorem nms_part {t : Trm} {u : Trm} (hu : u ∈ t.parts) {v : Str} (hv : v ∈ u.nms) : v ∈ t.nms := by
  unfold Trm.nms at hv ⊢
  obtain ⟨p, hp, e⟩ := List.mem_filterMap.mp hv
  exact List.mem_filterMap.mpr ⟨p, parts_tr u hu p hp, e⟩
def isOp : Trm → Bool
  | .op _ _ _ => true
  | _ => false
theorem ops_many : ∀ t : Trm, t.parts.length = 1 + 2 * (t.parts.filter isOp).length
  | .num n => by simp [Trm.parts, isOp]
  | .at n => by simp [Trm.parts, isOp]
  | .op o a b => by
    have h1 := ops_many a
    have h2 := ops_many b
    simp only [Trm.parts, List.length_cons, List.length_append, List.filter_cons, List.filter_append, isOp, if_true]
    omega
theorem parts_lvs : ∀ {t : Trm}, ∀ u ∈ t.parts, u.lvs ≤ t.lvs
  | .num n, u, hu => by simp [Trm.parts] at hu; subst hu; exact Nat.le_refl _
  | .at n, u, hu => by simp [Trm.parts] at hu; subst hu; exact Nat.le_refl _
  | .op o a b, u, hu => by
    rw [Trm.parts] at hu
    show u.lvs ≤ a.lvs + b.lvs
    rcases List.mem_cons.mp hu with rfl | hu
    · exact Nat.le_refl _
    · rcases List.mem_append.mp hu with hu | hu
      · have := parts_lvs u hu; omega
      · have := parts_lvs u hu; omega
end Sh

set_option maxHeartbeats 1000000
namespace Sh
open PySem PySem.Spec PyProof.Rows L2
local macro_rules | `(tactic| walk_at "go") => `(tactic| simp only [k_bnd, k_ret, k_ok, k_bad, k_badM, k_exc, k_lft, k_ite, k_ite', o_some, o_none, o_ite, v_some, k_var, k_c, k_op, k_call, k_call0, k_cb, k_nil, k_cons, k_tup, k_lst, k_bOf, k_bAnd, k_bOr, k_bNot, k_and, k_or, k_not, k_if, k_chain, k_inC, k_neg, k_bm, k_get2, k_pnone, k_psome, k_sl, k_pnil, k_pcons, k_dic, k_gix, k_seq, k_nx, k_rt, k_sbad, k_snil, k_spass, k_set, k_sret, k_sretN, k_sexp, k_sif, k_asg, k_par2, k_par3, k_aug, k_put, k_seqI, k_range1, k_forI, k_lc, List.getElem?_cons_zero, List.getElem?_cons_succ, List.set_cons_zero, List.set_cons_succ, List.length_cons, List.length_nil, if_true, if_false, Bool.not_true, Bool.not_false, Bool.false_eq_true, ite_true, ite_false, reduceIte, Nat.reduceAdd, Nat.zero_add])
local macro_rules | `(tactic| walk_at "gg") => `(tactic| simp only [k_bnd, k_ret, k_ok, k_bad, k_badM, k_exc, k_lft, k_ite, k_ite', o_some, o_none, o_ite, v_some, k_var, k_c, k_op, k_call, k_call0, k_cb, k_nil, k_cons, k_tup, k_lst, k_bOf, k_bAnd, k_bOr, k_bNot, k_and, k_or, k_not, k_if, k_chain, k_inC, k_neg, k_bm, k_get2, k_pnone, k_psome, k_sl, k_pnil, k_pcons, k_dic, k_gix, k_seq, k_nx, k_rt, k_sbad, k_snil, k_spass, k_set, k_sret, k_sretN, k_sexp, k_sif, k_asg, k_par2, k_par3, k_aug, k_put, k_seqI, k_range1, k_forI, k_lc, List.getElem?_cons_zero, List.getElem?_cons_succ, List.set_cons_zero, List.set_cons_succ, List.length_cons, List.length_nil, if_true, if_false, Bool.not_true, Bool.not_false, Bool.false_eq_true, ite_true, ite_false, reduceIte, Nat.reduceAdd, Nat.zero_add, k_sortSet, k_range2, iadd_i, add_i, sub_i, eq_i, eq_s, ne_i, ne_s, ne_b, lt_i, le_i, gt_i, ge_i, ix_0, ix_1, ix_2, flat_str, flat_int, flat_non, sz_0, sz_1, sz_2, sz_3, sz_4, sz_5, sz_6, sz_7, sz_8, sz_9, decide_eq_true_eq, Bool.not_eq_eq_eq_not, decide_eq_false_iff_not, decide_true, decide_false, true_and, and_true, exists_eq_left, inC_strs, not_true_eq_false, not_false_eq_true])
local macro_rules | `(tactic| walk_at "gz") => `(tactic| simp only [k_bnd, k_ret, k_ok, k_bad, k_badM, k_exc, k_lft, k_ite, k_ite', o_some, o_none, o_ite, v_some, k_var, k_c, k_op, k_call, k_call0, k_cb, k_nil, k_cons, k_tup, k_lst, k_bOf, k_bAnd, k_bOr, k_bNot, k_and, k_or, k_not, k_if, k_chain, k_inC, k_neg, k_bm, k_get2, k_pnone, k_psome, k_sl, k_pnil, k_pcons, k_dic, k_gix, k_seq, k_nx, k_rt, k_sbad, k_snil, k_spass, k_set, k_sret, k_sretN, k_sexp, k_sif, k_asg, k_par2, k_par3, k_aug, k_put, k_seqI, k_range1, k_forI, k_lc, List.getElem?_cons_zero, List.getElem?_cons_succ, List.set_cons_zero, List.set_cons_succ, List.length_cons, List.length_nil, if_true, if_false, Bool.not_true, Bool.not_false, Bool.false_eq_true, ite_true, ite_false, reduceIte, Nat.reduceAdd, Nat.zero_add, k_sortSet, k_range2, iadd_i, add_i, sub_i, eq_i, eq_s, ne_i, ne_s, ne_b, lt_i, le_i, gt_i, ge_i, ix_0, ix_1, ix_2, flat_str, flat_int, flat_non, sz_0, sz_1, sz_2, sz_3, sz_4, sz_5, sz_6, sz_7, sz_8, sz_9, decide_eq_true_eq, Bool.not_eq_eq_eq_not, decide_eq_false_iff_not, decide_true, decide_false, true_and, and_true, exists_eq_left, inC_strs, not_true_eq_false, not_false_eq_true, k_isE, k_tryAs, k_tryO, k_raiseA, k_raise, Bool.true_eq_false, reduceCtorEq, ne_eq])
/-! ### what class an error is of, as the laws ask it -/
def g_law_kind (tab : List (Str × List Str)) : SM :=
  sSeq (sIf (bOf (eOp oIsN (eVar 0) (eC .non))) (sRet (eC (.str "none"))) (sNil)) (sSeq (sSet 1 (eLst (aCons (eIsE tab "NoProgram" (eVar 0)) (aCons (eIsE tab "NoWorth" (eVar 0)) (aCons (eIsE tab "NoPlace" (eVar 0)) (aNil)))))) (sSeq (sSet 1 (eOp oAdd (eVar 1) (eLst (aCons (eIsE tab "NoPaper" (eVar 0)) (aCons (eIsE tab "NoText" (eVar 0)) (aCons (eIsE tab "TooMany" (eVar 0)) (aNil))))))) (sSeq (sIf (bOr (bOf (eOp oNe (eBM "list" oCount (eVar 1) (aCons (eC (.bl true)) (aNil))) (eC (.int 1)))) (bOr (bNot (bOf (eIsE tab "SumError" (eVar 0)))) (bNot (bOf (eIsE tab "ValueError" (eVar 0)))))) (sRet (eC (.str "several"))) (sNil)) (sRet (eOp oIx (eLst (aCons (eC (.str "program")) (aCons (eC (.str "worth")) (aCons (eC (.str "place")) (aCons (eC (.str "paper")) (aCons (eC (.str "text")) (aCons (eC (.str "many")) (aNil)))))))) (eBM "list" oIndex (eVar 1) (aCons (eC (.bl true)) (aNil))))))))
abbrev sixC : List Str := ["NoProgram", "NoWorth", "NoPlace", "NoPaper", "NoText", "TooMany"]
abbrev sixN : List Str := ["program", "worth", "place", "paper", "text", "many"]
def kindOf (c : Str) : Str := if c = "NoProgram" then "program" else if c = "NoWorth" then "worth" else if c = "NoPlace" then "place" else if c = "NoPaper" then "paper" else if c = "NoText" then "text" else "many"
def upsC (c : Str) : List Str := [c, "SumError", "ValueError"]
def marks1 (c : Str) : List D := [D.bl (decide (("NoProgram" : Str) ∈ upsC c)), D.bl (decide (("NoWorth" : Str) ∈ upsC c)), D.bl (decide (("NoPlace" : Str) ∈ upsC c))]
def marks2 (c : Str) : List D := [D.bl (decide (("NoPaper" : Str) ∈ upsC c)), D.bl (decide (("NoText" : Str) ∈ upsC c)), D.bl (decide (("TooMany" : Str) ∈ upsC c))]
theorem kind_at : ∀ c ∈ sixC, ((marks1 c ++ marks2 c).countP fun y => eqD y (.bl true)) = 1 ∧
    ∃ j, (marks1 c ++ marks2 c).findIdx? (fun y => eqD y (.bl true)) = some j ∧ j < 6 ∧ sixN[j]? = some (kindOf c) := by
  intro c hc
  simp only [sixC, List.mem_cons, List.not_mem_nil, or_false] at hc
  rcases hc with rfl | rfl | rfl | rfl | rfl | rfl
  · exact ⟨by decide +kernel, 0, by decide +kernel, by decide, rfl⟩
  · exact ⟨by decide +kernel, 1, by decide +kernel, by decide, rfl⟩
  · exact ⟨by decide +kernel, 2, by decide +kernel, by decide, rfl⟩
  · exact ⟨by decide +kernel, 3, by decide +kernel, by decide, rfl⟩
  · exact ⟨by decide +kernel, 4, by decide +kernel, by decide, rfl⟩
  · exact ⟨by decide +kernel, 5, by decide +kernel, by decide, rfl⟩
theorem ups_sum (c : Str) : ("SumError" : Str) ∈ upsC c := by simp [upsC]
theorem ups_val (c : Str) : ("ValueError" : Str) ∈ upsC c := by simp [upsC]
theorem marks_flat (c : Str) : (flatD (.bl true) && (marks1 c ++ marks2 c).all flatD) = true := rfl
theorem count_l {st : Sto} {l : Nat} {es : List D} {x : D} (h : lstAt st l = some es) (f : (flatD x && es.all flatD) = true) : oCount (.loc l) [x] st = some (.int ((es.countP fun y => eqD y x : Nat) : Int), st) := by
  unfold oCount
  dsimp only
  rw [h]
  dsimp only
  rw [if_pos f]
theorem index_l {st : Sto} {l j : Nat} {es : List D} {x : D} (h : lstAt st l = some es) (f : (flatD x && es.all flatD) = true) (hj : es.findIdx? (fun y => eqD y x) = some j) : oIndex (.loc l) [x] st = some (.int (j : Int), st) := by
  unfold oIndex
  dsimp only
  rw [h]
  dsimp only
  rw [if_pos f, hj]
theorem add_l {st : Sto} {l m : Nat} {xs ys : List D} (h1 : st[l]? = some (.lst xs)) (h2 : st[m]? = some (.lst ys)) (hz : xs.length + ys.length ≤ 100000) : oAdd (.loc l) (.loc m) st = some (.loc st.length, st ++ [.lst (xs ++ ys)]) := by
  unfold oAdd
  dsimp only
  rw [h1, h2]
  dsimp only
  rw [if_pos (sz hz)]
theorem ty_lst {st : Sto} {l : Nat} {xs : List D} (h : st[l]? = some (.lst xs)) : isTyD "list" (.loc l) st = true := by
  unfold isTyD
  dsimp only
  rw [h]
  rfl
theorem kind_sp {tab : List (Str × List Str)} {c : Str} {l : Nat} {st : Sto} (h : st[l]? = some (.err c)) (hc : c ∈ sixC) (hu : upsOf tab c = some (upsC c)) :
    Ok (runDef 2 (g_law_kind tab) [.loc l] st) fun d st' => d = .str (kindOf c) ∧ Ext st st' := by
  unfold Ok
  rw [k_run, st_2_1]
  unfold g_law_kind
  obtain ⟨h1, j, h2, h3, h4⟩ := kind_at c hc
  have hA : ∀ t, (st ++ t)[l]? = some (.err c) := fun t => app_get h
  try walk_at "gz"
  rw [show oIsN (.loc l) .non st = some (.bl false, st) from rfl]
  try walk_at "gz"
  rw [h]
  try walk_at "gz"
  rw [hu]
  try walk_at "gz"
  rw [hA]
  try walk_at "gz"
  rw [hu]
  try walk_at "gz"
  change OkO (oAdd (.loc st.length) (.loc (st ++ [O.lst (marks1 c)]).length) (st ++ [O.lst (marks1 c)] ++ [O.lst (marks2 c)])) _
  rw [add_l (xs := marks1 c) (ys := marks2 c) (app_get last_at) last_at (by show 6 ≤ 100000; omega)]
  try walk_at "gz"
  have hL : ((st ++ [O.lst (marks1 c)] ++ [O.lst (marks2 c)] ++ [O.lst (marks1 c ++ marks2 c)]))[(st ++ [O.lst (marks1 c)] ++ [O.lst (marks2 c)]).length]? = some (.lst (marks1 c ++ marks2 c)) := last_at
  have hE : ((st ++ [O.lst (marks1 c)] ++ [O.lst (marks2 c)] ++ [O.lst (marks1 c ++ marks2 c)]))[l]? = some (.err c) := app_get (app_get (app_get h))
  have hX : Ext st (st ++ [O.lst (marks1 c)] ++ [O.lst (marks2 c)] ++ [O.lst (marks1 c ++ marks2 c)]) := ((Ext.app).appR).appR
  generalize (st ++ [O.lst (marks1 c)] ++ [O.lst (marks2 c)] ++ [O.lst (marks1 c ++ marks2 c)]) = s1 at hL hE hX ⊢
  generalize (st ++ [O.lst (marks1 c)] ++ [O.lst (marks2 c)]).length = k at hL ⊢
  rw [ty_lst hL, if_pos rfl, count_l (lst_at hL) (marks_flat c), h1]
  try walk_at "gz"
  rw [if_neg (by decide : ¬ ¬ (((1 : Nat) : Int) = 1))]
  try walk_at "gz"
  rw [hE]
  try walk_at "gz"
  rw [hu]
  try walk_at "gz"
  rw [if_neg (fun q => q (ups_sum c))]
  try walk_at "gz"
  try rw [hE]
  try walk_at "gz"
  try rw [hu]
  try walk_at "gz"
  rw [if_neg (fun q => q (ups_val c))]
  try walk_at "gz"
  rw [ty_lst (app_get hL), if_pos rfl, index_l (lst_at (app_get hL)) (marks_flat c) h2]
  try walk_at "gz"
  change OkO (oIx (.loc s1.length) (.int ((j : Nat) : Int)) (s1 ++ [O.lst (sixN.map D.str)])) _
  rw [ix_lst (ds := sixN.map D.str) (d := .str (kindOf c)) (lst_at last_at) (by
    rw [at_nat (by omega) (by show ((j : Nat) : Int) < 6; omega)]
    show (sixN.map D.str)[((j : Nat) : Int).toNat]? = _
    rw [Int.toNat_natCast, List.getElem?_map, h4]
    rfl)]
  exact ⟨rfl, hX.appR⟩
end Sh

set_option maxHeartbeats 4000000
namespace Law
open PySem PySem.Spec PyProof.Rows L2 Sh
/-! ### the text by places -/
def topS (i : Nat) : Stmt := PySem.Challenge.pw_turngrow_k08_refusals_apart.main.body.getD i (.Pass ⟨0, 0, 0, 0⟩)
abbrev s_is_name : Stmt := topS 13
abbrev s_size_of : Stmt := topS 18
abbrev s_is_number : Stmt := topS 19
abbrev s_is_leaf : Stmt := topS 20
abbrev s_parts_of : Stmt := topS 21
abbrev s_is_term : Stmt := topS 22
abbrev s_are_figures : Stmt := topS 26
abbrev s_number_read : Stmt := topS 27
abbrev s_blanks_passed : Stmt := topS 28
abbrev s_run_at : Stmt := topS 29
abbrev s_leaf_read : Stmt := topS 30
abbrev s_part_read : Stmt := topS 31
abbrev s_read_term : Stmt := topS 32
abbrev s_law_begun : Stmt := topS 34
abbrev s_law_take : Stmt := topS 35
abbrev s_law_kind : Stmt := topS 37
abbrev s_law_raised : Stmt := topS 38
abbrev s_law : Stmt := topS 39
abbrev n_is_name : List Str := ["thing", "sign"]
abbrev p_is_name : List Str := ["thing"]
theorem sc_is_name : FnScope n_is_name p_is_name (defScope s_is_name) := ⟨rfl, rfl, rfl, by decide +kernel, rfl, by decide +kernel, by decide +kernel⟩
abbrev n_size_of : List Str := ["width", "found", "step"]
abbrev p_size_of : List Str := ["width"]
theorem sc_size_of : FnScope n_size_of p_size_of (defScope s_size_of) := ⟨rfl, rfl, rfl, by decide +kernel, rfl, by decide +kernel, by decide +kernel⟩
abbrev n_is_number : List Str := ["thing", "width"]
abbrev p_is_number : List Str := ["thing", "width"]
theorem sc_is_number : FnScope n_is_number p_is_number (defScope s_is_number) := ⟨rfl, rfl, rfl, by decide +kernel, rfl, by decide +kernel, by decide +kernel⟩
abbrev n_is_leaf : List Str := ["thing", "width"]
abbrev p_is_leaf : List Str := ["thing", "width"]
theorem sc_is_leaf : FnScope n_is_leaf p_is_leaf (defScope s_is_leaf) := ⟨rfl, rfl, rfl, by decide +kernel, rfl, by decide +kernel, by decide +kernel⟩
abbrev n_parts_of : List Str := ["thing", "width", "deep", "most", "one", "other"]
abbrev p_parts_of : List Str := ["thing", "width", "deep", "most"]
theorem sc_parts_of : FnScope n_parts_of p_parts_of (defScope s_parts_of) := ⟨rfl, rfl, rfl, by decide +kernel, rfl, by decide +kernel, by decide +kernel⟩
abbrev n_is_term : List Str := ["thing", "width"]
abbrev p_is_term : List Str := ["thing", "width"]
theorem sc_is_term : FnScope n_is_term p_is_term (defScope s_is_term) := ⟨rfl, rfl, rfl, by decide +kernel, rfl, by decide +kernel, by decide +kernel⟩
abbrev n_are_figures : List Str := ["word", "sign"]
abbrev p_are_figures : List Str := ["word"]
theorem sc_are_figures : FnScope n_are_figures p_are_figures (defScope s_are_figures) := ⟨rfl, rfl, rfl, by decide +kernel, rfl, by decide +kernel, by decide +kernel⟩
abbrev n_number_read : List Str := ["word", "most"]
abbrev p_number_read : List Str := ["word", "most"]
theorem sc_number_read : FnScope n_number_read p_number_read (defScope s_number_read) := ⟨rfl, rfl, rfl, by decide +kernel, rfl, by decide +kernel, by decide +kernel⟩
abbrev n_blanks_passed : List Str := ["text", "at"]
abbrev p_blanks_passed : List Str := ["text", "at"]
theorem sc_blanks_passed : FnScope n_blanks_passed p_blanks_passed (defScope s_blanks_passed) := ⟨rfl, rfl, rfl, by decide +kernel, rfl, by decide +kernel, by decide +kernel⟩
abbrev n_run_at : List Str := ["text", "at", "end"]
abbrev p_run_at : List Str := ["text", "at"]
theorem sc_run_at : FnScope n_run_at p_run_at (defScope s_run_at) := ⟨rfl, rfl, rfl, by decide +kernel, rfl, by decide +kernel, by decide +kernel⟩
abbrev n_leaf_read : List Str := ["word", "width"]
abbrev p_leaf_read : List Str := ["word", "width"]
theorem sc_leaf_read : FnScope n_leaf_read p_leaf_read (defScope s_leaf_read) := ⟨rfl, rfl, rfl, by decide +kernel, rfl, by decide +kernel, by decide +kernel⟩
abbrev n_part_read : List Str := ["text", "at", "width", "deep", "word", "one", "other"]
abbrev p_part_read : List Str := ["text", "at", "width", "deep"]
theorem sc_part_read : FnScope n_part_read p_part_read (defScope s_part_read) := ⟨rfl, rfl, rfl, by decide +kernel, rfl, by decide +kernel, by decide +kernel⟩
abbrev n_read_term : List Str := ["text", "width", "term", "at"]
abbrev p_read_term : List Str := ["text", "width"]
theorem sc_read_term : FnScope n_read_term p_read_term (defScope s_read_term) := ⟨rfl, rfl, rfl, by decide +kernel, rfl, by decide +kernel, by decide +kernel⟩
abbrev n_law_begun : List Str := ["_law_script", "_law_great", "_law_cell"]
abbrev p_law_begun : List Str := ["_law_script"]
theorem sc_law_begun : FnScope n_law_begun p_law_begun (defScope s_law_begun) := ⟨rfl, rfl, rfl, by decide +kernel, rfl, by decide +kernel, by decide +kernel⟩
abbrev n_law_take : List Str := ["_law_state", "_law_many", "_law_found", "_law_cells", "_law_cell"]
abbrev p_law_take : List Str := ["_law_state", "_law_many"]
theorem sc_law_take : FnScope n_law_take p_law_take (defScope s_law_take) := ⟨rfl, rfl, rfl, by decide +kernel, rfl, by decide +kernel, by decide +kernel⟩
abbrev n_law_kind : List Str := ["_law_error", "_law_marks"]
abbrev p_law_kind : List Str := ["_law_error"]
theorem sc_law_kind : FnScope n_law_kind p_law_kind (defScope s_law_kind) := ⟨rfl, rfl, rfl, by decide +kernel, rfl, by decide +kernel, by decide +kernel⟩
abbrev n_law_raised : List Str := ["_law_which", "_law_text"]
abbrev p_law_raised : List Str := ["_law_which", "_law_text"]
theorem sc_law_raised : FnScope n_law_raised p_law_raised (defScope s_law_raised) := ⟨rfl, rfl, rfl, by decide +kernel, rfl, by decide +kernel, by decide +kernel⟩
abbrev n_law : List Str := ["_law_script", "_law_state", "_law_turn", "_law_which", "_law_error", "e"]
abbrev p_law : List Str := ["_law_script"]
theorem sc_law : FnScope n_law p_law (defScope s_law) := ⟨rfl, rfl, rfl, by decide +kernel, rfl, by decide +kernel, by decide +kernel⟩
def c_KEPT : List Str := ["width", "input", "set", "tell", "if", "else", "while", "turns", "below", "same", "unlike", "end"]
def c_WORDS : List Str := ["sum", "less", "times"]
def c_WORDS_BY_SIGN : List (Str × Str) := [("+", "sum"), ("-", "less"), ("*", "times")]
abbrev tabE : List (Str × List Str) := [("NoPaper", ["NoPaper", "SumError", "ValueError"]), ("NoPlace", ["NoPlace", "SumError", "ValueError"]), ("NoProgram", ["NoProgram", "SumError", "ValueError"]), ("NoText", ["NoText", "SumError", "ValueError"]), ("NoWorth", ["NoWorth", "SumError", "ValueError"]), ("TooMany", ["TooMany", "SumError", "ValueError"])]
/-! ### what each def computes -/
structure Fs where
  is_name : Fn
  size_of : Fn
  is_number : Fn
  is_leaf : Fn
  parts_of : Fn
  is_term : Fn
  are_figures : Fn
  number_read : Fn
  blanks_passed : Fn
  run_at : Fn
  leaf_read : Fn
  part_read : Fn
  read_term : Fn
  law_begun : Fn
  law_take : Fn
  law_kind : Fn
  law_raised : Fn
  law : Fn
def b_is_name (F : Fs) (NW : Nat) : SM :=
  sSeq (sIf (bOr (bNot (bOf (eCB oIsi (aCons (eVar 0) (aCons (eC (.ty "str")) (aNil)))))) (bOr (bNot (bOf (eChain oLe oLe (eC (.int 1)) (eCB oLen (aCons (eVar 0) (aNil))) (eC (.int 6))))) (bOf (eInC false c_KEPT (eVar 0))))) (sRet (eC (.bl false))) (sNil)) (sRet (eAnd (eOp oIn (eOp oIx (eVar 0) (eC (.int 0))) (eC (.str "abcdefghijklmnopqrstuvwxyz"))) (eCB oAll (aCons (eLc (iSeq (eVar 0)) (gN 1) (bYes) (eOp oIn (eVar 1) (eOp oAdd (eC (.str "abcdefghijklmnopqrstuvwxyz")) (eC (.str "0123456789")))) [1]) (aNil)))))
def b_size_of (F : Fs) (NW : Nat) : SM :=
  sSeq (sSet 1 (eC (.int 1))) (sSeq (sForI (iRange1 (aCons (eVar 0) (aNil))) (gN 2) (sSet 1 (eOp oMul (eVar 1) (eC (.int 2))))) (sRet (eVar 1)))
def b_is_number (F : Fs) (NW : Nat) : SM :=
  sRet (eAnd (eCB oIsi (aCons (eVar 0) (aCons (eC (.ty "int")) (aNil)))) (eAnd (eNot (eCB oIsi (aCons (eVar 0) (aCons (eC (.ty "bool")) (aNil))))) (eChain oLe oLt (eC (.int 0)) (eVar 0) (eCall 1 F.size_of (aCons (eVar 1) (aNil))))))
def b_is_leaf (F : Fs) (NW : Nat) : SM :=
  sRet (eIf (bOf (eOp oEq (eOp oIx (eVar 0) (eC (.int 0))) (eC (.str "number")))) (eCall 2 F.is_number (aCons (eOp oIx (eVar 0) (eC (.int 1))) (aCons (eVar 1) (aNil)))) (eAnd (eOp oEq (eOp oIx (eVar 0) (eC (.int 0))) (eC (.str "at"))) (eCall 1 F.is_name (aCons (eOp oIx (eVar 0) (eC (.int 1))) (aNil)))))
def b_parts_of (F : Fs) (NW : Nat) : SM :=
  sSeq (sIf (bOr (bOf (eOp oEq (eVar 2) (eC (.int 0)))) (bOr (bOf (eOp oLt (eVar 3) (eC (.int 1)))) (bOr (bNot (bOf (eCB oIsi (aCons (eVar 0) (aCons (eC (.ty "tuple")) (aNil)))))) (bOr (bOf (eOp oLt (eCB oLen (aCons (eVar 0) (aNil))) (eC (.int 2)))) (bNot (bOf (eCB oIsi (aCons (eOp oIx (eVar 0) (eC (.int 0))) (aCons (eC (.ty "str")) (aNil)))))))))) (sRet (eC (.int 0))) (sNil)) (sSeq (sIf (bOf (eOp oEq (eCB oLen (aCons (eVar 0) (aNil))) (eC (.int 2)))) (sRet (eCB oIntX (aCons (eCall 2 F.is_leaf (aCons (eVar 0) (aCons (eVar 1) (aNil)))) (aNil)))) (sNil)) (sSeq (sIf (bOr (bOf (eInC true c_WORDS (eOp oIx (eVar 0) (eC (.int 0))))) (bOf (eOp oNe (eCB oLen (aCons (eVar 0) (aNil))) (eC (.int 3))))) (sRet (eC (.int 0))) (sNil)) (sSeq (sSet 4 (eCall 4 F.parts_of (aCons (eOp oIx (eVar 0) (eC (.int 1))) (aCons (eVar 1) (aCons (eOp oSub (eVar 2) (eC (.int 1))) (aCons (eOp oSub (eVar 3) (eC (.int 1))) (aNil))))))) (sSeq (sSet 5 (eIf (bOf (eOp oEq (eVar 4) (eC (.int 0)))) (eC (.int 0)) (eCall 4 F.parts_of (aCons (eOp oIx (eVar 0) (eC (.int 2))) (aCons (eVar 1) (aCons (eOp oSub (eVar 2) (eC (.int 1))) (aCons (eOp oSub (eOp oSub (eVar 3) (eC (.int 1))) (eVar 4)) (aNil)))))))) (sRet (eIf (bOf (eOp oEq (eVar 5) (eC (.int 0)))) (eC (.int 0)) (eOp oAdd (eOp oAdd (eC (.int 1)) (eVar 4)) (eVar 5))))))))
def b_is_term (F : Fs) (NW : Nat) : SM :=
  sRet (eOp oGt (eCall 4 F.parts_of (aCons (eVar 0) (aCons (eVar 1) (aCons (eC (.int 60)) (aCons (eC (.int 400)) (aNil)))))) (eC (.int 0)))
def b_are_figures (F : Fs) (NW : Nat) : SM :=
  sSeq (sIf (bOr (bOf (eOp oEq (eVar 0) (eC (.str "")))) (bNot (bOf (eCB oAll (aCons (eLc (iSeq (eVar 0)) (gN 1) (bYes) (eOp oIn (eVar 1) (eC (.str "0123456789"))) [1]) (aNil)))))) (sRet (eC (.bl false))) (sNil)) (sRet (eOr (eOp oEq (eVar 0) (eC (.str "0"))) (eOp oNe (eOp oIx (eVar 0) (eC (.int 0))) (eC (.str "0")))))
def b_number_read (F : Fs) (NW : Nat) : SM :=
  sSeq (sIf (bOr (bNot (bOf (eCall 1 F.are_figures (aCons (eVar 0) (aNil))))) (bOr (bOf (eOp oGt (eCB oLen (aCons (eVar 0) (aNil))) (eC (.int 8)))) (bOf (eOp oGt (eCB oIntX (aCons (eVar 0) (aNil))) (eVar 1))))) (sRaise "NoText") (sNil)) (sRet (eCB oIntX (aCons (eVar 0) (aNil))))
def b_blanks_passed (F : Fs) (NW : Nat) : SM :=
  sSeq (sWhile (bOf (eOp oEq (eSl (eVar 0) (some (eVar 1)) (some (eOp oAdd (eVar 1) (eC (.int 1))))) (eC (.str " ")))) (sAug 1 oIAddX (eC (.int 1))) NW) (sRet (eVar 1))
def b_run_at (F : Fs) (NW : Nat) : SM :=
  sSeq (sSet 2 (eVar 1)) (sSeq (sWhile (bAnd (bOf (eOp oLt (eVar 2) (eCB oLen (aCons (eVar 0) (aNil))))) (bOf (eOp oIn (eOp oIx (eVar 0) (eVar 2)) (eOp oAdd (eC (.str "abcdefghijklmnopqrstuvwxyz")) (eC (.str "0123456789")))))) (sAug 2 oIAddX (eC (.int 1))) NW) (sRet (eSl (eVar 0) (some (eVar 1)) (some (eVar 2)))))
def b_leaf_read (F : Fs) (NW : Nat) : SM :=
  sSeq (sIf (bAnd (bOf (eOp oIn (eSl (eVar 0) none (some (eC (.int 1)))) (eC (.str "0123456789")))) (bOf (eOp oNe (eVar 0) (eC (.str ""))))) (sRet (eTup (aCons (eC (.str "number")) (aCons (eCall 2 F.number_read (aCons (eVar 0) (aCons (eOp oSub (eCall 1 F.size_of (aCons (eVar 1) (aNil))) (eC (.int 1))) (aNil)))) (aNil))))) (sNil)) (sSeq (sIf (bNot (bOf (eCall 1 F.is_name (aCons (eVar 0) (aNil))))) (sRaise "NoText") (sNil)) (sRet (eTup (aCons (eC (.str "at")) (aCons (eVar 0) (aNil))))))
def b_part_read (F : Fs) (NW : Nat) : SM :=
  sSeq (sIf (bOf (eOp oEq (eVar 3) (eC (.int 0)))) (sRaise "NoText") (sNil)) (sSeq (sSet 1 (eCall 2 F.blanks_passed (aCons (eVar 0) (aCons (eVar 1) (aNil))))) (sSeq (sIf (bOf (eOp oNe (eSl (eVar 0) (some (eVar 1)) (some (eOp oAdd (eVar 1) (eC (.int 1))))) (eC (.str "(")))) (sSeq (sSet 4 (eCall 2 F.run_at (aCons (eVar 0) (aCons (eVar 1) (aNil))))) (sRet (eTup (aCons (eCall 2 F.leaf_read (aCons (eVar 4) (aCons (eVar 2) (aNil)))) (aCons (eOp oAdd (eVar 1) (eCB oLen (aCons (eVar 4) (aNil)))) (aNil)))))) (sNil)) (sSeq (sAsg (eCall 4 F.part_read (aCons (eVar 0) (aCons (eOp oAdd (eVar 1) (eC (.int 1))) (aCons (eVar 2) (aCons (eOp oSub (eVar 3) (eC (.int 1))) (aNil)))))) (gT [gN 5, gN 1])) (sSeq (sSet 1 (eCall 2 F.blanks_passed (aCons (eVar 0) (aCons (eVar 1) (aNil))))) (sSeq (sIf (bOf (eGIn true c_WORDS_BY_SIGN (eSl (eVar 0) (some (eVar 1)) (some (eOp oAdd (eVar 1) (eC (.int 1))))))) (sRaise "NoText") (sNil)) (sSeq (sSet 4 (eGIx c_WORDS_BY_SIGN (eOp oIx (eVar 0) (eVar 1)))) (sSeq (sAsg (eCall 4 F.part_read (aCons (eVar 0) (aCons (eOp oAdd (eVar 1) (eC (.int 1))) (aCons (eVar 2) (aCons (eOp oSub (eVar 3) (eC (.int 1))) (aNil)))))) (gT [gN 6, gN 1])) (sSeq (sSet 1 (eCall 2 F.blanks_passed (aCons (eVar 0) (aCons (eVar 1) (aNil))))) (sSeq (sIf (bOf (eOp oNe (eSl (eVar 0) (some (eVar 1)) (some (eOp oAdd (eVar 1) (eC (.int 1))))) (eC (.str ")")))) (sRaise "NoText") (sNil)) (sRet (eTup (aCons (eTup (aCons (eVar 4) (aCons (eVar 5) (aCons (eVar 6) (aNil))))) (aCons (eOp oAdd (eVar 1) (eC (.int 1))) (aNil))))))))))))))
def b_read_term (F : Fs) (NW : Nat) : SM :=
  sSeq (sIf (bNot (bOf (eCB oIsi (aCons (eVar 0) (aCons (eC (.ty "str")) (aNil)))))) (sRaise "NoText") (sNil)) (sSeq (sAsg (eCall 4 F.part_read (aCons (eVar 0) (aCons (eC (.int 0)) (aCons (eVar 1) (aCons (eC (.int 60)) (aNil)))))) (gT [gN 2, gN 3])) (sSeq (sIf (bOr (bOf (eOp oNe (eCall 2 F.blanks_passed (aCons (eVar 0) (aCons (eVar 3) (aNil)))) (eCB oLen (aCons (eVar 0) (aNil))))) (bNot (bOf (eCall 2 F.is_term (aCons (eVar 2) (aCons (eVar 1) (aNil))))))) (sRaise "NoText") (sNil)) (sRet (eVar 2))))
def b_law_begun (F : Fs) (NW : Nat) : SM :=
  sSeq (sSet 1 (eLc (iSeq (eVar 0)) (gN 2) (bOf (eOp oGe (eCB oAbs (aCons (eVar 2) (aNil))) (eOp oPow (eC (.int 10)) (eC (.int 18))))) (eCB oAbs (aCons (eVar 2) (aNil))) [2])) (sRet (eDic [(eC (.str "great"), eVar 1), (eC (.str "rest"), eC (.int 0)), (eC (.str "cells"), eCB oList (aCons (eVar 0) (aNil))), (eC (.str "turn"), eC (.int 0)), (eC (.str "more"), eOp oAdd (eC (.int 1)) (eCB oLen (aCons (eVar 0) (aNil))))]))
def b_law_take (F : Fs) (NW : Nat) : SM :=
  sSeq (sIf (bAnd (bOf (eOp oEq (eOp oIx (eVar 0) (eC (.str "rest"))) (eC (.int 0)))) (bOf (eOp oNe (eOp oIx (eVar 0) (eC (.str "great"))) (eLst (aNil))))) (sPut (eBM "list" oPopAt (eOp oIx (eVar 0) (eC (.str "great"))) (aCons (eC (.int 0)) (aNil))) (eVar 0) (eC (.str "rest"))) (sNil)) (sSeq (sIf (bOf (eOp oGt (eOp oIx (eVar 0) (eC (.str "rest"))) (eC (.int 0)))) (sSeq (sSet 2 (eOp oMod (eOp oIx (eVar 0) (eC (.str "rest"))) (eVar 1))) (sSeq (sPut (eOp oDiv (eOp oIx (eVar 0) (eC (.str "rest"))) (eVar 1)) (eVar 0) (eC (.str "rest"))) (sRet (eVar 2)))) (sNil)) (sSeq (sSet 3 (eOp oIx (eVar 0) (eC (.str "cells")))) (sSeq (sPut (eOp oAdd (eOp oIx (eVar 0) (eC (.str "turn"))) (eC (.int 1))) (eVar 0) (eC (.str "turn"))) (sSeq (sSet 4 (eIf (bOf (eOp oNe (eVar 3) (eLst (aNil)))) (eOp oIx (eVar 3) (eOp oMod (eOp oIx (eVar 0) (eC (.str "turn"))) (eCB oLen (aCons (eVar 3) (aNil))))) (eC (.int 0)))) (sSeq (sPut (eOp oMod (eOp oAdd (eOp oAdd (eOp oMul (eOp oIx (eVar 0) (eC (.str "more"))) (eC (.int 48271))) (eVar 4)) (eOp oMul (eC (.int 7919)) (eOp oIx (eVar 0) (eC (.str "turn"))))) (eC (.int 2147483647))) (eVar 0) (eC (.str "more"))) (sRet (eOp oMod (eOp oMod (eOp oAdd (eOp oMul (eOp oIx (eVar 0) (eC (.str "more"))) (eOp oIx (eVar 0) (eC (.str "more")))) (eOp oMul (eC (.int 16807)) (eOp oIx (eVar 0) (eC (.str "more"))))) (eC (.int 2147483629))) (eVar 1))))))))
def b_law_kind (F : Fs) (NW : Nat) : SM :=
  sSeq (sIf (bOf (eOp oIsN (eVar 0) (eC .non))) (sRet (eC (.str "none"))) (sNil)) (sSeq (sSet 1 (eLst (aCons (eIsE tabE "NoProgram" (eVar 0)) (aCons (eIsE tabE "NoWorth" (eVar 0)) (aCons (eIsE tabE "NoPlace" (eVar 0)) (aNil)))))) (sSeq (sSet 1 (eOp oAdd (eVar 1) (eLst (aCons (eIsE tabE "NoPaper" (eVar 0)) (aCons (eIsE tabE "NoText" (eVar 0)) (aCons (eIsE tabE "TooMany" (eVar 0)) (aNil))))))) (sSeq (sIf (bOr (bOf (eOp oNe (eBM "list" oCount (eVar 1) (aCons (eC (.bl true)) (aNil))) (eC (.int 1)))) (bOr (bNot (bOf (eIsE tabE "SumError" (eVar 0)))) (bNot (bOf (eIsE tabE "ValueError" (eVar 0)))))) (sRet (eC (.str "several"))) (sNil)) (sRet (eOp oIx (eLst (aCons (eC (.str "program")) (aCons (eC (.str "worth")) (aCons (eC (.str "place")) (aCons (eC (.str "paper")) (aCons (eC (.str "text")) (aCons (eC (.str "many")) (aNil)))))))) (eBM "list" oIndex (eVar 1) (aCons (eC (.bl true)) (aNil))))))))
def b_law_raised (F : Fs) (NW : Nat) : SM :=
  sSeq (sIf (bOf (eOp oEq (eVar 0) (eC (.int 6)))) (sExp (eCall 2 F.read_term (aCons (eOp oAdd (eC (.str "(")) (eVar 1)) (aCons (eC (.int 3)) (aNil))))) (sNil)) (sSeq (sIf (bOf (eOp oEq (eVar 0) (eC (.int 0)))) (sRaiseA "NoProgram" (aCons (eVar 1) (aNil))) (sNil)) (sSeq (sIf (bOf (eOp oEq (eVar 0) (eC (.int 1)))) (sRaiseA "NoWorth" (aCons (eVar 1) (aNil))) (sNil)) (sSeq (sIf (bOf (eOp oEq (eVar 0) (eC (.int 2)))) (sRaiseA "NoPlace" (aCons (eVar 1) (aNil))) (sNil)) (sSeq (sIf (bOf (eOp oEq (eVar 0) (eC (.int 3)))) (sRaiseA "NoPaper" (aCons (eVar 1) (aNil))) (sNil)) (sSeq (sIf (bOf (eOp oEq (eVar 0) (eC (.int 4)))) (sRaiseA "NoText" (aCons (eVar 1) (aNil))) (sNil)) (sRaiseA "TooMany" (aCons (eVar 1) (aNil))))))))
def b_law (F : Fs) (NW : Nat) : SM :=
  sSeq (sSet 1 (eCall 1 F.law_begun (aCons (eVar 0) (aNil)))) (sSeq (sForI (iRange1 (aCons (eC (.int 6)) (aNil))) (gN 2) (sSeq (sSet 3 (eOp oMod (eOp oAdd (eVar 2) (eCall 2 F.law_take (aCons (eVar 1) (aCons (eC (.int 7)) (aNil))))) (eC (.int 7)))) (sSeq (sSet 4 (eC .non)) (sSeq (sTryAs tabE "SumError" 5 4 (sExp (eCall 2 F.law_raised (aCons (eVar 3) (aCons (eOp oMulX (eC (.str "a")) (eCall 2 F.law_take (aCons (eVar 1) (aCons (eC (.int 5)) (aNil))))) (aNil)))))) (sIf (bOf (eOp oNe (eCall 1 F.law_kind (aCons (eVar 4) (aNil))) (eOp oIx (eLst (aCons (eC (.str "program")) (aCons (eC (.str "worth")) (aCons (eC (.str "place")) (aCons (eC (.str "paper")) (aCons (eC (.str "text")) (aCons (eC (.str "many")) (aCons (eC (.str "text")) (aNil))))))))) (eVar 3)))) (sRet (eC (.bl false))) (sNil)))))) (sRet (eC (.bl true))))
def stepF (NW : Nat) (F : Fs) : Fs where
  is_name := runDef 2 (b_is_name F NW)
  size_of := runDef 3 (b_size_of F NW)
  is_number := runDef 2 (b_is_number F NW)
  is_leaf := runDef 2 (b_is_leaf F NW)
  parts_of := runDef 6 (b_parts_of F NW)
  is_term := runDef 2 (b_is_term F NW)
  are_figures := runDef 2 (b_are_figures F NW)
  number_read := runDef 2 (b_number_read F NW)
  blanks_passed := runDef 2 (b_blanks_passed F NW)
  run_at := runDef 3 (b_run_at F NW)
  leaf_read := runDef 2 (b_leaf_read F NW)
  part_read := runDef 7 (b_part_read F NW)
  read_term := runDef 4 (b_read_term F NW)
  law_begun := runDef 3 (b_law_begun F NW)
  law_take := runDef 5 (b_law_take F NW)
  law_kind := runDef 2 (b_law_kind F NW)
  law_raised := runDef 2 (b_law_raised F NW)
  law := runDef 6 (b_law F NW)
def lev (NW : Nat) : Nat → Fs
  | 0 => ⟨fun _ => badM, fun _ => badM, fun _ => badM, fun _ => badM, fun _ => badM, fun _ => badM, fun _ => badM, fun _ => badM, fun _ => badM, fun _ => badM, fun _ => badM, fun _ => badM, fun _ => badM, fun _ => badM, fun _ => badM, fun _ => badM, fun _ => badM, fun _ => badM⟩
  | n + 1 => stepF NW (lev NW n)
/-! ### what the walk asks of the top -/
structure Tx (K : PySem.W.Frag) (w : World) (mg : Mg) : Prop where
  b_abs : mg "abs" = none
  b_all : mg "all" = none
  b_bool : mg "bool" = none
  b_int : mg "int" = none
  b_isinstance : mg "isinstance" = none
  b_len : mg "len" = none
  b_list : mg "list" = none
  b_range : mg "range" = none
  b_str : mg "str" = none
  b_tuple : mg "tuple" = none
  c_FIGURES : ∃ t, mg "FIGURES" = some (.str "0123456789" t)
  c_KEPT : ∃ C, mg "KEPT" = some (.ref C) ∧ ∀ H, SqT K H C (c_KEPT.map V.str)
  c_LETTERS : ∃ t, mg "LETTERS" = some (.str "abcdefghijklmnopqrstuvwxyz" t)
  c_MOST_FIGURES : ∃ t, mg "MOST_FIGURES" = some (.int 8 t)
  c_MOST_PARTS : ∃ t, mg "MOST_PARTS" = some (.int 400 t)
  c_MOST_SIGNS : ∃ t, mg "MOST_SIGNS" = some (.int 6 t)
  c_MOST_WITHIN : ∃ t, mg "MOST_WITHIN" = some (.int 60 t)
  c_WORDS : ∃ C, mg "WORDS" = some (.ref C) ∧ ∀ H, SqT K H C (c_WORDS.map V.str)
  c_WORDS_BY_SIGN : ∃ C, mg "WORDS_BY_SIGN" = some (.ref C) ∧ CDct K w C c_WORDS_BY_SIGN
  x_NoPaper : ∃ C, mg "NoPaper" = some (.ref C) ∧ PySem.W.excIn K C [.type "ValueError", .type "Exception", .type "BaseException", .type "object"] "ValueError.__new__" = true ∧ PySem.W.keepIn K (.ref C) = true ∧ PySem.W.subIn K (.ref C) (.type "BaseException") = some true ∧ PySem.W.typeIn K (.ref C) = some (.type "type")
  x_NoPlace : ∃ C, mg "NoPlace" = some (.ref C) ∧ PySem.W.excIn K C [.type "ValueError", .type "Exception", .type "BaseException", .type "object"] "ValueError.__new__" = true ∧ PySem.W.keepIn K (.ref C) = true ∧ PySem.W.subIn K (.ref C) (.type "BaseException") = some true ∧ PySem.W.typeIn K (.ref C) = some (.type "type")
  x_NoProgram : ∃ C, mg "NoProgram" = some (.ref C) ∧ PySem.W.excIn K C [.type "ValueError", .type "Exception", .type "BaseException", .type "object"] "ValueError.__new__" = true ∧ PySem.W.keepIn K (.ref C) = true ∧ PySem.W.subIn K (.ref C) (.type "BaseException") = some true ∧ PySem.W.typeIn K (.ref C) = some (.type "type")
  x_NoText : ∃ C, mg "NoText" = some (.ref C) ∧ PySem.W.excIn K C [.type "ValueError", .type "Exception", .type "BaseException", .type "object"] "ValueError.__new__" = true ∧ PySem.W.keepIn K (.ref C) = true ∧ PySem.W.subIn K (.ref C) (.type "BaseException") = some true ∧ PySem.W.typeIn K (.ref C) = some (.type "type")
  x_NoWorth : ∃ C, mg "NoWorth" = some (.ref C) ∧ PySem.W.excIn K C [.type "ValueError", .type "Exception", .type "BaseException", .type "object"] "ValueError.__new__" = true ∧ PySem.W.keepIn K (.ref C) = true ∧ PySem.W.subIn K (.ref C) (.type "BaseException") = some true ∧ PySem.W.typeIn K (.ref C) = some (.type "type")
  x_TooMany : ∃ C, mg "TooMany" = some (.ref C) ∧ PySem.W.excIn K C [.type "ValueError", .type "Exception", .type "BaseException", .type "object"] "ValueError.__new__" = true ∧ PySem.W.keepIn K (.ref C) = true ∧ PySem.W.subIn K (.ref C) (.type "BaseException") = some true ∧ PySem.W.typeIn K (.ref C) = some (.type "type")
  d_NoPaper : ClsD K mg tabE "NoPaper"
  d_NoPlace : ClsD K mg tabE "NoPlace"
  d_NoProgram : ClsD K mg tabE "NoProgram"
  d_NoText : ClsD K mg tabE "NoText"
  d_NoWorth : ClsD K mg tabE "NoWorth"
  d_SumError : ClsD K mg tabE "SumError"
  d_TooMany : ClsD K mg tabE "TooMany"
  v_ValueError : ClsB K mg tabE "ValueError"
structure All (P : Program) (w : World) (K : PySem.W.Frag) (mg : Mg) (base : Heap) (k : Nat) (F : Fs) : Prop where
  is_name : Cal P w K mg base k "is_name" p_is_name F.is_name
  size_of : Cal P w K mg base k "size_of" p_size_of F.size_of
  is_number : Cal P w K mg base k "is_number" p_is_number F.is_number
  is_leaf : Cal P w K mg base k "is_leaf" p_is_leaf F.is_leaf
  parts_of : Cal P w K mg base k "parts_of" p_parts_of F.parts_of
  is_term : Cal P w K mg base k "is_term" p_is_term F.is_term
  are_figures : Cal P w K mg base k "are_figures" p_are_figures F.are_figures
  number_read : Cal P w K mg base k "number_read" p_number_read F.number_read
  blanks_passed : Cal P w K mg base k "blanks_passed" p_blanks_passed F.blanks_passed
  run_at : Cal P w K mg base k "run_at" p_run_at F.run_at
  leaf_read : Cal P w K mg base k "leaf_read" p_leaf_read F.leaf_read
  part_read : Cal P w K mg base k "part_read" p_part_read F.part_read
  read_term : Cal P w K mg base k "read_term" p_read_term F.read_term
  law_begun : Cal P w K mg base k "_law_begun" p_law_begun F.law_begun
  law_take : Cal P w K mg base k "_law_take" p_law_take F.law_take
  law_kind : Cal P w K mg base k "_law_kind" p_law_kind F.law_kind
  law_raised : Cal P w K mg base k "_law_raised" p_law_raised F.law_raised
  law : Cal P w K mg base k "law" p_law F.law
section
variable {P : Program} {w : World} {K : PySem.W.Frag} {mg : Mg} {base : Heap} {NW k : Nat} {F : Fs}
theorem ok_is_name (T : Tx K w mg) (A : All P w K mg base k F) {f : Addr} {fd : FuncData} (D : L2.Fun K "is_name" "is_name" s_is_name f fd) : FnS P w K mg base (k + 1) f fd p_is_name (runDef 2 (b_is_name F NW)) := by
  obtain ⟨_, m_KEPT, h_KEPT⟩ := T.c_KEPT
  refine def_ok (N := n_is_name) D sc_is_name fun cdv A0 outer s H E hr hgd => ?_
  have tk : Takes (cxOf (L2.CX P w) P w K mg base n_is_name "is_name" (defScope s_is_name) f cdv A0 outer s H E) (fun cls d _ H => E cls d H) := takes_of rfl rfl rfl rfl
  exact jss_cons (js_if (jw_pt (jw_or (jt_not (jt_val (je_callB cb_isi (by rfl) T.b_isinstance (by decide +kernel) (ja_cons (jv 0) (ja_cons (je_ty (by rfl) T.b_str (by decide +kernel)) (ja_nil)))))) (jw_or (jt_not (jt_chain ob_le ob_le (je_int) (je_callB cb_len (by rfl) T.b_len (by decide +kernel) (ja_cons (jv 0) (ja_nil))) (je_gint (by rfl) T.c_MOST_SIGNS))) (jw_or1 (jt_inC h_KEPT (by rfl) m_KEPT (jv 0)))))) (jss_one (js_ret (je_bl))) (jss_nil))
      (jss_one (js_ret (je_and (je_cmp ob_in (je_ix (hu_of hr) (jv 0) (je_int)) (je_gstr (by rfl) T.c_LETTERS) (by rfl)) (je_one (je_callB (cb_all rfl) (by rfl) T.b_all (by decide +kernel) (ja_cons (je_lc0 (own := [("sign", 1)]) rfl sc_is_name.nd (ji_seq (jv 0)) (blkOk_by (N := n_is_name) (sc := defScope s_is_name) (by decide +kernel)) (fun _ _ _ _ _ => jg_name (i := 1) sc_is_name.nd rfl (by first | exact Or.inl rfl | exact Or.inr rfl))  (fun _ _ _ _ _ => blkE fun tk => je_cmp ob_in (jv 1) (je_op ob_add (je_gstr (by rfl) T.c_LETTERS) (je_gstr (by rfl) T.c_FIGURES)) (by rfl)) ) (ja_nil)))))))
theorem ok_size_of (T : Tx K w mg) (A : All P w K mg base k F) {f : Addr} {fd : FuncData} (D : L2.Fun K "size_of" "size_of" s_size_of f fd) : FnS P w K mg base (k + 1) f fd p_size_of (runDef 3 (b_size_of F NW)) := by
  refine def_ok (N := n_size_of) D sc_size_of fun cdv A0 outer s H E hr hgd => ?_
  have tk : Takes (cxOf (L2.CX P w) P w K mg base n_size_of "size_of" (defScope s_size_of) f cdv A0 outer s H E) (fun cls d _ H => E cls d H) := takes_of rfl rfl rfl rfl
  have hpo : PassesOwn (model P w) (cxOf (L2.CX P w) P w K mg base n_size_of "size_of" (defScope s_size_of) f cdv A0 outer s H E).A (cxOf (L2.CX P w) P w K mg base n_size_of "size_of" (defScope s_size_of) f cdv A0 outer s H E).env (cxOf (L2.CX P w) P w K mg base n_size_of "size_of" (defScope s_size_of) f cdv A0 outer s H E).xe := passes_of rfl
  exact jss_cons (js_set (i := 1) sc_size_of.nd rfl (by first | exact Or.inl rfl | exact Or.inr rfl) (je_int))
      (jss_cons (js_for hpo rfl (ji_range1 (by rfl) T.b_range (ja_cons (jv 0) (ja_nil))) (jg_name (i := 2) sc_size_of.nd rfl (by first | exact Or.inl rfl | exact Or.inr rfl)) (jss_one (js_set (i := 1) sc_size_of.nd rfl (by first | exact Or.inl rfl | exact Or.inr rfl) (je_op ob_mul (jv 1) (je_int)))))
      (jss_one (js_ret (jv 1))))
theorem ok_is_number (T : Tx K w mg) (A : All P w K mg base k F) {f : Addr} {fd : FuncData} (D : L2.Fun K "is_number" "is_number" s_is_number f fd) : FnS P w K mg base (k + 1) f fd p_is_number (runDef 2 (b_is_number F NW)) := by
  refine def_ok (N := n_is_number) D sc_is_number fun cdv A0 outer s H E hr hgd => ?_
  have tk : Takes (cxOf (L2.CX P w) P w K mg base n_is_number "is_number" (defScope s_is_number) f cdv A0 outer s H E) (fun cls d _ H => E cls d H) := takes_of rfl rfl rfl rfl
  exact jss_one (js_ret (je_and (je_callB cb_isi (by rfl) T.b_isinstance (by decide +kernel) (ja_cons (jv 0) (ja_cons (je_ty (by rfl) T.b_int (by decide +kernel)) (ja_nil)))) (je_and (je_not (je_callB cb_isi (by rfl) T.b_isinstance (by decide +kernel) (ja_cons (jv 0) (ja_cons (je_ty (by rfl) T.b_bool (by decide +kernel)) (ja_nil))))) (je_one (je_chain ob_le ob_lt (je_int) (jv 0) (je_c tk A.size_of ⟨hr, hgd⟩ (by rfl) (ja_cons (jv 1) (ja_nil))))))))
theorem ok_is_leaf (T : Tx K w mg) (A : All P w K mg base k F) {f : Addr} {fd : FuncData} (D : L2.Fun K "is_leaf" "is_leaf" s_is_leaf f fd) : FnS P w K mg base (k + 1) f fd p_is_leaf (runDef 2 (b_is_leaf F NW)) := by
  refine def_ok (N := n_is_leaf) D sc_is_leaf fun cdv A0 outer s H E hr hgd => ?_
  have tk : Takes (cxOf (L2.CX P w) P w K mg base n_is_leaf "is_leaf" (defScope s_is_leaf) f cdv A0 outer s H E) (fun cls d _ H => E cls d H) := takes_of rfl rfl rfl rfl
  exact jss_one (js_ret (je_ifExp (jt_cmp (ob_eq (hu190 hr)) (je_ix (hu_of hr) (jv 0) (je_int)) (je_str) (nomark _)) (je_c tk A.is_number ⟨hr, hgd⟩ (by rfl) (ja_cons (je_ix (hu_of hr) (jv 0) (je_int)) (ja_cons (jv 1) (ja_nil)))) (je_and (je_cmp (ob_eq (hu190 hr)) (je_ix (hu_of hr) (jv 0) (je_int)) (je_str) (nomark _)) (je_one (je_c tk A.is_name ⟨hr, hgd⟩ (by rfl) (ja_cons (je_ix (hu_of hr) (jv 0) (je_int)) (ja_nil)))))))
theorem ok_parts_of (T : Tx K w mg) (A : All P w K mg base k F) {f : Addr} {fd : FuncData} (D : L2.Fun K "parts_of" "parts_of" s_parts_of f fd) : FnS P w K mg base (k + 1) f fd p_parts_of (runDef 6 (b_parts_of F NW)) := by
  obtain ⟨_, m_WORDS, h_WORDS⟩ := T.c_WORDS
  refine def_ok (N := n_parts_of) D sc_parts_of fun cdv A0 outer s H E hr hgd => ?_
  have tk : Takes (cxOf (L2.CX P w) P w K mg base n_parts_of "parts_of" (defScope s_parts_of) f cdv A0 outer s H E) (fun cls d _ H => E cls d H) := takes_of rfl rfl rfl rfl
  exact jss_cons (js_if (jw_pt (jw_or (jt_cmp (ob_eq (hu190 hr)) (jv 2) (je_int) (nomark _)) (jw_or (jt_cmp ob_lt (jv 3) (je_int) (nomark _)) (jw_or (jt_not (jt_val (je_callB cb_isi (by rfl) T.b_isinstance (by decide +kernel) (ja_cons (jv 0) (ja_cons (je_ty (by rfl) T.b_tuple (by decide +kernel)) (ja_nil)))))) (jw_or (jt_cmp ob_lt (je_callB cb_len (by rfl) T.b_len (by decide +kernel) (ja_cons (jv 0) (ja_nil))) (je_int) (nomark _)) (jw_or1 (jt_not (jt_val (je_callB cb_isi (by rfl) T.b_isinstance (by decide +kernel) (ja_cons (je_ix (hu_of hr) (jv 0) (je_int)) (ja_cons (je_ty (by rfl) T.b_str (by decide +kernel)) (ja_nil)))))))))))) (jss_one (js_ret (je_int))) (jss_nil))
      (jss_cons (js_if (jt_cmp (ob_eq (hu190 hr)) (je_callB cb_len (by rfl) T.b_len (by decide +kernel) (ja_cons (jv 0) (ja_nil))) (je_int) (nomark _)) (jss_one (js_ret (je_callTy ct_intX (by rfl) T.b_int (by decide +kernel) (ja_cons (je_c tk A.is_leaf ⟨hr, hgd⟩ (by rfl) (ja_cons (jv 0) (ja_cons (jv 1) (ja_nil)))) (ja_nil))))) (jss_nil))
      (jss_cons (js_if (jw_pt (jw_or (jt_notInC h_WORDS (by rfl) m_WORDS (je_ix (hu_of hr) (jv 0) (je_int))) (jw_or1 (jt_cmp (ob_ne (hu190 hr)) (je_callB cb_len (by rfl) T.b_len (by decide +kernel) (ja_cons (jv 0) (ja_nil))) (je_int) (nomark _))))) (jss_one (js_ret (je_int))) (jss_nil))
      (jss_cons (js_set (i := 4) sc_parts_of.nd rfl (by first | exact Or.inl rfl | exact Or.inr rfl) (je_c tk A.parts_of ⟨hr, hgd⟩ (by rfl) (ja_cons (je_ix (hu_of hr) (jv 0) (je_int)) (ja_cons (jv 1) (ja_cons (je_op ob_sub (jv 2) (je_int)) (ja_cons (je_op ob_sub (jv 3) (je_int)) (ja_nil)))))))
      (jss_cons (js_set (i := 5) sc_parts_of.nd rfl (by first | exact Or.inl rfl | exact Or.inr rfl) (je_ifExp (jt_cmp (ob_eq (hu190 hr)) (jv 4) (je_int) (nomark _)) (je_int) (je_c tk A.parts_of ⟨hr, hgd⟩ (by rfl) (ja_cons (je_ix (hu_of hr) (jv 0) (je_int)) (ja_cons (jv 1) (ja_cons (je_op ob_sub (jv 2) (je_int)) (ja_cons (je_op ob_sub (je_op ob_sub (jv 3) (je_int)) (jv 4)) (ja_nil))))))))
      (jss_one (js_ret (je_ifExp (jt_cmp (ob_eq (hu190 hr)) (jv 5) (je_int) (nomark _)) (je_int) (je_op ob_add (je_op ob_add (je_int) (jv 4)) (jv 5)))))))))
theorem ok_is_term (T : Tx K w mg) (A : All P w K mg base k F) {f : Addr} {fd : FuncData} (D : L2.Fun K "is_term" "is_term" s_is_term f fd) : FnS P w K mg base (k + 1) f fd p_is_term (runDef 2 (b_is_term F NW)) := by
  refine def_ok (N := n_is_term) D sc_is_term fun cdv A0 outer s H E hr hgd => ?_
  have tk : Takes (cxOf (L2.CX P w) P w K mg base n_is_term "is_term" (defScope s_is_term) f cdv A0 outer s H E) (fun cls d _ H => E cls d H) := takes_of rfl rfl rfl rfl
  exact jss_one (js_ret (je_cmp ob_gt (je_c tk A.parts_of ⟨hr, hgd⟩ (by rfl) (ja_cons (jv 0) (ja_cons (jv 1) (ja_cons (je_gint (by rfl) T.c_MOST_WITHIN) (ja_cons (je_gint (by rfl) T.c_MOST_PARTS) (ja_nil)))))) (je_int) (nomark _)))
theorem ok_are_figures (T : Tx K w mg) (A : All P w K mg base k F) {f : Addr} {fd : FuncData} (D : L2.Fun K "are_figures" "are_figures" s_are_figures f fd) : FnS P w K mg base (k + 1) f fd p_are_figures (runDef 2 (b_are_figures F NW)) := by
  refine def_ok (N := n_are_figures) D sc_are_figures fun cdv A0 outer s H E hr hgd => ?_
  have tk : Takes (cxOf (L2.CX P w) P w K mg base n_are_figures "are_figures" (defScope s_are_figures) f cdv A0 outer s H E) (fun cls d _ H => E cls d H) := takes_of rfl rfl rfl rfl
  exact jss_cons (js_if (jw_pt (jw_or (jt_cmp (ob_eq (hu190 hr)) (jv 0) (je_str) (nomark _)) (jw_or1 (jt_not (jt_val (je_callB (cb_all rfl) (by rfl) T.b_all (by decide +kernel) (ja_cons (je_lc0 (own := [("sign", 1)]) rfl sc_are_figures.nd (ji_seq (jv 0)) (blkOk_by (N := n_are_figures) (sc := defScope s_are_figures) (by decide +kernel)) (fun _ _ _ _ _ => jg_name (i := 1) sc_are_figures.nd rfl (by first | exact Or.inl rfl | exact Or.inr rfl))  (fun _ _ _ _ _ => blkE fun tk => je_cmp ob_in (jv 1) (je_gstr (by rfl) T.c_FIGURES) (by rfl)) ) (ja_nil)))))))) (jss_one (js_ret (je_bl))) (jss_nil))
      (jss_one (js_ret (je_or (je_cmp (ob_eq (hu190 hr)) (jv 0) (je_str) (nomark _)) (je_one (je_cmp (ob_ne (hu190 hr)) (je_ix (hu_of hr) (jv 0) (je_int)) (je_str) (nomark _))))))
theorem ok_number_read (T : Tx K w mg) (A : All P w K mg base k F) {f : Addr} {fd : FuncData} (D : L2.Fun K "number_read" "number_read" s_number_read f fd) : FnS P w K mg base (k + 1) f fd p_number_read (runDef 2 (b_number_read F NW)) := by
  obtain ⟨_, x_NoText⟩ := T.x_NoText
  refine def_ok (N := n_number_read) D sc_number_read fun cdv A0 outer s H E hr hgd => ?_
  have tk : Takes (cxOf (L2.CX P w) P w K mg base n_number_read "number_read" (defScope s_number_read) f cdv A0 outer s H E) (fun cls d _ H => E cls d H) := takes_of rfl rfl rfl rfl
  exact jss_cons (js_if (jw_pt (jw_or (jt_not (jt_val (je_c tk A.are_figures ⟨hr, hgd⟩ (by rfl) (ja_cons (jv 0) (ja_nil))))) (jw_or (jt_cmp ob_gt (je_callB cb_len (by rfl) T.b_len (by decide +kernel) (ja_cons (jv 0) (ja_nil))) (je_gint (by rfl) T.c_MOST_FIGURES) (nomark _)) (jw_or1 (jt_cmp ob_gt (je_callTy ct_intX (by rfl) T.b_int (by decide +kernel) (ja_cons (jv 0) (ja_nil))) (jv 1) (nomark _)))))) (jss_one (js_raise rfl tk x_NoText.1 (pmk_own PySem.F.excBase_ValueError x_NoText.2.1 x_NoText.1 x_NoText.2.2.1 (raises_own x_NoText.2.2.2.1 x_NoText.2.2.2.2) (by rfl)))) (jss_nil))
      (jss_one (js_ret (je_callTy ct_intX (by rfl) T.b_int (by decide +kernel) (ja_cons (jv 0) (ja_nil)))))
theorem ok_blanks_passed (T : Tx K w mg) (A : All P w K mg base k F) {f : Addr} {fd : FuncData} (D : L2.Fun K "blanks_passed" "blanks_passed" s_blanks_passed f fd) : FnS P w K mg base (k + 1) f fd p_blanks_passed (runDef 2 (b_blanks_passed F NW)) := by
  refine def_ok (N := n_blanks_passed) D sc_blanks_passed fun cdv A0 outer s H E hr hgd => ?_
  have tk : Takes (cxOf (L2.CX P w) P w K mg base n_blanks_passed "blanks_passed" (defScope s_blanks_passed) f cdv A0 outer s H E) (fun cls d _ H => E cls d H) := takes_of rfl rfl rfl rfl
  have hpo : PassesOwn (model P w) (cxOf (L2.CX P w) P w K mg base n_blanks_passed "blanks_passed" (defScope s_blanks_passed) f cdv A0 outer s H E).A (cxOf (L2.CX P w) P w K mg base n_blanks_passed "blanks_passed" (defScope s_blanks_passed) f cdv A0 outer s H E).env (cxOf (L2.CX P w) P w K mg base n_blanks_passed "blanks_passed" (defScope s_blanks_passed) f cdv A0 outer s H E).xe := passes_of rfl
  exact jss_cons (js_while NW hpo (jt_cmp (ob_eq (hu190 hr)) (je_slice (jv 0) (jo_some (jv 1)) (jo_some (je_op ob_add (jv 1) (je_int)))) (je_str) (nomark _)) (jss_one (js_aug (i := 1) sc_blanks_passed.nd rfl (by first | exact Or.inl rfl | exact Or.inr rfl) (je_int) ob_iaddx)))
      (jss_one (js_ret (jv 1)))
theorem ok_run_at (T : Tx K w mg) (A : All P w K mg base k F) {f : Addr} {fd : FuncData} (D : L2.Fun K "run_at" "run_at" s_run_at f fd) : FnS P w K mg base (k + 1) f fd p_run_at (runDef 3 (b_run_at F NW)) := by
  refine def_ok (N := n_run_at) D sc_run_at fun cdv A0 outer s H E hr hgd => ?_
  have tk : Takes (cxOf (L2.CX P w) P w K mg base n_run_at "run_at" (defScope s_run_at) f cdv A0 outer s H E) (fun cls d _ H => E cls d H) := takes_of rfl rfl rfl rfl
  have hpo : PassesOwn (model P w) (cxOf (L2.CX P w) P w K mg base n_run_at "run_at" (defScope s_run_at) f cdv A0 outer s H E).A (cxOf (L2.CX P w) P w K mg base n_run_at "run_at" (defScope s_run_at) f cdv A0 outer s H E).env (cxOf (L2.CX P w) P w K mg base n_run_at "run_at" (defScope s_run_at) f cdv A0 outer s H E).xe := passes_of rfl
  exact jss_cons (js_set (i := 2) sc_run_at.nd rfl (by first | exact Or.inl rfl | exact Or.inr rfl) (jv 1))
      (jss_cons (js_while NW hpo (jw_pt (jw_and (jt_cmp ob_lt (jv 2) (je_callB cb_len (by rfl) T.b_len (by decide +kernel) (ja_cons (jv 0) (ja_nil))) (nomark _)) (jw_and1 (jt_cmp ob_in (je_ix (hu_of hr) (jv 0) (jv 2)) (je_op ob_add (je_gstr (by rfl) T.c_LETTERS) (je_gstr (by rfl) T.c_FIGURES)) (by rfl))))) (jss_one (js_aug (i := 2) sc_run_at.nd rfl (by first | exact Or.inl rfl | exact Or.inr rfl) (je_int) ob_iaddx)))
      (jss_one (js_ret (je_slice (jv 0) (jo_some (jv 1)) (jo_some (jv 2))))))
theorem ok_leaf_read (T : Tx K w mg) (A : All P w K mg base k F) {f : Addr} {fd : FuncData} (D : L2.Fun K "leaf_read" "leaf_read" s_leaf_read f fd) : FnS P w K mg base (k + 1) f fd p_leaf_read (runDef 2 (b_leaf_read F NW)) := by
  obtain ⟨_, x_NoText⟩ := T.x_NoText
  refine def_ok (N := n_leaf_read) D sc_leaf_read fun cdv A0 outer s H E hr hgd => ?_
  have tk : Takes (cxOf (L2.CX P w) P w K mg base n_leaf_read "leaf_read" (defScope s_leaf_read) f cdv A0 outer s H E) (fun cls d _ H => E cls d H) := takes_of rfl rfl rfl rfl
  exact jss_cons (js_if (jw_pt (jw_and (jt_cmp ob_in (je_slice (jv 0) (jo_none) (jo_some (je_int))) (je_gstr (by rfl) T.c_FIGURES) (by rfl)) (jw_and1 (jt_cmp (ob_ne (hu190 hr)) (jv 0) (je_str) (nomark _))))) (jss_one (js_ret (je_tup (ja_cons (je_str) (ja_cons (je_c tk A.number_read ⟨hr, hgd⟩ (by rfl) (ja_cons (jv 0) (ja_cons (je_op ob_sub (je_c tk A.size_of ⟨hr, hgd⟩ (by rfl) (ja_cons (jv 1) (ja_nil))) (je_int)) (ja_nil)))) (ja_nil)))))) (jss_nil))
      (jss_cons (js_if (jt_not (jt_val (je_c tk A.is_name ⟨hr, hgd⟩ (by rfl) (ja_cons (jv 0) (ja_nil))))) (jss_one (js_raise rfl tk x_NoText.1 (pmk_own PySem.F.excBase_ValueError x_NoText.2.1 x_NoText.1 x_NoText.2.2.1 (raises_own x_NoText.2.2.2.1 x_NoText.2.2.2.2) (by rfl)))) (jss_nil))
      (jss_one (js_ret (je_tup (ja_cons (je_str) (ja_cons (jv 0) (ja_nil)))))))
theorem ok_part_read (T : Tx K w mg) (A : All P w K mg base k F) {f : Addr} {fd : FuncData} (D : L2.Fun K "part_read" "part_read" s_part_read f fd) : FnS P w K mg base (k + 1) f fd p_part_read (runDef 7 (b_part_read F NW)) := by
  obtain ⟨_, m_WORDS, h_WORDS⟩ := T.c_WORDS
  obtain ⟨_, m_WORDS_BY_SIGN, h_WORDS_BY_SIGN⟩ := T.c_WORDS_BY_SIGN
  obtain ⟨_, x_NoText⟩ := T.x_NoText
  refine def_ok (N := n_part_read) D sc_part_read fun cdv A0 outer s H E hr hgd => ?_
  have tk : Takes (cxOf (L2.CX P w) P w K mg base n_part_read "part_read" (defScope s_part_read) f cdv A0 outer s H E) (fun cls d _ H => E cls d H) := takes_of rfl rfl rfl rfl
  exact jss_cons (js_if (jt_cmp (ob_eq (hu190 hr)) (jv 3) (je_int) (nomark _)) (jss_one (js_raise rfl tk x_NoText.1 (pmk_own PySem.F.excBase_ValueError x_NoText.2.1 x_NoText.1 x_NoText.2.2.1 (raises_own x_NoText.2.2.2.1 x_NoText.2.2.2.2) (by rfl)))) (jss_nil))
      (jss_cons (js_set (i := 1) sc_part_read.nd rfl (by first | exact Or.inl rfl | exact Or.inr rfl) (je_c tk A.blanks_passed ⟨hr, hgd⟩ (by rfl) (ja_cons (jv 0) (ja_cons (jv 1) (ja_nil)))))
      (jss_cons (js_if (jt_cmp (ob_ne (hu190 hr)) (je_slice (jv 0) (jo_some (jv 1)) (jo_some (je_op ob_add (jv 1) (je_int)))) (je_str) (nomark _)) (jss_cons (js_set (i := 4) sc_part_read.nd rfl (by first | exact Or.inl rfl | exact Or.inr rfl) (je_c tk A.run_at ⟨hr, hgd⟩ (by rfl) (ja_cons (jv 0) (ja_cons (jv 1) (ja_nil)))))
      (jss_one (js_ret (je_tup (ja_cons (je_c tk A.leaf_read ⟨hr, hgd⟩ (by rfl) (ja_cons (jv 4) (ja_cons (jv 2) (ja_nil)))) (ja_cons (je_op ob_add (jv 1) (je_callB cb_len (by rfl) T.b_len (by decide +kernel) (ja_cons (jv 4) (ja_nil)))) (ja_nil))))))) (jss_nil))
      (jss_cons (js_asg (je_c tk A.part_read ⟨hr, hgd⟩ (by rfl) (ja_cons (jv 0) (ja_cons (je_op ob_add (jv 1) (je_int)) (ja_cons (jv 2) (ja_cons (je_op ob_sub (jv 3) (je_int)) (ja_nil)))))) (jg_tup rfl (jgs_cons (jg_name (i := 5) sc_part_read.nd rfl (by first | exact Or.inl rfl | exact Or.inr rfl)) (jgs_cons (jg_name (i := 1) sc_part_read.nd rfl (by first | exact Or.inl rfl | exact Or.inr rfl)) (jgs_nil)))))
      (jss_cons (js_set (i := 1) sc_part_read.nd rfl (by first | exact Or.inl rfl | exact Or.inr rfl) (je_c tk A.blanks_passed ⟨hr, hgd⟩ (by rfl) (ja_cons (jv 0) (ja_cons (jv 1) (ja_nil)))))
      (jss_cons (js_if (jt_cgnin h_WORDS_BY_SIGN (by rfl) m_WORDS_BY_SIGN (je_slice (jv 0) (jo_some (jv 1)) (jo_some (je_op ob_add (jv 1) (je_int))))) (jss_one (js_raise rfl tk x_NoText.1 (pmk_own PySem.F.excBase_ValueError x_NoText.2.1 x_NoText.1 x_NoText.2.2.1 (raises_own x_NoText.2.2.2.1 x_NoText.2.2.2.2) (by rfl)))) (jss_nil))
      (jss_cons (js_set (i := 4) sc_part_read.nd rfl (by first | exact Or.inl rfl | exact Or.inr rfl) (je_cgix h_WORDS_BY_SIGN (by rfl) m_WORDS_BY_SIGN (je_ix (hu_of hr) (jv 0) (jv 1))))
      (jss_cons (js_asg (je_c tk A.part_read ⟨hr, hgd⟩ (by rfl) (ja_cons (jv 0) (ja_cons (je_op ob_add (jv 1) (je_int)) (ja_cons (jv 2) (ja_cons (je_op ob_sub (jv 3) (je_int)) (ja_nil)))))) (jg_tup rfl (jgs_cons (jg_name (i := 6) sc_part_read.nd rfl (by first | exact Or.inl rfl | exact Or.inr rfl)) (jgs_cons (jg_name (i := 1) sc_part_read.nd rfl (by first | exact Or.inl rfl | exact Or.inr rfl)) (jgs_nil)))))
      (jss_cons (js_set (i := 1) sc_part_read.nd rfl (by first | exact Or.inl rfl | exact Or.inr rfl) (je_c tk A.blanks_passed ⟨hr, hgd⟩ (by rfl) (ja_cons (jv 0) (ja_cons (jv 1) (ja_nil)))))
      (jss_cons (js_if (jt_cmp (ob_ne (hu190 hr)) (je_slice (jv 0) (jo_some (jv 1)) (jo_some (je_op ob_add (jv 1) (je_int)))) (je_str) (nomark _)) (jss_one (js_raise rfl tk x_NoText.1 (pmk_own PySem.F.excBase_ValueError x_NoText.2.1 x_NoText.1 x_NoText.2.2.1 (raises_own x_NoText.2.2.2.1 x_NoText.2.2.2.2) (by rfl)))) (jss_nil))
      (jss_one (js_ret (je_tup (ja_cons (je_tup (ja_cons (jv 4) (ja_cons (jv 5) (ja_cons (jv 6) (ja_nil))))) (ja_cons (je_op ob_add (jv 1) (je_int)) (ja_nil)))))))))))))))
theorem ok_read_term (T : Tx K w mg) (A : All P w K mg base k F) {f : Addr} {fd : FuncData} (D : L2.Fun K "read_term" "read_term" s_read_term f fd) : FnS P w K mg base (k + 1) f fd p_read_term (runDef 4 (b_read_term F NW)) := by
  obtain ⟨_, x_NoText⟩ := T.x_NoText
  refine def_ok (N := n_read_term) D sc_read_term fun cdv A0 outer s H E hr hgd => ?_
  have tk : Takes (cxOf (L2.CX P w) P w K mg base n_read_term "read_term" (defScope s_read_term) f cdv A0 outer s H E) (fun cls d _ H => E cls d H) := takes_of rfl rfl rfl rfl
  exact jss_cons (js_if (jt_not (jt_val (je_callB cb_isi (by rfl) T.b_isinstance (by decide +kernel) (ja_cons (jv 0) (ja_cons (je_ty (by rfl) T.b_str (by decide +kernel)) (ja_nil)))))) (jss_one (js_raise rfl tk x_NoText.1 (pmk_own PySem.F.excBase_ValueError x_NoText.2.1 x_NoText.1 x_NoText.2.2.1 (raises_own x_NoText.2.2.2.1 x_NoText.2.2.2.2) (by rfl)))) (jss_nil))
      (jss_cons (js_asg (je_c tk A.part_read ⟨hr, hgd⟩ (by rfl) (ja_cons (jv 0) (ja_cons (je_int) (ja_cons (jv 1) (ja_cons (je_gint (by rfl) T.c_MOST_WITHIN) (ja_nil)))))) (jg_tup rfl (jgs_cons (jg_name (i := 2) sc_read_term.nd rfl (by first | exact Or.inl rfl | exact Or.inr rfl)) (jgs_cons (jg_name (i := 3) sc_read_term.nd rfl (by first | exact Or.inl rfl | exact Or.inr rfl)) (jgs_nil)))))
      (jss_cons (js_if (jw_pt (jw_or (jt_cmp (ob_ne (hu190 hr)) (je_c tk A.blanks_passed ⟨hr, hgd⟩ (by rfl) (ja_cons (jv 0) (ja_cons (jv 3) (ja_nil)))) (je_callB cb_len (by rfl) T.b_len (by decide +kernel) (ja_cons (jv 0) (ja_nil))) (nomark _)) (jw_or1 (jt_not (jt_val (je_c tk A.is_term ⟨hr, hgd⟩ (by rfl) (ja_cons (jv 2) (ja_cons (jv 1) (ja_nil))))))))) (jss_one (js_raise rfl tk x_NoText.1 (pmk_own PySem.F.excBase_ValueError x_NoText.2.1 x_NoText.1 x_NoText.2.2.1 (raises_own x_NoText.2.2.2.1 x_NoText.2.2.2.2) (by rfl)))) (jss_nil))
      (jss_one (js_ret (jv 2)))))
theorem ok_law_begun (T : Tx K w mg) (A : All P w K mg base k F) {f : Addr} {fd : FuncData} (D : L2.Fun K "_law_begun" "_law_begun" s_law_begun f fd) : FnS P w K mg base (k + 1) f fd p_law_begun (runDef 3 (b_law_begun F NW)) := by
  refine def_ok (N := n_law_begun) D sc_law_begun fun cdv A0 outer s H E hr hgd => ?_
  have tk : Takes (cxOf (L2.CX P w) P w K mg base n_law_begun "_law_begun" (defScope s_law_begun) f cdv A0 outer s H E) (fun cls d _ H => E cls d H) := takes_of rfl rfl rfl rfl
  exact jss_cons (js_setLc1 (i := 1) (own := [("_law_cell", 2)]) rfl sc_law_begun.nd rfl rfl (sw_true rfl rfl rfl (by decide +kernel)) (ji_seq (jv 0)) (blkOk_by (N := n_law_begun) (sc := defScope s_law_begun) (by decide +kernel)) (fun _ _ _ _ _ => jg_name (i := 2) sc_law_begun.nd rfl (by first | exact Or.inl rfl | exact Or.inr rfl)) (fun _ _ _ _ _ => blkT fun tk => jt_cmp ob_ge (je_callB cb_abs (by rfl) T.b_abs (by decide +kernel) (ja_cons (jv 2) (ja_nil))) (je_op ob_pow (je_int) (je_int)) (nomark _)) (fun _ _ _ _ _ => blkE fun tk => je_callB cb_abs (by rfl) T.b_abs (by decide +kernel) (ja_cons (jv 2) (ja_nil))) )
      (jss_one (js_ret (je_dic (jps_cons (je_str) (jv 1) (jps_cons (je_str) (je_int) (jps_cons (je_str) (je_callTy ct_list (by rfl) T.b_list (by decide +kernel) (ja_cons (jv 0) (ja_nil))) (jps_cons (je_str) (je_int) (jps_cons (je_str) (je_op ob_add (je_int) (je_callB cb_len (by rfl) T.b_len (by decide +kernel) (ja_cons (jv 0) (ja_nil)))) (jps_nil)))))))))
theorem ok_law_take (T : Tx K w mg) (A : All P w K mg base k F) {f : Addr} {fd : FuncData} (D : L2.Fun K "_law_take" "_law_take" s_law_take f fd) : FnS P w K mg base (k + 1) f fd p_law_take (runDef 5 (b_law_take F NW)) := by
  refine def_ok (N := n_law_take) D sc_law_take fun cdv A0 outer s H E hr hgd => ?_
  have tk : Takes (cxOf (L2.CX P w) P w K mg base n_law_take "_law_take" (defScope s_law_take) f cdv A0 outer s H E) (fun cls d _ H => E cls d H) := takes_of rfl rfl rfl rfl
  exact jss_cons (js_if (jw_pt (jw_and (jt_cmp (ob_eq (hu190 hr)) (je_ix (hu_of hr) (jv 0) (je_str)) (je_int) (nomark _)) (jw_and1 (jt_cmp (ob_ne (hu190 hr)) (je_ix (hu_of hr) (jv 0) (je_str)) (je_lst (ja_nil)) (nomark _))))) (jss_one (js_put (hu_of hr) (je_bm PySem.F.plainAttrs_list PySem.F.slot_list_pop PySem.F.type_list_pop om_popAt (je_ix (hu_of hr) (jv 0) (je_str)) (ja_cons (je_int) (ja_nil))) (jv 0) (je_str))) (jss_nil))
      (jss_cons (js_if (jt_cmp ob_gt (je_ix (hu_of hr) (jv 0) (je_str)) (je_int) (nomark _)) (jss_cons (js_set (i := 2) sc_law_take.nd rfl (by first | exact Or.inl rfl | exact Or.inr rfl) (je_op ob_mod (je_ix (hu_of hr) (jv 0) (je_str)) (jv 1)))
      (jss_cons (js_put (hu_of hr) (je_op ob_div (je_ix (hu_of hr) (jv 0) (je_str)) (jv 1)) (jv 0) (je_str))
      (jss_one (js_ret (jv 2))))) (jss_nil))
      (jss_cons (js_set (i := 3) sc_law_take.nd rfl (by first | exact Or.inl rfl | exact Or.inr rfl) (je_ix (hu_of hr) (jv 0) (je_str)))
      (jss_cons (js_put (hu_of hr) (je_op ob_add (je_ix (hu_of hr) (jv 0) (je_str)) (je_int)) (jv 0) (je_str))
      (jss_cons (js_set (i := 4) sc_law_take.nd rfl (by first | exact Or.inl rfl | exact Or.inr rfl) (je_ifExp (jt_cmp (ob_ne (hu190 hr)) (jv 3) (je_lst (ja_nil)) (nomark _)) (je_ix (hu_of hr) (jv 3) (je_op ob_mod (je_ix (hu_of hr) (jv 0) (je_str)) (je_callB cb_len (by rfl) T.b_len (by decide +kernel) (ja_cons (jv 3) (ja_nil))))) (je_int)))
      (jss_cons (js_put (hu_of hr) (je_op ob_mod (je_op ob_add (je_op ob_add (je_op ob_mul (je_ix (hu_of hr) (jv 0) (je_str)) (je_int)) (jv 4)) (je_op ob_mul (je_int) (je_ix (hu_of hr) (jv 0) (je_str)))) (je_int)) (jv 0) (je_str))
      (jss_one (js_ret (je_op ob_mod (je_op ob_mod (je_op ob_add (je_op ob_mul (je_ix (hu_of hr) (jv 0) (je_str)) (je_ix (hu_of hr) (jv 0) (je_str))) (je_op ob_mul (je_int) (je_ix (hu_of hr) (jv 0) (je_str)))) (je_int)) (jv 1)))))))))
theorem ok_law_kind (T : Tx K w mg) (A : All P w K mg base k F) {f : Addr} {fd : FuncData} (D : L2.Fun K "_law_kind" "_law_kind" s_law_kind f fd) : FnS P w K mg base (k + 1) f fd p_law_kind (runDef 2 (b_law_kind F NW)) := by
  refine def_ok (N := n_law_kind) D sc_law_kind fun cdv A0 outer s H E hr hgd => ?_
  have tk : Takes (cxOf (L2.CX P w) P w K mg base n_law_kind "_law_kind" (defScope s_law_kind) f cdv A0 outer s H E) (fun cls d _ H => E cls d H) := takes_of rfl rfl rfl rfl
  exact jss_cons (js_if (jt_cmp ob_isN (jv 0) (je_non) (nomark _)) (jss_one (js_ret (je_str))) (jss_nil))
      (jss_cons (js_set (i := 1) sc_law_kind.nd rfl (by first | exact Or.inl rfl | exact Or.inr rfl) (je_lst (ja_cons (je_isE T.d_NoProgram (by rfl) T.b_isinstance (by rfl) (jv 0)) (ja_cons (je_isE T.d_NoWorth (by rfl) T.b_isinstance (by rfl) (jv 0)) (ja_cons (je_isE T.d_NoPlace (by rfl) T.b_isinstance (by rfl) (jv 0)) (ja_nil))))))
      (jss_cons (js_set (i := 1) sc_law_kind.nd rfl (by first | exact Or.inl rfl | exact Or.inr rfl) (je_op ob_add (jv 1) (je_lst (ja_cons (je_isE T.d_NoPaper (by rfl) T.b_isinstance (by rfl) (jv 0)) (ja_cons (je_isE T.d_NoText (by rfl) T.b_isinstance (by rfl) (jv 0)) (ja_cons (je_isE T.d_TooMany (by rfl) T.b_isinstance (by rfl) (jv 0)) (ja_nil)))))))
      (jss_cons (js_if (jw_pt (jw_or (jt_cmp (ob_ne (hu190 hr)) (je_bm PySem.F.plainAttrs_list PySem.F.slot_list_count PySem.F.type_list_count om_count (jv 1) (ja_cons (je_bl) (ja_nil))) (je_int) (nomark _)) (jw_or (jt_not (jt_val (je_isE T.d_SumError (by rfl) T.b_isinstance (by rfl) (jv 0)))) (jw_or1 (jt_not (jt_val (je_isB T.v_ValueError (by rfl) T.b_isinstance (by rfl) (by decide +kernel) (jv 0)))))))) (jss_one (js_ret (je_str))) (jss_nil))
      (jss_one (js_ret (je_ix (hu_of hr) (je_lst (ja_cons (je_str) (ja_cons (je_str) (ja_cons (je_str) (ja_cons (je_str) (ja_cons (je_str) (ja_cons (je_str) (ja_nil)))))))) (je_bm PySem.F.plainAttrs_list PySem.F.slot_list_index PySem.F.type_list_index om_index (jv 1) (ja_cons (je_bl) (ja_nil)))))))))
theorem ok_law_raised (T : Tx K w mg) (A : All P w K mg base k F) {f : Addr} {fd : FuncData} (D : L2.Fun K "_law_raised" "_law_raised" s_law_raised f fd) : FnS P w K mg base (k + 1) f fd p_law_raised (runDef 2 (b_law_raised F NW)) := by
  obtain ⟨_, x_NoPaper⟩ := T.x_NoPaper
  obtain ⟨_, x_NoPlace⟩ := T.x_NoPlace
  obtain ⟨_, x_NoProgram⟩ := T.x_NoProgram
  obtain ⟨_, x_NoText⟩ := T.x_NoText
  obtain ⟨_, x_NoWorth⟩ := T.x_NoWorth
  obtain ⟨_, x_TooMany⟩ := T.x_TooMany
  refine def_ok (N := n_law_raised) D sc_law_raised fun cdv A0 outer s H E hr hgd => ?_
  have tk : Takes (cxOf (L2.CX P w) P w K mg base n_law_raised "_law_raised" (defScope s_law_raised) f cdv A0 outer s H E) (fun cls d _ H => E cls d H) := takes_of rfl rfl rfl rfl
  exact jss_cons (js_if (jt_cmp (ob_eq (hu190 hr)) (jv 0) (je_int) (nomark _)) (jss_one (js_expr (je_c tk A.read_term ⟨hr, hgd⟩ (by rfl) (ja_cons (je_op ob_add (je_str) (jv 1)) (ja_cons (je_int) (ja_nil)))))) (jss_nil))
      (jss_cons (js_if (jt_cmp (ob_eq (hu190 hr)) (jv 0) (je_int) (nomark _)) (jss_one (js_raiseA rfl tk x_NoProgram.1 x_NoProgram.2.1 x_NoProgram.2.2.1 (raises_own x_NoProgram.2.2.2.1 x_NoProgram.2.2.2.2) (by rfl) (ja_cons (jv 1) (ja_nil)))) (jss_nil))
      (jss_cons (js_if (jt_cmp (ob_eq (hu190 hr)) (jv 0) (je_int) (nomark _)) (jss_one (js_raiseA rfl tk x_NoWorth.1 x_NoWorth.2.1 x_NoWorth.2.2.1 (raises_own x_NoWorth.2.2.2.1 x_NoWorth.2.2.2.2) (by rfl) (ja_cons (jv 1) (ja_nil)))) (jss_nil))
      (jss_cons (js_if (jt_cmp (ob_eq (hu190 hr)) (jv 0) (je_int) (nomark _)) (jss_one (js_raiseA rfl tk x_NoPlace.1 x_NoPlace.2.1 x_NoPlace.2.2.1 (raises_own x_NoPlace.2.2.2.1 x_NoPlace.2.2.2.2) (by rfl) (ja_cons (jv 1) (ja_nil)))) (jss_nil))
      (jss_cons (js_if (jt_cmp (ob_eq (hu190 hr)) (jv 0) (je_int) (nomark _)) (jss_one (js_raiseA rfl tk x_NoPaper.1 x_NoPaper.2.1 x_NoPaper.2.2.1 (raises_own x_NoPaper.2.2.2.1 x_NoPaper.2.2.2.2) (by rfl) (ja_cons (jv 1) (ja_nil)))) (jss_nil))
      (jss_cons (js_if (jt_cmp (ob_eq (hu190 hr)) (jv 0) (je_int) (nomark _)) (jss_one (js_raiseA rfl tk x_NoText.1 x_NoText.2.1 x_NoText.2.2.1 (raises_own x_NoText.2.2.2.1 x_NoText.2.2.2.2) (by rfl) (ja_cons (jv 1) (ja_nil)))) (jss_nil))
      (jss_one (js_raiseA rfl tk x_TooMany.1 x_TooMany.2.1 x_TooMany.2.2.1 (raises_own x_TooMany.2.2.2.1 x_TooMany.2.2.2.2) (by rfl) (ja_cons (jv 1) (ja_nil)))))))))
theorem ok_law (T : Tx K w mg) (A : All P w K mg base k F) {f : Addr} {fd : FuncData} (D : L2.Fun K "law" "law" s_law f fd) : FnS P w K mg base (k + 1) f fd p_law (runDef 6 (b_law F NW)) := by
  refine def_ok (N := n_law) D sc_law fun cdv A0 outer s H E hr hgd => ?_
  have tk : Takes (cxOf (L2.CX P w) P w K mg base n_law "law" (defScope s_law) f cdv A0 outer s H E) (fun cls d _ H => E cls d H) := takes_of rfl rfl rfl rfl
  have hpo : PassesOwn (model P w) (cxOf (L2.CX P w) P w K mg base n_law "law" (defScope s_law) f cdv A0 outer s H E).A (cxOf (L2.CX P w) P w K mg base n_law "law" (defScope s_law) f cdv A0 outer s H E).env (cxOf (L2.CX P w) P w K mg base n_law "law" (defScope s_law) f cdv A0 outer s H E).xe := passes_of rfl
  exact jss_cons (js_set (i := 1) sc_law.nd rfl (by first | exact Or.inl rfl | exact Or.inr rfl) (je_c tk A.law_begun ⟨hr, hgd⟩ (by rfl) (ja_cons (jv 0) (ja_nil))))
      (jss_cons (js_for hpo rfl (ji_range1 (by rfl) T.b_range (ja_cons (je_int) (ja_nil))) (jg_name (i := 2) sc_law.nd rfl (by first | exact Or.inl rfl | exact Or.inr rfl)) (jss_cons (js_set (i := 3) sc_law.nd rfl (by first | exact Or.inl rfl | exact Or.inr rfl) (je_op ob_mod (je_op ob_add (jv 2) (je_c tk A.law_take ⟨hr, hgd⟩ (by rfl) (ja_cons (jv 1) (ja_cons (je_int) (ja_nil))))) (je_int)))
      (jss_cons (js_set (i := 4) sc_law.nd rfl (by first | exact Or.inl rfl | exact Or.inr rfl) (je_non))
      (jss_cons (js_tryAs (i := 5) (j := 4) rfl rfl rfl sc_law.nd rfl rfl rfl rfl (by decide) (by rfl) (by decide) (by decide) (by decide) T.d_SumError tk (fun _ _ _ tk hpo => jss_one (js_expr (je_c tk A.law_raised ⟨hr, hgd⟩ (by rfl) (ja_cons (jv 3) (ja_cons (je_op ob_mulX (je_str) (je_c tk A.law_take ⟨hr, hgd⟩ (by rfl) (ja_cons (jv 1) (ja_cons (je_int) (ja_nil))))) (ja_nil)))))))
      (jss_one (js_if (jt_cmp (ob_ne (hu190 hr)) (je_c tk A.law_kind ⟨hr, hgd⟩ (by rfl) (ja_cons (jv 4) (ja_nil))) (je_ix (hu_of hr) (je_lst (ja_cons (je_str) (ja_cons (je_str) (ja_cons (je_str) (ja_cons (je_str) (ja_cons (je_str) (ja_cons (je_str) (ja_cons (je_str) (ja_nil))))))))) (jv 3)) (nomark _)) (jss_one (js_ret (je_bl))) (jss_nil)))))))
      (jss_one (js_ret (je_bl))))
end
structure Defs (K : PySem.W.Frag) (mg : Mg) : Prop where
  is_name : ∃ f fd, L2.Fun K "is_name" "is_name" s_is_name f fd ∧ Binds K fd p_is_name [] ∧ mg "is_name" = some (.ref f)
  size_of : ∃ f fd, L2.Fun K "size_of" "size_of" s_size_of f fd ∧ Binds K fd p_size_of [] ∧ mg "size_of" = some (.ref f)
  is_number : ∃ f fd, L2.Fun K "is_number" "is_number" s_is_number f fd ∧ Binds K fd p_is_number [] ∧ mg "is_number" = some (.ref f)
  is_leaf : ∃ f fd, L2.Fun K "is_leaf" "is_leaf" s_is_leaf f fd ∧ Binds K fd p_is_leaf [] ∧ mg "is_leaf" = some (.ref f)
  parts_of : ∃ f fd, L2.Fun K "parts_of" "parts_of" s_parts_of f fd ∧ Binds K fd p_parts_of [] ∧ mg "parts_of" = some (.ref f)
  is_term : ∃ f fd, L2.Fun K "is_term" "is_term" s_is_term f fd ∧ Binds K fd p_is_term [] ∧ mg "is_term" = some (.ref f)
  are_figures : ∃ f fd, L2.Fun K "are_figures" "are_figures" s_are_figures f fd ∧ Binds K fd p_are_figures [] ∧ mg "are_figures" = some (.ref f)
  number_read : ∃ f fd, L2.Fun K "number_read" "number_read" s_number_read f fd ∧ Binds K fd p_number_read [] ∧ mg "number_read" = some (.ref f)
  blanks_passed : ∃ f fd, L2.Fun K "blanks_passed" "blanks_passed" s_blanks_passed f fd ∧ Binds K fd p_blanks_passed [] ∧ mg "blanks_passed" = some (.ref f)
  run_at : ∃ f fd, L2.Fun K "run_at" "run_at" s_run_at f fd ∧ Binds K fd p_run_at [] ∧ mg "run_at" = some (.ref f)
  leaf_read : ∃ f fd, L2.Fun K "leaf_read" "leaf_read" s_leaf_read f fd ∧ Binds K fd p_leaf_read [] ∧ mg "leaf_read" = some (.ref f)
  part_read : ∃ f fd, L2.Fun K "part_read" "part_read" s_part_read f fd ∧ Binds K fd p_part_read [] ∧ mg "part_read" = some (.ref f)
  read_term : ∃ f fd, L2.Fun K "read_term" "read_term" s_read_term f fd ∧ Binds K fd p_read_term [] ∧ mg "read_term" = some (.ref f)
  law_begun : ∃ f fd, L2.Fun K "_law_begun" "_law_begun" s_law_begun f fd ∧ Binds K fd p_law_begun [] ∧ mg "_law_begun" = some (.ref f)
  law_take : ∃ f fd, L2.Fun K "_law_take" "_law_take" s_law_take f fd ∧ Binds K fd p_law_take [] ∧ mg "_law_take" = some (.ref f)
  law_kind : ∃ f fd, L2.Fun K "_law_kind" "_law_kind" s_law_kind f fd ∧ Binds K fd p_law_kind [] ∧ mg "_law_kind" = some (.ref f)
  law_raised : ∃ f fd, L2.Fun K "_law_raised" "_law_raised" s_law_raised f fd ∧ Binds K fd p_law_raised [] ∧ mg "_law_raised" = some (.ref f)
  law : ∃ f fd, L2.Fun K "law" "law" s_law f fd ∧ Binds K fd p_law [] ∧ mg "law" = some (.ref f)
theorem all_ok {P : Program} {w : World} {K : PySem.W.Frag} {mg : Mg} {base : Heap} (NW : Nat) (T : Tx K w mg) (B : Defs K mg) : ∀ k, All P w K mg base k (lev NW k)
  | 0 => by
    obtain ⟨_, _, D_is_name, b_is_name, m_is_name⟩ := B.is_name
    obtain ⟨_, _, D_size_of, b_size_of, m_size_of⟩ := B.size_of
    obtain ⟨_, _, D_is_number, b_is_number, m_is_number⟩ := B.is_number
    obtain ⟨_, _, D_is_leaf, b_is_leaf, m_is_leaf⟩ := B.is_leaf
    obtain ⟨_, _, D_parts_of, b_parts_of, m_parts_of⟩ := B.parts_of
    obtain ⟨_, _, D_is_term, b_is_term, m_is_term⟩ := B.is_term
    obtain ⟨_, _, D_are_figures, b_are_figures, m_are_figures⟩ := B.are_figures
    obtain ⟨_, _, D_number_read, b_number_read, m_number_read⟩ := B.number_read
    obtain ⟨_, _, D_blanks_passed, b_blanks_passed, m_blanks_passed⟩ := B.blanks_passed
    obtain ⟨_, _, D_run_at, b_run_at, m_run_at⟩ := B.run_at
    obtain ⟨_, _, D_leaf_read, b_leaf_read, m_leaf_read⟩ := B.leaf_read
    obtain ⟨_, _, D_part_read, b_part_read, m_part_read⟩ := B.part_read
    obtain ⟨_, _, D_read_term, b_read_term, m_read_term⟩ := B.read_term
    obtain ⟨_, _, D_law_begun, b_law_begun, m_law_begun⟩ := B.law_begun
    obtain ⟨_, _, D_law_take, b_law_take, m_law_take⟩ := B.law_take
    obtain ⟨_, _, D_law_kind, b_law_kind, m_law_kind⟩ := B.law_kind
    obtain ⟨_, _, D_law_raised, b_law_raised, m_law_raised⟩ := B.law_raised
    obtain ⟨_, _, D_law, b_law, m_law⟩ := B.law
    exact ⟨cal_mk def_zero b_is_name D_is_name.kp m_is_name, cal_mk def_zero b_size_of D_size_of.kp m_size_of, cal_mk def_zero b_is_number D_is_number.kp m_is_number, cal_mk def_zero b_is_leaf D_is_leaf.kp m_is_leaf, cal_mk def_zero b_parts_of D_parts_of.kp m_parts_of, cal_mk def_zero b_is_term D_is_term.kp m_is_term, cal_mk def_zero b_are_figures D_are_figures.kp m_are_figures, cal_mk def_zero b_number_read D_number_read.kp m_number_read, cal_mk def_zero b_blanks_passed D_blanks_passed.kp m_blanks_passed, cal_mk def_zero b_run_at D_run_at.kp m_run_at, cal_mk def_zero b_leaf_read D_leaf_read.kp m_leaf_read, cal_mk def_zero b_part_read D_part_read.kp m_part_read, cal_mk def_zero b_read_term D_read_term.kp m_read_term, cal_mk def_zero b_law_begun D_law_begun.kp m_law_begun, cal_mk def_zero b_law_take D_law_take.kp m_law_take, cal_mk def_zero b_law_kind D_law_kind.kp m_law_kind, cal_mk def_zero b_law_raised D_law_raised.kp m_law_raised, cal_mk def_zero b_law D_law.kp m_law⟩
  | k + 1 => by
    have A := all_ok (P := P) (w := w) (base := base) NW T B k
    obtain ⟨_, _, D_is_name, b_is_name, m_is_name⟩ := B.is_name
    obtain ⟨_, _, D_size_of, b_size_of, m_size_of⟩ := B.size_of
    obtain ⟨_, _, D_is_number, b_is_number, m_is_number⟩ := B.is_number
    obtain ⟨_, _, D_is_leaf, b_is_leaf, m_is_leaf⟩ := B.is_leaf
    obtain ⟨_, _, D_parts_of, b_parts_of, m_parts_of⟩ := B.parts_of
    obtain ⟨_, _, D_is_term, b_is_term, m_is_term⟩ := B.is_term
    obtain ⟨_, _, D_are_figures, b_are_figures, m_are_figures⟩ := B.are_figures
    obtain ⟨_, _, D_number_read, b_number_read, m_number_read⟩ := B.number_read
    obtain ⟨_, _, D_blanks_passed, b_blanks_passed, m_blanks_passed⟩ := B.blanks_passed
    obtain ⟨_, _, D_run_at, b_run_at, m_run_at⟩ := B.run_at
    obtain ⟨_, _, D_leaf_read, b_leaf_read, m_leaf_read⟩ := B.leaf_read
    obtain ⟨_, _, D_part_read, b_part_read, m_part_read⟩ := B.part_read
    obtain ⟨_, _, D_read_term, b_read_term, m_read_term⟩ := B.read_term
    obtain ⟨_, _, D_law_begun, b_law_begun, m_law_begun⟩ := B.law_begun
    obtain ⟨_, _, D_law_take, b_law_take, m_law_take⟩ := B.law_take
    obtain ⟨_, _, D_law_kind, b_law_kind, m_law_kind⟩ := B.law_kind
    obtain ⟨_, _, D_law_raised, b_law_raised, m_law_raised⟩ := B.law_raised
    obtain ⟨_, _, D_law, b_law, m_law⟩ := B.law
    exact ⟨cal_mk (ok_is_name (NW := NW) T A D_is_name) b_is_name D_is_name.kp m_is_name, cal_mk (ok_size_of (NW := NW) T A D_size_of) b_size_of D_size_of.kp m_size_of, cal_mk (ok_is_number (NW := NW) T A D_is_number) b_is_number D_is_number.kp m_is_number, cal_mk (ok_is_leaf (NW := NW) T A D_is_leaf) b_is_leaf D_is_leaf.kp m_is_leaf, cal_mk (ok_parts_of (NW := NW) T A D_parts_of) b_parts_of D_parts_of.kp m_parts_of, cal_mk (ok_is_term (NW := NW) T A D_is_term) b_is_term D_is_term.kp m_is_term, cal_mk (ok_are_figures (NW := NW) T A D_are_figures) b_are_figures D_are_figures.kp m_are_figures, cal_mk (ok_number_read (NW := NW) T A D_number_read) b_number_read D_number_read.kp m_number_read, cal_mk (ok_blanks_passed (NW := NW) T A D_blanks_passed) b_blanks_passed D_blanks_passed.kp m_blanks_passed, cal_mk (ok_run_at (NW := NW) T A D_run_at) b_run_at D_run_at.kp m_run_at, cal_mk (ok_leaf_read (NW := NW) T A D_leaf_read) b_leaf_read D_leaf_read.kp m_leaf_read, cal_mk (ok_part_read (NW := NW) T A D_part_read) b_part_read D_part_read.kp m_part_read, cal_mk (ok_read_term (NW := NW) T A D_read_term) b_read_term D_read_term.kp m_read_term, cal_mk (ok_law_begun (NW := NW) T A D_law_begun) b_law_begun D_law_begun.kp m_law_begun, cal_mk (ok_law_take (NW := NW) T A D_law_take) b_law_take D_law_take.kp m_law_take, cal_mk (ok_law_kind (NW := NW) T A D_law_kind) b_law_kind D_law_kind.kp m_law_kind, cal_mk (ok_law_raised (NW := NW) T A D_law_raised) b_law_raised D_law_raised.kp m_law_raised, cal_mk (ok_law (NW := NW) T A D_law) b_law D_law.kp m_law⟩
/-! ### the top -/
theorem all_mk {l : PySem.W.OpenLaw} {w : World} {K : PySem.W.Frag} {h : Heap} {mg : Mg} {fa : Addr} {NW : Nat} (kk : Nat) (X : K.In h) (G : h.Ns mainGlobals mg) (hfa : mg "law" = some (.ref fa))
    {f0 f1 f2 f3 f4 f5 f6 f7 f8 f9 f10 f11 f12 f13 f14 f15 f16 f17 : Addr}
    {od0 an0 od1 an1 od2 an2 od3 an3 od4 an4 od5 an5 od6 an6 od7 an7 od8 an8 od9 an9 od10 an10 od11 an11 od12 an12 od13 an13 od14 an14 od15 an15 od16 an16 od17 an17 : Option Addr} {sl0 sl1 sl2 sl3 sl4 sl5 sl6 sl7 sl8 sl9 sl10 sl11 sl12 sl13 sl14 sl15 sl16 sl17 : Array (Option Value)} {oc0 kV0 dc0 pm0 cd0 ct0 oc1 kV1 dc1 pm1 cd1 ct1 oc2 kV2 dc2 pm2 cd2 ct2 oc3 kV3 dc3 pm3 cd3 ct3 oc4 kV4 dc4 pm4 cd4 ct4 oc5 kV5 dc5 pm5 cd5 ct5 oc6 kV6 dc6 pm6 cd6 ct6 oc7 kV7 dc7 pm7 cd7 ct7 oc8 kV8 dc8 pm8 cd8 ct8 oc9 kV9 dc9 pm9 cd9 ct9 oc10 kV10 dc10 pm10 cd10 ct10 oc11 kV11 dc11 pm11 cd11 ct11 oc12 kV12 dc12 pm12 cd12 ct12 oc13 kV13 dc13 pm13 cd13 ct13 oc14 kV14 dc14 pm14 cd14 ct14 oc15 kV15 dc15 pm15 cd15 ct15 oc16 kV16 dc16 pm16 cd16 ct16 oc17 kV17 dc17 pm17 cd17 ct17 : Value}
    (a0 : PySem.W.nsIn K mainGlobals "is_name" = some (some (.ref f0))) (l0 : K.lookup f0 = some ⟨oc0, od0, .func (PySem.W.fnOf "is_name" "is_name" (defArgs s_is_name) (defBody s_is_name) (defScope s_is_name) .none kV0 dc0 pm0 an0 cd0 ct0), sl0⟩) (c0 : PySem.W.codeIn K cd0 "is_name" = true) (k0 : PySem.W.keepIn K (.ref f0) = true)
    (a1 : PySem.W.nsIn K mainGlobals "size_of" = some (some (.ref f1))) (l1 : K.lookup f1 = some ⟨oc1, od1, .func (PySem.W.fnOf "size_of" "size_of" (defArgs s_size_of) (defBody s_size_of) (defScope s_size_of) .none kV1 dc1 pm1 an1 cd1 ct1), sl1⟩) (c1 : PySem.W.codeIn K cd1 "size_of" = true) (k1 : PySem.W.keepIn K (.ref f1) = true)
    (a2 : PySem.W.nsIn K mainGlobals "is_number" = some (some (.ref f2))) (l2 : K.lookup f2 = some ⟨oc2, od2, .func (PySem.W.fnOf "is_number" "is_number" (defArgs s_is_number) (defBody s_is_number) (defScope s_is_number) .none kV2 dc2 pm2 an2 cd2 ct2), sl2⟩) (c2 : PySem.W.codeIn K cd2 "is_number" = true) (k2 : PySem.W.keepIn K (.ref f2) = true)
    (a3 : PySem.W.nsIn K mainGlobals "is_leaf" = some (some (.ref f3))) (l3 : K.lookup f3 = some ⟨oc3, od3, .func (PySem.W.fnOf "is_leaf" "is_leaf" (defArgs s_is_leaf) (defBody s_is_leaf) (defScope s_is_leaf) .none kV3 dc3 pm3 an3 cd3 ct3), sl3⟩) (c3 : PySem.W.codeIn K cd3 "is_leaf" = true) (k3 : PySem.W.keepIn K (.ref f3) = true)
    (a4 : PySem.W.nsIn K mainGlobals "parts_of" = some (some (.ref f4))) (l4 : K.lookup f4 = some ⟨oc4, od4, .func (PySem.W.fnOf "parts_of" "parts_of" (defArgs s_parts_of) (defBody s_parts_of) (defScope s_parts_of) .none kV4 dc4 pm4 an4 cd4 ct4), sl4⟩) (c4 : PySem.W.codeIn K cd4 "parts_of" = true) (k4 : PySem.W.keepIn K (.ref f4) = true)
    (a5 : PySem.W.nsIn K mainGlobals "is_term" = some (some (.ref f5))) (l5 : K.lookup f5 = some ⟨oc5, od5, .func (PySem.W.fnOf "is_term" "is_term" (defArgs s_is_term) (defBody s_is_term) (defScope s_is_term) .none kV5 dc5 pm5 an5 cd5 ct5), sl5⟩) (c5 : PySem.W.codeIn K cd5 "is_term" = true) (k5 : PySem.W.keepIn K (.ref f5) = true)
    (a6 : PySem.W.nsIn K mainGlobals "are_figures" = some (some (.ref f6))) (l6 : K.lookup f6 = some ⟨oc6, od6, .func (PySem.W.fnOf "are_figures" "are_figures" (defArgs s_are_figures) (defBody s_are_figures) (defScope s_are_figures) .none kV6 dc6 pm6 an6 cd6 ct6), sl6⟩) (c6 : PySem.W.codeIn K cd6 "are_figures" = true) (k6 : PySem.W.keepIn K (.ref f6) = true)
    (a7 : PySem.W.nsIn K mainGlobals "number_read" = some (some (.ref f7))) (l7 : K.lookup f7 = some ⟨oc7, od7, .func (PySem.W.fnOf "number_read" "number_read" (defArgs s_number_read) (defBody s_number_read) (defScope s_number_read) .none kV7 dc7 pm7 an7 cd7 ct7), sl7⟩) (c7 : PySem.W.codeIn K cd7 "number_read" = true) (k7 : PySem.W.keepIn K (.ref f7) = true)
    (a8 : PySem.W.nsIn K mainGlobals "blanks_passed" = some (some (.ref f8))) (l8 : K.lookup f8 = some ⟨oc8, od8, .func (PySem.W.fnOf "blanks_passed" "blanks_passed" (defArgs s_blanks_passed) (defBody s_blanks_passed) (defScope s_blanks_passed) .none kV8 dc8 pm8 an8 cd8 ct8), sl8⟩) (c8 : PySem.W.codeIn K cd8 "blanks_passed" = true) (k8 : PySem.W.keepIn K (.ref f8) = true)
    (a9 : PySem.W.nsIn K mainGlobals "run_at" = some (some (.ref f9))) (l9 : K.lookup f9 = some ⟨oc9, od9, .func (PySem.W.fnOf "run_at" "run_at" (defArgs s_run_at) (defBody s_run_at) (defScope s_run_at) .none kV9 dc9 pm9 an9 cd9 ct9), sl9⟩) (c9 : PySem.W.codeIn K cd9 "run_at" = true) (k9 : PySem.W.keepIn K (.ref f9) = true)
    (a10 : PySem.W.nsIn K mainGlobals "leaf_read" = some (some (.ref f10))) (l10 : K.lookup f10 = some ⟨oc10, od10, .func (PySem.W.fnOf "leaf_read" "leaf_read" (defArgs s_leaf_read) (defBody s_leaf_read) (defScope s_leaf_read) .none kV10 dc10 pm10 an10 cd10 ct10), sl10⟩) (c10 : PySem.W.codeIn K cd10 "leaf_read" = true) (k10 : PySem.W.keepIn K (.ref f10) = true)
    (a11 : PySem.W.nsIn K mainGlobals "part_read" = some (some (.ref f11))) (l11 : K.lookup f11 = some ⟨oc11, od11, .func (PySem.W.fnOf "part_read" "part_read" (defArgs s_part_read) (defBody s_part_read) (defScope s_part_read) .none kV11 dc11 pm11 an11 cd11 ct11), sl11⟩) (c11 : PySem.W.codeIn K cd11 "part_read" = true) (k11 : PySem.W.keepIn K (.ref f11) = true)
    (a12 : PySem.W.nsIn K mainGlobals "read_term" = some (some (.ref f12))) (l12 : K.lookup f12 = some ⟨oc12, od12, .func (PySem.W.fnOf "read_term" "read_term" (defArgs s_read_term) (defBody s_read_term) (defScope s_read_term) .none kV12 dc12 pm12 an12 cd12 ct12), sl12⟩) (c12 : PySem.W.codeIn K cd12 "read_term" = true) (k12 : PySem.W.keepIn K (.ref f12) = true)
    (a13 : PySem.W.nsIn K mainGlobals "_law_begun" = some (some (.ref f13))) (l13 : K.lookup f13 = some ⟨oc13, od13, .func (PySem.W.fnOf "_law_begun" "_law_begun" (defArgs s_law_begun) (defBody s_law_begun) (defScope s_law_begun) .none kV13 dc13 pm13 an13 cd13 ct13), sl13⟩) (c13 : PySem.W.codeIn K cd13 "_law_begun" = true) (k13 : PySem.W.keepIn K (.ref f13) = true)
    (a14 : PySem.W.nsIn K mainGlobals "_law_take" = some (some (.ref f14))) (l14 : K.lookup f14 = some ⟨oc14, od14, .func (PySem.W.fnOf "_law_take" "_law_take" (defArgs s_law_take) (defBody s_law_take) (defScope s_law_take) .none kV14 dc14 pm14 an14 cd14 ct14), sl14⟩) (c14 : PySem.W.codeIn K cd14 "_law_take" = true) (k14 : PySem.W.keepIn K (.ref f14) = true)
    (a15 : PySem.W.nsIn K mainGlobals "_law_kind" = some (some (.ref f15))) (l15 : K.lookup f15 = some ⟨oc15, od15, .func (PySem.W.fnOf "_law_kind" "_law_kind" (defArgs s_law_kind) (defBody s_law_kind) (defScope s_law_kind) .none kV15 dc15 pm15 an15 cd15 ct15), sl15⟩) (c15 : PySem.W.codeIn K cd15 "_law_kind" = true) (k15 : PySem.W.keepIn K (.ref f15) = true)
    (a16 : PySem.W.nsIn K mainGlobals "_law_raised" = some (some (.ref f16))) (l16 : K.lookup f16 = some ⟨oc16, od16, .func (PySem.W.fnOf "_law_raised" "_law_raised" (defArgs s_law_raised) (defBody s_law_raised) (defScope s_law_raised) .none kV16 dc16 pm16 an16 cd16 ct16), sl16⟩) (c16 : PySem.W.codeIn K cd16 "_law_raised" = true) (k16 : PySem.W.keepIn K (.ref f16) = true)
    (a17 : PySem.W.nsIn K mainGlobals "law" = some (some (.ref f17))) (l17 : K.lookup f17 = some ⟨oc17, od17, .func (PySem.W.fnOf "law" "law" (defArgs s_law) (defBody s_law) (defScope s_law) .none kV17 dc17 pm17 an17 cd17 ct17), sl17⟩) (c17 : PySem.W.codeIn K cd17 "law" = true) (k17 : PySem.W.keepIn K (.ref f17) = true)
    (z_abs : PySem.W.nsIn K mainGlobals "abs" = some none)
    (z_all : PySem.W.nsIn K mainGlobals "all" = some none)
    (z_bool : PySem.W.nsIn K mainGlobals "bool" = some none)
    (z_int : PySem.W.nsIn K mainGlobals "int" = some none)
    (z_isinstance : PySem.W.nsIn K mainGlobals "isinstance" = some none)
    (z_len : PySem.W.nsIn K mainGlobals "len" = some none)
    (z_list : PySem.W.nsIn K mainGlobals "list" = some none)
    (z_range : PySem.W.nsIn K mainGlobals "range" = some none)
    (z_str : PySem.W.nsIn K mainGlobals "str" = some none)
    (z_tuple : PySem.W.nsIn K mainGlobals "tuple" = some none)
    {t_FIGURES : Tok} (y_FIGURES : PySem.W.nsIn K mainGlobals "FIGURES" = some (some (.str "0123456789" t_FIGURES)))
    {C_KEPT : Addr} {dd_KEPT : Option Addr} {ss_KEPT : Array (Option Value)} {nn_KEPT : Nat} {u0_KEPT u1_KEPT u2_KEPT u3_KEPT u4_KEPT u5_KEPT u6_KEPT u7_KEPT u8_KEPT u9_KEPT u10_KEPT u11_KEPT : Tok} (y_KEPT : PySem.W.nsIn K mainGlobals "KEPT" = some (some (.ref C_KEPT)))
    (w_KEPT : K.lookup C_KEPT = some ⟨.type "tuple", dd_KEPT, .seq #[.str "width" u0_KEPT, .str "input" u1_KEPT, .str "set" u2_KEPT, .str "tell" u3_KEPT, .str "if" u4_KEPT, .str "else" u5_KEPT, .str "while" u6_KEPT, .str "turns" u7_KEPT, .str "below" u8_KEPT, .str "same" u9_KEPT, .str "unlike" u10_KEPT, .str "end" u11_KEPT] nn_KEPT, ss_KEPT⟩)
    {t_LETTERS : Tok} (y_LETTERS : PySem.W.nsIn K mainGlobals "LETTERS" = some (some (.str "abcdefghijklmnopqrstuvwxyz" t_LETTERS)))
    {t_MOST_FIGURES : Tok} (y_MOST_FIGURES : PySem.W.nsIn K mainGlobals "MOST_FIGURES" = some (some (.int 8 t_MOST_FIGURES)))
    {t_MOST_PARTS : Tok} (y_MOST_PARTS : PySem.W.nsIn K mainGlobals "MOST_PARTS" = some (some (.int 400 t_MOST_PARTS)))
    {t_MOST_SIGNS : Tok} (y_MOST_SIGNS : PySem.W.nsIn K mainGlobals "MOST_SIGNS" = some (some (.int 6 t_MOST_SIGNS)))
    {t_MOST_WITHIN : Tok} (y_MOST_WITHIN : PySem.W.nsIn K mainGlobals "MOST_WITHIN" = some (some (.int 60 t_MOST_WITHIN)))
    {C_WORDS : Addr} {dd_WORDS : Option Addr} {ss_WORDS : Array (Option Value)} {nn_WORDS : Nat} {u0_WORDS u1_WORDS u2_WORDS : Tok} (y_WORDS : PySem.W.nsIn K mainGlobals "WORDS" = some (some (.ref C_WORDS)))
    (w_WORDS : K.lookup C_WORDS = some ⟨.type "tuple", dd_WORDS, .seq #[.str "sum" u0_WORDS, .str "less" u1_WORDS, .str "times" u2_WORDS] nn_WORDS, ss_WORDS⟩)
    {C_WORDS_BY_SIGN : Addr} {es_WORDS_BY_SIGN : Array DictEntry} {nn_WORDS_BY_SIGN : Nat} (y_WORDS_BY_SIGN : PySem.W.nsIn K mainGlobals "WORDS_BY_SIGN" = some (some (.ref C_WORDS_BY_SIGN))) (w_WORDS_BY_SIGN : K.lookup C_WORDS_BY_SIGN = some ⟨.type "dict", none, .dict es_WORDS_BY_SIGN nn_WORDS_BY_SIGN, #[]⟩) (q_WORDS_BY_SIGN : PySem.W.KeysLit w.params es_WORDS_BY_SIGN.toList) (p_WORDS_BY_SIGN : Paired (fun (e : DictEntry) (kv : Str × Str) => ∃ t u, e.key = .str kv.1 t ∧ e.val = .str kv.2 u) es_WORDS_BY_SIGN.toList c_WORDS_BY_SIGN) (o_WORDS_BY_SIGN : (C_WORDS_BY_SIGN == sysModules) = false)
    {C_NoPaper : Addr} (y_NoPaper : PySem.W.nsIn K mainGlobals "NoPaper" = some (some (.ref C_NoPaper))) (e3_NoPaper : PySem.W.subIn K (.ref C_NoPaper) (.type "BaseException") = some true) (e4_NoPaper : PySem.W.typeIn K (.ref C_NoPaper) = some (.type "type"))
    (e1_NoPaper : PySem.W.excIn K C_NoPaper [.type "ValueError", .type "Exception", .type "BaseException", .type "object"] "ValueError.__new__" = true) (e2_NoPaper : PySem.W.keepIn K (.ref C_NoPaper) = true)
    (e5_NoPaper : PySem.W.hasDictIn K C_NoPaper = true)
    {C_NoPlace : Addr} (y_NoPlace : PySem.W.nsIn K mainGlobals "NoPlace" = some (some (.ref C_NoPlace))) (e3_NoPlace : PySem.W.subIn K (.ref C_NoPlace) (.type "BaseException") = some true) (e4_NoPlace : PySem.W.typeIn K (.ref C_NoPlace) = some (.type "type"))
    (e1_NoPlace : PySem.W.excIn K C_NoPlace [.type "ValueError", .type "Exception", .type "BaseException", .type "object"] "ValueError.__new__" = true) (e2_NoPlace : PySem.W.keepIn K (.ref C_NoPlace) = true)
    (e5_NoPlace : PySem.W.hasDictIn K C_NoPlace = true)
    {C_NoProgram : Addr} (y_NoProgram : PySem.W.nsIn K mainGlobals "NoProgram" = some (some (.ref C_NoProgram))) (e3_NoProgram : PySem.W.subIn K (.ref C_NoProgram) (.type "BaseException") = some true) (e4_NoProgram : PySem.W.typeIn K (.ref C_NoProgram) = some (.type "type"))
    (e1_NoProgram : PySem.W.excIn K C_NoProgram [.type "ValueError", .type "Exception", .type "BaseException", .type "object"] "ValueError.__new__" = true) (e2_NoProgram : PySem.W.keepIn K (.ref C_NoProgram) = true)
    (e5_NoProgram : PySem.W.hasDictIn K C_NoProgram = true)
    {C_NoText : Addr} (y_NoText : PySem.W.nsIn K mainGlobals "NoText" = some (some (.ref C_NoText))) (e3_NoText : PySem.W.subIn K (.ref C_NoText) (.type "BaseException") = some true) (e4_NoText : PySem.W.typeIn K (.ref C_NoText) = some (.type "type"))
    (e1_NoText : PySem.W.excIn K C_NoText [.type "ValueError", .type "Exception", .type "BaseException", .type "object"] "ValueError.__new__" = true) (e2_NoText : PySem.W.keepIn K (.ref C_NoText) = true)
    (e5_NoText : PySem.W.hasDictIn K C_NoText = true)
    {C_NoWorth : Addr} (y_NoWorth : PySem.W.nsIn K mainGlobals "NoWorth" = some (some (.ref C_NoWorth))) (e3_NoWorth : PySem.W.subIn K (.ref C_NoWorth) (.type "BaseException") = some true) (e4_NoWorth : PySem.W.typeIn K (.ref C_NoWorth) = some (.type "type"))
    (e1_NoWorth : PySem.W.excIn K C_NoWorth [.type "ValueError", .type "Exception", .type "BaseException", .type "object"] "ValueError.__new__" = true) (e2_NoWorth : PySem.W.keepIn K (.ref C_NoWorth) = true)
    (e5_NoWorth : PySem.W.hasDictIn K C_NoWorth = true)
    {C_SumError : Addr} (y_SumError : PySem.W.nsIn K mainGlobals "SumError" = some (some (.ref C_SumError))) (e3_SumError : PySem.W.subIn K (.ref C_SumError) (.type "BaseException") = some true) (e4_SumError : PySem.W.typeIn K (.ref C_SumError) = some (.type "type"))
    (e5_SumError : PySem.W.hasDictIn K C_SumError = true)
    {C_TooMany : Addr} (y_TooMany : PySem.W.nsIn K mainGlobals "TooMany" = some (some (.ref C_TooMany))) (e3_TooMany : PySem.W.subIn K (.ref C_TooMany) (.type "BaseException") = some true) (e4_TooMany : PySem.W.typeIn K (.ref C_TooMany) = some (.type "type"))
    (e1_TooMany : PySem.W.excIn K C_TooMany [.type "ValueError", .type "Exception", .type "BaseException", .type "object"] "ValueError.__new__" = true) (e2_TooMany : PySem.W.keepIn K (.ref C_TooMany) = true)
    (e5_TooMany : PySem.W.hasDictIn K C_TooMany = true)
    (e6 : PySem.W.specialIn K (.builtin "object.__class__") "__get__" = some (some (.builtin "getset_descriptor.__get__"))) (e7 : PySem.W.takesIn K (.builtin "object.__class__") = some true)
    (f1_NoPaper : PySem.W.findIn K (.ref C_NoPaper) "__getattribute__" = some (some (.builtin "BaseException.__getattribute__"))) (f2_NoPaper : PySem.W.findIn K (.ref C_NoPaper) "__getattr__" = some none) (f3_NoPaper : PySem.W.findIn K (.ref C_NoPaper) "__class__" = some (some (.builtin "object.__class__"))) (f4_NoPaper : PySem.W.mroIn K C_NoPaper (.type "object") = some true) (f5_NoPaper : PySem.W.subIn K (.ref C_NoPaper) (.ref C_NoPaper) = some true)
    (g_NoPaper_NoPaper : PySem.W.subIn K (.ref C_NoPaper) (.ref C_NoPaper) = some true)
    (g_NoPaper_NoPlace : PySem.W.subIn K (.ref C_NoPaper) (.ref C_NoPlace) = some false)
    (g_NoPaper_NoProgram : PySem.W.subIn K (.ref C_NoPaper) (.ref C_NoProgram) = some false)
    (g_NoPaper_NoText : PySem.W.subIn K (.ref C_NoPaper) (.ref C_NoText) = some false)
    (g_NoPaper_NoWorth : PySem.W.subIn K (.ref C_NoPaper) (.ref C_NoWorth) = some false)
    (g_NoPaper_SumError : PySem.W.subIn K (.ref C_NoPaper) (.ref C_SumError) = some true)
    (g_NoPaper_TooMany : PySem.W.subIn K (.ref C_NoPaper) (.ref C_TooMany) = some false)
    (g_NoPaper_ValueError : PySem.W.subIn K (.ref C_NoPaper) (.type "ValueError") = some true)
    (f1_NoPlace : PySem.W.findIn K (.ref C_NoPlace) "__getattribute__" = some (some (.builtin "BaseException.__getattribute__"))) (f2_NoPlace : PySem.W.findIn K (.ref C_NoPlace) "__getattr__" = some none) (f3_NoPlace : PySem.W.findIn K (.ref C_NoPlace) "__class__" = some (some (.builtin "object.__class__"))) (f4_NoPlace : PySem.W.mroIn K C_NoPlace (.type "object") = some true) (f5_NoPlace : PySem.W.subIn K (.ref C_NoPlace) (.ref C_NoPlace) = some true)
    (g_NoPlace_NoPaper : PySem.W.subIn K (.ref C_NoPlace) (.ref C_NoPaper) = some false)
    (g_NoPlace_NoPlace : PySem.W.subIn K (.ref C_NoPlace) (.ref C_NoPlace) = some true)
    (g_NoPlace_NoProgram : PySem.W.subIn K (.ref C_NoPlace) (.ref C_NoProgram) = some false)
    (g_NoPlace_NoText : PySem.W.subIn K (.ref C_NoPlace) (.ref C_NoText) = some false)
    (g_NoPlace_NoWorth : PySem.W.subIn K (.ref C_NoPlace) (.ref C_NoWorth) = some false)
    (g_NoPlace_SumError : PySem.W.subIn K (.ref C_NoPlace) (.ref C_SumError) = some true)
    (g_NoPlace_TooMany : PySem.W.subIn K (.ref C_NoPlace) (.ref C_TooMany) = some false)
    (g_NoPlace_ValueError : PySem.W.subIn K (.ref C_NoPlace) (.type "ValueError") = some true)
    (f1_NoProgram : PySem.W.findIn K (.ref C_NoProgram) "__getattribute__" = some (some (.builtin "BaseException.__getattribute__"))) (f2_NoProgram : PySem.W.findIn K (.ref C_NoProgram) "__getattr__" = some none) (f3_NoProgram : PySem.W.findIn K (.ref C_NoProgram) "__class__" = some (some (.builtin "object.__class__"))) (f4_NoProgram : PySem.W.mroIn K C_NoProgram (.type "object") = some true) (f5_NoProgram : PySem.W.subIn K (.ref C_NoProgram) (.ref C_NoProgram) = some true)
    (g_NoProgram_NoPaper : PySem.W.subIn K (.ref C_NoProgram) (.ref C_NoPaper) = some false)
    (g_NoProgram_NoPlace : PySem.W.subIn K (.ref C_NoProgram) (.ref C_NoPlace) = some false)
    (g_NoProgram_NoProgram : PySem.W.subIn K (.ref C_NoProgram) (.ref C_NoProgram) = some true)
    (g_NoProgram_NoText : PySem.W.subIn K (.ref C_NoProgram) (.ref C_NoText) = some false)
    (g_NoProgram_NoWorth : PySem.W.subIn K (.ref C_NoProgram) (.ref C_NoWorth) = some false)
    (g_NoProgram_SumError : PySem.W.subIn K (.ref C_NoProgram) (.ref C_SumError) = some true)
    (g_NoProgram_TooMany : PySem.W.subIn K (.ref C_NoProgram) (.ref C_TooMany) = some false)
    (g_NoProgram_ValueError : PySem.W.subIn K (.ref C_NoProgram) (.type "ValueError") = some true)
    (f1_NoText : PySem.W.findIn K (.ref C_NoText) "__getattribute__" = some (some (.builtin "BaseException.__getattribute__"))) (f2_NoText : PySem.W.findIn K (.ref C_NoText) "__getattr__" = some none) (f3_NoText : PySem.W.findIn K (.ref C_NoText) "__class__" = some (some (.builtin "object.__class__"))) (f4_NoText : PySem.W.mroIn K C_NoText (.type "object") = some true) (f5_NoText : PySem.W.subIn K (.ref C_NoText) (.ref C_NoText) = some true)
    (g_NoText_NoPaper : PySem.W.subIn K (.ref C_NoText) (.ref C_NoPaper) = some false)
    (g_NoText_NoPlace : PySem.W.subIn K (.ref C_NoText) (.ref C_NoPlace) = some false)
    (g_NoText_NoProgram : PySem.W.subIn K (.ref C_NoText) (.ref C_NoProgram) = some false)
    (g_NoText_NoText : PySem.W.subIn K (.ref C_NoText) (.ref C_NoText) = some true)
    (g_NoText_NoWorth : PySem.W.subIn K (.ref C_NoText) (.ref C_NoWorth) = some false)
    (g_NoText_SumError : PySem.W.subIn K (.ref C_NoText) (.ref C_SumError) = some true)
    (g_NoText_TooMany : PySem.W.subIn K (.ref C_NoText) (.ref C_TooMany) = some false)
    (g_NoText_ValueError : PySem.W.subIn K (.ref C_NoText) (.type "ValueError") = some true)
    (f1_NoWorth : PySem.W.findIn K (.ref C_NoWorth) "__getattribute__" = some (some (.builtin "BaseException.__getattribute__"))) (f2_NoWorth : PySem.W.findIn K (.ref C_NoWorth) "__getattr__" = some none) (f3_NoWorth : PySem.W.findIn K (.ref C_NoWorth) "__class__" = some (some (.builtin "object.__class__"))) (f4_NoWorth : PySem.W.mroIn K C_NoWorth (.type "object") = some true) (f5_NoWorth : PySem.W.subIn K (.ref C_NoWorth) (.ref C_NoWorth) = some true)
    (g_NoWorth_NoPaper : PySem.W.subIn K (.ref C_NoWorth) (.ref C_NoPaper) = some false)
    (g_NoWorth_NoPlace : PySem.W.subIn K (.ref C_NoWorth) (.ref C_NoPlace) = some false)
    (g_NoWorth_NoProgram : PySem.W.subIn K (.ref C_NoWorth) (.ref C_NoProgram) = some false)
    (g_NoWorth_NoText : PySem.W.subIn K (.ref C_NoWorth) (.ref C_NoText) = some false)
    (g_NoWorth_NoWorth : PySem.W.subIn K (.ref C_NoWorth) (.ref C_NoWorth) = some true)
    (g_NoWorth_SumError : PySem.W.subIn K (.ref C_NoWorth) (.ref C_SumError) = some true)
    (g_NoWorth_TooMany : PySem.W.subIn K (.ref C_NoWorth) (.ref C_TooMany) = some false)
    (g_NoWorth_ValueError : PySem.W.subIn K (.ref C_NoWorth) (.type "ValueError") = some true)
    (f1_TooMany : PySem.W.findIn K (.ref C_TooMany) "__getattribute__" = some (some (.builtin "BaseException.__getattribute__"))) (f2_TooMany : PySem.W.findIn K (.ref C_TooMany) "__getattr__" = some none) (f3_TooMany : PySem.W.findIn K (.ref C_TooMany) "__class__" = some (some (.builtin "object.__class__"))) (f4_TooMany : PySem.W.mroIn K C_TooMany (.type "object") = some true) (f5_TooMany : PySem.W.subIn K (.ref C_TooMany) (.ref C_TooMany) = some true)
    (g_TooMany_NoPaper : PySem.W.subIn K (.ref C_TooMany) (.ref C_NoPaper) = some false)
    (g_TooMany_NoPlace : PySem.W.subIn K (.ref C_TooMany) (.ref C_NoPlace) = some false)
    (g_TooMany_NoProgram : PySem.W.subIn K (.ref C_TooMany) (.ref C_NoProgram) = some false)
    (g_TooMany_NoText : PySem.W.subIn K (.ref C_TooMany) (.ref C_NoText) = some false)
    (g_TooMany_NoWorth : PySem.W.subIn K (.ref C_TooMany) (.ref C_NoWorth) = some false)
    (g_TooMany_SumError : PySem.W.subIn K (.ref C_TooMany) (.ref C_SumError) = some true)
    (g_TooMany_TooMany : PySem.W.subIn K (.ref C_TooMany) (.ref C_TooMany) = some true)
    (g_TooMany_ValueError : PySem.W.subIn K (.ref C_TooMany) (.type "ValueError") = some true)
    (z_ValueError : PySem.W.nsIn K mainGlobals "ValueError" = some none)
    : ∃ fd : FuncData, (∀ (s : Shared) (v : Value), BindsTo s fd ⟨[v], []⟩ [("_law_script", v)]) ∧ ∀ base : Heap, K.In base → base.Ns mainGlobals mg → ∃ mg', FnG l.prog w K mg base (L2.CX l.prog w) (kk + 1) fa fd ["_law_script"] (spF K mg' 1 (lev NW (kk + 1)).law) := by
  have e := hfa.symm.trans (PySem.W.mg_of X G a17)
  cases e
  have T : Tx K w mg := ⟨PySem.W.mg_none_of X G z_abs, PySem.W.mg_none_of X G z_all, PySem.W.mg_none_of X G z_bool, PySem.W.mg_none_of X G z_int, PySem.W.mg_none_of X G z_isinstance, PySem.W.mg_none_of X G z_len, PySem.W.mg_none_of X G z_list, PySem.W.mg_none_of X G z_range, PySem.W.mg_none_of X G z_str, PySem.W.mg_none_of X G z_tuple, ⟨_, PySem.W.mg_of X G y_FIGURES⟩, ⟨_, PySem.W.mg_of X G y_KEPT, fun H => .inr ⟨_, _, _, w_KEPT, rfl, rfl, (by show 12 ≤ sizeLine; decide), .cons ⟨_, rfl⟩ (.cons ⟨_, rfl⟩ (.cons ⟨_, rfl⟩ (.cons ⟨_, rfl⟩ (.cons ⟨_, rfl⟩ (.cons ⟨_, rfl⟩ (.cons ⟨_, rfl⟩ (.cons ⟨_, rfl⟩ (.cons ⟨_, rfl⟩ (.cons ⟨_, rfl⟩ (.cons ⟨_, rfl⟩ (.cons ⟨_, rfl⟩ (.nil))))))))))))⟩⟩, ⟨_, PySem.W.mg_of X G y_LETTERS⟩, ⟨_, PySem.W.mg_of X G y_MOST_FIGURES⟩, ⟨_, PySem.W.mg_of X G y_MOST_PARTS⟩, ⟨_, PySem.W.mg_of X G y_MOST_SIGNS⟩, ⟨_, PySem.W.mg_of X G y_MOST_WITHIN⟩, ⟨_, PySem.W.mg_of X G y_WORDS, fun H => .inr ⟨_, _, _, w_WORDS, rfl, rfl, (by show 3 ≤ sizeLine; decide), .cons ⟨_, rfl⟩ (.cons ⟨_, rfl⟩ (.cons ⟨_, rfl⟩ (.nil)))⟩⟩, ⟨_, PySem.W.mg_of X G y_WORDS_BY_SIGN, cdct_of w_WORDS_BY_SIGN q_WORDS_BY_SIGN p_WORDS_BY_SIGN o_WORDS_BY_SIGN⟩, ⟨_, PySem.W.mg_of X G y_NoPaper, e1_NoPaper, e2_NoPaper, e3_NoPaper, e4_NoPaper⟩, ⟨_, PySem.W.mg_of X G y_NoPlace, e1_NoPlace, e2_NoPlace, e3_NoPlace, e4_NoPlace⟩, ⟨_, PySem.W.mg_of X G y_NoProgram, e1_NoProgram, e2_NoProgram, e3_NoProgram, e4_NoProgram⟩, ⟨_, PySem.W.mg_of X G y_NoText, e1_NoText, e2_NoText, e3_NoText, e4_NoText⟩, ⟨_, PySem.W.mg_of X G y_NoWorth, e1_NoWorth, e2_NoWorth, e3_NoWorth, e4_NoWorth⟩, ⟨_, PySem.W.mg_of X G y_TooMany, e1_TooMany, e2_TooMany, e3_TooMany, e4_TooMany⟩, ⟨_, PySem.W.mg_of X G y_NoPaper, e3_NoPaper, e5_NoPaper, e4_NoPaper, (List.forall_mem_cons.mpr ⟨⟨_, y_NoPaper, PySem.W.mg_of X G y_NoPaper, ⟨f1_NoPaper, f2_NoPaper, e3_NoPaper, e5_NoPaper, f3_NoPaper, e6, e7, f4_NoPaper⟩, f5_NoPaper, g_NoPaper_NoPaper.trans (congrArg some (by decide +kernel))⟩, (List.forall_mem_cons.mpr ⟨⟨_, y_NoPlace, PySem.W.mg_of X G y_NoPlace, ⟨f1_NoPlace, f2_NoPlace, e3_NoPlace, e5_NoPlace, f3_NoPlace, e6, e7, f4_NoPlace⟩, f5_NoPlace, g_NoPlace_NoPaper.trans (congrArg some (by decide +kernel))⟩, (List.forall_mem_cons.mpr ⟨⟨_, y_NoProgram, PySem.W.mg_of X G y_NoProgram, ⟨f1_NoProgram, f2_NoProgram, e3_NoProgram, e5_NoProgram, f3_NoProgram, e6, e7, f4_NoProgram⟩, f5_NoProgram, g_NoProgram_NoPaper.trans (congrArg some (by decide +kernel))⟩, (List.forall_mem_cons.mpr ⟨⟨_, y_NoText, PySem.W.mg_of X G y_NoText, ⟨f1_NoText, f2_NoText, e3_NoText, e5_NoText, f3_NoText, e6, e7, f4_NoText⟩, f5_NoText, g_NoText_NoPaper.trans (congrArg some (by decide +kernel))⟩, (List.forall_mem_cons.mpr ⟨⟨_, y_NoWorth, PySem.W.mg_of X G y_NoWorth, ⟨f1_NoWorth, f2_NoWorth, e3_NoWorth, e5_NoWorth, f3_NoWorth, e6, e7, f4_NoWorth⟩, f5_NoWorth, g_NoWorth_NoPaper.trans (congrArg some (by decide +kernel))⟩, (List.forall_mem_cons.mpr ⟨⟨_, y_TooMany, PySem.W.mg_of X G y_TooMany, ⟨f1_TooMany, f2_TooMany, e3_TooMany, e5_TooMany, f3_TooMany, e6, e7, f4_TooMany⟩, f5_TooMany, g_TooMany_NoPaper.trans (congrArg some (by decide +kernel))⟩, (fun _ h => nomatch h)⟩)⟩)⟩)⟩)⟩)⟩)⟩, ⟨_, PySem.W.mg_of X G y_NoPlace, e3_NoPlace, e5_NoPlace, e4_NoPlace, (List.forall_mem_cons.mpr ⟨⟨_, y_NoPaper, PySem.W.mg_of X G y_NoPaper, ⟨f1_NoPaper, f2_NoPaper, e3_NoPaper, e5_NoPaper, f3_NoPaper, e6, e7, f4_NoPaper⟩, f5_NoPaper, g_NoPaper_NoPlace.trans (congrArg some (by decide +kernel))⟩, (List.forall_mem_cons.mpr ⟨⟨_, y_NoPlace, PySem.W.mg_of X G y_NoPlace, ⟨f1_NoPlace, f2_NoPlace, e3_NoPlace, e5_NoPlace, f3_NoPlace, e6, e7, f4_NoPlace⟩, f5_NoPlace, g_NoPlace_NoPlace.trans (congrArg some (by decide +kernel))⟩, (List.forall_mem_cons.mpr ⟨⟨_, y_NoProgram, PySem.W.mg_of X G y_NoProgram, ⟨f1_NoProgram, f2_NoProgram, e3_NoProgram, e5_NoProgram, f3_NoProgram, e6, e7, f4_NoProgram⟩, f5_NoProgram, g_NoProgram_NoPlace.trans (congrArg some (by decide +kernel))⟩, (List.forall_mem_cons.mpr ⟨⟨_, y_NoText, PySem.W.mg_of X G y_NoText, ⟨f1_NoText, f2_NoText, e3_NoText, e5_NoText, f3_NoText, e6, e7, f4_NoText⟩, f5_NoText, g_NoText_NoPlace.trans (congrArg some (by decide +kernel))⟩, (List.forall_mem_cons.mpr ⟨⟨_, y_NoWorth, PySem.W.mg_of X G y_NoWorth, ⟨f1_NoWorth, f2_NoWorth, e3_NoWorth, e5_NoWorth, f3_NoWorth, e6, e7, f4_NoWorth⟩, f5_NoWorth, g_NoWorth_NoPlace.trans (congrArg some (by decide +kernel))⟩, (List.forall_mem_cons.mpr ⟨⟨_, y_TooMany, PySem.W.mg_of X G y_TooMany, ⟨f1_TooMany, f2_TooMany, e3_TooMany, e5_TooMany, f3_TooMany, e6, e7, f4_TooMany⟩, f5_TooMany, g_TooMany_NoPlace.trans (congrArg some (by decide +kernel))⟩, (fun _ h => nomatch h)⟩)⟩)⟩)⟩)⟩)⟩)⟩, ⟨_, PySem.W.mg_of X G y_NoProgram, e3_NoProgram, e5_NoProgram, e4_NoProgram, (List.forall_mem_cons.mpr ⟨⟨_, y_NoPaper, PySem.W.mg_of X G y_NoPaper, ⟨f1_NoPaper, f2_NoPaper, e3_NoPaper, e5_NoPaper, f3_NoPaper, e6, e7, f4_NoPaper⟩, f5_NoPaper, g_NoPaper_NoProgram.trans (congrArg some (by decide +kernel))⟩, (List.forall_mem_cons.mpr ⟨⟨_, y_NoPlace, PySem.W.mg_of X G y_NoPlace, ⟨f1_NoPlace, f2_NoPlace, e3_NoPlace, e5_NoPlace, f3_NoPlace, e6, e7, f4_NoPlace⟩, f5_NoPlace, g_NoPlace_NoProgram.trans (congrArg some (by decide +kernel))⟩, (List.forall_mem_cons.mpr ⟨⟨_, y_NoProgram, PySem.W.mg_of X G y_NoProgram, ⟨f1_NoProgram, f2_NoProgram, e3_NoProgram, e5_NoProgram, f3_NoProgram, e6, e7, f4_NoProgram⟩, f5_NoProgram, g_NoProgram_NoProgram.trans (congrArg some (by decide +kernel))⟩, (List.forall_mem_cons.mpr ⟨⟨_, y_NoText, PySem.W.mg_of X G y_NoText, ⟨f1_NoText, f2_NoText, e3_NoText, e5_NoText, f3_NoText, e6, e7, f4_NoText⟩, f5_NoText, g_NoText_NoProgram.trans (congrArg some (by decide +kernel))⟩, (List.forall_mem_cons.mpr ⟨⟨_, y_NoWorth, PySem.W.mg_of X G y_NoWorth, ⟨f1_NoWorth, f2_NoWorth, e3_NoWorth, e5_NoWorth, f3_NoWorth, e6, e7, f4_NoWorth⟩, f5_NoWorth, g_NoWorth_NoProgram.trans (congrArg some (by decide +kernel))⟩, (List.forall_mem_cons.mpr ⟨⟨_, y_TooMany, PySem.W.mg_of X G y_TooMany, ⟨f1_TooMany, f2_TooMany, e3_TooMany, e5_TooMany, f3_TooMany, e6, e7, f4_TooMany⟩, f5_TooMany, g_TooMany_NoProgram.trans (congrArg some (by decide +kernel))⟩, (fun _ h => nomatch h)⟩)⟩)⟩)⟩)⟩)⟩)⟩, ⟨_, PySem.W.mg_of X G y_NoText, e3_NoText, e5_NoText, e4_NoText, (List.forall_mem_cons.mpr ⟨⟨_, y_NoPaper, PySem.W.mg_of X G y_NoPaper, ⟨f1_NoPaper, f2_NoPaper, e3_NoPaper, e5_NoPaper, f3_NoPaper, e6, e7, f4_NoPaper⟩, f5_NoPaper, g_NoPaper_NoText.trans (congrArg some (by decide +kernel))⟩, (List.forall_mem_cons.mpr ⟨⟨_, y_NoPlace, PySem.W.mg_of X G y_NoPlace, ⟨f1_NoPlace, f2_NoPlace, e3_NoPlace, e5_NoPlace, f3_NoPlace, e6, e7, f4_NoPlace⟩, f5_NoPlace, g_NoPlace_NoText.trans (congrArg some (by decide +kernel))⟩, (List.forall_mem_cons.mpr ⟨⟨_, y_NoProgram, PySem.W.mg_of X G y_NoProgram, ⟨f1_NoProgram, f2_NoProgram, e3_NoProgram, e5_NoProgram, f3_NoProgram, e6, e7, f4_NoProgram⟩, f5_NoProgram, g_NoProgram_NoText.trans (congrArg some (by decide +kernel))⟩, (List.forall_mem_cons.mpr ⟨⟨_, y_NoText, PySem.W.mg_of X G y_NoText, ⟨f1_NoText, f2_NoText, e3_NoText, e5_NoText, f3_NoText, e6, e7, f4_NoText⟩, f5_NoText, g_NoText_NoText.trans (congrArg some (by decide +kernel))⟩, (List.forall_mem_cons.mpr ⟨⟨_, y_NoWorth, PySem.W.mg_of X G y_NoWorth, ⟨f1_NoWorth, f2_NoWorth, e3_NoWorth, e5_NoWorth, f3_NoWorth, e6, e7, f4_NoWorth⟩, f5_NoWorth, g_NoWorth_NoText.trans (congrArg some (by decide +kernel))⟩, (List.forall_mem_cons.mpr ⟨⟨_, y_TooMany, PySem.W.mg_of X G y_TooMany, ⟨f1_TooMany, f2_TooMany, e3_TooMany, e5_TooMany, f3_TooMany, e6, e7, f4_TooMany⟩, f5_TooMany, g_TooMany_NoText.trans (congrArg some (by decide +kernel))⟩, (fun _ h => nomatch h)⟩)⟩)⟩)⟩)⟩)⟩)⟩, ⟨_, PySem.W.mg_of X G y_NoWorth, e3_NoWorth, e5_NoWorth, e4_NoWorth, (List.forall_mem_cons.mpr ⟨⟨_, y_NoPaper, PySem.W.mg_of X G y_NoPaper, ⟨f1_NoPaper, f2_NoPaper, e3_NoPaper, e5_NoPaper, f3_NoPaper, e6, e7, f4_NoPaper⟩, f5_NoPaper, g_NoPaper_NoWorth.trans (congrArg some (by decide +kernel))⟩, (List.forall_mem_cons.mpr ⟨⟨_, y_NoPlace, PySem.W.mg_of X G y_NoPlace, ⟨f1_NoPlace, f2_NoPlace, e3_NoPlace, e5_NoPlace, f3_NoPlace, e6, e7, f4_NoPlace⟩, f5_NoPlace, g_NoPlace_NoWorth.trans (congrArg some (by decide +kernel))⟩, (List.forall_mem_cons.mpr ⟨⟨_, y_NoProgram, PySem.W.mg_of X G y_NoProgram, ⟨f1_NoProgram, f2_NoProgram, e3_NoProgram, e5_NoProgram, f3_NoProgram, e6, e7, f4_NoProgram⟩, f5_NoProgram, g_NoProgram_NoWorth.trans (congrArg some (by decide +kernel))⟩, (List.forall_mem_cons.mpr ⟨⟨_, y_NoText, PySem.W.mg_of X G y_NoText, ⟨f1_NoText, f2_NoText, e3_NoText, e5_NoText, f3_NoText, e6, e7, f4_NoText⟩, f5_NoText, g_NoText_NoWorth.trans (congrArg some (by decide +kernel))⟩, (List.forall_mem_cons.mpr ⟨⟨_, y_NoWorth, PySem.W.mg_of X G y_NoWorth, ⟨f1_NoWorth, f2_NoWorth, e3_NoWorth, e5_NoWorth, f3_NoWorth, e6, e7, f4_NoWorth⟩, f5_NoWorth, g_NoWorth_NoWorth.trans (congrArg some (by decide +kernel))⟩, (List.forall_mem_cons.mpr ⟨⟨_, y_TooMany, PySem.W.mg_of X G y_TooMany, ⟨f1_TooMany, f2_TooMany, e3_TooMany, e5_TooMany, f3_TooMany, e6, e7, f4_TooMany⟩, f5_TooMany, g_TooMany_NoWorth.trans (congrArg some (by decide +kernel))⟩, (fun _ h => nomatch h)⟩)⟩)⟩)⟩)⟩)⟩)⟩, ⟨_, PySem.W.mg_of X G y_SumError, e3_SumError, e5_SumError, e4_SumError, (List.forall_mem_cons.mpr ⟨⟨_, y_NoPaper, PySem.W.mg_of X G y_NoPaper, ⟨f1_NoPaper, f2_NoPaper, e3_NoPaper, e5_NoPaper, f3_NoPaper, e6, e7, f4_NoPaper⟩, f5_NoPaper, g_NoPaper_SumError.trans (congrArg some (by decide +kernel))⟩, (List.forall_mem_cons.mpr ⟨⟨_, y_NoPlace, PySem.W.mg_of X G y_NoPlace, ⟨f1_NoPlace, f2_NoPlace, e3_NoPlace, e5_NoPlace, f3_NoPlace, e6, e7, f4_NoPlace⟩, f5_NoPlace, g_NoPlace_SumError.trans (congrArg some (by decide +kernel))⟩, (List.forall_mem_cons.mpr ⟨⟨_, y_NoProgram, PySem.W.mg_of X G y_NoProgram, ⟨f1_NoProgram, f2_NoProgram, e3_NoProgram, e5_NoProgram, f3_NoProgram, e6, e7, f4_NoProgram⟩, f5_NoProgram, g_NoProgram_SumError.trans (congrArg some (by decide +kernel))⟩, (List.forall_mem_cons.mpr ⟨⟨_, y_NoText, PySem.W.mg_of X G y_NoText, ⟨f1_NoText, f2_NoText, e3_NoText, e5_NoText, f3_NoText, e6, e7, f4_NoText⟩, f5_NoText, g_NoText_SumError.trans (congrArg some (by decide +kernel))⟩, (List.forall_mem_cons.mpr ⟨⟨_, y_NoWorth, PySem.W.mg_of X G y_NoWorth, ⟨f1_NoWorth, f2_NoWorth, e3_NoWorth, e5_NoWorth, f3_NoWorth, e6, e7, f4_NoWorth⟩, f5_NoWorth, g_NoWorth_SumError.trans (congrArg some (by decide +kernel))⟩, (List.forall_mem_cons.mpr ⟨⟨_, y_TooMany, PySem.W.mg_of X G y_TooMany, ⟨f1_TooMany, f2_TooMany, e3_TooMany, e5_TooMany, f3_TooMany, e6, e7, f4_TooMany⟩, f5_TooMany, g_TooMany_SumError.trans (congrArg some (by decide +kernel))⟩, (fun _ h => nomatch h)⟩)⟩)⟩)⟩)⟩)⟩)⟩, ⟨_, PySem.W.mg_of X G y_TooMany, e3_TooMany, e5_TooMany, e4_TooMany, (List.forall_mem_cons.mpr ⟨⟨_, y_NoPaper, PySem.W.mg_of X G y_NoPaper, ⟨f1_NoPaper, f2_NoPaper, e3_NoPaper, e5_NoPaper, f3_NoPaper, e6, e7, f4_NoPaper⟩, f5_NoPaper, g_NoPaper_TooMany.trans (congrArg some (by decide +kernel))⟩, (List.forall_mem_cons.mpr ⟨⟨_, y_NoPlace, PySem.W.mg_of X G y_NoPlace, ⟨f1_NoPlace, f2_NoPlace, e3_NoPlace, e5_NoPlace, f3_NoPlace, e6, e7, f4_NoPlace⟩, f5_NoPlace, g_NoPlace_TooMany.trans (congrArg some (by decide +kernel))⟩, (List.forall_mem_cons.mpr ⟨⟨_, y_NoProgram, PySem.W.mg_of X G y_NoProgram, ⟨f1_NoProgram, f2_NoProgram, e3_NoProgram, e5_NoProgram, f3_NoProgram, e6, e7, f4_NoProgram⟩, f5_NoProgram, g_NoProgram_TooMany.trans (congrArg some (by decide +kernel))⟩, (List.forall_mem_cons.mpr ⟨⟨_, y_NoText, PySem.W.mg_of X G y_NoText, ⟨f1_NoText, f2_NoText, e3_NoText, e5_NoText, f3_NoText, e6, e7, f4_NoText⟩, f5_NoText, g_NoText_TooMany.trans (congrArg some (by decide +kernel))⟩, (List.forall_mem_cons.mpr ⟨⟨_, y_NoWorth, PySem.W.mg_of X G y_NoWorth, ⟨f1_NoWorth, f2_NoWorth, e3_NoWorth, e5_NoWorth, f3_NoWorth, e6, e7, f4_NoWorth⟩, f5_NoWorth, g_NoWorth_TooMany.trans (congrArg some (by decide +kernel))⟩, (List.forall_mem_cons.mpr ⟨⟨_, y_TooMany, PySem.W.mg_of X G y_TooMany, ⟨f1_TooMany, f2_TooMany, e3_TooMany, e5_TooMany, f3_TooMany, e6, e7, f4_TooMany⟩, f5_TooMany, g_TooMany_TooMany.trans (congrArg some (by decide +kernel))⟩, (fun _ h => nomatch h)⟩)⟩)⟩)⟩)⟩)⟩)⟩, ⟨PySem.W.mg_none_of X G z_ValueError, by decide +kernel, (List.forall_mem_cons.mpr ⟨⟨_, y_NoPaper, ⟨f1_NoPaper, f2_NoPaper, e3_NoPaper, e5_NoPaper, f3_NoPaper, e6, e7, f4_NoPaper⟩, g_NoPaper_ValueError.trans (congrArg some (by decide +kernel))⟩, (List.forall_mem_cons.mpr ⟨⟨_, y_NoPlace, ⟨f1_NoPlace, f2_NoPlace, e3_NoPlace, e5_NoPlace, f3_NoPlace, e6, e7, f4_NoPlace⟩, g_NoPlace_ValueError.trans (congrArg some (by decide +kernel))⟩, (List.forall_mem_cons.mpr ⟨⟨_, y_NoProgram, ⟨f1_NoProgram, f2_NoProgram, e3_NoProgram, e5_NoProgram, f3_NoProgram, e6, e7, f4_NoProgram⟩, g_NoProgram_ValueError.trans (congrArg some (by decide +kernel))⟩, (List.forall_mem_cons.mpr ⟨⟨_, y_NoText, ⟨f1_NoText, f2_NoText, e3_NoText, e5_NoText, f3_NoText, e6, e7, f4_NoText⟩, g_NoText_ValueError.trans (congrArg some (by decide +kernel))⟩, (List.forall_mem_cons.mpr ⟨⟨_, y_NoWorth, ⟨f1_NoWorth, f2_NoWorth, e3_NoWorth, e5_NoWorth, f3_NoWorth, e6, e7, f4_NoWorth⟩, g_NoWorth_ValueError.trans (congrArg some (by decide +kernel))⟩, (List.forall_mem_cons.mpr ⟨⟨_, y_TooMany, ⟨f1_TooMany, f2_TooMany, e3_TooMany, e5_TooMany, f3_TooMany, e6, e7, f4_TooMany⟩, g_TooMany_ValueError.trans (congrArg some (by decide +kernel))⟩, (fun _ h => nomatch h)⟩)⟩)⟩)⟩)⟩)⟩)⟩⟩
  have D0 := fun_mk (st := s_is_name) l0 c0 k0
  have b0 := D0.binds (ps := p_is_name) fun _ _ _ _ _ _ us hl => match us, hl with | [_], _ => rfl
  have D1 := fun_mk (st := s_size_of) l1 c1 k1
  have b1 := D1.binds (ps := p_size_of) fun _ _ _ _ _ _ us hl => match us, hl with | [_], _ => rfl
  have D2 := fun_mk (st := s_is_number) l2 c2 k2
  have b2 := D2.binds (ps := p_is_number) fun _ _ _ _ _ _ us hl => match us, hl with | [_, _], _ => rfl
  have D3 := fun_mk (st := s_is_leaf) l3 c3 k3
  have b3 := D3.binds (ps := p_is_leaf) fun _ _ _ _ _ _ us hl => match us, hl with | [_, _], _ => rfl
  have D4 := fun_mk (st := s_parts_of) l4 c4 k4
  have b4 := D4.binds (ps := p_parts_of) fun _ _ _ _ _ _ us hl => match us, hl with | [_, _, _, _], _ => rfl
  have D5 := fun_mk (st := s_is_term) l5 c5 k5
  have b5 := D5.binds (ps := p_is_term) fun _ _ _ _ _ _ us hl => match us, hl with | [_, _], _ => rfl
  have D6 := fun_mk (st := s_are_figures) l6 c6 k6
  have b6 := D6.binds (ps := p_are_figures) fun _ _ _ _ _ _ us hl => match us, hl with | [_], _ => rfl
  have D7 := fun_mk (st := s_number_read) l7 c7 k7
  have b7 := D7.binds (ps := p_number_read) fun _ _ _ _ _ _ us hl => match us, hl with | [_, _], _ => rfl
  have D8 := fun_mk (st := s_blanks_passed) l8 c8 k8
  have b8 := D8.binds (ps := p_blanks_passed) fun _ _ _ _ _ _ us hl => match us, hl with | [_, _], _ => rfl
  have D9 := fun_mk (st := s_run_at) l9 c9 k9
  have b9 := D9.binds (ps := p_run_at) fun _ _ _ _ _ _ us hl => match us, hl with | [_, _], _ => rfl
  have D10 := fun_mk (st := s_leaf_read) l10 c10 k10
  have b10 := D10.binds (ps := p_leaf_read) fun _ _ _ _ _ _ us hl => match us, hl with | [_, _], _ => rfl
  have D11 := fun_mk (st := s_part_read) l11 c11 k11
  have b11 := D11.binds (ps := p_part_read) fun _ _ _ _ _ _ us hl => match us, hl with | [_, _, _, _], _ => rfl
  have D12 := fun_mk (st := s_read_term) l12 c12 k12
  have b12 := D12.binds (ps := p_read_term) fun _ _ _ _ _ _ us hl => match us, hl with | [_, _], _ => rfl
  have D13 := fun_mk (st := s_law_begun) l13 c13 k13
  have b13 := D13.binds (ps := p_law_begun) fun _ _ _ _ _ _ us hl => match us, hl with | [_], _ => rfl
  have D14 := fun_mk (st := s_law_take) l14 c14 k14
  have b14 := D14.binds (ps := p_law_take) fun _ _ _ _ _ _ us hl => match us, hl with | [_, _], _ => rfl
  have D15 := fun_mk (st := s_law_kind) l15 c15 k15
  have b15 := D15.binds (ps := p_law_kind) fun _ _ _ _ _ _ us hl => match us, hl with | [_], _ => rfl
  have D16 := fun_mk (st := s_law_raised) l16 c16 k16
  have b16 := D16.binds (ps := p_law_raised) fun _ _ _ _ _ _ us hl => match us, hl with | [_, _], _ => rfl
  have D17 := fun_mk (st := s_law) l17 c17 k17
  have b17 := D17.binds (ps := p_law) fun _ _ _ _ _ _ us hl => match us, hl with | [_], _ => rfl
  have B : Defs K mg := ⟨⟨_, _, D0, b0, PySem.W.mg_of X G a0⟩, ⟨_, _, D1, b1, PySem.W.mg_of X G a1⟩, ⟨_, _, D2, b2, PySem.W.mg_of X G a2⟩, ⟨_, _, D3, b3, PySem.W.mg_of X G a3⟩, ⟨_, _, D4, b4, PySem.W.mg_of X G a4⟩, ⟨_, _, D5, b5, PySem.W.mg_of X G a5⟩, ⟨_, _, D6, b6, PySem.W.mg_of X G a6⟩, ⟨_, _, D7, b7, PySem.W.mg_of X G a7⟩, ⟨_, _, D8, b8, PySem.W.mg_of X G a8⟩, ⟨_, _, D9, b9, PySem.W.mg_of X G a9⟩, ⟨_, _, D10, b10, PySem.W.mg_of X G a10⟩, ⟨_, _, D11, b11, PySem.W.mg_of X G a11⟩, ⟨_, _, D12, b12, PySem.W.mg_of X G a12⟩, ⟨_, _, D13, b13, PySem.W.mg_of X G a13⟩, ⟨_, _, D14, b14, PySem.W.mg_of X G a14⟩, ⟨_, _, D15, b15, PySem.W.mg_of X G a15⟩, ⟨_, _, D16, b16, PySem.W.mg_of X G a16⟩, ⟨_, _, D17, b17, PySem.W.mg_of X G a17⟩⟩
  exact ⟨PySem.W.fnOf "law" "law" (defArgs s_law) (defBody s_law) (defScope s_law) .none kV17 dc17 pm17 an17 cd17 ct17, fun s v => .of_eq rfl, fun base _ _ => ⟨mg, ok_law (NW := NW) T (all_ok NW T B kk) D17⟩⟩
end Law

set_option maxHeartbeats 1000000
namespace Law
open PySem PySem.Spec PyProof.Rows L2 Sh
local macro_rules | `(tactic| walk_at "go") => `(tactic| simp only [k_bnd, k_ret, k_ok, k_bad, k_badM, k_exc, k_lft, k_ite, k_ite', o_some, o_none, o_ite, v_some, k_var, k_c, k_op, k_call, k_call0, k_cb, k_nil, k_cons, k_tup, k_lst, k_bOf, k_bAnd, k_bOr, k_bNot, k_and, k_or, k_not, k_if, k_chain, k_inC, k_neg, k_bm, k_get2, k_pnone, k_psome, k_sl, k_pnil, k_pcons, k_dic, k_gix, k_seq, k_nx, k_rt, k_sbad, k_snil, k_spass, k_set, k_sret, k_sretN, k_sexp, k_sif, k_asg, k_par2, k_par3, k_aug, k_put, k_seqI, k_range1, k_forI, k_lc, List.getElem?_cons_zero, List.getElem?_cons_succ, List.set_cons_zero, List.set_cons_succ, List.length_cons, List.length_nil, if_true, if_false, Bool.not_true, Bool.not_false, Bool.false_eq_true, ite_true, ite_false, reduceIte, Nat.reduceAdd, Nat.zero_add])
local macro_rules | `(tactic| walk_at "gg") => `(tactic| simp only [k_bnd, k_ret, k_ok, k_bad, k_badM, k_exc, k_lft, k_ite, k_ite', o_some, o_none, o_ite, v_some, k_var, k_c, k_op, k_call, k_call0, k_cb, k_nil, k_cons, k_tup, k_lst, k_bOf, k_bAnd, k_bOr, k_bNot, k_and, k_or, k_not, k_if, k_chain, k_inC, k_neg, k_bm, k_get2, k_pnone, k_psome, k_sl, k_pnil, k_pcons, k_dic, k_gix, k_seq, k_nx, k_rt, k_sbad, k_snil, k_spass, k_set, k_sret, k_sretN, k_sexp, k_sif, k_asg, k_par2, k_par3, k_aug, k_put, k_seqI, k_range1, k_forI, k_lc, List.getElem?_cons_zero, List.getElem?_cons_succ, List.set_cons_zero, List.set_cons_succ, List.length_cons, List.length_nil, if_true, if_false, Bool.not_true, Bool.not_false, Bool.false_eq_true, ite_true, ite_false, reduceIte, Nat.reduceAdd, Nat.zero_add, k_sortSet, k_range2, iadd_i, add_i, sub_i, eq_i, eq_s, ne_i, ne_s, ne_b, lt_i, le_i, gt_i, ge_i, ix_0, ix_1, ix_2, flat_str, flat_int, flat_non, sz_0, sz_1, sz_2, sz_3, sz_4, sz_5, sz_6, sz_7, sz_8, sz_9, decide_eq_true_eq, Bool.not_eq_eq_eq_not, decide_eq_false_iff_not, decide_true, decide_false, true_and, and_true, exists_eq_left, inC_strs, not_true_eq_false, not_false_eq_true])
local macro_rules | `(tactic| walk_at "gz") => `(tactic| simp only [k_bnd, k_ret, k_ok, k_bad, k_badM, k_exc, k_lft, k_ite, k_ite', o_some, o_none, o_ite, v_some, k_var, k_c, k_op, k_call, k_call0, k_cb, k_nil, k_cons, k_tup, k_lst, k_bOf, k_bAnd, k_bOr, k_bNot, k_and, k_or, k_not, k_if, k_chain, k_inC, k_neg, k_bm, k_get2, k_pnone, k_psome, k_sl, k_pnil, k_pcons, k_dic, k_gix, k_seq, k_nx, k_rt, k_sbad, k_snil, k_spass, k_set, k_sret, k_sretN, k_sexp, k_sif, k_asg, k_par2, k_par3, k_aug, k_put, k_seqI, k_range1, k_forI, k_lc, List.getElem?_cons_zero, List.getElem?_cons_succ, List.set_cons_zero, List.set_cons_succ, List.length_cons, List.length_nil, if_true, if_false, Bool.not_true, Bool.not_false, Bool.false_eq_true, ite_true, ite_false, reduceIte, Nat.reduceAdd, Nat.zero_add, k_sortSet, k_range2, iadd_i, add_i, sub_i, eq_i, eq_s, ne_i, ne_s, ne_b, lt_i, le_i, gt_i, ge_i, ix_0, ix_1, ix_2, flat_str, flat_int, flat_non, sz_0, sz_1, sz_2, sz_3, sz_4, sz_5, sz_6, sz_7, sz_8, sz_9, decide_eq_true_eq, Bool.not_eq_eq_eq_not, decide_eq_false_iff_not, decide_true, decide_false, true_and, and_true, exists_eq_left, inC_strs, not_true_eq_false, not_false_eq_true, k_isE, k_tryAs, k_tryO, k_raiseA, k_raise, Bool.true_eq_false, reduceCtorEq, ne_eq])
theorem fb_draws {n NW s g c : Nat} (h : 2 ≤ n) : Draws s g c (Dr s g c) (lev NW n).law_take (runDef 2 (bPick (lev NW n).law_take)) := by
  obtain ⟨m, rfl⟩ := Nat.exists_eq_add_of_le' h
  exact draws_dr
theorem fb_begun {n NW : Nat} {ns : List Int} (h : 1 ≤ n) (hn : ns.length ≤ 63) : Ok ((lev NW n).law_begun [.loc 0] [.rol (ns.map D.int)]) fun d st' => d = .loc 2 ∧ Dr 2 1 3 st' := by
  obtain ⟨m, rfl⟩ := Nat.exists_eq_add_of_le' h
  exact begun_ok hn
section
variable {n NW : Nat} {z : Str}
theorem fc_blanks (h : 1 ≤ n) (hN : 60000 ≤ NW) (hz : z.length ≤ 50000) : BlSp z (lev NW n).blanks_passed := by
  obtain ⟨m, rfl⟩ := Nat.exists_eq_add_of_le' h
  intro k p r i st hi hd hr
  exact blanks_passed_sp hz hN hi hd hr
theorem fc_run (h : 1 ≤ n) (hN : 60000 ≤ NW) (hz : z.length ≤ 50000) : RnSp z (lev NW n).run_at := by
  obtain ⟨m, rfl⟩ := Nat.exists_eq_add_of_le' h
  intro p v r i st hi hd hv hr
  exact run_at_sp hz hN hi hd hv hr
theorem fc_is_name {d : D} {st : Sto} (h : 1 ≤ n) (hd : Fit st d) : Ok ((lev NW n).is_name [d] st) fun e st' => e = .bl (nmV d) ∧ Ext st st' := by
  obtain ⟨m, rfl⟩ := Nat.exists_eq_add_of_le' h
  exact is_name_sp hd
theorem fc_leaf_at {v : Str} {st : Sto} (h : 2 ≤ n) (hv : Name v) : Ok ((lev NW n).leaf_read [.str v, .int 3] st) fun d st' => d = .tup [.str "at", .str v] ∧ Ext st st' := by
  obtain ⟨m, rfl⟩ := Nat.exists_eq_add_of_le' h
  have ha := name_asc hv
  refine leaf_at_sp hv (fun st => ?_) st
  refine Ok.imp (fc_is_name (n := m + 1) (by omega) (.str ha.1 (by omega))) fun d s1 ⟨e1, e2⟩ => ⟨?_, e2⟩
  rw [e1, show nmV (.str v) = nmS v from rfl, name_nm hv]
end
def aT (v : Nat) : Str := mkT (List.replicate v 97)
theorem a_name : ∀ v, 1 ≤ v → v ≤ 4 → Name (aT v) := by
  intro v h1 h2
  have : v = 1 ∨ v = 2 ∨ v = 3 ∨ v = 4 := by omega
  rcases this with rfl | rfl | rfl | rfl <;> exact ⟨by decide +kernel, by decide +kernel⟩
theorem a_mul {v : Int} (h0 : 0 ≤ v) (h1 : v < 5) (st : Sto) : oMulX (.str (Str.ofString "a")) (.int v) st = some (.str (aT v.toNat), st) := by
  have : v = 0 ∨ v = 1 ∨ v = 2 ∨ v = 3 ∨ v = 4 := by omega
  rcases this with rfl | rfl | rfl | rfl | rfl <;> rfl
def opT (v : Nat) : Str := mkT (40 :: List.replicate v 97)
theorem op_add {v : Nat} (h : v < 5) (st : Sto) : oAdd (.str (Str.ofString "(")) (.str (aT v)) st = some (.str (opT v), st) := by
  have : v = 0 ∨ v = 1 ∨ v = 2 ∨ v = 3 ∨ v = 4 := by omega
  rcases this with rfl | rfl | rfl | rfl | rfl <;> rfl
theorem op_l (v : Nat) : (opT v).cps.toList = 40 :: List.replicate v 97 := mkT_l _
theorem lf97 : inLF 97 = true := by decide +kernel
theorem op_asc (v : Nat) : ascS (opT v) := by
  intro c hc
  rw [op_l] at hc
  rcases List.mem_cons.mp hc with rfl | hc
  · decide
  · rw [List.eq_of_mem_replicate hc]
    decide
theorem rep_lf (v : Nat) : ∀ c ∈ List.replicate v 97, inLF c = true := fun c hc => by rw [List.eq_of_mem_replicate hc]; exact lf97
section
variable {n NW v : Nat} {st : Sto}
abbrev NoT {α : Type} (r : R α) (st : Sto) : Prop := OkX r (fun _ _ => False) fun c st' => c = "NoText" ∧ Ext st st'
theorem fc_leaf_none (h : 3 ≤ n) (st : Sto) : NoT ((lev NW n).leaf_read [.str (mkT []), .int 3] st) st := by
  obtain ⟨m, rfl⟩ := Nat.exists_eq_add_of_le' h
  show OkX (runDef 2 (g_leaf_read (lev NW (m + 2)).number_read (lev NW (m + 2)).size_of (lev NW (m + 2)).is_name) _ st) _ _
  rw [k_run, st_2_2]
  unfold g_leaf_read
  walk_at "gg"
  rw [sl_txt (by decide)]
  walk_at "gg"
  rw [cut_first, show oIn (.str (mkT ((mkT []).cps.toList.take 1))) (.str (Str.ofString "0123456789")) st = some (.bl (strIn (Str.ofString "0123456789") (mkT [])), st) from rfl, show strIn (Str.ofString "0123456789") (mkT []) = true from by decide +kernel]
  walk_at "gg"
  rw [if_neg (fun q => q (by decide +kernel))]
  try walk_at "gg"
  refine OkX.imp (fc_is_name (n := m + 2) (by omega) (.str (fun c hc => nomatch hc) (by decide))) (fun d s1 ⟨e1, e2⟩ => ?_) (fun _ _ z => z.elim)
  subst e1
  rw [show nmV (.str (mkT [])) = false from by decide +kernel]
  try walk_at "gg"
  exact ⟨rfl, e2⟩
/-- behind the bracket: a name, or nothing -/
theorem fc_inner (h : 10 ≤ n) (hN : 60000 ≤ NW) (hv : v < 5) (deep : Int) (hd : 1 ≤ deep) : (1 ≤ v → Ok ((lev NW n).part_read [.str (opT v), .int 1, .int 3, .int deep] st) fun d st' => d = .tup [.tup [.str "at", .str (aT v)], .int ((1 + v : Nat) : Int)] ∧ Ext st st') ∧
    (v = 0 → NoT ((lev NW n).part_read [.str (opT v), .int 1, .int 3, .int deep] st) st) := by
  obtain ⟨m, rfl⟩ := Nat.exists_eq_add_of_le' h
  have hz : (opT v).length ≤ 50000 := by rw [← len_toL, op_l, List.length_cons, List.length_replicate]; omega
  refine ⟨fun h1 => ?_, fun h0 => ?_⟩
  · obtain ⟨k, rfl⟩ : ∃ k, v = k + 1 := ⟨v - 1, by omega⟩
    have := part_word_sp (st := st) (y := 3) (rec := (lev NW (m + 9)).part_read) (leaf := (lev NW (m + 9)).leaf_read) hz (fc_blanks (n := m + 9) (by omega) hN hz) (fc_run (n := m + 9) (by omega) hN hz) hd (p := 1) (k := 0) (c := 97) (u := List.replicate k 97) (i := 1) (d := .tup [.str "at", .str (aT (k + 1))]) rfl (r := []) (by rw [op_l]; simp [List.replicate_succ]) (fun c t q => nomatch q) (by decide) (by decide) (fun x hx => rep_lf (k + 1) x (by rw [List.replicate_succ]; exact hx)) (fun st => fc_leaf_at (by omega) (a_name _ h1 (by omega)))
    refine Ok.imp this fun d st' ⟨e, x⟩ => ⟨?_, x⟩
    rw [e]
    simp
  · subst h0
    show OkX (runDef 7 (g_part_read (lev NW (m + 9)).blanks_passed (lev NW (m + 9)).run_at (lev NW (m + 9)).leaf_read (lev NW (m + 9)).part_read) _ st) _ _
    rw [k_run, st_7_4]
    unfold g_part_read
    try walk_at "gg"
    rw [if_neg (by omega)]
    refine OkX.imp (fc_blanks (z := opT 0) (n := m + 9) (by omega) hN hz 0 1 [] 1 st rfl (by rw [op_l]; rfl) (fun t q => nomatch q)) (fun d s1 ⟨e1, e2⟩ => ?_) (fun _ _ z => z.elim)
    subst e1; subst e2
    try walk_at "gg"
    rw [sl_txt (by omega), cut_one, show ((opT 0).cps.toList.drop (1 + 0)).take 1 = [] from rfl]
    try walk_at "gg"
    rw [open_is, if_pos (fun q => by have := congrArg Str.length q; exact absurd this (by decide))]
    refine OkX.imp (fc_run (z := opT 0) (n := m + 9) (by omega) hN hz (1 + 0) [] [] _ s1 rfl (by rw [op_l]; rfl) (fun c hc => nomatch hc) (fun c t q => nomatch q)) (fun d s2 ⟨e1, e2⟩ => ?_) (fun _ _ z => z.elim)
    subst e1; subst e2
    try walk_at "gg"
    refine OkX.imp (fc_leaf_none (by omega) s2) (fun _ _ z => z.elim) fun c s3 z => z
/-- the text is none -/
theorem fc_read (h : 20 ≤ n) (hN : 60000 ≤ NW) (hv : v < 5) : NoT ((lev NW n).read_term [.str (opT v), .int 3] st) st := by
  obtain ⟨m, rfl⟩ := Nat.exists_eq_add_of_le' h
  have hl : (opT v).length = v + 1 := by rw [← len_toL, op_l, List.length_cons, List.length_replicate]
  have hz : (opT v).length ≤ 50000 := by omega
  show OkX (runDef 4 (g_read_term (lev NW (m + 19)).part_read (lev NW (m + 19)).blanks_passed (lev NW (m + 19)).is_term) _ st) _ _
  rw [k_run, st_4_2]
  unfold g_read_term
  try walk_at "gg"
  rw [isi_str (.str (op_asc v) (by omega))]
  try walk_at "gg"
  have key : NoT ((lev NW (m + 19)).part_read [.str (opT v), .int 0, .int 3, .int 60] st) st := by
    show OkX (runDef 7 (g_part_read (lev NW (m + 18)).blanks_passed (lev NW (m + 18)).run_at (lev NW (m + 18)).leaf_read (lev NW (m + 18)).part_read) _ st) _ _
    rw [k_run, st_7_4]
    unfold g_part_read
    try walk_at "gg"
    rw [if_neg (by omega)]
    refine OkX.imp (fc_blanks (z := opT v) (n := m + 18) (by omega) hN hz 0 0 (40 :: List.replicate v 97) 0 st rfl (by rw [op_l]; rfl) (fun t q => by cases q)) (fun d s1 ⟨e1, e2⟩ => ?_) (fun _ _ z => z.elim)
    subst e1; subst e2
    try walk_at "gg"
    rw [sl_txt (by omega), cut_one, op_l]
    try walk_at "gg"
    rw [open_is, if_neg (fun q => q rfl)]
    try walk_at "gg"
    obtain ⟨hi1, hi2⟩ := fc_inner (n := m + 18) (NW := NW) (v := v) (st := s1) (by omega) hN hv 59 (by omega)
    by_cases h1 : 1 ≤ v
    · refine OkX.imp (hi1 h1) (fun d s2 ⟨e1, x2⟩ => ?_) (fun _ _ z => z.elim)
      subst e1
      try walk_at "gg"
      refine OkX.imp (fc_blanks (z := opT v) (n := m + 18) (by omega) hN hz 0 (1 + v) [] _ s2 rfl (by rw [op_l, List.drop_eq_nil_of_le (by simp; omega)]; rfl) (fun t q => by cases q)) (fun d s3 ⟨e1, e2⟩ => ?_) (fun _ _ z => z.elim)
      subst e1; subst e2
      try walk_at "gg"
      rw [k_gin]
      try walk_at "gg"
      rw [sl_txt (by omega), cut_one, op_l, List.drop_eq_nil_of_le (by simp; omega)]
      try walk_at "gg"
      rw [if_pos (by decide +kernel)]
      try walk_at "gz"
      first | exact x2 | exact ⟨rfl, x2⟩
    · exact OkX.imp (hi2 (by omega)) (fun _ _ z => z.elim) fun c s3 z => z
  exact OkX.imp key (fun _ _ z => z.elim) fun c s1 z => z
def whichC (w : Int) : Str := if w = 0 then "NoProgram" else if w = 1 then "NoWorth" else if w = 2 then "NoPlace" else if w = 3 then "NoPaper" else if w = 4 then "NoText" else if w = 5 then "TooMany" else "NoText"
theorem fc_raised {w : Int} (h : 30 ≤ n) (hN : 60000 ≤ NW) (hv : v < 5) (h0 : 0 ≤ w) (h1 : w < 7) : OkX ((lev NW n).law_raised [.int w, .str (aT v)] st) (fun _ _ => False) fun c st' => c = whichC w ∧ Ext st st' := by
  obtain ⟨m, rfl⟩ := Nat.exists_eq_add_of_le' h
  show OkX (runDef 2 (b_law_raised (lev NW (m + 29)) NW) _ st) _ _
  rw [k_run, st_2_2]
  unfold b_law_raised
  have : w = 0 ∨ w = 1 ∨ w = 2 ∨ w = 3 ∨ w = 4 ∨ w = 5 ∨ w = 6 := by omega
  rcases this with rfl | rfl | rfl | rfl | rfl | rfl | rfl
  · walk_at "gz"
    exact ⟨rfl, Ext.refl⟩
  · walk_at "gz"
    exact ⟨rfl, Ext.refl⟩
  · walk_at "gz"
    exact ⟨rfl, Ext.refl⟩
  · walk_at "gz"
    exact ⟨rfl, Ext.refl⟩
  · walk_at "gz"
    exact ⟨rfl, Ext.refl⟩
  · walk_at "gz"
    exact ⟨rfl, Ext.refl⟩
  · walk_at "gz"
    rw [op_add hv]
    try walk_at "gz"
    exact OkX.imp (fc_read (by omega) hN hv) (fun _ _ z => z.elim) fun c s1 z => z
theorem which_six : ∀ w : Int, whichC w ∈ sixC := by
  intro w
  unfold whichC
  repeat (split; · decide +kernel)
  decide +kernel
theorem six_ups : ∀ c ∈ sixC, upsOf tabE c = some (upsC c) := by decide +kernel
theorem fc_kind {c : Str} {l : Nat} (h : 1 ≤ n) (hl : st[l]? = some (.err c)) (hc : c ∈ sixC) : Ok ((lev NW n).law_kind [.loc l] st) fun d st' => d = .str (kindOf c) ∧ Ext st st' := by
  obtain ⟨m, rfl⟩ := Nat.exists_eq_add_of_le' h
  exact kind_sp hl hc (six_ups c hc)
theorem which_name (w : Int) (h0 : 0 ≤ w) (h1 : w < 7) : atI ([.str "program", .str "worth", .str "place", .str "paper", .str "text", .str "many", .str "text"] : List D) w = some (.str (kindOf (whichC w))) := by
  have : w = 0 ∨ w = 1 ∨ w = 2 ∨ w = 3 ∨ w = 4 ∨ w = 5 ∨ w = 6 := by omega
  rcases this with rfl | rfl | rfl | rfl | rfl | rfl | rfl <;> rfl
end
theorem math : ∀ ns : List Int, ns.length ≤ 63 → (∀ z ∈ ns, Builtin.Int.intBits z ≤ 1048576) → ∃ st', (lev 100000 (90 + 1)).law [.loc 0] [.rol (ns.map D.int)] = .ok (.bl true) st' := by
  intro ns hn _
  have key : Ok ((lev 100000 (90 + 1)).law [.loc 0] [.rol (ns.map D.int)]) fun d _ => d = .bl true := by
    show Ok (runDef 6 (b_law (lev 100000 90) 100000) [.loc 0] [.rol (ns.map D.int)]) _
    unfold Ok
    rw [k_run, st_6_1]
    unfold b_law
    refine cut_seq (fun en' st' => en' = [some (.loc 0), some (.loc 2), none, none, none, none] ∧ Dr 2 1 3 st') ?_ (fun en1 st1 hI => ?_)
    · walk_at "go"
      refine Ok.imp (fb_begun (by omega) hn) fun d st' ⟨e, h⟩ => ?_
      subst e
      exact ⟨by trivial, h⟩
    obtain ⟨rfl, hD1⟩ := hI
    refine cut_seq (fun en' st' => True) ?_ (fun en1 st5 hI => ?_)
    · walk_at "gg"
      rw [if_pos (by omega)]
      generalize Int.toNat 6 = q
      refine for_rng (n := q) (fun i en st => (∃ x2 x3 x4 : Option D, en = [some (.loc 0), some (.loc 2), x2, x3, x4, none]) ∧ Dr 2 1 3 st) ⟨⟨_, _, _, rfl⟩, hD1⟩ (fun i en st hi hK => ?_) (fun _ _ _ => trivial)
      obtain ⟨⟨x2, x3, x4, rfl⟩, hD⟩ := hK
      refine ⟨_, rfl, ?_⟩
      refine cut_seq (fun en' st' => (∃ (w : Int), en' = [some (.loc 0), some (.loc 2), some (.int i), some (.int w), x4, none] ∧ 0 ≤ w ∧ w < 7) ∧ Dr 2 1 3 st') ?_ (fun en1 s1 hI => ?_)
      · walk_at "gz"
        refine Ok.imp (fb_draws (by omega) |>.take hD (by omega) (by omega)) fun d s1 ⟨⟨v1, e1, h1, h2⟩, hD3, hG1⟩ => ?_
        subst e1
        try walk_at "gz"
        rw [mod_i (by omega)]
        exact ⟨⟨_, rfl, Int.emod_nonneg _ (by omega), Int.emod_lt_of_pos _ (by omega)⟩, hD3⟩
      obtain ⟨⟨w, rfl, hw0, hw1⟩, hD1⟩ := hI
      walk_at "gz"
      refine Ok.imp (fb_draws (by omega) |>.take hD1 (by omega) (by omega)) fun d s2 ⟨⟨v1, e1, h1, h2⟩, hD2, hG2⟩ => ?_
      subst e1
      try walk_at "gz"
      rw [a_mul h1 h2]
      try walk_at "gz"
      refine OkX.imp (fc_raised (by omega) (by omega) (v := v1.toNat) (by omega) hw0 hw1) (fun _ _ z => z.elim) fun c s3 ⟨ec, xc⟩ => ?_
      subst ec
      have hs6 := which_six w
      rw [show upsOf tabE (whichC w) = some (upsC (whichC w)) from six_ups _ hs6]
      try walk_at "gz"
      rw [if_pos (ups_sum _)]
      try walk_at "gz"
      have hD3 : Dr 2 1 3 (s3 ++ [O.err (whichC w)]) := (xc.dr hD2).app
      refine Ok.imp (fc_kind (by omega) (last_at (st := s3) (b := .err (whichC w))) hs6) fun d s4 ⟨e1, x4'⟩ => ?_
      subst e1
      try walk_at "gz"
      rw [ix_lst (lst_at last_at) (which_name w hw0 hw1)]
      try walk_at "gz"
      exact ⟨⟨_, _, _, rfl⟩, (x4'.dr hD3).app⟩
    walk_at "go"
  obtain ⟨d, st', e, rfl⟩ := Ok.out key
  exact ⟨st', e⟩
end Law

open PySem PySem.W PyProof.Rows
set_option maxHeartbeats 0 in
theorem PySem.Challenge.cw_turngrow_k08_refusals_apart_holds : PySem.Challenge.rw_turngrow_k08_refusals_apart.Holds := by
  w_on; o_law; k_head; (case hw => w_witness2)
  k_fill
  refine Sh.law_ok (l := PySem.Challenge.rw_turngrow_k08_refusals_apart) (n := 63) (k := 90 + 1) (x := "_law_script") rfl (by decide) rfl ⟨rfl, by decide, by decide⟩ (fun w h Y => PySem.W.kIn_of Y) (Law.lev 100000 (90 + 1)).law ?F Law.math
  case F =>
    intro w mg fa h KX G hmg
    refine' Law.all_mk 90 KX G hmg ?a0 ?l0 ?c0 ?k0 ?a1 ?l1 ?c1 ?k1 ?a2 ?l2 ?c2 ?k2 ?a3 ?l3 ?c3 ?k3 ?a4 ?l4 ?c4 ?k4 ?a5 ?l5 ?c5 ?k5 ?a6 ?l6 ?c6 ?k6 ?a7 ?l7 ?c7 ?k7 ?a8 ?l8 ?c8 ?k8 ?a9 ?l9 ?c9 ?k9 ?a10 ?l10 ?c10 ?k10 ?a11 ?l11 ?c11 ?k11 ?a12 ?l12 ?c12 ?k12 ?a13 ?l13 ?c13 ?k13 ?a14 ?l14 ?c14 ?k14 ?a15 ?l15 ?c15 ?k15 ?a16 ?l16 ?c16 ?k16 ?a17 ?l17 ?c17 ?k17 ?z_abs ?z_all ?z_bool ?z_int ?z_isinstance ?z_len ?z_list ?z_range ?z_str ?z_tuple ?y_FIGURES ?y_KEPT ?w_KEPT ?y_LETTERS ?y_MOST_FIGURES ?y_MOST_PARTS ?y_MOST_SIGNS ?y_MOST_WITHIN ?y_WORDS ?w_WORDS ?y_WORDS_BY_SIGN ?w_WORDS_BY_SIGN ?q_WORDS_BY_SIGN ?p_WORDS_BY_SIGN ?o_WORDS_BY_SIGN ?y_NoPaper ?e3_NoPaper ?e4_NoPaper ?e1_NoPaper ?e2_NoPaper ?e5_NoPaper ?y_NoPlace ?e3_NoPlace ?e4_NoPlace ?e1_NoPlace ?e2_NoPlace ?e5_NoPlace ?y_NoProgram ?e3_NoProgram ?e4_NoProgram ?e1_NoProgram ?e2_NoProgram ?e5_NoProgram ?y_NoText ?e3_NoText ?e4_NoText ?e1_NoText ?e2_NoText ?e5_NoText ?y_NoWorth ?e3_NoWorth ?e4_NoWorth ?e1_NoWorth ?e2_NoWorth ?e5_NoWorth ?y_SumError ?e3_SumError ?e4_SumError ?e5_SumError ?y_TooMany ?e3_TooMany ?e4_TooMany ?e1_TooMany ?e2_TooMany ?e5_TooMany ?e6 ?e7 ?f1_NoPaper ?f2_NoPaper ?f3_NoPaper ?f4_NoPaper ?f5_NoPaper ?g_NoPaper_NoPaper ?g_NoPaper_NoPlace ?g_NoPaper_NoProgram ?g_NoPaper_NoText ?g_NoPaper_NoWorth ?g_NoPaper_SumError ?g_NoPaper_TooMany ?g_NoPaper_ValueError ?f1_NoPlace ?f2_NoPlace ?f3_NoPlace ?f4_NoPlace ?f5_NoPlace ?g_NoPlace_NoPaper ?g_NoPlace_NoPlace ?g_NoPlace_NoProgram ?g_NoPlace_NoText ?g_NoPlace_NoWorth ?g_NoPlace_SumError ?g_NoPlace_TooMany ?g_NoPlace_ValueError ?f1_NoProgram ?f2_NoProgram ?f3_NoProgram ?f4_NoProgram ?f5_NoProgram ?g_NoProgram_NoPaper ?g_NoProgram_NoPlace ?g_NoProgram_NoProgram ?g_NoProgram_NoText ?g_NoProgram_NoWorth ?g_NoProgram_SumError ?g_NoProgram_TooMany ?g_NoProgram_ValueError ?f1_NoText ?f2_NoText ?f3_NoText ?f4_NoText ?f5_NoText ?g_NoText_NoPaper ?g_NoText_NoPlace ?g_NoText_NoProgram ?g_NoText_NoText ?g_NoText_NoWorth ?g_NoText_SumError ?g_NoText_TooMany ?g_NoText_ValueError ?f1_NoWorth ?f2_NoWorth ?f3_NoWorth ?f4_NoWorth ?f5_NoWorth ?g_NoWorth_NoPaper ?g_NoWorth_NoPlace ?g_NoWorth_NoProgram ?g_NoWorth_NoText ?g_NoWorth_NoWorth ?g_NoWorth_SumError ?g_NoWorth_TooMany ?g_NoWorth_ValueError ?f1_TooMany ?f2_TooMany ?f3_TooMany ?f4_TooMany ?f5_TooMany ?g_TooMany_NoPaper ?g_TooMany_NoPlace ?g_TooMany_NoProgram ?g_TooMany_NoText ?g_TooMany_NoWorth ?g_TooMany_SumError ?g_TooMany_TooMany ?g_TooMany_ValueError ?z_ValueError
    (case a0 => k_is); (case l0 => k_is); (case c0 => k_is); (case k0 => k_is); (case a1 => k_is); (case l1 => k_is); (case c1 => k_is); (case k1 => k_is); (case a2 => k_is); (case l2 => k_is); (case c2 => k_is); (case k2 => k_is); (case a3 => k_is); (case l3 => k_is); (case c3 => k_is); (case k3 => k_is); (case a4 => k_is); (case l4 => k_is); (case c4 => k_is); (case k4 => k_is); (case a5 => k_is); (case l5 => k_is); (case c5 => k_is); (case k5 => k_is); (case a6 => k_is); (case l6 => k_is); (case c6 => k_is); (case k6 => k_is); (case a7 => k_is); (case l7 => k_is); (case c7 => k_is); (case k7 => k_is); (case a8 => k_is); (case l8 => k_is); (case c8 => k_is); (case k8 => k_is); (case a9 => k_is); (case l9 => k_is); (case c9 => k_is); (case k9 => k_is); (case a10 => k_is); (case l10 => k_is); (case c10 => k_is); (case k10 => k_is); (case a11 => k_is); (case l11 => k_is); (case c11 => k_is); (case k11 => k_is); (case a12 => k_is); (case l12 => k_is); (case c12 => k_is); (case k12 => k_is); (case a13 => k_is); (case l13 => k_is); (case c13 => k_is); (case k13 => k_is); (case a14 => k_is); (case l14 => k_is); (case c14 => k_is); (case k14 => k_is); (case a15 => k_is); (case l15 => k_is); (case c15 => k_is); (case k15 => k_is); (case a16 => k_is); (case l16 => k_is); (case c16 => k_is); (case k16 => k_is); (case a17 => k_is); (case l17 => k_is); (case c17 => k_is); (case k17 => k_is); (case z_abs => k_is); (case z_all => k_is); (case z_bool => k_is); (case z_int => k_is); (case z_isinstance => k_is); (case z_len => k_is); (case z_list => k_is); (case z_range => k_is); (case z_str => k_is); (case z_tuple => k_is); (case y_FIGURES => k_is); (case y_KEPT => k_is); (case w_KEPT => k_is); (case y_LETTERS => k_is); (case y_MOST_FIGURES => k_is); (case y_MOST_PARTS => k_is); (case y_MOST_SIGNS => k_is); (case y_MOST_WITHIN => k_is); (case y_WORDS => k_is); (case w_WORDS => k_is); (case y_WORDS_BY_SIGN => k_is); (case w_WORDS_BY_SIGN => k_is); (case q_WORDS_BY_SIGN => first | exact ⟨⟨_, _, rfl, rfl⟩, ⟨_, _, rfl, rfl⟩, ⟨_, _, rfl, rfl⟩, trivial⟩ | k_is); (case p_WORDS_BY_SIGN => exact .cons ⟨_, _, rfl, rfl⟩ (.cons ⟨_, _, rfl, rfl⟩ (.cons ⟨_, _, rfl, rfl⟩ (.nil)))); (case o_WORDS_BY_SIGN => first | rfl | decide | k_is); (case y_NoPaper => k_is); (case e3_NoPaper => k_is); (case e4_NoPaper => k_is); (case e1_NoPaper => first | k_exc | k_is); (case e2_NoPaper => k_is); (case e5_NoPaper => k_is); (case y_NoPlace => k_is); (case e3_NoPlace => k_is); (case e4_NoPlace => k_is); (case e1_NoPlace => first | k_exc | k_is); (case e2_NoPlace => k_is); (case e5_NoPlace => k_is); (case y_NoProgram => k_is); (case e3_NoProgram => k_is); (case e4_NoProgram => k_is); (case e1_NoProgram => first | k_exc | k_is); (case e2_NoProgram => k_is); (case e5_NoProgram => k_is); (case y_NoText => k_is); (case e3_NoText => k_is); (case e4_NoText => k_is); (case e1_NoText => first | k_exc | k_is); (case e2_NoText => k_is); (case e5_NoText => k_is); (case y_NoWorth => k_is); (case e3_NoWorth => k_is); (case e4_NoWorth => k_is); (case e1_NoWorth => first | k_exc | k_is); (case e2_NoWorth => k_is); (case e5_NoWorth => k_is); (case y_SumError => k_is); (case e3_SumError => k_is); (case e4_SumError => k_is); (case e5_SumError => k_is); (case y_TooMany => k_is); (case e3_TooMany => k_is); (case e4_TooMany => k_is); (case e1_TooMany => first | k_exc | k_is); (case e2_TooMany => k_is); (case e5_TooMany => k_is); (case e6 => k_is); (case e7 => k_is); (case f1_NoPaper => k_is); (case f2_NoPaper => k_is); (case f3_NoPaper => k_is); (case f4_NoPaper => k_is); (case f5_NoPaper => k_is); (case g_NoPaper_NoPaper => k_is); (case g_NoPaper_NoPlace => k_is); (case g_NoPaper_NoProgram => k_is); (case g_NoPaper_NoText => k_is); (case g_NoPaper_NoWorth => k_is); (case g_NoPaper_SumError => k_is); (case g_NoPaper_TooMany => k_is); (case g_NoPaper_ValueError => k_is); (case f1_NoPlace => k_is); (case f2_NoPlace => k_is); (case f3_NoPlace => k_is); (case f4_NoPlace => k_is); (case f5_NoPlace => k_is); (case g_NoPlace_NoPaper => k_is); (case g_NoPlace_NoPlace => k_is); (case g_NoPlace_NoProgram => k_is); (case g_NoPlace_NoText => k_is); (case g_NoPlace_NoWorth => k_is); (case g_NoPlace_SumError => k_is); (case g_NoPlace_TooMany => k_is); (case g_NoPlace_ValueError => k_is); (case f1_NoProgram => k_is); (case f2_NoProgram => k_is); (case f3_NoProgram => k_is); (case f4_NoProgram => k_is); (case f5_NoProgram => k_is); (case g_NoProgram_NoPaper => k_is); (case g_NoProgram_NoPlace => k_is); (case g_NoProgram_NoProgram => k_is); (case g_NoProgram_NoText => k_is); (case g_NoProgram_NoWorth => k_is); (case g_NoProgram_SumError => k_is); (case g_NoProgram_TooMany => k_is); (case g_NoProgram_ValueError => k_is); (case f1_NoText => k_is); (case f2_NoText => k_is); (case f3_NoText => k_is); (case f4_NoText => k_is); (case f5_NoText => k_is); (case g_NoText_NoPaper => k_is); (case g_NoText_NoPlace => k_is); (case g_NoText_NoProgram => k_is); (case g_NoText_NoText => k_is); (case g_NoText_NoWorth => k_is); (case g_NoText_SumError => k_is); (case g_NoText_TooMany => k_is); (case g_NoText_ValueError => k_is); (case f1_NoWorth => k_is); (case f2_NoWorth => k_is); (case f3_NoWorth => k_is); (case f4_NoWorth => k_is); (case f5_NoWorth => k_is); (case g_NoWorth_NoPaper => k_is); (case g_NoWorth_NoPlace => k_is); (case g_NoWorth_NoProgram => k_is); (case g_NoWorth_NoText => k_is); (case g_NoWorth_NoWorth => k_is); (case g_NoWorth_SumError => k_is); (case g_NoWorth_TooMany => k_is); (case g_NoWorth_ValueError => k_is); (case f1_TooMany => k_is); (case f2_TooMany => k_is); (case f3_TooMany => k_is); (case f4_TooMany => k_is); (case f5_TooMany => k_is); (case g_TooMany_NoPaper => k_is); (case g_TooMany_NoPlace => k_is); (case g_TooMany_NoProgram => k_is); (case g_TooMany_NoText => k_is); (case g_TooMany_NoWorth => k_is); (case g_TooMany_SumError => k_is); (case g_TooMany_TooMany => k_is); (case g_TooMany_ValueError => k_is); (case z_ValueError => k_is)

