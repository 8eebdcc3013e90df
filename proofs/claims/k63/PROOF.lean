import PyProof.Rows.All
import Wide.All
import OpenK.AllK
import Wide.FinOn
import HandS.ForMost
import HandS.Exc
import HandS.TryOnly
import HandS.ExcOwn
import HandS.WordsExc
import HandS.TupAny
import HandS.Codes
import HandS.EndBits
import HandS.Conv
import HandS.StrMore
import HandS.IsInst
import HandS.More
import HandS.Small
import HandS.Style
import HandS.DictComp
import HandS.SetFor
import PyProof.Rows.SortShellAny
import HandS.Iter
import KE.GoesMore
import KE.KRevSl
import HandS.Text
import KE.SortData
import KE.KSortTup
import PyProof.TupleOfSeq
import HandS.TupMul
import KE.KItemsList
import HandS.ListItems
import HandS.Finally
import HandS.Call
import HandS.List
import PySem.Challenge.RW_turngrow_k63_spans_told
import HandS.ExcIs
import KE.KWords
import KE.DataCmp
import KE.GoesComp
import PyProof.NeKinds
set_option Elab.async false
set_option linter.all false
set_option maxRecDepth 100000
/-! ShA: what a def computes, as a function over plain data and a store of lists and dicts; the relation to the heap. -/
namespace Sh
open PySem PySem.Spec PyProof.Rows L2

/-- plain data: a tuple is its items; a list or dict is a place in the store -/
inductive D where
  | non | bl (b : Bool) | int (i : Int) | str (s : Str) | tup (xs : List D) | loc (l : Nat) | ty (n : String)
/-- what stands in the store: a list; a list that is only read; a dict by ints and texts; a dict by tuples of such; both as they are walked, and only read -/
inductive O where
  | lst (xs : List D)
  | rol (xs : List D)
  | dic (kvs : List (Key × D))
  | dit (kvs : List (List Key × D))
  | err (c : Str)
  | rod (kvs : List (Key × D))
  | rot (kvs : List (List Key × D))
abbrev Sto := List O
inductive R (α : Type) where
  | ok (a : α) (st : Sto)
  | exc (c : Str) (st : Sto)
  | bad
abbrev M (α : Type) := Sto → R α
def ret {α : Type} (a : α) : M α := fun st => .ok a st
def badM {α : Type} : M α := fun _ => .bad
def bnd {α β : Type} (m : M α) (f : α → M β) : M β := fun st => match m st with
  | .ok a st' => f a st'
  | .exc c st' => .exc c st'
  | .bad => .bad
def lft (o : Sto → Option (D × Sto)) : M D := fun st => match o st with
  | some (d, st') => .ok d st'
  | none => .bad
abbrev Ev := List (Option D)
abbrev EM := Ev → M D
abbrev BM := Ev → M Bool
abbrev AM := Ev → M (List D)

section
variable (ρ : List Addr) (H : Hp)
mutual
inductive Rep : D → V → Prop
  | non : Rep .non .non
  | bl (b : Bool) : Rep (.bl b) (.bl b)
  | int (i : Int) : Rep (.int i) (.int i)
  | str (s : Str) : Rep (.str s) (.str s)
  | tup {a : Addr} {ds : List D} {xs : List V} : H a = some (.tup xs) → RepL ds xs → Rep (.tup ds) (.ref a)
  | loc {l : Nat} {a : Addr} : ρ[l]? = some a → Rep (.loc l) (.ref a)
  | ty (n : String) : Rep (.ty n) (.ty n)
inductive RepL : List D → List V → Prop
  | nil : RepL [] []
  | cons {d : D} {ds : List D} {x : V} {xs : List V} : Rep d x → RepL ds xs → RepL (d :: ds) (x :: xs)
end
end
section
variable {ρ ρ' ρ'' : List Addr} {H H' H'' : Hp}
structure Le0 (ρ : List Addr) (H : Hp) (ρ' : List Addr) (H' : Hp) : Prop where
  pre : ρ <+: ρ'
  tup : ∀ a xs, H a = some (.tup xs) → H' a = some (.tup xs)
structure Le (ρ : List Addr) (H : Hp) (ρ' : List Addr) (H' : Hp) : Prop where
  pre : ρ <+: ρ'
  tup : ∀ a xs, H a = some (.tup xs) → H' a = some (.tup xs)
  frz : ∀ a o u, H a = some (.frz o u) → H' a = some (.frz o u)
theorem Le.to0 (e : Le ρ H ρ' H') : Le0 ρ H ρ' H' := ⟨e.pre, e.tup⟩
theorem Le0.trans (a : Le0 ρ H ρ' H') (b : Le0 ρ' H' ρ'' H'') : Le0 ρ H ρ'' H'' := ⟨a.pre.trans b.pre, fun x y h => b.tup x y (a.tup x y h)⟩
theorem Le.refl : Le ρ H ρ H := ⟨List.prefix_refl _, fun _ _ h => h, fun _ _ _ h => h⟩
theorem Le.trans (a : Le ρ H ρ' H') (b : Le ρ' H' ρ'' H'') : Le ρ H ρ'' H'' := ⟨a.pre.trans b.pre, fun x y h => b.tup x y (a.tup x y h), fun x o y h => b.frz x o y (a.frz x o y h)⟩
theorem Le.ext (e : Le ρ H ρ' H') (p : ρ' <+: ρ'') : Le ρ H ρ'' H' := ⟨e.pre.trans p, e.tup, e.frz⟩
theorem pre_get {l : Nat} {a : Addr} (p : ρ <+: ρ') (h : ρ[l]? = some a) : ρ'[l]? = some a := by
  obtain ⟨t, rfl⟩ := p
  rw [List.getElem?_append_left (List.getElem?_eq_some_iff.mp h).1]
  exact h
mutual
theorem Rep.mono0 (e : Le0 ρ H ρ' H') : ∀ {d : D} {x : V}, Rep ρ H d x → Rep ρ' H' d x
  | _, _, .non => .non
  | _, _, .bl b => .bl b
  | _, _, .int i => .int i
  | _, _, .str s => .str s
  | _, _, .tup h r => .tup (e.tup _ _ h) (RepL.mono0 e r)
  | _, _, .loc h => .loc (pre_get e.pre h)
  | _, _, .ty n => .ty n
theorem RepL.mono0 (e : Le0 ρ H ρ' H') : ∀ {ds : List D} {xs : List V}, RepL ρ H ds xs → RepL ρ' H' ds xs
  | _, _, .nil => .nil
  | _, _, .cons h r => .cons (Rep.mono0 e h) (RepL.mono0 e r)
end
theorem Rep.mono (e : Le ρ H ρ' H') {d : D} {x : V} (r : Rep ρ H d x) : Rep ρ' H' d x := Rep.mono0 e.to0 r
theorem RepL.mono (e : Le ρ H ρ' H') {ds : List D} {xs : List V} (r : RepL ρ H ds xs) : RepL ρ' H' ds xs := RepL.mono0 e.to0 r
theorem RepL.length : ∀ {ds : List D} {xs : List V}, RepL ρ H ds xs → ds.length = xs.length
  | _, _, .nil => rfl
  | _, _, .cons _ r => by rw [List.length_cons, List.length_cons, r.length]
theorem RepL.get : ∀ {ds : List D} {xs : List V} {i : Nat} {d : D}, RepL ρ H ds xs → ds[i]? = some d → ∃ x, xs[i]? = some x ∧ Rep ρ H d x
  | _, _, _, _, .nil, e => by simp at e
  | _, _, 0, _, .cons h _, e => by simp at e; subst e; exact ⟨_, rfl, h⟩
  | _, _, i + 1, d, .cons _ r, e => by
    obtain ⟨x, h1, h2⟩ := RepL.get (i := i) (d := d) r (by simpa using e)
    exact ⟨x, by simpa using h1, h2⟩
theorem RepL.append : ∀ {ds es : List D} {xs ys : List V}, RepL ρ H ds xs → RepL ρ H es ys → RepL ρ H (ds ++ es) (xs ++ ys)
  | _, _, _, _, .nil, s => s
  | _, _, _, _, .cons h r, s => .cons h (RepL.append r s)
theorem RepL.take : ∀ {ds : List D} {xs : List V} (n : Nat), RepL ρ H ds xs → RepL ρ H (ds.take n) (xs.take n)
  | _, _, 0, _ => .nil
  | _, _, _ + 1, .nil => .nil
  | _, _, n + 1, .cons h r => .cons h (RepL.take n r)
theorem RepL.drop : ∀ {ds : List D} {xs : List V} (n : Nat), RepL ρ H ds xs → RepL ρ H (ds.drop n) (xs.drop n)
  | _, _, 0, r => r
  | _, _, _ + 1, .nil => .nil
  | _, _, n + 1, .cons _ r => RepL.drop n r
theorem RepL.set {d : D} {x : V} (h : Rep ρ H d x) : ∀ {ds : List D} {xs : List V} (i : Nat), RepL ρ H ds xs → RepL ρ H (ds.set i d) (xs.set i x)
  | _, _, _, .nil => .nil
  | _, _, 0, .cons _ r => .cons h r
  | _, _, i + 1, .cons q r => .cons q (RepL.set h i r)
theorem RepL.erase : ∀ {ds : List D} {xs : List V} (i : Nat), RepL ρ H ds xs → RepL ρ H (ds.eraseIdx i) (xs.eraseIdx i)
  | _, _, _, .nil => .nil
  | _, _, 0, .cons _ r => r
  | _, _, i + 1, .cons q r => .cons q (RepL.erase i r)
theorem RepL.strs : ∀ {ds : List Str} {xs : List V}, RepL ρ H (ds.map D.str) xs → xs = ds.map V.str
  | [], _, .nil => rfl
  | s :: r, _, .cons h t => by
    cases h
    rw [RepL.strs t]
    rfl
theorem RepL.bls : ∀ {ds : List Bool} {xs : List V}, RepL ρ H (ds.map D.bl) xs → xs = ds.map V.bl
  | [], _, .nil => rfl
  | s :: r, _, .cons h t => by
    cases h
    rw [RepL.bls t]
    rfl
theorem RepL.of_strs : ∀ (ss : List Str), RepL ρ H (ss.map D.str) (ss.map V.str)
  | [] => .nil
  | s :: r => .cons (.str s) (RepL.of_strs r)
theorem RepL.of_ints : ∀ (ss : List Int), RepL ρ H (ss.map D.int) (ss.map V.int)
  | [] => .nil
  | s :: r => .cons (.int s) (RepL.of_ints r)
end

/-- a dict's pairs -/
def RepK {κ : Type} (ρ : List Addr) (H : Hp) (kvs : List (κ × D)) (us : List (κ × V)) : Prop := kvs.map (·.1) = us.map (·.1) ∧ RepL ρ H (kvs.map (·.2)) (us.map (·.2))
/-- a list that is only read: locked, or a constant of the module -/
def RolAt (K : PySem.W.Frag) (H : Hp) (a : Addr) (xs : List V) : Prop :=
  (∃ o, H a = some (.frz o (.lst xs))) ∨
    ∃ (o : Obj) (its : Array Value) (n : Nat), K.lookup a = some o ∧ o.cls = .type "list" ∧ o.dict = none ∧ o.data = .seq its n ∧ its.size ≤ sizeLine ∧ Vals xs its.toList
/-- an error that was caught, of the class cls -/
def ErrO (cls : Value) (a : Addr) : HO := .ext fun h => ∃ oe vs, h.get? a = some oe ∧ Zc cls none oe ∧ oe.data = .fields vs
/-- what stands at a place of the store -/
def ORep (K : PySem.W.Frag) (ρ : List Addr) (H : Hp) (a : Addr) : O → Prop
  | .lst ds => ∃ xs, H a = some (.lst xs) ∧ RepL ρ H ds xs
  | .rol ds => ∃ xs, RolAt K H a xs ∧ RepL ρ H ds xs
  | .dic kvs => ∃ us, H a = some (.dK us) ∧ RepK ρ H kvs us
  | .dit kvs => ∃ us, H a = some (.dT us) ∧ RepK ρ H kvs us
  | .rod kvs => ∃ us o, H a = some (.frz o (.dK us)) ∧ RepK ρ H kvs us
  | .rot kvs => ∃ us o, H a = some (.frz o (.dT us)) ∧ RepK ρ H kvs us
  | .err c => ∃ C, PySem.W.nsIn K mainGlobals c = some (some (.ref C)) ∧ H a = some (ErrO (.ref C) a)
def mutO : Option O → Bool
  | some (.lst _) => true
  | some (.dic _) => true
  | some (.dit _) => true
  | some (.rod _) => true
  | some (.rot _) => true
  | _ => false
/-- what can be changed -/
def wrO : Option O → Bool
  | some (.lst _) => true
  | some (.dic _) => true
  | some (.dit _) => true
  | _ => false
theorem wr_mut : ∀ {o : Option O}, wrO o = true → mutO o = true
  | some (.lst _), _ => rfl
  | some (.dic _), _ => rfl
  | some (.dit _), _ => rfl
structure StR (K : PySem.W.Frag) (ρ : List Addr) (H : Hp) (st : Sto) : Prop where
  len : ρ.length = st.length
  nd : ∀ (l m : Nat) (a : Addr), ρ[l]? = some a → ρ[m]? = some a → mutO st[l]? = true → mutO st[m]? = true → l = m
  ob : ∀ (l : Nat) (o : O) (a : Addr), st[l]? = some o → ρ[l]? = some a → ORep K ρ H a o
structure EnR (ρ : List Addr) (H : Hp) (en : Ev) (σ : L2.St) : Prop where
  len : en.length = σ.length
  at_ : ∀ (i : Nat) (d : D), en[i]? = some (some d) → ∃ v, σ[i]? = some (some v) ∧ Rep ρ H d v
section
variable {K : PySem.W.Frag} {ρ ρ' : List Addr} {H H' : Hp} {st : Sto} {en : Ev} {σ : L2.St}
theorem EnR.mono (e : Le ρ H ρ' H') (r : EnR ρ H en σ) : EnR ρ' H' en σ := ⟨r.len, fun i d h => by
  obtain ⟨v, h1, h2⟩ := r.at_ i d h
  exact ⟨v, h1, h2.mono e⟩⟩
theorem EnR.set {d : D} {v : V} (h : Rep ρ H d v) (i : Nat) (r : EnR ρ H en σ) : EnR ρ H (en.set i (some d)) (σ.set i (some v)) := by
  refine ⟨by rw [List.length_set, List.length_set]; exact r.len, fun j e hj => ?_⟩
  by_cases hij : i = j
  · subst hij
    have hi : i < en.length := by
      have := (List.getElem?_eq_some_iff.mp hj).1
      rwa [List.length_set] at this
    rw [List.getElem?_set_self hi] at hj
    cases hj
    exact ⟨v, List.getElem?_set_self (by rw [← r.len]; exact hi), h⟩
  · rw [List.getElem?_set_ne hij] at hj ⊢
    exact r.at_ j e hj
theorem StR.get (s : StR K ρ H st) {l : Nat} {o : O} {a : Addr} (h : st[l]? = some o) (e : ρ[l]? = some a) : ORep K ρ H a o := s.ob l o a h e
theorem ORep.there {a : Addr} {o : O} (h : ORep K ρ H a o) (m : mutO (some o) = true) : ∃ u, H a = some u := by
  cases o with
  | lst ds => obtain ⟨xs, e, _⟩ := h; exact ⟨_, e⟩
  | rol ds => cases m
  | err c => cases m
  | dic ds => obtain ⟨xs, e, _⟩ := h; exact ⟨_, e⟩
  | dit ds => obtain ⟨xs, e, _⟩ := h; exact ⟨_, e⟩
  | rod ds => obtain ⟨xs, o, e, _⟩ := h; exact ⟨_, e⟩
  | rot ds => obtain ⟨xs, o, e, _⟩ := h; exact ⟨_, e⟩
theorem ORep.noTup {a : Addr} {o : O} (h : ORep K ρ H a o) (m : mutO (some o) = true) : ∀ xs, H a ≠ some (.tup xs) ∧ ∀ ob, H a ≠ some (.frz ob (.lst xs)) := by
  intro ys
  cases o with
  | lst ds => obtain ⟨xs, e, _⟩ := h; rw [e]; exact ⟨fun z => (by cases z), fun _ z => (by cases z)⟩
  | rol ds => cases m
  | err c => cases m
  | dic ds => obtain ⟨xs, e, _⟩ := h; rw [e]; exact ⟨fun z => (by cases z), fun _ z => (by cases z)⟩
  | dit ds => obtain ⟨xs, e, _⟩ := h; rw [e]; exact ⟨fun z => (by cases z), fun _ z => (by cases z)⟩
  | rod ds => obtain ⟨xs, o, e, _⟩ := h; rw [e]; exact ⟨fun z => (by cases z), fun _ z => (by cases z)⟩
  | rot ds => obtain ⟨xs, o, e, _⟩ := h; rw [e]; exact ⟨fun z => (by cases z), fun _ z => (by cases z)⟩
theorem ORep.noErr {a : Addr} {o : O} (h : ORep K ρ H a o) (m : mutO (some o) = true) : ∀ φ, H a ≠ some (.ext φ) := by
  intro ys
  cases o with
  | lst ds => obtain ⟨xs, e, _⟩ := h; rw [e]; exact fun z => (by cases z)
  | rol ds => cases m
  | err c => cases m
  | dic ds => obtain ⟨xs, e, _⟩ := h; rw [e]; exact fun z => (by cases z)
  | dit ds => obtain ⟨xs, e, _⟩ := h; rw [e]; exact fun z => (by cases z)
  | rod ds => obtain ⟨xs, o, e, _⟩ := h; rw [e]; exact fun z => (by cases z)
  | rot ds => obtain ⟨xs, o, e, _⟩ := h; rw [e]; exact fun z => (by cases z)
theorem ORep.noFrz {a : Addr} {o : O} (h : ORep K ρ H a o) (m : wrO (some o) = true) : ∀ ob u, H a ≠ some (.frz ob u) := by
  intro ob u
  cases o with
  | lst ds => obtain ⟨xs, e, _⟩ := h; rw [e]; exact fun z => (by cases z)
  | dic ds => obtain ⟨xs, e, _⟩ := h; rw [e]; exact fun z => (by cases z)
  | dit ds => obtain ⟨xs, e, _⟩ := h; rw [e]; exact fun z => (by cases z)
  | rol ds => cases m
  | err c => cases m
  | rod ds => cases m
  | rot ds => cases m
/-- a new object is laid -/
theorem Le.laid (p : Addr) (o : HO) (h : H p = none) : Le ρ H ρ (upd H p o) := by
  exact ⟨List.prefix_refl _, fun a k q => by rw [upd_ne (ne_of_none q h)]; exact q, fun a o k q => by rw [upd_ne (ne_of_none q h)]; exact q⟩
theorem RolAt.keep {a : Addr} {xs : List V} (k : ∀ o ys, H a = some (.frz o (.lst ys)) → H' a = some (.frz o (.lst ys))) (h : RolAt K H a xs) : RolAt K H' a xs := by
  rcases h with ⟨o, h⟩ | h
  · exact .inl ⟨o, k _ _ h⟩
  · exact .inr h
theorem ORep.keep0 {a : Addr} {o : O} (e : Le0 ρ H ρ' H') (k : ∀ u, H a = some u → H' a = some u) (h : ORep K ρ H a o) : ORep K ρ' H' a o := by
  cases o with
  | lst ds => obtain ⟨xs, q, r⟩ := h; exact ⟨xs, k _ q, r.mono0 e⟩
  | rol ds => obtain ⟨xs, q, r⟩ := h; exact ⟨xs, q.keep fun o ys z => k _ z, r.mono0 e⟩
  | dic ds => obtain ⟨xs, q, r⟩ := h; exact ⟨xs, k _ q, r.1, r.2.mono0 e⟩
  | dit ds => obtain ⟨xs, q, r⟩ := h; exact ⟨xs, k _ q, r.1, r.2.mono0 e⟩
  | rod ds => obtain ⟨xs, o, q, r⟩ := h; exact ⟨xs, o, k _ q, r.1, r.2.mono0 e⟩
  | rot ds => obtain ⟨xs, o, q, r⟩ := h; exact ⟨xs, o, k _ q, r.1, r.2.mono0 e⟩
  | err c => obtain ⟨C, q, r⟩ := h; exact ⟨C, q, k _ r⟩
theorem ORep.keep {a : Addr} {o : O} (e : Le ρ H ρ' H') (k : ∀ u, H a = some u → H' a = some u) (h : ORep K ρ H a o) : ORep K ρ' H' a o := h.keep0 e.to0 k
/-- a new tuple (or what is not of the store) -/
theorem StR.laid (s : StR K ρ H st) {p : Addr} {o : HO} (h : H p = none) : StR K ρ (upd H p o) st := ⟨s.len, s.nd, fun l u a e1 e2 => (s.ob l u a e1 e2).keep (Le.laid p o h) fun v q => by rw [upd_ne (ne_of_none q h)]; exact q⟩
/-- a new list or dict -/
theorem StR.alloc (s : StR K ρ H st) {p : Addr} {o : HO} {u : O} (h : H p = none) (hu : ORep K (ρ ++ [p]) (upd H p o) p u) : StR K (ρ ++ [p]) (upd H p o) (st ++ [u]) ∧ Le ρ H (ρ ++ [p]) (upd H p o) ∧ (ρ ++ [p])[st.length]? = some p := by
  have e0 : Le ρ H (ρ ++ [p]) (upd H p o) := (Le.laid (ρ := ρ) p o h).ext (List.prefix_append _ _)
  have hp : (ρ ++ [p])[st.length]? = some p := by rw [← s.len, List.getElem?_append_right (Nat.le_refl _), Nat.sub_self]; rfl
  have old : ∀ (l : Nat) (a : Addr), l < st.length → (ρ ++ [p])[l]? = some a → ρ[l]? = some a := fun l a hl e => by
    rw [List.getElem?_append_left (by rw [s.len]; exact hl)] at e
    exact e
  have oldS : ∀ (l : Nat), l < st.length → (st ++ [u])[l]? = st[l]? := fun l hl => List.getElem?_append_left hl
  have out : ∀ (l : Nat) (a : Addr), (ρ ++ [p])[l]? = some a → ¬ l < st.length → l = st.length ∧ a = p := fun l a e hl => by
    have h1 := (List.getElem?_eq_some_iff.mp e).1
    rw [List.length_append, List.length_singleton, s.len] at h1
    have h2 : l = st.length := by omega
    subst h2
    rw [hp] at e
    exact ⟨rfl, (Option.some.inj e).symm⟩
  have apart : ∀ (l : Nat), l < st.length → ρ[l]? = some p → mutO st[l]? = true → False := fun l hl e m => by
    have e1 : st[l]? = some st[l] := List.getElem?_eq_getElem hl
    rw [e1] at m
    obtain ⟨v, hv⟩ := (s.ob l _ p e1 e).there m
    rw [h] at hv
    cases hv
  refine ⟨⟨by rw [List.length_append, List.length_append, s.len]; rfl, fun l m a e1 e2 m1 m2 => ?_, fun l u' a e1 e2 => ?_⟩, e0, hp⟩
  · by_cases hl : l < st.length
    · by_cases hm : m < st.length
      · rw [oldS l hl] at m1
        rw [oldS m hm] at m2
        exact s.nd l m a (old l a hl e1) (old m a hm e2) m1 m2
      · obtain ⟨_, rfl⟩ := out m a e2 hm
        rw [oldS l hl] at m1
        exact (apart l hl (old l _ hl e1) m1).elim
    · obtain ⟨rfl, rfl⟩ := out l a e1 hl
      by_cases hm : m < st.length
      · rw [oldS m hm] at m2
        exact (apart m hm (old m _ hm e2) m2).elim
      · exact (out m _ e2 hm).1.symm
  · by_cases hl : l < st.length
    · rw [oldS l hl] at e1
      exact (s.ob l u' a e1 (old l a hl e2)).keep e0 fun v q => by rw [upd_ne (ne_of_none q h)]; exact q
    · obtain ⟨rfl, rfl⟩ := out l a e2 hl
      rw [List.getElem?_append_right (Nat.le_refl _), Nat.sub_self] at e1
      cases e1
      exact hu
/-- a list or dict of the store is changed -/
theorem StR.put0 (s : StR K ρ H st) {l : Nat} {a : Addr} {u0 u : O} {o : HO} (h0 : st[l]? = some u0) (m0 : mutO (some u0) = true) (m1 : mutO (some u) = true) (ha : ρ[l]? = some a) (hu : ∀ H', H' = upd H a o → Le0 ρ H ρ H' → ORep K ρ H' a u) : StR K ρ (upd H a o) (st.set l u) ∧ Le0 ρ H ρ (upd H a o) := by
  have nt := (s.ob l u0 a h0 ha).noTup m0
  have e0 : Le0 ρ H ρ (upd H a o) := by
    refine ⟨List.prefix_refl _, fun b k q => ?_⟩
    have hb : b ≠ a := fun z => by subst z; exact (nt _).1 q
    rw [upd_ne hb]; exact q
  have hl : l < st.length := (List.getElem?_eq_some_iff.mp h0).1
  have mm : ∀ j, mutO (st.set l u)[j]? = true → mutO st[j]? = true := fun j m => by
    by_cases hj : l = j
    · subst hj
      rw [h0]
      exact m0
    · rw [List.getElem?_set_ne hj] at m
      exact m
  refine ⟨⟨by rw [List.length_set]; exact s.len, fun i j b e1 e2 n1 n2 => s.nd i j b e1 e2 (mm i n1) (mm j n2), fun j u' b e1 e2 => ?_⟩, e0⟩
  by_cases hj : l = j
  · subst hj
    rw [List.getElem?_set_self hl] at e1
    cases e1
    rw [ha] at e2
    cases e2
    exact hu _ rfl e0
  · rw [List.getElem?_set_ne hj] at e1
    have old := s.ob j u' b e1 e2
    by_cases hb : b = a
    · subst hb
      cases hm : mutO (some u') with
      | true =>
        exact absurd (s.nd l j b ha e2 (by rw [h0]; exact m0) (by rw [e1]; exact hm)) hj
      | false =>
        cases u' with
        | lst _ => cases hm
        | dic _ => cases hm
        | dit _ => cases hm
        | rod _ => cases hm
        | rot _ => cases hm
        | err c =>
          obtain ⟨C, q, r⟩ := old
          exact absurd r ((s.ob l u0 b h0 ha).noErr m0 _)
        | rol ds =>
          obtain ⟨xs, q, r⟩ := old
          exact ⟨xs, q.keep fun o ys z => absurd z ((nt ys).2 o), r.mono0 e0⟩
    · exact old.keep0 e0 fun v q => by rw [upd_ne hb]; exact q
theorem StR.put (s : StR K ρ H st) {l : Nat} {a : Addr} {u0 u : O} {o : HO} (h0 : st[l]? = some u0) (m0 : wrO (some u0) = true) (m1 : mutO (some u) = true) (ha : ρ[l]? = some a) (hu : ∀ H', H' = upd H a o → Le ρ H ρ H' → ORep K ρ H' a u) : StR K ρ (upd H a o) (st.set l u) ∧ Le ρ H ρ (upd H a o) := by
  have nf := (s.ob l u0 a h0 ha).noFrz m0
  have e1 : ∀ H', H' = upd H a o → Le0 ρ H ρ H' → Le ρ H ρ H' := fun H' e q => ⟨q.pre, q.tup, fun b ob k z => by
    have hb : b ≠ a := fun y => by subst y; exact nf _ _ z
    rw [e, upd_ne hb]; exact z⟩
  obtain ⟨r1, r2⟩ := s.put0 h0 (wr_mut m0) m1 ha fun H' e q => hu H' e (e1 H' e q)
  exact ⟨r1, e1 _ rfl r2⟩
end

/-! ### what is wanted behind a computation -/
abbrev Mg := Str → Option Value
abbrev G (α : Type) := List Addr → Hp → Sto → α → Prop
def Aft {α : Type} (K : PySem.W.Frag) (mg : Mg) (E : XK) (ρ : List Addr) (H : Hp) (r : R α) (g : G α) : Prop := match r with
  | .ok a st' => ∀ ρ' H', Le ρ H ρ' H' → StR K ρ' H' st' → g ρ' H' st' a
  | .exc c st' => ∀ ρ' H' C, Le ρ H ρ' H' → StR K ρ' H' st' → mg c = some (.ref C) → E (.ref C) none H'
  | .bad => False
section
variable {K : PySem.W.Frag} {mg : Mg} {E : XK} {α β : Type} {ρ ρ' : List Addr} {H H' : Hp}
theorem Aft.le {r : R α} {g : G α} (e : Le ρ H ρ' H') (h : Aft K mg E ρ H r g) : Aft K mg E ρ' H' r g := by
  cases r with
  | ok a st => exact fun ρ2 H2 e2 s => h ρ2 H2 (e.trans e2) s
  | exc c st => exact fun ρ2 H2 C e2 s m => h ρ2 H2 C (e.trans e2) s m
  | bad => exact h
theorem Aft.imp {r : R α} {g g' : G α} (k : ∀ ρ' H' st' a, Le ρ H ρ' H' → StR K ρ' H' st' → g ρ' H' st' a → g' ρ' H' st' a) (h : Aft K mg E ρ H r g) : Aft K mg E ρ H r g' := by
  cases r with
  | ok a st => exact fun ρ2 H2 e2 s => k _ _ _ _ e2 s (h ρ2 H2 e2 s)
  | exc c st => exact h
  | bad => exact h
theorem aft_bnd {m : M α} {f : α → M β} {st : Sto} {g : G β} (h : Aft K mg E ρ H (bnd m f st) g) : Aft K mg E ρ H (m st) fun ρ' H' st' a => Aft K mg E ρ' H' (f a st') g := by
  unfold bnd at h
  cases e : m st with
  | ok a st' =>
    rw [e] at h
    exact fun ρ2 H2 e2 s => Aft.le (r := f a st') e2 h
  | exc c st' =>
    rw [e] at h
    exact h
  | bad =>
    rw [e] at h
    exact h
theorem aft_ret {a : α} {st : Sto} {g : G α} (s : StR K ρ H st) (h : Aft K mg E ρ H (ret a st) g) : g ρ H st a := h ρ H Le.refl s
theorem aft_lft {o : Sto → Option (D × Sto)} {st : Sto} {g : G D} (h : Aft K mg E ρ H (lft o st) g) : ∃ a st', o st = some (a, st') ∧ ∀ ρ' H', Le ρ H ρ' H' → StR K ρ' H' st' → g ρ' H' st' a := by
  unfold lft at h
  cases e : o st with
  | none => rw [e] at h; exact h.elim
  | some p =>
    rw [e] at h
    exact ⟨p.1, p.2, rfl, h⟩
end
abbrev gE (Q : VK) : G D := fun ρ' H' _ d => ∀ v, Rep ρ' H' d v → Q v H'
abbrev gB (Q : Bool → Hp → Prop) : G Bool := fun _ H' _ b => Q b H'
abbrev gA (Q : List V → Hp → Prop) : G (List D) := fun ρ' H' _ ds => ∀ vs, RepL ρ' H' ds vs → Q vs H'
/-- the state of the run that stands for σ, H -/
def Wh {α : Type} (K : PySem.W.Frag) (mg : Mg) (E : XK) (σ : L2.St) (H : Hp) (m : Ev → M α) (g : G α) : Prop := ∃ ρ en st, EnR ρ H en σ ∧ StR K ρ H st ∧ Aft K mg E ρ H (m en st) g
def rdE (K : PySem.W.Frag) (mg : Mg) (W : WX) (m : EM) : TE := fun σ H Q => Wh K mg (WE W σ) σ H m (gE Q)
def rdB (K : PySem.W.Frag) (mg : Mg) (W : WX) (m : BM) : TT := fun σ H Q => Wh K mg (WE W σ) σ H m (gB Q)
def rdA (K : PySem.W.Frag) (mg : Mg) (W : WX) (m : AM) : TA := fun σ H Q => Wh K mg (WE W σ) σ H m (gA Q)
abbrev JE (X : Cx) (W : WX) (e : Expr) (m : EM) : Prop := PE X e (rdE X.K X.mg W m)
abbrev JT (X : Cx) (W : WX) (e : Expr) (m : BM) : Prop := PT X e (rdB X.K X.mg W m)
abbrev JW (X : Cx) (W : WX) (e : Expr) (m : BM) : Prop := PW X e (rdB X.K X.mg W m)
abbrev JA (X : Cx) (W : WX) (es : List Expr) (m : AM) : Prop := PA X es (rdA X.K X.mg W m)
section
variable {X : Cx}
theorem pe_imp {e : Expr} {t t' : TE} (h : PE X e t) (k : ∀ σ H Q, t' σ H Q → t σ H Q) : PE X e t' := ⟨fun pins s σ H Q I q => h.run pins s σ H Q I (k σ H Q q)⟩
theorem pt_imp {e : Expr} {t t' : TT} (h : PT X e t) (k : ∀ σ H Q, t' σ H Q → t σ H Q) : PT X e t' := ⟨fun pins s σ H Q I q => h.run pins s σ H Q I (k σ H Q q)⟩
theorem pw_imp {e : Expr} {t t' : TT} (h : PW X e t) (k : ∀ σ H Q, t' σ H Q → t σ H Q) : PW X e t' := ⟨fun wh pins s σ H Q I q => h.run wh pins s σ H Q I (k σ H Q q)⟩
theorem pa_imp {e : List Expr} {t t' : TA} (h : PA X e t) (k : ∀ σ H Q, t' σ H Q → t σ H Q) : PA X e t' := ⟨fun pos pins s σ H Q I q => h.run pos pins s σ H Q I (k σ H Q q)⟩
end
section
variable {K : PySem.W.Frag} {mg : Mg} {E : XK} {α β : Type} {σ : L2.St} {H : Hp}
/-- one computation behind another -/
theorem Wh.bnd {m : Ev → M α} {f : Ev → α → M β} {g : G β} (h : Wh K mg E σ H (fun en => Sh.bnd (m en) (f en)) g) :
    Wh K mg E σ H m fun ρ' H' st' a => ∃ en, EnR ρ' H' en σ ∧ StR K ρ' H' st' ∧ Aft K mg E ρ' H' (f en a st') g := by
  obtain ⟨ρ, en, st, he, hs, h⟩ := h
  exact ⟨ρ, en, st, he, hs, (aft_bnd h).imp fun ρ' H' st' a le s q => ⟨en, he.mono le, s, q⟩⟩
theorem Wh.imp {m : Ev → M α} {g g' : G α} (h : Wh K mg E σ H m g) (k : ∀ ρ' H' st' a, StR K ρ' H' st' → g ρ' H' st' a → g' ρ' H' st' a) : Wh K mg E σ H m g' := by
  obtain ⟨ρ, en, st, he, hs, h⟩ := h
  exact ⟨ρ, en, st, he, hs, h.imp fun ρ' H' st' a _ s q => k ρ' H' st' a s q⟩
end
end Sh

set_option maxHeartbeats 1000000
/-! ShB: expressions. -/
namespace Sh
open PySem PySem.Spec PyProof.Rows L2

theorem retA {K : PySem.W.Frag} {mg : Mg} {E : XK} {ρ : List Addr} {H : Hp} {st : Sto} {d : List D} {v : List V} {Q : List V → Hp → Prop} (s : StR K ρ H st) (h : Aft K mg E ρ H (ret d st) (gA Q)) (r : RepL ρ H d v) : Q v H := h ρ H Le.refl s v r
/-! ### leaves -/
def eVar (i : Nat) : EM := fun en st => match en[i]? with
  | some (some d) => .ok d st
  | _ => .bad
def eC (d : D) : EM := fun _ => ret d
section
variable {X : Cx} {W : WX}
theorem je_var {i : Nat} {x : Str} {pos : Pos} (hN : X.N[i]? = some x) (hv : Vis X.env.scope x) (hd : (x == ("__debug__" : Str)) = false) (hcd : (x == ("__classdict__" : Str)) = false) : JE X W (.Name x pos) (eVar i) :=
  pe_imp (pe_var hN hv hd hcd) fun σ H Q ⟨ρ, en, st, he, hs, h⟩ => by
    unfold eVar at h
    cases e : en[i]? with
    | none => rw [e] at h; exact h.elim
    | some o =>
      rw [e] at h
      cases o with
      | none => exact h.elim
      | some d =>
        obtain ⟨v, h1, h2⟩ := he.at_ i d e
        exact ⟨v, h1, h ρ H Le.refl hs v h2⟩
/-- short: the name in slot i -/
theorem jv (i : Nat) {x : Str} {pos : Pos} (hN : X.N[i]? = some x := by rfl) (hv : Vis X.env.scope x := by first | exact Or.inl rfl | exact Or.inr (Or.inl rfl) | exact Or.inr (Or.inr rfl)) (hd : (x == ("__debug__" : Str)) = false := by decide)
    (hcd : (x == ("__classdict__" : Str)) = false := by decide) : JE X W (.Name x pos) (eVar i) := je_var hN hv hd hcd
theorem leaf {e : Expr} {v : V} {d : D} (h : PE X e (tC v)) (r : ∀ ρ H, Rep ρ H d v) : JE X W e (eC d) :=
  pe_imp h fun σ H Q ⟨ρ, en, st, he, hs, h⟩ => h ρ H Le.refl hs v (r ρ H)
theorem je_int {i : Int} {j : Nat} {pos : Pos} : JE X W (.Constant (.int i) j pos) (eC (.int i)) := leaf pe_int fun _ _ => .int i
theorem je_str {i : Str} {j : Nat} {pos : Pos} : JE X W (.Constant (.str i) j pos) (eC (.str i)) := leaf pe_str fun _ _ => .str i
theorem je_bl {i : Bool} {j : Nat} {pos : Pos} : JE X W (.Constant (.bool i) j pos) (eC (.bl i)) := leaf pe_bl fun _ _ => .bl i
theorem je_non {j : Nat} {pos : Pos} : JE X W (.Constant .none j pos) (eC .non) := leaf pe_non fun _ _ => .non
end

/-! ### operators -/
abbrev O2 := D → D → Sto → Option (D × Sto)
def rB (K : PySem.W.Frag) (g : O2) : R2 := fun x y H Q => ∃ ρ st d e a st', StR K ρ H st ∧ Rep ρ H d x ∧ Rep ρ H e y ∧ g d e st = some (a, st') ∧ ∀ ρ' H' v, Le ρ H ρ' H' → StR K ρ' H' st' → Rep ρ' H' a v → Q v H'
def eOp (g : O2) (a b : EM) : EM := fun en => bnd (a en) fun x => bnd (b en) fun y => lft (g x y)
section
variable {X : Cx} {W : WX} {a b c : Expr} {ma mb mc : EM} {pos : Pos} {mg : Mg} {K : PySem.W.Frag}
theorem op_rd {g : O2} {σ : L2.St} {H : Hp} {Q : VK} (h : rdE K mg W (eOp g ma mb) σ H Q) : tOp (rB K g) (rdE K mg W ma) (rdE K mg W mb) σ H Q :=
  (Wh.bnd (f := fun en x => bnd (mb en) fun y => lft (g x y)) h).imp fun ρ1 H1 st1 d _ ⟨en, he, hs, q⟩ v rv =>
    ⟨ρ1, en, st1, he, hs, (aft_bnd q).imp fun ρ2 H2 st2 e le s q2 y ry => by
      obtain ⟨r, st', e1, k⟩ := aft_lft q2
      exact ⟨ρ2, st2, d, e, r, st', s, rv.mono le, ry, e1, fun ρ' H' v le s r => k ρ' H' le s v r⟩⟩
theorem je_op {op : Operator} {g : O2} (ho : OpR X (binaryOp op) (rB X.K g)) (ha : JE X W a ma) (hb : JE X W b mb) : JE X W (.BinOp a op b pos) (eOp g ma mb) := pe_imp (pe_op ho ha hb) fun _ _ _ h => op_rd h
theorem je_cmp {op : CmpOp} {g : O2} (ho : OpR X (compareOp op) (rB X.K g)) (ha : JE X W a ma) (hb : JE X W b mb) (hm : behindInMarks op b = false) : JE X W (.Compare a [op] [b] pos) (eOp g ma mb) := pe_imp (pe_cmpR ho ha hb hm) fun _ _ _ h => op_rd h
/-- a value as a test -/
def asB : D → M Bool
  | .bl b => ret b
  | _ => badM
def bOf (m : EM) : BM := fun en => bnd (m en) asB
theorem asB_aft {E : XK} {ρ : List Addr} {H : Hp} {st : Sto} {d : D} {x : V} {Q : Bool → Hp → Prop} (s : StR K ρ H st) (r : Rep ρ H d x) (h : Aft K mg E ρ H (asB d st) (gB Q)) : ∃ c, x = .bl c ∧ Q c H := by
  cases r with
  | bl b => exact ⟨b, rfl, h ρ H Le.refl s⟩
  | non => exact h.elim
  | int _ => exact h.elim
  | str _ => exact h.elim
  | tup _ _ => exact h.elim
  | loc _ => exact h.elim
  | ty _ => exact h.elim
theorem b_rd {m : EM} {σ : L2.St} {H : Hp} {Q : Bool → Hp → Prop} (h : rdB K mg W (bOf m) σ H Q) : rdE K mg W m σ H fun x H1 => ∃ k, x = .bl k ∧ Q k H1 :=
  (Wh.bnd (f := fun _ => asB) h).imp fun ρ1 H1 st1 d _ ⟨en, he, hs, q⟩ v rv => asB_aft hs rv q
theorem jt_cmp {op : CmpOp} {g : O2} (ho : OpR X (compareOp op) (rB X.K g)) (ha : JE X W a ma) (hb : JE X W b mb) (hm : behindInMarks op b = false) : JT X W (.Compare a [op] [b] pos) (bOf (eOp g ma mb)) :=
  pt_imp (pt_cmpR ho ha hb hm) fun _ _ _ h => op_rd (b_rd h)
theorem jt_val {e : Expr} {m : EM} (h : JE X W e m) (he : ∀ whole, isTrue e X.env whole = (do let v ← whole; standAt e.pos; holding [v] (truthy v)) := by intro _; rfl) : JT X W e (bOf m) := pt_imp (pt_val h he) fun _ _ _ h => b_rd h
/-- a op b op' c -/
def eChain (g g' : O2) (a b c : EM) : EM := fun en => bnd (a en) fun x => bnd (b en) fun y => bnd (lft (g x y)) fun z => bnd (asB z) fun k => if k = true then bnd (c en) fun w => lft (g' y w) else ret (.bl false)
theorem chain_rd {g g' : O2} {σ : L2.St} {H : Hp} {Q : VK} (h : rdE K mg W (eChain g g' ma mb mc) σ H Q) : tChain (rB K g) (rB K g') (rdE K mg W ma) (rdE K mg W mb) (rdE K mg W mc) σ H Q := by
  refine (Wh.bnd (f := fun en x => bnd (mb en) fun y => bnd (lft (g x y)) fun z => bnd (asB z) fun k => if k = true then bnd (mc en) fun w => lft (g' y w) else ret (.bl false)) h).imp fun ρ1 H1 st1 d _ ⟨en, he, hs, q⟩ v rv => ?_
  refine ⟨ρ1, en, st1, he, hs, (aft_bnd q).imp fun ρ2 H2 st2 e le s q2 y ry => ?_⟩
  obtain ⟨z, st3, e1, k⟩ := aft_lft (aft_bnd q2)
  refine ⟨ρ2, st2, d, e, z, st3, s, rv.mono le, ry, e1, fun ρ3 H3 u le3 s3 r3 => ?_⟩
  have q3 := aft_bnd (k ρ3 H3 le3 s3)
  obtain ⟨kk, e2, q4⟩ := asB_aft (Q := fun kk H4 => if kk = true then rdE K mg W mc σ H4 (fun w' H5 => rB K g' y w' H5 Q) else Q (.bl false) H4) s3 r3 (q3.imp fun ρ4 H4 st4 kk le4 s4 q4 => by
    cases kk with
    | true =>
      refine (if_pos rfl).mpr ?_
      rw [if_pos rfl] at q4
      refine ⟨ρ4, en, st4, he.mono ((le.trans le3).trans le4), s4, (aft_bnd q4).imp fun ρ5 H5 st5 w le5 s5 q5 w' rw' => ?_⟩
      obtain ⟨r, st6, e6, k6⟩ := aft_lft q5
      exact ⟨ρ5, st5, e, w, r, st6, s5, ry.mono ((le3.trans le4).trans le5), rw', e6, fun ρ' H' v le s r => k6 ρ' H' le s v r⟩
    | false =>
      refine (if_neg Bool.false_ne_true).mpr ?_
      rw [if_neg Bool.false_ne_true] at q4
      exact aft_ret s4 q4 _ (.bl false))
  exact ⟨kk, e2, q4⟩
theorem jt_chain {op op' : CmpOp} {g g' : O2} (ho : OpR X (compareOp op) (rB X.K g)) (ho' : OpR X (compareOp op') (rB X.K g')) (ha : JE X W a ma) (hb : JE X W b mb) (hc : JE X W c mc) (hm : lastMarks [op, op'] [b, c] = false := by rfl) : JT X W (.Compare a [op, op'] [b, c] pos) (bOf (eChain g g' ma mb mc)) :=
  pt_imp (pt_chain ho ho' ha hb hc hm) fun _ _ _ h => chain_rd (b_rd h)
/-! ### and, or, not, if -/
def bAnd (t u : BM) : BM := fun en => bnd (t en) fun c => if c = true then u en else ret false
def bOr (t u : BM) : BM := fun en => bnd (t en) fun c => if c = true then ret true else u en
def bNot (t : BM) : BM := fun en => bnd (t en) fun c => ret (!c)
variable {ta tb : BM} {rest : List Expr}
theorem jt_not (ha : JT X W a ta) : JT X W (.UnaryOp .Not a pos) (bNot ta) := pt_imp (pt_not ha) fun σ H Q h =>
  (Wh.bnd (f := fun _ c => ret (!c)) h).imp fun ρ1 H1 st1 d _ ⟨en, he, hs, q⟩ => aft_ret (mg := X.mg) (E := WE W σ) hs q
theorem jw_and1 (ha : JT X W a ta) : JW X W (.BoolOp .And [a] pos) ta := pw_and1 ha
theorem jw_or1 (ha : JT X W a ta) : JW X W (.BoolOp .Or [a] pos) ta := pw_or1 ha
theorem jw_and (ha : JT X W a ta) (hb : JW X W (.BoolOp .And (b :: rest) pos) tb) : JW X W (.BoolOp .And (a :: b :: rest) pos) (bAnd ta tb) := pw_imp (pw_and ha hb) fun σ H Q h =>
  (Wh.bnd (f := fun en c => if c = true then tb en else ret false) h).imp fun ρ1 H1 st1 d _ ⟨en, he, hs, q⟩ => by
    cases d with
    | true =>
      rw [if_pos rfl] at q
      exact (if_pos rfl).mpr ⟨ρ1, en, st1, he, hs, q⟩
    | false =>
      rw [if_neg Bool.false_ne_true] at q
      exact (if_neg Bool.false_ne_true).mpr (aft_ret (mg := X.mg) (E := WE W σ) hs q)
theorem jw_or (ha : JT X W a ta) (hb : JW X W (.BoolOp .Or (b :: rest) pos) tb) : JW X W (.BoolOp .Or (a :: b :: rest) pos) (bOr ta tb) := pw_imp (pw_or ha hb) fun σ H Q h =>
  (Wh.bnd (f := fun en c => if c = true then ret true else tb en) h).imp fun ρ1 H1 st1 d _ ⟨en, he, hs, q⟩ => by
    cases d with
    | true =>
      rw [if_pos rfl] at q
      exact (if_pos rfl).mpr (aft_ret (mg := X.mg) (E := WE W σ) hs q)
    | false =>
      rw [if_neg Bool.false_ne_true] at q
      exact (if_neg Bool.false_ne_true).mpr ⟨ρ1, en, st1, he, hs, q⟩
theorem jw_pt {e : Expr} {t : BM} (h : JW X W e t) : JT X W e t := h.pt
def eAnd (a b : EM) : EM := fun en => bnd (bOf a en) fun c => if c = true then b en else ret (.bl false)
def eOr (a b : EM) : EM := fun en => bnd (bOf a en) fun c => if c = true then ret (.bl true) else b en
def eNot (a : EM) : EM := fun en => bnd (bOf a en) fun c => ret (D.bl (!c))
def eIf (t : BM) (a b : EM) : EM := fun en => bnd (t en) fun c => if c = true then a en else b en
/-! ### argument lists, displays -/
def aNil : AM := fun _ => ret []
def aCons (a : EM) (as : AM) : AM := fun en => bnd (a en) fun x => bnd (as en) fun xs => ret (x :: xs)
variable {e : Expr} {es : List Expr} {me : EM} {mas : AM}
theorem ja_nil : JA X W [] aNil := pa_imp pa_nil fun σ H Q ⟨ρ, en, st, he, hs, h⟩ => retA (mg := X.mg) (E := WE W σ) hs h .nil
theorem ja_cons (ha : JE X W e me) (hr : JA X W es mas) (hs : starEach (e :: es) X.env = (false, eval e X.env) :: starEach es X.env := by rfl) : JA X W (e :: es) (aCons me mas) := pa_imp (pa_cons ha hr hs) fun σ H Q h =>
  (Wh.bnd (m := me) (f := fun en x => bnd (mas en) fun xs => ret (x :: xs)) h).imp fun ρ1 H1 st1 d _ ⟨en, he, hs, q⟩ v rv =>
    ⟨ρ1, en, st1, he, hs, (aft_bnd q).imp fun ρ2 H2 st2 ds le s q2 vs rvs => retA (mg := X.mg) (E := WE W σ) s q2 (.cons (rv.mono le) rvs)⟩
def eTup (as : AM) : EM := fun en => bnd (as en) fun ds => if ds.length ≤ sizeLine then ret (D.tup ds) else badM
def newO (o : O) : M D := fun st => .ok (.loc st.length) (st ++ [o])
def eLst (as : AM) : EM := fun en => bnd (as en) fun ds => if ds.length ≤ sizeLine then newO (O.lst ds) else badM
theorem newO_aft {E : XK} {ρ : List Addr} {H : Hp} {st : Sto} {o : O} {ho : HO} {Q : VK} (s : StR K ρ H st) (hu : ∀ ρ' H' p, Le ρ H ρ' H' → H' p = some ho → ORep K ρ' H' p o) (h : Aft K mg E ρ H (newO o st) (gE Q)) : ∀ p, H p = none → Q (.ref p) (upd H p ho) := by
  intro p hp
  have e0 : Le ρ H (ρ ++ [p]) (upd H p ho) := (Le.laid (ρ := ρ) p ho hp).ext (List.prefix_append _ _)
  obtain ⟨s1, l1, g1⟩ := s.alloc (o := ho) hp (hu _ _ p e0 upd_same)
  exact h _ _ l1 s1 _ (.loc g1)
theorem newL_aft {E : XK} {ρ : List Addr} {H : Hp} {st : Sto} {ds : List D} {xs : List V} {Q : VK} (s : StR K ρ H st) (r : RepL ρ H ds xs) (h : Aft K mg E ρ H (newO (O.lst ds) st) (gE Q)) : ∀ p, H p = none → Q (.ref p) (upd H p (.lst xs)) :=
  newO_aft (o := .lst ds) (ho := .lst xs) s (fun ρ' H' p le e => ⟨xs, e, r.mono le⟩) h
theorem newT_aft {E : XK} {ρ : List Addr} {H : Hp} {st : Sto} {ds : List D} {xs : List V} {Q : VK} (s : StR K ρ H st) (r : RepL ρ H ds xs) (h : Aft K mg E ρ H (ret (D.tup ds) st) (gE Q)) : ∀ p, H p = none → Q (.ref p) (upd H p (.tup xs)) := fun p hp =>
  h ρ _ (Le.laid p _ hp) (s.laid hp) _ (.tup upd_same (r.mono (Le.laid p _ hp)))
theorem je_tup {k : Nat} (h : JA X W es mas) : JE X W (.Tuple es k pos) (eTup mas) := pe_imp (pe_tup h) fun σ H Q h =>
  (Wh.bnd (m := mas) (f := fun en ds => if ds.length ≤ sizeLine then ret (D.tup ds) else badM) h).imp fun ρ1 H1 st1 ds _ ⟨en, he, hs, q⟩ vs rv => by
    by_cases hl : ds.length ≤ sizeLine
    · rw [if_pos hl] at q
      exact ⟨by rw [← rv.length]; exact hl, newT_aft hs rv q⟩
    · rw [if_neg hl] at q
      exact q.elim
theorem je_lst (h : JA X W es mas) : JE X W (.List es pos) (eLst mas) := pe_imp (pe_lst h) fun σ H Q h =>
  (Wh.bnd (m := mas) (f := fun en ds => if ds.length ≤ sizeLine then newO (O.lst ds) else badM) h).imp fun ρ1 H1 st1 ds _ ⟨en, he, hs, q⟩ vs rv => by
    by_cases hl : ds.length ≤ sizeLine
    · rw [if_pos hl] at q
      exact ⟨by rw [← rv.length]; exact hl, newL_aft hs rv q⟩
    · rw [if_neg hl] at q
      exact q.elim
/-! ### calls -/
abbrev Fn := List D → M D
def eCall (n : Nat) (f : Fn) (as : AM) : EM := fun en => bnd (as en) fun ds => if ds.length = n then f ds else badM
/-- what a def promises -/
def spF (K : PySem.W.Frag) (mg : Mg) (n : Nat) (f : Fn) : Sp := fun vs H Q E => vs.length = n ∧ ∃ ρ st ds, StR K ρ H st ∧ RepL ρ H ds vs ∧ Aft K mg E ρ H (f ds st) (gE Q)
/-- as FnOk, where no repr is under way -/
structure FnG (P : Program) (w : World) (K : PySem.W.Frag) (mg : Mg) (base : Heap) (CX : CXT) (k : Nat) (f : Addr) (fd : FuncData) (ps : List Str) (sp : Sp) : Prop where
  len : ∀ vs H Q E, sp vs H Q E → vs.length = ps.length
  run : ∀ (A : Around) (outer : List Env) (s : Shared) (H : Hp) (args : Args) (us : List Value) (vs : List V) (Q : VK) (E : XK), Room k A ∧ A.guards = some [] → Env0 P w K mg base A outer s H → BindsTo s fd args (ps.zip us) → Vals vs us → sp vs H Q E → codeAny (model P w) A (.call (.ref f) args) (CR CX outer P w H s Q E) s
abbrev FnS (P : Program) (w : World) (K : PySem.W.Frag) (mg : Mg) (base : Heap) (k : Nat) (f : Addr) (fd : FuncData) (ps : List Str) (F : Fn) : Prop := FnG P w K mg base (L2.CX P w) k f fd ps (spF K mg ps.length F)
theorem FnG.imp {P : Program} {w : World} {K : PySem.W.Frag} {mg : Mg} {base : Heap} {CX : CXT} {k : Nat} {f : Addr} {fd : FuncData} {ps : List Str} {sp sp' : Sp} (F : FnG P w K mg base CX k f fd ps sp) (h : ∀ vs H Q E, sp' vs H Q E → sp vs H Q E) : FnG P w K mg base CX k f fd ps sp' :=
  ⟨fun vs H Q E q => F.len vs H Q E (h _ _ _ _ q), fun A outer s H args us vs Q E hr he hb hv hs => F.run A outer s H args us vs Q E hr he hb hv (h _ _ _ _ hs)⟩
theorem run_fnG {X : Cx} {CX : CXT} {k : Nat} {f : Addr} {fd : FuncData} {ps : List Str} {sp : Sp} {E : L2.St → XK} {pins : List (Addr × Obj)} {σ : L2.St} {H : Hp} {s : Shared} {Q : VK} {us : List Value} {vs : List V} (F : FnG X.prog X.w X.K X.mg X.base CX k f fd ps sp) (hr : Room k X.A) (hgd : X.A.guards = some []) (hb : Binds X.K fd ps []) (hx : PassesAt CX X σ (E σ))
    (I : Inv X pins σ H s) (r : Vals vs us) (h : sp vs H Q (E σ)) : wpAny (model X.prog X.w) X.A (PySem.call (.ref f) us) (EP X pins σ Q) X.xe s := by
  have b := hb s us I.kIn (by rw [List.append_nil, ← r.length]; exact F.len _ _ _ _ h)
  rw [List.append_nil] at b
  refine wpAny_call (codeAny_mono (F.run X.A X.stack s H ⟨us, []⟩ us vs Q (E σ) ⟨hr, hgd⟩ I.env0 b r h) fun r s' hq => ?_)
  cases r with
  | error e => exact hx pins H s e s' I hq
  | ok fl =>
    cases fl with
    | ret u => exact I.after hq
    | _ => exact False.elim hq
theorem pe_callG {X : Cx} {CX : CXT} {k : Nat} {f : Addr} {fd : FuncData} {ps : List Str} {sp : Sp} {E : L2.St → XK} {x : Str} {p pos : Pos} {e : Expr} {es : List Expr} {t : TA} (F : FnG X.prog X.w X.K X.mg X.base CX k f fd ps sp) (hr : Room k X.A) (hgd : X.A.guards = some []) (hg : Gl X x) (hm : X.mg x = some (.ref f)) (hk : PySem.W.keepIn X.K (.ref f) = true)
    (hb : Binds X.K fd ps []) (hx : ∀ σ, PassesAt CX X σ (E σ)) (ha : PA X (e :: es) t) (hdb : (x == ("__debug__" : Str)) = false := by decide) (he : starEach (e :: es) X.env = (false, eval e X.env) :: starEach es X.env := by rfl) (hpl : (backTo pos (starEach es X.env)).any (·.1) = false := by rfl) :
    PE X (.Call (.Name x p) (e :: es) [] pos) (tCallS sp E t) := by
  refine ⟨fun pins s σ H Q I h => wpAny_Call_Name_kw (ld_glob I hg hm ?_ hdb)⟩
  exact PySem.W.callWith_K (h₀ := X.base) I.ok.mod.kin hk (thn (ha.run pos pins s σ H _ I h) fun us s1 ⟨vs, H1, I1, r, q⟩ => ⟨I1.kIn, run_fnG F hr hgd hb (hx σ) I1 r q⟩) he hpl
theorem je_call {k : Nat} {f : Addr} {fd : FuncData} {ps : List Str} {x : Str} {p : Pos} {fn : Fn} (tk : Takes X W) (F : FnS X.prog X.w X.K X.mg X.base k f fd ps fn) (hr : Room k X.A) (hgd : X.A.guards = some []) (hg : Gl X x) (hm : X.mg x = some (.ref f)) (hk : PySem.W.keepIn X.K (.ref f) = true) (hb : Binds X.K fd ps [])
    (ha : JA X W (e :: es) mas) (hdb : (x == ("__debug__" : Str)) = false := by decide) (he : starEach (e :: es) X.env = (false, eval e X.env) :: starEach es X.env := by rfl) (hpl : (backTo pos (starEach es X.env)).any (·.1) = false := by rfl) :
    JE X W (.Call (.Name x p) (e :: es) [] pos) (eCall ps.length fn mas) := pe_imp (pe_callG F hr hgd hg hm hk hb (fun σ => passAt tk σ) ha hdb he hpl) fun σ H Q h =>
  (Wh.bnd (m := mas) (f := fun en ds => if ds.length = ps.length then fn ds else badM) h).imp fun ρ1 H1 st1 ds _ ⟨en, he, hs, q⟩ vs rvs => by
    by_cases hl : ds.length = ps.length
    · rw [if_pos hl] at q
      exact ⟨by rw [← rvs.length]; exact hl, ρ1, st1, ds, hs, rvs, q⟩
    · rw [if_neg hl] at q
      exact q.elim
abbrev OC := List D → Sto → Option (D × Sto)
def rC (K : PySem.W.Frag) (g : OC) : List V → Hp → VK → Prop := fun vs H Q => ∃ ρ st ds a st', StR K ρ H st ∧ RepL ρ H ds vs ∧ g ds st = some (a, st') ∧ ∀ ρ' H' v, Le ρ H ρ' H' → StR K ρ' H' st' → Rep ρ' H' a v → Q v H'
def eCB (g : OC) (as : AM) : EM := fun en => bnd (as en) fun ds => lft (g ds)
theorem cb_rd {g : OC} {σ : L2.St} {H : Hp} {Q : VK} (h : rdE K mg W (eCB g mas) σ H Q) : tCB (rC K g) (rdA K mg W mas) σ H Q :=
  (Wh.bnd (m := mas) (f := fun en ds => lft (g ds)) h).imp fun ρ1 H1 st1 ds _ ⟨en, he, hs, q⟩ vs rvs => by
    obtain ⟨r, st', e1, k⟩ := aft_lft q
    exact ⟨ρ1, st1, ds, r, st', hs, rvs, e1, fun ρ' H' v le s r => k ρ' H' le s v r⟩
theorem je_callB {id : String} {g : OC} {x : Str} {p : Pos} (hc : CallR X (.builtin id) (rC X.K g)) (hg : Gl X x) (hm : X.mg x = none) (hv : bootBuiltins x = some (.builtin id)) (ha : JA X W (e :: es) mas) (hn : x ≠ "__name__" := by decide) (hdb : (x == ("__debug__" : Str)) = false := by decide)
    (hs : starEach (e :: es) X.env = (false, eval e X.env) :: starEach es X.env := by rfl) (hpl : (backTo pos (starEach es X.env)).any (·.1) = false := by rfl) : JE X W (.Call (.Name x p) (e :: es) [] pos) (eCB g mas) :=
  pe_imp (pe_callB hc hg hm hv ha hn hdb hs hpl) fun _ _ _ h => cb_rd h
theorem je_callTy {T : String} {g : OC} {x : Str} {p : Pos} (hc : CallR X (.type T) (rC X.K g)) (hg : Gl X x) (hm : X.mg x = none) (hv : bootBuiltins x = some (.type T)) (ha : JA X W (e :: es) mas) (hn : x ≠ "__name__" := by decide) (hdb : (x == ("__debug__" : Str)) = false := by decide)
    (hs : starEach (e :: es) X.env = (false, eval e X.env) :: starEach es X.env := by rfl) (hpl : (backTo pos (starEach es X.env)).any (·.1) = false := by rfl) : JE X W (.Call (.Name x p) (e :: es) [] pos) (eCB g mas) :=
  pe_imp (pe_callTy hc hg hm hv ha hn hdb hs hpl) fun _ _ _ h => cb_rd h
end
end Sh

set_option maxHeartbeats 1000000
/-! ShC: the operators, subscripts, slices, builtins by values. -/
namespace Sh
open PySem PySem.Spec PyProof.Rows L2

section
variable {K : PySem.W.Frag} {ρ : List Addr} {H : Hp} {st : Sto}
theorem Rep.locA {l : Nat} {v : V} (h : Rep ρ H (.loc l) v) : ∃ a, v = .ref a ∧ ρ[l]? = some a := by
  cases h with
  | loc e => exact ⟨_, rfl, e⟩
theorem Rep.tupA {ds : List D} {v : V} (h : Rep ρ H (.tup ds) v) : ∃ a xs, v = .ref a ∧ H a = some (.tup xs) ∧ RepL ρ H ds xs := by
  cases h with
  | tup e r => exact ⟨_, _, rfl, e, r⟩
/-- the list at a place, its own or only read -/
def lstAt (st : Sto) (l : Nat) : Option (List D) := match st[l]? with
  | some (.lst ds) => some ds
  | some (.rol ds) => some ds
  | _ => none
theorem lstAt_seq (s : StR K ρ H st) {l : Nat} {ds : List D} {v : V} (h : lstAt st l = some ds) (r : Rep ρ H (.loc l) v) : ∃ a xs, v = .ref a ∧ SqL K H a xs ∧ RepL ρ H ds xs := by
  obtain ⟨a, rfl, ha⟩ := r.locA
  unfold lstAt at h
  split at h
  · rename_i ds' e
    cases h
    obtain ⟨xs, q, r⟩ := s.ob l _ a e ha
    exact ⟨a, xs, rfl, .inl (.inl q), r⟩
  · rename_i ds' e
    cases h
    obtain ⟨xs, q, r⟩ := s.ob l _ a e ha
    refine ⟨a, xs, rfl, ?_, r⟩
    rcases q with ⟨o, q⟩ | q
    · exact .inl (.inr ⟨o, q⟩)
    · exact .inr q
  · cases h
theorem lst_own (s : StR K ρ H st) {l : Nat} {ds : List D} {v : V} (h : st[l]? = some (.lst ds)) (r : Rep ρ H (.loc l) v) : ∃ a xs, v = .ref a ∧ ρ[l]? = some a ∧ H a = some (.lst xs) ∧ RepL ρ H ds xs := by
  obtain ⟨a, rfl, ha⟩ := r.locA
  obtain ⟨xs, q, r⟩ := s.ob l _ a h ha
  exact ⟨a, xs, rfl, ha, q, r⟩
end

/-! ### arithmetic -/
def oAdd : O2
  | .int i, .int j, st => some (.int (i + j), st)
  | .str a, .str b, st => if a.length + b.length ≤ sizeLine then some (.str (a ++ b), st) else none
  | .tup xs, .tup ys, st => if xs.length + ys.length ≤ sizeLine then some (.tup (xs ++ ys), st) else none
  | .loc l, .loc m, st => match st[l]?, st[m]? with
    | some (.lst xs), some (.lst ys) => if xs.length + ys.length ≤ sizeLine then some (.loc st.length, st ++ [.lst (xs ++ ys)]) else none
    | _, _ => none
  | _, _, _ => none
section
variable {X : Cx}
theorem ob_add : OpR X (binaryOp .Add) (rB X.K oAdd) := by
  intro pins s σ H x y v u Q I rx ry ⟨ρ, st, d, e, a, st', hs, rd, re, h, k⟩
  unfold oAdd at h
  split at h
  · cases h; cases rd; cases re
    exact op_add pins s σ H _ _ v u Q I rx ry ⟨_, _, rfl, rfl, k ρ H _ Le.refl hs (.int _)⟩
  · split at h
    · rename_i hl
      cases h; cases rd; cases re
      exact op_add_str pins s σ H _ _ v u Q I rx ry ⟨_, _, rfl, rfl, hl, k ρ H _ Le.refl hs (.str _)⟩
    · cases h
  · split at h
    · rename_i hl
      cases h
      obtain ⟨p, xs, rfl, hx, r1⟩ := rd.tupA
      obtain ⟨q, ys, rfl, hy, r2⟩ := re.tupA
      refine op_catA pins s σ H _ _ v u Q I rx ry ⟨p, q, xs, ys, rfl, rfl, SqT.of hx, SqT.of hy, by rw [← r1.length, ← r2.length]; exact hl, fun z => ?_, fun z1 z2 => ?_, fun z1 z2 p' hp => ?_⟩
      · subst z
        cases r1
        exact k ρ H _ Le.refl hs re
      · subst z2
        cases r2
        rw [List.append_nil] at k
        exact k ρ H _ Le.refl hs rd
      · have le := Le.laid (ρ := ρ) p' (.tup (xs ++ ys)) hp
        exact k ρ _ _ le (hs.laid hp) (.tup upd_same ((r1.append r2).mono le))
    · cases h
  · split at h
    · rename_i xs ys e1 e2
      split at h
      · rename_i hl
        cases h
        obtain ⟨p, us, rfl, hp, hx, r1⟩ := lst_own hs e1 rd
        obtain ⟨q, ws, rfl, hq, hy, r2⟩ := lst_own hs e2 re
        refine op_cat pins s σ H _ _ v u Q I rx ry ⟨p, q, us, ws, rfl, rfl, hx, hy, by rw [← r1.length, ← r2.length]; exact hl, fun n hn => ?_⟩
        have le : Le ρ H (ρ ++ [n]) (upd H n (.lst (us ++ ws))) := (Le.laid (ρ := ρ) n _ hn).ext (List.prefix_append _ _)
        obtain ⟨s1, l1, g1⟩ := hs.alloc (u := .lst (xs ++ ys)) hn ⟨_, upd_same, (r1.append r2).mono le⟩
        exact k _ _ _ l1 s1 (.loc g1)
      · cases h
    · cases h
  · cases h
def oSub : O2
  | .int i, .int j, st => some (.int (i - j), st)
  | _, _, _ => none
theorem ob_sub : OpR X (binaryOp .Sub) (rB X.K oSub) := by
  intro pins s σ H x y v u Q I rx ry ⟨ρ, st, d, e, a, st', hs, rd, re, h, k⟩
  unfold oSub at h
  split at h
  · cases h; cases rd; cases re
    exact op_sub pins s σ H _ _ v u Q I rx ry ⟨_, _, rfl, rfl, k ρ H _ Le.refl hs (.int _)⟩
  · cases h
def oMul : O2
  | .int i, .int j, st => if (-(2 ^ 64) < i ∧ i < 2 ^ 64) ∨ (-(2 ^ 64) < j ∧ j < 2 ^ 64) then some (.int (i * j), st) else none
  | _, _, _ => none
theorem ob_mul : OpR X (binaryOp .Mult) (rB X.K oMul) := by
  intro pins s σ H x y v u Q I rx ry ⟨ρ, st, d, e, a, st', hs, rd, re, h, k⟩
  unfold oMul at h
  split at h
  · split at h
    · rename_i hc
      cases h; cases rd; cases re
      exact op_mul pins s σ H _ _ v u Q I rx ry ⟨_, _, rfl, rfl, hc, k ρ H _ Le.refl hs (.int _)⟩
    · cases h
  · cases h
def oDiv : O2
  | .int i, .int j, st => if 0 < j ∧ j < 1073741824 then some (.int (i / j), st) else none
  | _, _, _ => none
theorem ob_div : OpR X (binaryOp .FloorDiv) (rB X.K oDiv) := by
  intro pins s σ H x y v u Q I rx ry ⟨ρ, st, d, e, a, st', hs, rd, re, h, k⟩
  unfold oDiv at h
  split at h
  · split at h
    · rename_i hc
      cases h; cases rd; cases re
      exact op_fdiv pins s σ H _ _ v u Q I rx ry ⟨_, _, rfl, rfl, hc, k ρ H _ Le.refl hs (.int _)⟩
    · cases h
  · cases h
def oMod : O2
  | .int i, .int j, st => if 0 < j then some (.int (i % j), st) else none
  | _, _, _ => none
theorem ob_mod : OpR X (binaryOp .Mod) (rB X.K oMod) := by
  intro pins s σ H x y v u Q I rx ry ⟨ρ, st, d, e, a, st', hs, rd, re, h, k⟩
  unfold oMod at h
  split at h
  · split at h
    · rename_i hc
      cases h; cases rd; cases re
      exact op_mod pins s σ H _ _ v u Q I rx ry ⟨_, _, rfl, rfl, hc, k ρ H _ Le.refl hs (.int _)⟩
    · cases h
  · cases h

/-! ### comparisons -/
def oLtI (f : Int → Int → Bool) : O2
  | .int i, .int j, st => some (.bl (f i j), st)
  | _, _, _ => none
theorem ob_ltI {op : CmpOp} {f : Int → Int → Bool} (h0 : OpR X (compareOp op) (rI0 fun i j => .bl (f i j))) : OpR X (compareOp op) (rB X.K (oLtI f)) := by
  intro pins s σ H x y v u Q I rx ry ⟨ρ, st, d, e, a, st', hs, rd, re, h, k⟩
  unfold oLtI at h
  split at h
  · cases h; cases rd; cases re
    exact h0 pins s σ H _ _ v u Q I rx ry ⟨_, _, rfl, rfl, k ρ H _ Le.refl hs (.bl _)⟩
  · cases h
abbrev oLt : O2 := oLtI fun i j => decide (i < j)
abbrev oLe : O2 := oLtI fun i j => decide (i ≤ j)
abbrev oGt : O2 := oLtI fun i j => decide (j < i)
abbrev oGe : O2 := oLtI fun i j => decide (j ≤ i)
theorem ob_le : OpR X (compareOp .LtE) (rB X.K oLe) := ob_ltI op_le
theorem ob_gt : OpR X (compareOp .Gt) (rB X.K oGt) := ob_ltI op_gt
theorem ob_ge : OpR X (compareOp .GtE) (rB X.K oGe) := ob_ltI op_ge
end

/-! data as == sees it -/
mutual
def toPyW (res : Nat → Option PyData) : D → Option PyData
  | .non => some .none
  | .bl b => some (.bool b)
  | .int i => some (.int i)
  | .str s => some (.str s)
  | .tup ds => (toPyWL res ds).map .tuple
  | .loc l => res l
  | .ty _ => none
def toPyWL (res : Nat → Option PyData) : List D → Option (List PyData)
  | [] => some []
  | d :: ds => match toPyW res d, toPyWL res ds with
    | some p, some ps => some (p :: ps)
    | _, _ => none
end
def toPy (st : Sto) : Nat → D → Option PyData
  | 0 => toPyW fun _ => none
  | n + 1 => toPyW fun l => match lstAt st l with
    | some ds => (toPyWL (fun m => toPy st n (.loc m)) ds).map .list
    | none => none
/-- text and depth within what the rules of == ask -/
def shX (d : PyData) : Bool := d.canLay0 && decide (d.depth ≤ 180)
theorem shX_lay {d : PyData} (h : shX d = true) : d.canLay0 = true := (Bool.and_eq_true_iff.mp h).1
theorem shX_dep {d : PyData} (h : shX d = true) : d.depth ≤ 180 := of_decide_eq_true (Bool.and_eq_true_iff.mp h).2
theorem hu190 {k : Nat} {A : Around} (r : Room k A) : A.units + 190 < cLine := by have := r.un; omega
/-- == asks only for the lesser depth -/
def eqOk (a b : PyData) : Bool := a.canLay0 && (b.canLay0 && decide (min a.depth b.depth ≤ 180))
theorem eqOk_of {a b : PyData} (h : (shX a && shX b) = true) : eqOk a b = true := by
  obtain ⟨h1, h2⟩ := Bool.and_eq_true_iff.mp h
  unfold eqOk
  rw [shX_lay h1, shX_lay h2, decide_eq_true (by have := shX_dep h1; omega)]
  rfl
theorem eqOk_out {a b : PyData} (h : eqOk a b = true) : a.canLay0 = true ∧ b.canLay0 = true ∧ min a.depth b.depth ≤ 180 := by
  obtain ⟨h1, h2⟩ := Bool.and_eq_true_iff.mp h
  obtain ⟨h2, h3⟩ := Bool.and_eq_true_iff.mp h2
  exact ⟨h1, h2, of_decide_eq_true h3⟩
def deepEq (d e : D) (st : Sto) : Option Bool := match toPy st 2 d, toPy st 2 e with
  | some a, some b => if (shX a && shX b) = true then some (PyData.eqv a b) else if eqOk a b = true then some (PyData.eqv a b) else none
  | _, _ => none
/-- == of two pieces of data -/
def eqDat (d e : D) (st : Sto) : Option Bool := match d, e with
  | .int i, .int j => some (decide (i = j))
  | .str i, .str j => some (decide (i = j))
  | .bl i, .bl j => some (decide (i = j))
  | .non, .non => some true
  | d, e => deepEq d e st
section
variable {ρ : List Addr} {H : Hp} {st : Sto} {K : PySem.W.Frag} {res : Nat → Option PyData}
mutual
theorem toPyW_dp (hres : ∀ l v p, res l = some p → Rep ρ H (.loc l) v → Dp K H v p) : ∀ {d : D} {v : V} {p : PyData}, Rep ρ H d v → toPyW res d = some p → Dp K H v p
  | _, _, _, .non, h => by unfold toPyW at h; cases h; exact .non
  | _, _, _, .bl b, h => by unfold toPyW at h; cases h; exact .bl b
  | _, _, _, .int b, h => by unfold toPyW at h; cases h; exact .int b
  | _, _, _, .str b, h => by unfold toPyW at h; cases h; exact .str b
  | _, _, _, .tup (ds := ds) e r, h => by
    unfold toPyW at h
    cases q : toPyWL res ds with
    | none => rw [q] at h; cases h
    | some ps =>
      rw [q] at h
      cases h
      exact .tup (SqT.of e) (toPyWL_dp hres r q)
  | _, _, _, .loc e, h => by unfold toPyW at h; exact hres _ _ _ h (.loc e)
  | _, _, _, .ty _, h => by unfold toPyW at h; cases h
theorem toPyWL_dp (hres : ∀ l v p, res l = some p → Rep ρ H (.loc l) v → Dp K H v p) : ∀ {ds : List D} {vs : List V} {ps : List PyData}, RepL ρ H ds vs → toPyWL res ds = some ps → DpAll K H vs ps
  | _, _, _, .nil, h => by unfold toPyWL at h; cases h; exact .nil
  | _, _, _, .cons (d := d) (ds := ds) e r, h => by
    unfold toPyWL at h
    cases q : toPyW res d with
    | none => rw [q] at h; cases h
    | some p =>
      cases q2 : toPyWL res ds with
      | none => rw [q, q2] at h; cases h
      | some ps =>
        rw [q, q2] at h
        cases h
        exact .cons (toPyW_dp hres e q) (toPyWL_dp hres r q2)
end
theorem toPy_dp (s : StR K ρ H st) : ∀ (n : Nat) {d : D} {v : V} {p : PyData}, Rep ρ H d v → toPy st n d = some p → Dp K H v p
  | 0, _, _, _, r, h => toPyW_dp (res := fun _ => none) (fun _ _ _ z => by cases z) r h
  | n + 1, _, _, _, r, h => by
    unfold toPy at h
    refine toPyW_dp (fun l v p hp rl => ?_) r h
    cases q : lstAt st l with
    | none => rw [q] at hp; cases hp
    | some ds =>
      rw [q] at hp
      dsimp only at hp
      obtain ⟨a, xs, rfl, hx, rx⟩ := lstAt_seq s q rl
      cases q2 : toPyWL (fun m => toPy st n (.loc m)) ds with
      | none => rw [q2] at hp; cases hp
      | some ps =>
        rw [q2] at hp
        cases hp
        exact .lst hx (toPyWL_dp (fun l' v' p' h' r' => toPy_dp s n r' h') rx q2)
end
def oEq : O2 := fun d e st => match eqDat d e st with
  | some b => some (.bl b, st)
  | none => none
def oNe : O2 := fun d e st => match eqDat d e st with
  | some b => some (.bl (!b), st)
  | none => none
section
variable {X : Cx}
theorem deep_q {K : PySem.W.Frag} {ρ : List Addr} {H : Hp} {st : Sto} {d e : D} {x y : V} {b : Bool} (hs : StR K ρ H st) (rd : Rep ρ H d x) (re : Rep ρ H e y) (h : deepEq d e st = some b) :
    ∃ p q, Dp K H x p ∧ Dp K H y q ∧ eqOk p q = true ∧ PyData.eqv p q = b := by
  unfold deepEq at h
  split at h
  · rename_i p q e1 e2
    split at h
    · rename_i hc
      cases h
      exact ⟨p, q, toPy_dp hs 2 rd e1, toPy_dp hs 2 re e2, eqOk_of hc, rfl⟩
    · split at h
      · rename_i hc
        cases h
        exact ⟨p, q, toPy_dp hs 2 rd e1, toPy_dp hs 2 re e2, hc, rfl⟩
      · cases h
  · cases h
theorem eq_q {K : PySem.W.Frag} {ρ : List Addr} {H : Hp} {st : Sto} {d e : D} {x y : V} {b : Bool} (hs : StR K ρ H st) (rd : Rep ρ H d x) (re : Rep ρ H e y) (h : eqDat d e st = some b) :
    (scal x y = true ∧ decide (x = y) = b) ∨ ∃ p q, Dp K H x p ∧ Dp K H y q ∧ eqOk p q = true ∧ PyData.eqv p q = b := by
  unfold eqDat at h
  split at h
  · cases h; cases rd; cases re
    exact .inl ⟨rfl, by simp⟩
  · cases h; cases rd; cases re
    exact .inl ⟨rfl, by simp⟩
  · cases h; cases rd; cases re
    exact .inl ⟨rfl, by simp⟩
  · cases h; cases rd; cases re
    exact .inl ⟨rfl, by simp⟩
  · exact .inr (deep_q hs rd re h)
theorem eqX (hu : X.A.units + 190 < cLine) : OpR X (compareOp .Eq) (fun x y H Q => ∃ d e, Dp X.K H x d ∧ Dp X.K H y e ∧ eqOk d e = true ∧ Q (.bl (PyData.eqv d e)) H) := by
  intro pins s σ H x y v u Q I rx ry ⟨d, e, hd, he, sd, q⟩
  obtain ⟨c1, c2, c3⟩ := eqOk_out sd
  obtain ⟨as, r1⟩ := Dp.reads I d x v hd rx
  obtain ⟨bs, r2⟩ := Dp.reads I e y u he ry
  exact SeqAt.compareEq_reads r1 r2 c1 c2 (by omega) ⟨.bl _, H, I, rfl, q⟩
theorem neX (hu : X.A.units + 190 < cLine) : OpR X (compareOp .NotEq) (fun x y H Q => ∃ d e, Dp X.K H x d ∧ Dp X.K H y e ∧ eqOk d e = true ∧ Q (.bl (!PyData.eqv d e)) H) := by
  intro pins s σ H x y v u Q I rx ry ⟨d, e, hd, he, sd, q⟩
  obtain ⟨c1, c2, c3⟩ := eqOk_out sd
  obtain ⟨as, r1⟩ := Dp.reads I d x v hd rx
  obtain ⟨bs, r2⟩ := Dp.reads I e y u he ry
  exact SeqAt.compareNe_reads r1 r2 c1 c2 (by omega) ⟨.bl _, H, I, rfl, q⟩
theorem ob_eq (hu : X.A.units + 190 < cLine) : OpR X (compareOp .Eq) (rB X.K oEq) := by
  intro pins s σ H x y v u Q I rx ry ⟨ρ, st, d, e, a, st', hs, rd, re, h, k⟩
  unfold oEq at h
  split at h
  · rename_i b hb
    cases h
    rcases eq_q (K := X.K) hs rd re hb with ⟨h1, h2⟩ | ⟨p, q, h1, h2, h3, h5⟩
    · exact op_eq pins s σ H _ _ v u Q I rx ry ⟨h1, by rw [h2]; exact k ρ H _ Le.refl hs (.bl _)⟩
    · exact eqX hu pins s σ H _ _ v u Q I rx ry ⟨p, q, h1, h2, h3, by rw [h5]; exact k ρ H _ Le.refl hs (.bl _)⟩
  · cases h
theorem ob_ne (hu : X.A.units + 190 < cLine) : OpR X (compareOp .NotEq) (rB X.K oNe) := by
  intro pins s σ H x y v u Q I rx ry ⟨ρ, st, d, e, a, st', hs, rd, re, h, k⟩
  unfold oNe at h
  split at h
  · rename_i b hb
    cases h
    rcases eq_q (K := X.K) hs rd re hb with ⟨h1, h2⟩ | ⟨p, q, h1, h2, h3, h5⟩
    · exact op_ne pins s σ H _ _ v u Q I rx ry ⟨h1, by rw [h2]; exact k ρ H _ Le.refl hs (.bl _)⟩
    · exact neX hu pins s σ H _ _ v u Q I rx ry ⟨p, q, h1, h2, h3, by rw [h5]; exact k ρ H _ Le.refl hs (.bl _)⟩
  · cases h
end
/-! ### in -/
def flatD : D → Bool
  | .non => true
  | .bl _ => true
  | .int _ => true
  | .str _ => true
  | _ => false
def eqD : D → D → Bool
  | .non, .non => true
  | .bl a, .bl b => a == b
  | .bl a, .int b => (if a then 1 else 0) == b
  | .int a, .bl b => a == (if b then 1 else 0)
  | .int a, .int b => a == b
  | .str a, .str b => a == b
  | _, _ => false
def inD (x : D) (xs : List D) : Bool := xs.any fun y => eqD y x
section
variable {ρ : List Addr} {H : Hp} {st : Sto}
theorem flat_rep {d : D} {v : V} (r : Rep ρ H d v) : flatV v = flatD d := by cases r <;> rfl
theorem flat_repL : ∀ {ds : List D} {vs : List V}, RepL ρ H ds vs → vs.all flatV = ds.all flatD
  | _, _, .nil => rfl
  | _, _, .cons h r => by rw [List.all_cons, List.all_cons, flat_rep h, flat_repL r]
theorem eq_rep {d e : D} {x y : V} (r : Rep ρ H d x) (r' : Rep ρ H e y) : eqV x y = eqD d e := by cases r <;> cases r' <;> rfl
theorem in_rep {d : D} {x : V} (r : Rep ρ H d x) : ∀ {ds : List D} {vs : List V}, RepL ρ H ds vs → inV x vs = inD d ds
  | _, _, .nil => rfl
  | _, _, .cons h t => by
    unfold inV inD
    rw [List.any_cons, List.any_cons, eq_rep h r]
    exact congrArg _ (in_rep r t)
end
def strIn (j i : Str) : Bool := !(Builtin.Str.occurrences j i 0 j.length 1).isEmpty
def keyOf : D → Option Key
  | .int i => some (.inl i)
  | .str s => some (.inr s)
  | _ => none
def isIn (d e : D) (st : Sto) : Option Bool := match e with
  | .str j => match d with
    | .str i => some (strIn j i)
    | _ => none
  | .tup ds => if (flatD d && ds.all flatD) = true then some (inD d ds) else none
  | .loc l => match lstAt st l with
    | some ds => if (flatD d && ds.all flatD) = true then some (inD d ds) else none
    | none => none
  | _ => none
def oIn : O2 := fun d e st => match isIn d e st with
  | some b => some (.bl b, st)
  | none => none
def oNotIn : O2 := fun d e st => match isIn d e st with
  | some b => some (.bl (!b), st)
  | none => none
section
variable {X : Cx}
theorem in_q {K : PySem.W.Frag} {ρ : List Addr} {H : Hp} {st : Sto} {d e : D} {x y : V} {b : Bool} (hs : StR K ρ H st) (rd : Rep ρ H d x) (re : Rep ρ H e y) (h : isIn d e st = some b) :
    (∃ i j, x = .str i ∧ y = .str j ∧ strIn j i = b) ∨ (∃ p xs, y = .ref p ∧ (SqL K H p xs ∨ SqT K H p xs) ∧ flatV x = true ∧ xs.all flatV = true ∧ inV x xs = b) := by
  unfold isIn at h
  split at h
  · split at h
    · cases h; cases rd; cases re
      exact .inl ⟨_, _, rfl, rfl, rfl⟩
    · cases h
  · split at h
    · rename_i hc
      cases h
      obtain ⟨c1, c2⟩ := Bool.and_eq_true_iff.mp hc
      obtain ⟨p, xs, rfl, hx, r⟩ := re.tupA
      exact .inr ⟨p, xs, rfl, .inr (SqT.of hx), by rw [flat_rep rd]; exact c1, by rw [flat_repL r]; exact c2, in_rep rd r⟩
    · cases h
  · split at h
    · rename_i ds hl
      split at h
      · rename_i hc
        cases h
        obtain ⟨c1, c2⟩ := Bool.and_eq_true_iff.mp hc
        obtain ⟨p, xs, rfl, hx, r⟩ := lstAt_seq hs hl re
        exact .inr ⟨p, xs, rfl, .inl hx, by rw [flat_rep rd]; exact c1, by rw [flat_repL r]; exact c2, in_rep rd r⟩
      · cases h
    · cases h
  · cases h
theorem ob_in : OpR X (compareOp .In) (rB X.K oIn) := by
  intro pins s σ H x y v u Q I rx ry ⟨ρ, st, d, e, a, st', hs, rd, re, h, k⟩
  unfold oIn at h
  split at h
  · rename_i b hb
    cases h
    have kq := k ρ H _ Le.refl hs (.bl b)
    rcases in_q (K := X.K) hs rd re hb with ⟨i, j, rfl, rfl, e1⟩ | ⟨p, xs, rfl, h1, h2, h3, h4⟩
    · exact op_in_str pins s σ H _ _ v u Q I rx ry ⟨_, _, rfl, rfl, by unfold strIn at e1; rw [e1]; exact kq⟩
    · exact op_in_seq pins s σ H _ _ v u Q I rx ry ⟨p, xs, rfl, h1, h2, h3, by rw [h4]; exact kq⟩
  · cases h
theorem ob_notIn : OpR X (compareOp .NotIn) (rB X.K oNotIn) := by
  intro pins s σ H x y v u Q I rx ry ⟨ρ, st, d, e, a, st', hs, rd, re, h, k⟩
  unfold oNotIn at h
  split at h
  · rename_i b hb
    cases h
    have kq := k ρ H _ Le.refl hs (.bl (!b))
    rcases in_q (K := X.K) hs rd re hb with ⟨i, j, rfl, rfl, e1⟩ | ⟨p, xs, rfl, h1, h2, h3, h4⟩
    · exact op_notin_str pins s σ H _ _ v u Q I rx ry ⟨_, _, rfl, rfl, by unfold strIn at e1; rw [e1]; exact kq⟩
    · exact op_notIn_seq pins s σ H _ _ v u Q I rx ry ⟨p, xs, rfl, h1, h2, h3, by rw [h4]; exact kq⟩
  · cases h
/-- x in a constant tuple of texts of the module -/
def eInC (neg : Bool) (ws : List Str) (a : EM) : EM := fun en => bnd (a en) fun x => if flatD x = true then ret (.bl (if neg then !inD x (ws.map D.str) else inD x (ws.map D.str))) else badM
theorem inC_str (s : Str) (ws : List Str) : inD (.str s) (ws.map D.str) = decide (s ∈ ws) := by
  induction ws with
  | nil => rfl
  | cons w r ih =>
    unfold inD at ih ⊢
    rw [List.map_cons, List.any_cons, ih]
    by_cases e : w = s
    · subst e
      rw [decide_eq_true (show w ∈ w :: r from List.mem_cons_self)]
      show (w == w || _) = true
      rw [beq_self_eq_true, Bool.true_or]
    · have e1 : (eqD (.str w) (.str s)) = false := beq_eq_false_iff_ne.mpr e
      rw [e1, Bool.false_or]
      by_cases e2 : s ∈ r
      · rw [decide_eq_true e2, decide_eq_true (List.mem_cons_of_mem _ e2)]
      · rw [decide_eq_false e2, decide_eq_false (fun z => by
          rcases List.mem_cons.mp z with q | q
          · exact e q.symm
          · exact e2 q)]
variable {W : WX} {a b : Expr} {ma : EM} {pos : Pos}
end
theorem atI_rep {ρ : List Addr} {H : Hp} {ds : List D} {xs : List V} {i : Int} {d : D} (r : RepL ρ H ds xs) (h : atI ds i = some d) : ∃ x, atI xs i = some x ∧ Rep ρ H d x := by
  unfold atI at h ⊢
  rw [← r.length]
  cases q : ixN ds.length i with
  | none => rw [q] at h; cases h
  | some j =>
    rw [q] at h
    exact r.get h
def dkAt (st : Sto) (l : Nat) : Option (List (Key × D)) := match st[l]? with
  | some (.dic kvs) => some kvs
  | _ => none
def lookK {κ : Type} [DecidableEq κ] (kvs : List (κ × D)) (k : κ) : Option D := (kvs.find? fun kv => decide (kv.1 = k)).map (·.2)
theorem lookK_rep {κ : Type} [DecidableEq κ] {ρ : List Addr} {H : Hp} : ∀ {kvs : List (κ × D)} {us : List (κ × V)} (k : κ), RepK ρ H kvs us →
    (lookK kvs k = none ∧ valV us k = none) ∨ ∃ d v, lookK kvs k = some d ∧ valV us k = some v ∧ Rep ρ H d v
  | [], [], _, _ => .inl ⟨rfl, rfl⟩
  | [], _ :: _, _, ⟨h, _⟩ => by simp at h
  | _ :: _, [], _, ⟨h, _⟩ => by simp at h
  | (a, d) :: r, (b, v) :: t, k, ⟨h1, h2⟩ => by
    simp only [List.map_cons, List.cons.injEq] at h1
    obtain ⟨e1, e2⟩ := h1
    subst e1
    rw [List.map_cons, List.map_cons] at h2
    cases h2 with
    | cons q1 q2 =>
      by_cases hk : a = k
      · refine .inr ⟨d, v, ?_, valV_pos (p := (a, v)) hk, q1⟩
        simp [lookK, List.find?_cons, hk]
      · have e3 : lookK ((a, d) :: r) k = lookK r k := by simp [lookK, List.find?_cons, hk]
        rw [e3, valV_neg (p := (a, v)) hk]
        exact lookK_rep k ⟨e2, q2⟩
def ixD (d e : D) (st : Sto) : Option D := match d with
  | .tup ds => match e with
    | .int i => atI ds i
    | _ => none
  | .str z => match e with
    | .int i => if z.length ≤ sizeLine then (atI z.cps.toList i).map fun c => .str ⟨#[c]⟩ else none
    | _ => none
  | .loc l => match lstAt st l with
    | some ds => match e with
      | .int i => atI ds i
      | _ => none
    | none => match dkAt st l, keyOf e with
      | some kvs, some k => lookK kvs k
      | _, _ => none
  | _ => none
def oIx : O2 := fun d e st => match ixD d e st with
  | some r => some (r, st)
  | none => none
theorem keyOf_rep {ρ : List Addr} {H : Hp} {e : D} {y : V} {k : Key} (h : keyOf e = some k) (r : Rep ρ H e y) : y = kV k := by
  cases r <;> first | (cases h; rfl) | cases h
section
variable {X : Cx}
theorem ox_ix (hu : X.A.units + 1 < cLine) : IxR X (rB X.K oIx) := by
  intro value slice pins s σ H x y v u Q I rx ry ⟨ρ, st, d, e, a, st', hs, rd, re, h, k⟩ hsub
  unfold oIx at h
  split at h
  · rename_i r hr
    cases h
    have kq := fun w (rw : Rep ρ H a w) => k ρ H w Le.refl hs rw
    unfold ixD at hr
    split at hr
    · split at hr
      · obtain ⟨p, xs, rfl, hx, r1⟩ := rd.tupA
        obtain ⟨z, hz, rz⟩ := atI_rep r1 hr
        cases re
        exact ix_tup value slice pins s σ H _ _ v u Q I rx ry ⟨p, xs, _, z, rfl, rfl, SqT.of hx, hz, kq z rz⟩ hsub
      · cases hr
    · split at hr
      · split at hr
        · rename_i z _ i hl
          cases rd with
          | str _ =>
            cases re with
            | int _ =>
              cases q : atI z.cps.toList i with
              | none => rw [q] at hr; cases hr
              | some c =>
                rw [q] at hr
                cases hr
                exact ix_str value slice pins s σ H _ _ v u Q I rx ry ⟨z, i, c, rfl, rfl, hl, q, kq _ (.str _)⟩ hsub
        · cases hr
      · cases hr
    · split at hr
      · rename_i ds hl
        split at hr
        · obtain ⟨p, xs, rfl, hx, r1⟩ := lstAt_seq hs hl rd
          obtain ⟨z, hz, rz⟩ := atI_rep r1 hr
          cases re
          exact ix_list value slice pins s σ H _ _ v u Q I rx ry ⟨p, xs, _, z, rfl, rfl, hx, hz, kq z rz⟩ hsub
        · cases hr
      · split at hr
        · rename_i kvs kk hd hk
          obtain ⟨p, rfl, hp⟩ := rd.locA
          unfold dkAt at hd
          split at hd
          · rename_i kvs' hd'
            cases hd
            obtain ⟨us, e1, r1⟩ := hs.ob _ _ p hd' hp
            rcases lookK_rep kk r1 with ⟨z, _⟩ | ⟨d', w, z1, z2, z3⟩
            · rw [z] at hr; cases hr
            · rw [hr] at z1
              cases z1
              have ey := keyOf_rep hk re
              subst ey
              have g : DGet H p (kV kk) (some w) := by
                rw [← z2]
                exact DGet.k e1
              cases rx
              exact tail_any (dict_typeIs I g) PySem.F.slot_dict_getitem.lookup (d_getItem hu I g ry fun w' s3 I3 rw' => ⟨w, H, I3, rw', kq w z3⟩) hsub
          · cases hd
        · cases hr
    · cases hr
  · cases h
variable {W : WX} {a b : Expr} {ma mb : EM} {pos : Pos}
theorem je_ix (hu : X.A.units + 1 < cLine) (ha : JE X W a ma) (hb : JE X W b mb) (hs : PlainIx b := by intro _ _; rfl) : JE X W (.Subscript a b pos) (eOp oIx ma mb) := pe_imp (pe_ix (ox_ix hu) ha hb hs) fun _ _ _ h => op_rd h
end
end Sh

set_option maxHeartbeats 1000000
/-! ShD: statements, loops, defs. -/
namespace Sh
open PySem PySem.Spec PyProof.Rows L2

inductive SR where
  | nx (en : Ev) (st : Sto)
  | rt (d : D) (st : Sto)
  | bk (en : Ev) (st : Sto)
  | ct (en : Ev) (st : Sto)
  | exc (c : Str) (en : Ev) (st : Sto)
  | bad
abbrev SM := Ev → Sto → SR
def AftS (K : PySem.W.Frag) (mg : Mg) (W : WX) (ρ : List Addr) (H : Hp) (r : SR) (E : Ends) : Prop := match r with
  | .nx en st => ∀ ρ' H' σ', Le ρ H ρ' H' → StR K ρ' H' st → EnR ρ' H' en σ' → E.nx σ' H'
  | .rt d st => ∀ ρ' H' v, Le ρ H ρ' H' → StR K ρ' H' st → Rep ρ' H' d v → E.rt v H'
  | .bk en st => ∀ ρ' H' σ', Le ρ H ρ' H' → StR K ρ' H' st → EnR ρ' H' en σ' → E.bk σ' H'
  | .ct en st => ∀ ρ' H' σ', Le ρ H ρ' H' → StR K ρ' H' st → EnR ρ' H' en σ' → E.ct σ' H'
  | .exc c en st => ∀ ρ' H' σ' C, Le ρ H ρ' H' → StR K ρ' H' st → EnR ρ' H' en σ' → mg c = some (.ref C) → W (.ref C) none σ' H'
  | .bad => False
def rdS (K : PySem.W.Frag) (mg : Mg) (W : WX) (m : SM) : TS := fun E σ H => ∃ ρ en st, EnR ρ H en σ ∧ StR K ρ H st ∧ AftS K mg W ρ H (m en st) E
abbrev JS (X : Cx) (W : WX) (st : Stmt) (m : SM) : Prop := PS X st (rdS X.K X.mg W m)
abbrev JSs (X : Cx) (W : WX) (sts : List Stmt) (m : SM) : Prop := PSs X sts (rdS X.K X.mg W m)
section
variable {K : PySem.W.Frag} {mg : Mg} {W : WX} {ρ ρ' : List Addr} {H H' : Hp} {E E' : Ends}
theorem AftS.le {r : SR} (e : Le ρ H ρ' H') (h : AftS K mg W ρ H r E) : AftS K mg W ρ' H' r E := by
  cases r with
  | nx en st => exact fun ρ2 H2 σ2 e2 s q => h ρ2 H2 σ2 (e.trans e2) s q
  | rt d st => exact fun ρ2 H2 v e2 s q => h ρ2 H2 v (e.trans e2) s q
  | bk en st => exact fun ρ2 H2 σ2 e2 s q => h ρ2 H2 σ2 (e.trans e2) s q
  | ct en st => exact fun ρ2 H2 σ2 e2 s q => h ρ2 H2 σ2 (e.trans e2) s q
  | exc c en st => exact fun ρ2 H2 σ2 C e2 s q m => h ρ2 H2 σ2 C (e.trans e2) s q m
  | bad => exact h
theorem ps_imp {X : Cx} {s : Stmt} {t t' : TS} (h : PS X s t) (k : ∀ E σ H, t' E σ H → t E σ H) : PS X s t' := ⟨fun pins s σ H E I q => h.run pins s σ H E I (k E σ H q)⟩
theorem pss_imp {X : Cx} {s : List Stmt} {t t' : TS} (h : PSs X s t) (k : ∀ E σ H, t' E σ H → t E σ H) : PSs X s t' := ⟨fun pins s σ H E I q => h.run pins s σ H E I (k E σ H q)⟩

/-! ### blocks -/
def sNil : SM := fun en st => .nx en st
def sSeq (a b : SM) : SM := fun en st => match a en st with
  | .nx en' st' => b en' st'
  | r => r
def sB {α : Type} (m : Ev → M α) (k : α → SM) : SM := fun en st => match m en st with
  | .ok d st' => k d en st'
  | .exc c st' => .exc c en st'
  | .bad => .bad
theorem sB_rd {α : Type} {m : Ev → M α} {k : α → SM} {en : Ev} {st : Sto} {σ : L2.St} (he : EnR ρ H en σ) (h : AftS K mg W ρ H (sB m k en st) E) :
    Aft K mg (WE W σ) ρ H (m en st) fun ρ' H' st' a => EnR ρ' H' en σ ∧ AftS K mg W ρ' H' (k a en st') E := by
  unfold sB at h
  cases e : m en st with
  | ok a st' =>
    rw [e] at h
    exact fun ρ2 H2 le s => ⟨he.mono le, AftS.le (r := k a en st') le h⟩
  | exc c st' =>
    rw [e] at h
    exact fun ρ2 H2 C le s m => h ρ2 H2 σ C le s (he.mono le) m
  | bad =>
    rw [e] at h
    exact h
end
section
variable {X : Cx} {W : WX} {pos : Pos} {e : Expr} {me : EM} {s : Stmt} {rest : List Stmt} {ma mb : SM}
theorem jss_nil : JSs X W [] sNil := pss_imp pss_nil fun E σ H ⟨ρ, en, st, he, hs, h⟩ => h ρ H σ Le.refl hs he
theorem jss_cons (h1 : JS X W s ma) (h2 : JSs X W rest mb) : JSs X W (s :: rest) (sSeq ma mb) := pss_imp (pss_cons h1 h2) fun E σ H ⟨ρ, en, st, he, hs, h⟩ => by
  refine ⟨ρ, en, st, he, hs, ?_⟩
  unfold sSeq at h
  cases q : ma en st with
  | nx en' st' =>
    rw [q] at h
    exact fun ρ2 H2 σ2 le s r => ⟨ρ2, en', st', r, s, AftS.le (r := mb en' st') le h⟩
  | rt d st' => rw [q] at h; exact h
  | bk _ _ => rw [q] at h; exact h
  | ct _ _ => rw [q] at h; exact h
  | exc _ _ _ => rw [q] at h; exact h
  | bad => rw [q] at h; exact h
theorem jss_one (h1 : JS X W s ma) : JSs X W [s] ma := pss_one h1
def sPass : SM := sNil
def sSet (i : Nat) (m : EM) : SM := sB m fun d en st => .nx (en.set i (some d)) st
theorem set_rd {K : PySem.W.Frag} {mg : Mg} {i : Nat} {m : EM} {E : Ends} {σ : L2.St} {H : Hp} (h : rdS K mg W (sSet i m) E σ H) : tAsg (rdE K mg W m) (gName i) E σ H := by
  obtain ⟨ρ, en, st, he, hs, h⟩ := h
  exact ⟨ρ, en, st, he, hs, (sB_rd he h).imp fun ρ' H' st' d le s ⟨er, q⟩ v rv => q ρ' H' _ Le.refl s (er.set rv i)⟩
theorem js_set {i : Nat} {x : Str} {pos' : Pos} (hN : X.N.Nodup) (hi : X.N[i]? = some x) (hx : Loc X.env.scope x) (he : JE X W e me) (hs : swapsWith e (some (.Name x pos')) pos.line X.env = pure false := by rfl)
    (hf : X.fn x = true ∨ X.env.scope.names.lookup x = some .local := by first | exact .inl rfl | exact .inr rfl | assumption) : JS X W (.Assign [.Name x pos'] e pos) (sSet i me) :=
  ps_imp (ps_set hN hi hx he hs hf) fun _ _ _ h => set_rd h
def sRet (m : EM) : SM := sB m fun d _ st => .rt d st
theorem js_ret (he : JE X W e me) : JS X W (.Return (some e) pos) (sRet me) := ps_imp (ps_ret he) fun E σ H ⟨ρ, en, st, her, hs, h⟩ =>
  ⟨ρ, en, st, her, hs, (sB_rd her h).imp fun ρ' H' st' d le s ⟨er, q⟩ v rv => q ρ' H' v Le.refl s rv⟩
def sRetN : SM := fun _ st => .rt .non st
def sExp (m : EM) : SM := sB m fun _ en st => .nx en st
theorem js_expr (he : JE X W e me) (hs : swapsWith e none pos.line X.env = pure false := by rfl) : JS X W (.Expr e pos) (sExp me) := ps_imp (ps_expr he hs) fun E σ H ⟨ρ, en, st, her, hs, h⟩ =>
  ⟨ρ, en, st, her, hs, (sB_rd her h).imp fun ρ' H' st' d le s ⟨er, q⟩ v rv => q ρ' H' σ Le.refl s er⟩
def sIf (t : BM) (a b : SM) : SM := sB t fun c => if c = true then a else b
theorem js_if {c : Expr} {sa sb : List Stmt} {mc : BM} (hc : JT X W c mc) (ha : JSs X W sa ma) (hb : JSs X W sb mb) : JS X W (.If c sa sb pos) (sIf mc ma mb) := ps_imp (ps_if hc ha hb) fun E σ H ⟨ρ, en, st, her, hs, h⟩ =>
  ⟨ρ, en, st, her, hs, (sB_rd her h).imp fun ρ' H' st' d le s ⟨er, q⟩ => by
    cases d with
    | true => exact (if_pos rfl).mpr ⟨ρ', en, st', er, s, by rw [if_pos rfl] at q; exact q⟩
    | false => exact (if_neg Bool.false_ne_true).mpr ⟨ρ', en, st', er, s, by rw [if_neg Bool.false_ne_true] at q; exact q⟩⟩

/-! ### targets -/
/-- σ' is σ but at the slots is -/
def But (is : List Nat) (σ σ' : L2.St) : Prop := σ'.length = σ.length ∧ ∀ j, j ∉ is → σ'[j]? = σ[j]?
theorem But.refl {is : List Nat} {σ : L2.St} : But is σ σ := ⟨rfl, fun _ _ => rfl⟩
theorem But.set {is : List Nat} {i : Nat} (h : i ∈ is) {σ : L2.St} {v : Option V} : But is σ (σ.set i v) := ⟨List.length_set, fun j hj => List.getElem?_set_ne (fun z => hj (by rw [← z]; exact h))⟩
theorem But.trans {is : List Nat} {σ σ' σ'' : L2.St} (a : But is σ σ') (b : But is σ' σ'') : But is σ σ'' := ⟨b.1.trans a.1, fun j hj => (b.2 j hj).trans (a.2 j hj)⟩
theorem But.mono {is js : List Nat} (k : ∀ i ∈ is, i ∈ js) {σ σ' : L2.St} (a : But is σ σ') : But js σ σ' := ⟨a.1, fun j hj => a.2 j fun z => hj (k j z)⟩
def rdG (is : List Nat) (t : D → Ev → Option Ev) : TG := fun v σ H Q => ∃ ρ en d en', EnR ρ H en σ ∧ Rep ρ H d v ∧ t d en = some en' ∧ ∀ σ', But is σ σ' → EnR ρ H en' σ' → Q σ' H
abbrev JG (X : Cx) (is : List Nat) (tg : Expr) (t : D → Ev → Option Ev) : Prop := PG X tg (rdG is t)
def gN (i : Nat) : D → Ev → Option Ev := fun d en => some (en.set i (some d))
theorem pg_imp {tg : Expr} {t t' : TG} (h : PG X tg t) (k : ∀ v σ H Q, t' v σ H Q → t v σ H Q) : PG X tg t' := ⟨fun pins s σ H v u Q I r q => h.run pins s σ H v u Q I r (k v σ H Q q)⟩
theorem jg_name {i : Nat} {x : Str} (hN : X.N.Nodup) (hi : X.N[i]? = some x) (hx : Loc X.env.scope x) (hf : X.fn x = true ∨ X.env.scope.names.lookup x = some .local := by first | exact .inl rfl | exact .inr rfl | assumption) : JG X [i] (.Name x pos) (gN i) :=
  pg_imp (pg_name hN hi hx hf) fun v σ H Q ⟨ρ, en, d, en', he, r, e1, k⟩ => by
    cases e1
    exact k _ (But.set List.mem_cons_self) (he.set r i)
/-- several names: a tuple of that length -/
def gNs : List (D → Ev → Option Ev) → List D → Ev → Option Ev
  | [], [], en => some en
  | t :: ts, d :: ds, en => match t d en with
    | some en' => gNs ts ds en'
    | none => none
  | _, _, _ => none
def gT (ts : List (D → Ev → Option Ev)) : D → Ev → Option Ev := fun d en => match d with
  | .tup ds => gNs ts ds en
  | _ => none
def rdGs (is : List Nat) (ts : List (D → Ev → Option Ev)) : TGs := fun vs σ H Q => ∃ ρ en ds en', EnR ρ H en σ ∧ RepL ρ H ds vs ∧ gNs ts ds en = some en' ∧ ∀ σ', But is σ σ' → EnR ρ H en' σ' → Q σ' H
abbrev JGs (X : Cx) (is : List Nat) (es : List Expr) (ts : List (D → Ev → Option Ev)) : Prop := PGs X es (rdGs is ts)
theorem pgs_imp {es : List Expr} {t t' : TGs} (h : PGs X es t) (k : ∀ v σ H Q, t' v σ H Q → t v σ H Q) : PGs X es t' := ⟨fun pins s σ H vs us Q I r q => h.run pins s σ H vs us Q I r (k vs σ H Q q)⟩
theorem jgs_nil : JGs X [] [] [] := pgs_imp pgs_nil fun vs σ H Q ⟨ρ, en, ds, en', he, r, e1, k⟩ => by
  cases r with
  | nil =>
    cases e1
    exact ⟨rfl, k _ But.refl he⟩
  | cons _ _ => cases e1
theorem jgs_cons {is js : List Nat} {es : List Expr} {t : D → Ev → Option Ev} {ts : List (D → Ev → Option Ev)} (h1 : JG X is e t) (h2 : JGs X js es ts) (hs : (assignEach (e :: es) X.env).map (·.2) = assign e X.env :: (assignEach es X.env).map (·.2) := by rfl) : JGs X (is ++ js) (e :: es) (t :: ts) :=
  pgs_imp (pgs_cons h1 h2 hs) fun vs σ H Q ⟨ρ, en, ds, en', he, r, e1, k⟩ => by
    cases r with
    | nil => cases e1
    | @cons d ds x xs r rr =>
      unfold gNs at e1
      cases q : t d en with
      | none => rw [q] at e1; cases e1
      | some en1 =>
        rw [q] at e1
        exact ⟨x, xs, rfl, ρ, en, d, en1, he, r, q, fun σ1 b1 he1 => ⟨ρ, en1, ds, en', he1, rr, e1, fun σ2 b2 he2 => k σ2 ((b1.mono fun i hi => List.mem_append_left _ hi).trans (b2.mono fun i hi => List.mem_append_right _ hi)) he2⟩⟩
theorem gNs_len : ∀ {ts : List (D → Ev → Option Ev)} {ds : List D} {en en' : Ev}, gNs ts ds en = some en' → ds.length = ts.length
  | [], [], _, _, _ => rfl
  | [], _ :: _, _, _, h => by cases h
  | _ :: _, [], _, _, h => by cases h
  | t :: ts, d :: ds, en, en', h => by
    unfold gNs at h
    cases q : t d en with
    | none => rw [q] at h; cases h
    | some en1 =>
      rw [q] at h
      rw [List.length_cons, List.length_cons, gNs_len h]
theorem jg_tup {is : List Nat} {es : List Expr} {k : Nat} {ts : List (D → Ev → Option Ev)} (hc : X.calm = true) (h : JGs X is es ts) (hn : (assignEach es X.env).length = ts.length := by rfl) (hst : (assignEach es X.env).findIdx? (·.1) = none := by rfl) : JG X is (.Tuple es k pos) (gT ts) :=
  pg_imp (pg_tup (n := ts.length) hc h hn hst) fun v σ H Q ⟨ρ, en, d, en', he, r, e1, k⟩ => by
    unfold gT at e1
    split at e1
    · rename_i ds
      obtain ⟨a, xs, rfl, hx, rr⟩ := r.tupA
      exact ⟨a, xs, rfl, SqT.of hx, by rw [← rr.length]; exact gNs_len e1, ρ, en, ds, en', he, rr, e1, k⟩
    · cases e1
def sAsg (m : EM) (t : D → Ev → Option Ev) : SM := sB m fun d en st => match t d en with
  | some en' => .nx en' st
  | none => .bad
/-- a, b = x, y by plain locals; three -/
def sPar2 (i j : Nat) (as : AM) : SM := sB as fun ds en st => match ds with
  | [d, d'] => .nx ((en.set i (some d)).set j (some d')) st
  | _ => .bad
theorem js_aug {i : Nat} {x : Str} {op : Operator} {g : O2} {pos' : Pos} (hN : X.N.Nodup) (hi : X.N[i]? = some x) (hx : Loc X.env.scope x) (he : JE X W e me) (ho : OpR X (inplaceOp op) (rB X.K g)) (hf : X.fn x = true ∨ X.env.scope.names.lookup x = some .local := by first | exact .inl rfl | exact .inr rfl | assumption) :
    JS X W (.AugAssign (.Name x pos') op e pos) (sB (eVar i) fun d0 => sB (fun en => bnd (me en) fun d => lft (g d0 d)) fun d en st => .nx (en.set i (some d)) st) :=
  ps_imp (ps_aug (ti := rB X.K g) hN hi hx he (fun pins s σ H x y v u Q I rx ry q => ho pins s σ H x y v u Q I rx ry q) hf) fun E σ H ⟨ρ, en, st, her, hs, h⟩ => by
    unfold sB at h
    cases q : eVar i en st with
    | exc _ _ => unfold eVar at q; split at q <;> cases q
    | bad => rw [q] at h; exact h.elim
    | ok d0 st0 =>
      rw [q] at h
      have hq : en[i]? = some (some d0) ∧ st0 = st := by
        unfold eVar at q
        split at q
        · rename_i d e1
          cases q
          exact ⟨e1, rfl⟩
        · cases q
      obtain ⟨e1, rfl⟩ := hq
      obtain ⟨v0, hv, r0⟩ := her.at_ i d0 e1
      refine ⟨v0, hv, ρ, en, st0, her, hs, ?_⟩
      have h2 := sB_rd (m := fun en => bnd (me en) fun d => lft (g d0 d)) (k := fun d en st => SR.nx (en.set i (some d)) st) her h
      refine (aft_bnd h2).imp fun ρ1 H1 st1 d le1 s1 q1 y ry => ?_
      obtain ⟨a, st', e2, k⟩ := aft_lft q1
      exact ⟨ρ1, st1, d0, d, a, st', s1, r0.mono le1, ry, e2, fun ρ' H' v le s r => by
        obtain ⟨er, q⟩ := k ρ' H' le s
        exact q ρ' H' _ Le.refl s (er.set r i)⟩
def sAug (i : Nat) (g : O2) (m : EM) : SM := sB (eVar i) fun d0 => sB (fun en => bnd (m en) fun d => lft (g d0 d)) fun d en st => .nx (en.set i (some d)) st
/-! ### o[i] = v -/
abbrev O3 := D → D → D → Sto → Option Sto
def rS3 (K : PySem.W.Frag) (g : O3) : TSet := fun o i v H Q => ∃ ρ st d e f st', StR K ρ H st ∧ Rep ρ H d o ∧ Rep ρ H e i ∧ Rep ρ H f v ∧ g d e f st = some st' ∧ ∀ ρ' H', Le ρ H ρ' H' → StR K ρ' H' st' → Q H'
def putD {κ : Type} [DecidableEq κ] (kvs : List (κ × D)) (k : κ) (v : D) : List (κ × D) :=
  if (kvs.any fun kv => decide (kv.1 = k)) = true then kvs.map (fun kv => if kv.1 = k then (kv.1, v) else kv) else kvs ++ [(k, v)]
theorem RepK.any {κ : Type} [DecidableEq κ] {ρ : List Addr} {H : Hp} (k : κ) : ∀ {kvs : List (κ × D)} {us : List (κ × V)}, RepK ρ H kvs us → (kvs.any fun kv => decide (kv.1 = k)) = (us.any fun kv => decide (kv.1 = k))
  | [], [], _ => rfl
  | [], _ :: _, ⟨h, _⟩ => by simp at h
  | _ :: _, [], ⟨h, _⟩ => by simp at h
  | (a, d) :: r, (b, v) :: t, ⟨h1, h2⟩ => by
    simp only [List.map_cons, List.cons.injEq] at h1
    obtain ⟨e1, e2⟩ := h1
    rw [List.map_cons, List.map_cons] at h2
    cases h2 with
    | cons q1 q2 =>
      rw [List.any_cons, List.any_cons, RepK.any k ⟨e2, q2⟩]
      show (decide (a = k) || _) = (decide (b = k) || _)
      rw [e1]
theorem RepK.mapPut {κ : Type} [DecidableEq κ] {ρ : List Addr} {H : Hp} {f : D} {w : V} (k : κ) (rf : Rep ρ H f w) : ∀ {kvs : List (κ × D)} {us : List (κ × V)}, RepK ρ H kvs us →
    RepK ρ H (kvs.map fun kv => if kv.1 = k then (kv.1, f) else kv) (us.map fun kv => if kv.1 = k then (kv.1, w) else kv)
  | [], [], _ => ⟨rfl, .nil⟩
  | [], _ :: _, ⟨h, _⟩ => by simp at h
  | _ :: _, [], ⟨h, _⟩ => by simp at h
  | (a, d) :: r, (b, v) :: t, ⟨h1, h2⟩ => by
    simp only [List.map_cons, List.cons.injEq] at h1
    obtain ⟨e1, e2⟩ := h1
    rw [List.map_cons, List.map_cons] at h2
    cases h2 with
    | cons q1 q2 =>
      obtain ⟨p1, p2⟩ := RepK.mapPut k rf ⟨e2, q2⟩
      subst e1
      by_cases hk : a = k
      · simp only [List.map_cons, hk, if_true]
        exact ⟨by simp only [List.map_cons, p1], by simp only [List.map_cons]; exact .cons rf p2⟩
      · simp only [List.map_cons, hk, if_false]
        exact ⟨by simp only [List.map_cons, p1], by simp only [List.map_cons]; exact .cons q1 p2⟩
theorem RepK.put {κ : Type} [DecidableEq κ] {ρ : List Addr} {H : Hp} {f : D} {w : V} {kvs : List (κ × D)} {us : List (κ × V)} (k : κ) (rf : Rep ρ H f w) (r : RepK ρ H kvs us) : RepK ρ H (putD kvs k f) (putK us k w) := by
  unfold putD putK
  rw [r.any k]
  by_cases hc : (us.any fun kv => decide (kv.1 = k)) = true
  · rw [if_pos hc, if_pos hc]
    exact RepK.mapPut k rf r
  · rw [if_neg hc, if_neg hc]
    exact ⟨by rw [List.map_append, List.map_append, r.1]; rfl, by rw [List.map_append, List.map_append]; exact r.2.append (.cons rf .nil)⟩
theorem RepK.mono {κ : Type} {ρ ρ' : List Addr} {H H' : Hp} {kvs : List (κ × D)} {us : List (κ × V)} (e : Le ρ H ρ' H') (r : RepK ρ H kvs us) : RepK ρ' H' kvs us := ⟨r.1, r.2.mono e⟩
theorem RepK.length {κ : Type} {ρ : List Addr} {H : Hp} {kvs : List (κ × D)} {us : List (κ × V)} (r : RepK ρ H kvs us) : kvs.length = us.length := by
  have := congrArg List.length r.1
  simpa using this
def setO : O3 := fun d e f st => match d with
  | .loc l => match st[l]? with
    | some (.lst ds) => match e with
      | .int i => match ixN ds.length i with
        | some j => some (st.set l (.lst (ds.set j f)))
        | none => none
      | _ => none
    | some (.dic kvs) => match keyOf e with
      | some k => if kvs.length < sizeLine then some (st.set l (.dic (putD kvs k f))) else none
      | none => none
    | _ => none
  | _ => none
theorem os_set (hu : X.A.units + 1 < cLine) : PSet X (rS3 X.K setO) := by
  intro pins s σ H o i v ov iv u Q I ro ri rv ⟨ρ, st, d, e, f, st', hs, rd, re, rf, h, k⟩
  unfold setO at h
  split at h
  · rename_i l
    obtain ⟨a, rfl, ha⟩ := rd.locA
    split at h
    · rename_i ds hl
      split at h
      · rename_i i
        split at h
        · rename_i j hj
          cases h
          cases re
          obtain ⟨xs, hx, r⟩ := hs.ob l _ a hl ha
          refine set_list pins s σ H _ _ v ov iv u Q I ro ri rv ⟨a, xs, i, j, rfl, rfl, hx, by rw [← r.length]; exact hj, ?_⟩
          obtain ⟨s1, l1⟩ := hs.put (o := .lst (xs.set j v)) (u := .lst (ds.set j f)) hl rfl rfl ha fun H' e' le => ⟨_, by rw [e']; exact upd_same, (r.set rf j).mono le⟩
          exact k ρ _ l1 s1
        · cases h
      · cases h
    · rename_i kvs hl
      split at h
      · rename_i kk hk
        split at h
        · rename_i hz
          cases h
          obtain ⟨us, hx, r⟩ := hs.ob l _ a hl ha
          have ey := keyOf_rep hk re
          subst ey
          have g : DPut H a (kV kk) v (upd H a (.dK (putK us kk v))) := DPut.k hx (by rw [← r.length]; exact hz)
          cases ro
          refine d_setItem hu I g ri rv fun s' I' => ⟨_, I', ?_⟩
          obtain ⟨s1, l1⟩ := hs.put (o := .dK (putK us kk v)) (u := .dic (putD kvs kk f)) hl rfl rfl ha fun H' e' le => ⟨_, by rw [e']; exact upd_same, (RepK.put kk rf r).mono le⟩
          exact k ρ _ l1 s1
        · cases h
      · cases h
    · cases h
  · cases h
def sPut (mv mo mi : EM) : SM := sB (fun en => bnd (mv en) fun v => bnd (mo en) fun o => bnd (mi en) fun i => fun st => match setO o i v st with
  | some st' => R.ok () st'
  | none => R.bad) fun _ en st => .nx en st
theorem js_put {o i : Expr} {mo mi : EM} {pos' : Pos} (hu : X.A.units + 1 < cLine) (he : JE X W e me) (ho : JE X W o mo) (hi : JE X W i mi)
    (ha : ∀ v, assign (.Subscript o i pos') X.env v = (do
      let ov ← holding [v] (eval o X.env)
      let iv ← holding [v, ov] (eval i X.env)
      standAt pos'
      holding [v, ov, iv] (setItem ov iv v)
      release [v, ov, iv] []) := by intro _; rfl) (hs : swapsWithSole [.Subscript o i pos'] e pos.line X.env = pure false := by rfl) (hw : swappedStores [.Subscript o i pos'] e X.env = pure none := by rfl)
    (h1 : (assignEach [.Subscript o i pos'] X.env).map (·.2) = [assign (.Subscript o i pos') X.env] := by rfl) : JS X W (.Assign [.Subscript o i pos'] e pos) (sPut me mo mi) :=
  ps_imp (ps_asg he (pg_sub ho hi (os_set hu) ha) hs hw h1) fun E σ H ⟨ρ, en, st, her, hs, h⟩ => by
    refine ⟨ρ, en, st, her, hs, (aft_bnd (sB_rd her h)).imp fun ρ1 H1 st1 f le1 s1 q1 v rv => ?_⟩
    refine ⟨ρ1, en, st1, her.mono le1, s1, (aft_bnd q1).imp fun ρ2 H2 st2 d le2 s2 q2 ov ro => ?_⟩
    refine ⟨ρ2, en, st2, her.mono (le1.trans le2), s2, (aft_bnd q2).imp fun ρ3 H3 st3 i le3 s3 q3 iv ri => ?_⟩
    cases q4 : setO d i f st3 with
    | none => rw [q4] at q3; exact q3.elim
    | some st4 =>
      rw [q4] at q3
      refine ⟨ρ3, st3, d, i, f, st4, s3, ro.mono le3, ri, rv.mono (le2.trans le3), q4, fun ρ' H' le s => ?_⟩
      obtain ⟨er, q⟩ := q3 ρ' H' le s
      exact q ρ' H' σ Le.refl s er
/-! ### what is walked -/
abbrev Src := Sto → Nat → Option (Option D)
def ItOk (K : PySem.W.Frag) (ρ : List Addr) (H : Hp) (src : Src) (J : It) : Prop := ∀ i ρ2 H2 st2, Le ρ H ρ2 H2 → StR K ρ2 H2 st2 →
  (∀ d, src st2 i = some (some d) → J.go i H2 ∧ ∀ x H3, J.yld i H2 x H3 → Le ρ2 H2 ρ2 H3 ∧ StR K ρ2 H3 st2 ∧ Rep ρ2 H3 d x) ∧ (src st2 i = some none → J.stop i H2)
def rdI (K : PySem.W.Frag) (mg : Mg) (W : WX) (m : Ev → M (Nat × Src)) : TI := fun σ H Rr => Wh K mg (WE W σ) σ H m fun ρ' H' _ p => ∀ J, ItOk K ρ' H' p.2 J → Rr J H'
abbrev JI (X : Cx) (W : WX) (tg iter : Expr) (m : Ev → M (Nat × Src)) : Prop := PI X tg iter (rdI X.K X.mg W m)
def srcIts (ds : List D) : Src := fun _ i => some ds[i]?
def srcAt (l : Nat) : Src := fun st i => match lstAt st l with
  | some ds => some ds[i]?
  | none => none
def sFor (b : SM) (tg : D → Ev → Option Ev) (src : Src) : Nat → Nat → SM
  | n, i => fun en st => match src st i with
    | some none => .nx en st
    | some (some d) => match n with
      | 0 => .bad
      | n + 1 => match tg d en with
        | none => .bad
        | some en1 => match b en1 st with
          | .nx en' st' => sFor b tg src n (i + 1) en' st'
          | .ct en' st' => sFor b tg src n (i + 1) en' st'
          | .bk en' st' => .nx en' st'
          | r => r
    | none => .bad
def sForI (m : Ev → M (Nat × Src)) (tg : D → Ev → Option Ev) (b : SM) : SM := sB m fun p => sFor b tg p.2 p.1 0
theorem js_for {is : List Nat} {tg iter : Expr} {body : List Stmt} {mi : Ev → M (Nat × Src)} {t : D → Ev → Option Ev} (hp : PassesOwn (model X.prog X.w) X.A X.env X.xe) (hc : X.calm = true) (hi : JI X W tg iter mi) (hg : JG X is tg t) (hb : JSs X W body mb)
    (hs : ∀ x, foldedSetIterable iter X.env x = pure x := by intro _; rfl) : JS X W (.For tg iter body [] pos) (sForI mi t mb) :=
  ps_imp (ps_for hp hc hi hg hb hs) fun E σ H ⟨ρ, en, st, her, hs, h⟩ => by
    refine ⟨ρ, en, st, her, hs, (sB_rd her h).imp fun ρ1 H1 st1 p le1 s1 ⟨er, q⟩ J hJ => ?_⟩
    obtain ⟨n, src⟩ := p
    refine ⟨fun i m σ' H' => ∃ ρ2 en2 st2, Le ρ1 H1 ρ2 H' ∧ EnR ρ2 H' en2 σ' ∧ StR X.K ρ2 H' st2 ∧ AftS X.K X.mg W ρ2 H' (sFor mb t src m i en2 st2) E, ⟨n, ρ1, en, st1, Le.refl, er, s1, q⟩, fun i m σ' H' hW => ?_⟩
    obtain ⟨ρ2, en2, st2, le2, er2, s2, q2⟩ := hW
    obtain ⟨hgo, hstop⟩ := hJ i ρ2 H' st2 le2 s2
    cases e1 : src st2 i with
    | none =>
      unfold sFor at q2
      rw [e1] at q2
      exact q2.elim
    | some o =>
      cases o with
      | none =>
        unfold sFor at q2
        rw [e1] at q2
        exact .inl ⟨hstop e1, q2 ρ2 H' σ' Le.refl s2 er2⟩
      | some d =>
        obtain ⟨h1, h2⟩ := hgo d e1
        cases m with
        | zero =>
          unfold sFor at q2
          rw [e1] at q2
          exact q2.elim
        | succ m =>
          unfold sFor at q2
          rw [e1] at q2
          dsimp only at q2
          cases e2 : t d en2 with
          | none =>
            rw [e2] at q2
            exact q2.elim
          | some en3 =>
            rw [e2] at q2
            dsimp only at q2
            refine .inr ⟨h1, fun σ3 H3 => ∃ ρ3 en3 st3, Le ρ1 H1 ρ3 H3 ∧ EnR ρ3 H3 en3 σ3 ∧ StR X.K ρ3 H3 st3 ∧ AftS X.K X.mg W ρ3 H3 (sFor mb t src m (i + 1) en3 st3) E, fun σ3 H3 w => ⟨m, Nat.lt_succ_self m, w⟩, fun x H3 y => ?_⟩
            obtain ⟨le3, s3, r3⟩ := h2 x H3 y
            refine ⟨ρ2, en2, d, en3, er2.mono le3, r3, e2, fun σ3 _ er3 => ⟨ρ2, en3, st2, er3, s3, ?_⟩⟩
            cases e3 : mb en3 st2 with
            | nx en' st' =>
              rw [e3] at q2
              exact fun ρ4 H4 σ4 le4 s4 r4 => ⟨ρ4, en', st', (le2.trans le3).trans le4, r4, s4, AftS.le (r := sFor mb t src m (i + 1) en' st') (le3.trans le4) q2⟩
            | ct en' st' =>
              rw [e3] at q2
              exact fun ρ4 H4 σ4 le4 s4 r4 => ⟨ρ4, en', st', (le2.trans le3).trans le4, r4, s4, AftS.le (r := sFor mb t src m (i + 1) en' st') (le3.trans le4) q2⟩
            | bk en' st' => rw [e3] at q2; exact AftS.le (r := .nx en' st') le3 q2
            | rt d' st' => rw [e3] at q2; exact AftS.le (r := .rt d' st') le3 q2
            | exc c en' st' => rw [e3] at q2; exact AftS.le (r := .exc c en' st') le3 q2
            | bad => rw [e3] at q2; exact q2
/-- a list, a tuple -/
def signsD (s : Str) : List D := s.cps.toList.map fun c => D.str ⟨#[c]⟩
def iSeq (m : EM) : Ev → M (Nat × Src) := fun en => bnd (m en) fun d st => match d with
  | .tup ds => .ok (ds.length, srcIts ds) st
  | .str s => .ok (s.length, srcIts (signsD s)) st
  | .loc l => match lstAt st l with
    | some ds => .ok (ds.length, srcAt l) st
    | none => .bad
  | _ => .bad
theorem pi_imp {tg iter : Expr} {t t' : TI} (h : PI X tg iter t) (k : ∀ σ H Rr, t' σ H Rr → t σ H Rr) : PI X tg iter t' := ⟨fun pins s σ H Rr I q => h.run pins s σ H Rr I (k σ H Rr q)⟩
theorem itok_tup {K : PySem.W.Frag} {ρ : List Addr} {H : Hp} {ds : List D} {a : Addr} {xs : List V} (hx : H a = some (.tup xs)) (r : RepL ρ H ds xs) : ItOk K ρ H (srcIts ds) (Itt K a) := by
  intro i ρ2 H2 st2 le s
  have hx2 := SqT.of (K := K) (le.tup _ _ hx)
  refine ⟨fun d e => ?_, fun e => ?_⟩
  · have e' : ds[i]? = some d := Option.some.inj e
    obtain ⟨x, h1, h2⟩ := r.get e'
    refine ⟨⟨xs, x, hx2, h1⟩, fun y H3 ⟨e3, q⟩ => ?_⟩
    subst e3
    have h3 := q xs hx2
    rw [h1] at h3
    cases h3
    exact ⟨Le.refl, s, h2.mono le⟩
  · have e' : ds[i]? = none := Option.some.inj e
    exact ⟨xs, hx2, by rw [← r.length]; exact List.getElem?_eq_none_iff.mp e'⟩
theorem itok_lst {K : PySem.W.Frag} {ρ : List Addr} {H : Hp} {l : Nat} {a : Addr} (ha : ρ[l]? = some a) : ItOk K ρ H (srcAt l) (Itl K a) := by
  intro i ρ2 H2 st2 le s
  have key : ∀ ds, lstAt st2 l = some ds → ∃ xs, SqL K H2 a xs ∧ RepL ρ2 H2 ds xs := fun ds e => by
    obtain ⟨b, xs, eb, h1, h2⟩ := lstAt_seq (K := K) s e (.loc (pre_get le.pre ha))
    cases eb
    exact ⟨xs, h1, h2⟩
  refine ⟨fun d e => ?_, fun e => ?_⟩
  · unfold srcAt at e
    cases q : lstAt st2 l with
    | none => rw [q] at e; cases e
    | some ds =>
      rw [q] at e
      have e' : ds[i]? = some d := Option.some.inj e
      obtain ⟨xs, hx, r⟩ := key ds q
      obtain ⟨x, h1, h2⟩ := r.get e'
      refine ⟨⟨xs, x, hx, h1⟩, fun y H3 ⟨e3, q⟩ => ?_⟩
      subst e3
      have h3 := q xs hx
      rw [h1] at h3
      cases h3
      exact ⟨Le.refl, s, h2⟩
  · unfold srcAt at e
    cases q : lstAt st2 l with
    | none => rw [q] at e; cases e
    | some ds =>
      rw [q] at e
      have e' : ds[i]? = none := Option.some.inj e
      obtain ⟨xs, hx, r⟩ := key ds q
      exact ⟨xs, hx, by rw [← r.length]; exact List.getElem?_eq_none_iff.mp e'⟩
theorem itok_str {K : PySem.W.Frag} {ρ : List Addr} {H : Hp} {z : Str} : ItOk K ρ H (srcIts (signsD z)) (Its z) := by
  intro i ρ2 H2 st2 le s
  have e0 : (signsD z)[i]? = (z.cps[i]?).map fun c => D.str ⟨#[c]⟩ := by
    unfold signsD
    rw [List.getElem?_map]
    simp
  refine ⟨fun d e => ?_, fun e => ?_⟩
  · have e' : (signsD z)[i]? = some d := Option.some.inj e
    rw [e0] at e'
    cases q : z.cps[i]? with
    | none => rw [q] at e'; cases e'
    | some c =>
      rw [q] at e'
      cases e'
      obtain ⟨h1, h2⟩ := Array.getElem?_eq_some_iff.mp q
      refine ⟨h1, fun x H3 ⟨e1, c', e2, e3⟩ => ?_⟩
      subst e1
      rw [q] at e2
      cases e2
      subst e3
      exact ⟨Le.refl, s, .str _⟩
  · have e' : (signsD z)[i]? = none := Option.some.inj e
    rw [e0] at e'
    cases q : z.cps[i]? with
    | some c => rw [q] at e'; cases e'
    | none => exact Array.getElem?_eq_none_iff.mp q
theorem ji_seq {tg iter : Expr} (he : JE X W iter me) : JI X W tg iter (iSeq me) := by
  refine ⟨fun pins s σ H Rr I h => ?_⟩
  have h1 := Wh.bnd (m := me) (f := fun _ d st => match d with
    | .tup ds => R.ok (ds.length, srcIts ds) st
    | .str s => R.ok (s.length, srcIts (signsD s)) st
    | .loc l => match lstAt st l with
      | some ds => R.ok (ds.length, srcAt l) st
      | none => R.bad
    | _ => R.bad) h
  refine thn (he.run pins s σ H (fun x H1 => (∃ z, x = .str z ∧ Rr (Its z) H1) ∨ ∃ a, x = .ref a ∧ ((∃ xs, H1 a = some (.tup xs) ∧ Rr (Itt X.K a) H1) ∨ ((∃ xs, SqL X.K H1 a xs) ∧ Rr (Itl X.K a) H1))) I (h1.imp fun ρ1 H1 st1 d _ ⟨en, er, s1, q⟩ v rv => ?_)) fun v s1 ⟨x, H1, I1, r1, q1⟩ => ?_
  · cases d with
    | tup ds =>
      obtain ⟨a, xs, rfl, hx, r⟩ := rv.tupA
      exact .inr ⟨a, rfl, .inl ⟨xs, hx, q ρ1 H1 Le.refl s1 _ (itok_tup hx r)⟩⟩
    | loc l =>
      dsimp only at q
      cases q2 : lstAt st1 l with
      | none => rw [q2] at q; exact q.elim
      | some ds =>
        rw [q2] at q
        obtain ⟨a, xs, rfl, hx, r⟩ := lstAt_seq (K := X.K) s1 q2 rv
        obtain ⟨b, eb, hb⟩ := rv.locA
        cases eb
        exact .inr ⟨a, rfl, .inr ⟨⟨xs, hx⟩, q ρ1 H1 Le.refl s1 _ (itok_lst hb)⟩⟩
    | non => exact q.elim
    | bl _ => exact q.elim
    | int _ => exact q.elim
    | str z =>
      cases rv
      exact .inl ⟨z, rfl, q ρ1 H1 Le.refl s1 _ itok_str⟩
    | ty _ => exact q.elim
  · obtain ⟨z, rfl, q⟩ | ⟨a, rfl, ⟨xs, hx, q⟩ | ⟨⟨xs, hx⟩, q⟩⟩ := q1
    · obtain ⟨t, rfl⟩ := r1
      cases ha : z.cps.all (· < 128)
      · exact wpAny_pyIter_wide ha (pi_one (tk := s1.toks) I1 _ (turn_str _ z t "str_iterator" (.inr rfl)) ⟨_, Heap.get?_push_size _ rfl, rfl, rfl⟩ q)
      · exact wpAny_pyIter_ascii ha (pi_one (tk := s1.toks) I1 _ (turn_str _ z t "str_ascii_iterator" (.inl rfl)) ⟨_, Heap.get?_push_size _ rfl, rfl, rfl⟩ q)
    · cases r1
      obtain ⟨its, rv, p, hz⟩ := I1.tuple (SqT.of hx)
      refine wpAny_pyIter_tuple (show s1.heap.IsTuple a its.toArray from p) ?_
      refine ⟨s1.heap.objs.size, [s1.heap.objs.size], _, _, H1, rfl, I1.kept (t' := s1.toks) fun b o e => Heap.get?_push_of_some _ e, turn_tuple a _, ⟨_, Heap.get?_push_size _ rfl, rfl, rfl⟩, fun b hb => ?_, q⟩
      have e : b = s1.heap.objs.size := by simpa using hb
      subst e
      exact I1.fpOk (Nat.le_refl _) (I1.hok.fresh (Nat.le_refl _))
    · cases r1
      obtain ⟨its, rv, p, hz⟩ := I1.list hx
      refine wpAny_pyIter_list p.isList ?_
      refine ⟨s1.heap.objs.size, [s1.heap.objs.size], _, _, H1, rfl, I1.kept (t' := s1.toks) fun b o e => Heap.get?_push_of_some _ e, turn_list a _, ⟨_, Heap.get?_push_size _ rfl, rfl, rfl⟩, fun b hb => ?_, q⟩
      have e : b = s1.heap.objs.size := by simpa using hb
      subst e
      exact I1.fpOk (Nat.le_refl _) (I1.hok.fresh (Nat.le_refl _))
/-- a range -/
def iRange1 (as : AM) : Ev → M (Nat × Src) := fun en => bnd (as en) fun ds st => match ds with
  | [.int j] => if -(2 ^ 62) ≤ j ∧ j < 2 ^ 62 then .ok (j.toNat, srcIts ((List.range j.toNat).map fun (k : Nat) => D.int (k : Int))) st else .bad
  | _ => .bad
def iRange2 (as : AM) : Ev → M (Nat × Src) := fun en => bnd (as en) fun ds st => match ds with
  | [.int i, .int j] => if -(2 ^ 62) ≤ i ∧ i < 2 ^ 62 ∧ -(2 ^ 62) ≤ j ∧ j < 2 ^ 62 then .ok ((j - i).toNat, srcIts ((List.range (j - i).toNat).map fun (k : Nat) => D.int (i + (k : Int)))) st else .bad
  | _ => .bad
theorem itok_rng {K : PySem.W.Frag} {ρ : List Addr} {H : Hp} {lo : Int} {n : Nat} : ItOk K ρ H (srcIts ((List.range n).map fun (k : Nat) => D.int (lo + (k : Int)))) (Itr lo n) := by
  intro i ρ2 H2 st2 le s
  refine ⟨fun d e => ?_, fun e => ?_⟩
  · have e' : ((List.range n).map fun (k : Nat) => D.int (lo + (k : Int)))[i]? = some d := Option.some.inj e
    rw [List.getElem?_map] at e'
    cases q : (List.range n)[i]? with
    | none => rw [q] at e'; cases e'
    | some k =>
      rw [q] at e'
      cases e'
      obtain ⟨h1, h2⟩ := List.getElem?_eq_some_iff.mp q
      rw [List.getElem_range] at h2
      subst h2
      rw [List.length_range] at h1
      exact ⟨h1, fun x H3 ⟨e1, e2⟩ => by subst e1; subst e2; exact ⟨Le.refl, s, .int _⟩⟩
  · have e' : ((List.range n).map fun (k : Nat) => D.int (lo + (k : Int)))[i]? = none := Option.some.inj e
    have := List.getElem?_eq_none_iff.mp e'
    rw [List.length_map, List.length_range] at this
    exact this
theorem ji_range1 {tg a : Expr} {mas : AM} {p : Pos} (hg : Gl X "range") (hm : X.mg "range" = none) (ha : JA X W [a] mas) (hs : starEach [a] X.env = [(false, eval a X.env)] := by rfl) : JI X W tg (.Call (.Name "range" p) [a] [] pos) (iRange1 mas) :=
  pi_imp (pi_range1 hg hm ha hs) fun σ H Rr h => (Wh.bnd (m := mas) (f := fun _ ds st => match ds with
    | [.int j] => if -(2 ^ 62) ≤ j ∧ j < 2 ^ 62 then R.ok (j.toNat, srcIts ((List.range j.toNat).map fun (k : Nat) => D.int (k : Int))) st else .bad
    | _ => R.bad) h).imp fun ρ1 H1 st1 ds _ ⟨en, er, s1, q⟩ vs rvs => by
    split at q
    · split at q
      · rename_i j _ hc
        cases rvs with
        | cons r t =>
          cases t
          cases r
          have e0 : ((List.range j.toNat).map fun (k : Nat) => D.int (k : Int)) = ((List.range j.toNat).map fun (k : Nat) => D.int (0 + (k : Int))) := List.map_congr_left fun k _ => by rw [Int.zero_add]
          refine ⟨j, rfl, hc.1, hc.2, q ρ1 H1 Le.refl s1 _ ?_⟩
          dsimp only
          rw [e0]
          exact itok_rng
      · exact q.elim
    · exact q.elim
end
/-! ### defs -/
def startD (n : Nat) (ds : List D) : Ev := ds.map some ++ List.replicate (n - ds.length) none
def runDef (n : Nat) (b : SM) : Fn := fun ds st => match b (startD n ds) st with
  | .nx _ st' => .ok .non st'
  | .rt d st' => .ok d st'
  | .exc c _ st' => .exc c st'
  | _ => .bad
theorem start_rep {ρ : List Addr} {H : Hp} {N : List Str} : ∀ {ds : List D} {vs : List V}, RepL ρ H ds vs → EnR ρ H (startD N.length ds) (L2.start N vs) := fun {ds vs} r => by
  refine ⟨by unfold startD L2.start; rw [List.length_append, List.length_append, List.length_map, List.length_map, List.length_replicate, List.length_replicate, r.length], fun i d h => ?_⟩
  unfold startD at h
  unfold L2.start
  by_cases hi : i < ds.length
  · rw [List.getElem?_append_left (by rw [List.length_map]; exact hi), List.getElem?_map] at h
    cases q : ds[i]? with
    | none => rw [q] at h; cases h
    | some e =>
      rw [q] at h
      cases h
      obtain ⟨v, h1, h2⟩ := r.get q
      refine ⟨v, ?_, h2⟩
      rw [List.getElem?_append_left (by rw [List.length_map, ← r.length]; exact hi), List.getElem?_map, h1]
      rfl
  · rw [List.getElem?_append_right (by rw [List.length_map]; omega)] at h
    have := List.mem_of_getElem? h
    have := List.eq_of_mem_replicate this
    cases this
section
variable {P : Program} {w : World} {K : PySem.W.Frag} {mg : Mg} {base : Heap}
theorem fnG_of {CX : CXT} {k : Nat} {f : Addr} {name qual : Str} {params : Arguments} {body : List Stmt} {scope : Scope} {dV kV doc pm cdv ct oc : Value} {an od : Option Addr} {osl : Array (Option Value)} {N ps : List Str} {sp : Sp} (lk : K.lookup f = some ⟨oc, od, .func (PySem.W.fnOf name qual params body scope dV kV doc pm an cdv ct), osl⟩) (hcd : PySem.W.codeIn K cdv qual = true) (S : FnScope N ps scope)
    (len : ∀ vs H Q E, sp vs H Q E → vs.length = ps.length)
    (hbody : ∀ (A : Around) (outer : List Env) (s : Shared) (H : Hp) (vs : List V) (Q : VK) (E : XK), Room k (A.deeper (envOfC qual scope s.heap.objs.size f cdv)) → (A.deeper (envOfC qual scope s.heap.objs.size f cdv)).guards = some [] → sp vs H Q E →
      ∃ t, PSs (cxOf CX P w K mg base N qual scope f cdv A outer s H E) body t ∧ t { nx := fun _ H' => Q .non H', rt := Q } (L2.start N vs) H) :
    FnG P w K mg base CX (k + 1) f (PySem.W.fnOf name qual params body scope dV kV doc pm an cdv ct) ps sp := by
  refine ⟨len, fun A outer s H args us vs Q E ⟨hr, hgd⟩ e0 hb r hsp => ?_⟩
  have KX : K.In s.heap := e0.mod.kin.keeps fun b o e => (e0.bs b o e).1
  have kinds : ∀ y ∈ ps.zip us, scope.names.lookup y.1 = some .local ∨ (scope.names.lookup y.1 = some .cell ∧ ((cellsFrom (s.heap.objs.size + 1) scope.names []).lookup y.1).isSome = true) := fun y hy => (S.par y.1 (List.of_mem_zip hy).1).imp id fun q => ⟨q, PySem.W.cellsFrom_some _ _ _ (.inl q)⟩
  refine codeAny_call_function hr.depth (KX _ _ lk) rfl S.co S.gen rfl (PySem.W.codeRec_of KX hcd) (hb _ _ _ _ (wpAny_newFunctionEnv_cells S.kind kinds fun env he s1 x => ?_))
  subst he
  refine ⟨(e0.mod.nolimit.keeps fun b o e => (e0.bs b o e).1).keeps x.toInCall.keep, codeAny_func ?_⟩
  obtain ⟨t, ht, hq⟩ := hbody A outer s H vs Q E (hr.deeper _) hgd hsp
  have I : Inv (cxOf CX P w K mg base N qual scope f cdv A outer s H E) [] (L2.start N vs) H s1 := inv_start S hr.hd e0 (len _ _ _ _ hsp) r x
  refine wpAny_mono (ht.run [] s1 (L2.start N vs) H _ I hq) (fun fl s' hs => ?_) fun e s' hs => hs
  cases fl with
  | ret u =>
    obtain ⟨v, σ', H', J, rv, q⟩ := hs
    exact ⟨v, H', J.os, J.bare, J.base, J.hok, rv, q⟩
  | next =>
    obtain ⟨σ', H', J, q⟩ := hs
    exact ⟨V.non, H', J.os, J.bare, J.base, J.hok, rfl, q⟩
  | _ =>
    obtain ⟨_, _, _, q⟩ := hs
    exact False.elim q
/-- THE RULE: a def by its body -/
theorem def_ok {x qual : Str} {st : Stmt} {f : Addr} {fd : FuncData} {N ps : List Str} {k : Nat} {m : SM} (F : L2.Fun K x qual st f fd) (S : FnScope N ps (defScope st))
    (hb : ∀ (cdv : Value) (A : Around) (outer : List Env) (s : Shared) (H : Hp) (E : XK), Room k (A.deeper (envOfC qual (defScope st) s.heap.objs.size f cdv)) → (A.deeper (envOfC qual (defScope st) s.heap.objs.size f cdv)).guards = some [] →
      JSs (cxOf (L2.CX P w) P w K mg base N qual (defScope st) f cdv A outer s H E) (fun cls d _ H => E cls d H) (defBody st) m) : FnS P w K mg base (k + 1) f fd ps (runDef N.length m) := by
  obtain ⟨oc, od, kV, doc, pm, an, cdv, ct, osl, rfl, lk, hcd⟩ := F.ex
  refine fnG_of lk hcd S (fun vs H Q E h => h.1) (fun A outer s H vs Q E hr hgd h => ?_)
  obtain ⟨_, ρ, st0, ds, hs, r, q⟩ := h
  refine ⟨_, hb cdv A outer s H E hr hgd, ρ, startD N.length ds, st0, start_rep r, hs, ?_⟩
  unfold runDef at q
  cases e : m (startD N.length ds) st0 with
  | nx en' st' =>
    rw [e] at q
    exact fun ρ' H' σ' le s er => q ρ' H' le s _ .non
  | rt d st' =>
    rw [e] at q
    exact fun ρ' H' v le s rv => q ρ' H' le s v rv
  | exc c en' st' =>
    rw [e] at q
    exact fun ρ' H' σ' C le s er mc => q ρ' H' C le s mc
  | bk _ _ => rw [e] at q; exact q.elim
  | ct _ _ => rw [e] at q; exact q.elim
  | bad => rw [e] at q; exact q.elim
theorem def_zero {f : Addr} {fd : FuncData} {ps : List Str} : FnS P w K mg base 0 f fd ps (fun _ => badM) := ⟨fun vs H Q E h => h.1, fun A outer s H args us vs Q E _ _ _ _ ⟨_, _, _, _, _, _, q⟩ => q.elim⟩
end
/-! ### the law -/
theorem law_callG {P : Program} {w : World} {K : PySem.W.Frag} {mg mb : Str → Option Value} {CX : CXT} {k : Nat} {fa a : Addr} {fd : FuncData} {x : Str} {sp : Sp} {s₁ : Shared} {vs : List Value} {ns : List Int} (KX : K.In s₁.heap) (hns : s₁.heap.Ns mainGlobals mg) (hb : s₁.heap.Ns builtinsNs mb) (hbb : ∀ x : Str, x ≠ "__name__" → mb x = bootBuiltins x)
    (hlim : s₁.heap.NoLimit) (hg : s₁.gens = #[]) (ha : s₁.heap.get? a = some { cls := .type "list", data := .seq vs.toArray }) (hi : IntsAre vs ns) (hl : ns.length ≤ sizeLine) (hr : Room k callerA)
    (F : ∀ base : Heap, K.In base → base.Ns mainGlobals mg → FnG P w K mg base CX k fa fd [x] sp) (hbind : ∀ (s : Shared) (u : Value), BindsTo s fd ⟨[u], []⟩ [(x, u)]) (hsp : ∀ H : Hp, Only H → SqL K H a (ns.map V.int) → sp [.ref a] H (fun v _ => v = .bl true) fun _ _ _ => False)
    (hCX : ∀ H e s', CX [] H s₁ (fun _ _ _ => False) e s' → False) : codeAny (model P w) callerA (.call (.ref fa) ⟨[.ref a], []⟩) (fun r s' => r = .ok (.ret (.bool true)) ∧ OldK s₁.heap s'.heap ∧ s'.os = s₁.os ∧ AllBare s'.gens) s₁ := by
  have rv := vals_ints hi
  have lenV := hi.length
  have core : ∀ H : Hp, Only H → SqL K H a (ns.map V.int) → HOk P w H s₁.heap → (∀ b, H b ≠ none → b = a) → (H a ≠ none → K.lookup a = none) → codeAny (model P w) callerA (.call (.ref fa) ⟨[.ref a], []⟩) (fun r s' => r = .ok (.ret (.bool true)) ∧ OldK s₁.heap s'.heap ∧ s'.os = s₁.os ∧ AllBare s'.gens) s₁ := by
    intro H hO hS hok hA hK
    have isA : ∀ {b : Addr} {u : HO}, H b = some u → b = a := fun {b u} q => hA b (by rw [q]; simp)
    have noA : ∀ {b : Addr} {o : Obj} {es : Array DictEntry} {ep : Nat}, s₁.heap.get? b = some o → o.data = .dict es ep → H b = none := fun {b o es ep} e d => by
      cases q : H b with
      | none => rfl
      | some u =>
        have e' := isA q
        subst e'
        rw [ha] at e; cases e
        have d' : Data.seq vs.toArray _ = Data.dict es ep := d
        cases d'
    have nsK : ∀ {b : Addr} {m : Str → Option Value}, s₁.heap.Ns b m → (hidT s₁.heap H).Ns b m := fun {b m} ⟨o, es, ep, e, d, r⟩ => ⟨o, es, ep, hidT_get e (noA e d), d, r⟩
    have hKb : K.In (hidT s₁.heap H) := fun b o e => hidT_get (KX b o e) (by
      cases q : H b with
      | none => rfl
      | some u =>
        have e' := isA q
        subst e'
        rw [hK (by rw [q]; simp)] at e; cases e)
    have hM : Mod K mg (hidT s₁.heap H) := ⟨hKb, nsK hns, ⟨mb, nsK hb, hbb⟩, let ⟨mc, h1, h2⟩ := hlim; ⟨mc, nsK h1, h2⟩⟩
    have e0 : Env0 P w K mg (hidT s₁.heap H) callerA [] s₁ H := ⟨rfl, hM, fun b o e => of_hidT e, Nat.le_of_eq (hidT_size _ _), trivial, fun b hb => absurd (show b ∈ ([] : List Addr) from hb) (by simp), hok, .of_eq hg⟩
    refine codeAny_mono ((F _ hKb (nsK hns)).run callerA [] s₁ H ⟨[.ref a], []⟩ [.ref a] [.ref a] _ _ ⟨hr, rfl⟩ e0 (hbind s₁ (.ref a)) (.cons rfl .nil) (hsp H hO hS)) fun r s' h => ?_
    cases r with
    | error e => exact (hCX H e s' h).elim
    | ok fl =>
      cases fl with
      | ret u =>
        obtain ⟨v, H', os, bare, un, hok', r', q⟩ := h
        have q' : v = .bl true := q
        subst q'
        obtain rfl : u = Value.bool true := r'
        refine ⟨rfl, OldK.of_keep fun b o e => ?_, os, bare⟩
        cases q : H b with
        | none => exact un.keep b o e q (by intro z; exact absurd (show b ∈ ([] : List Addr) from z) (by simp)) (by simp)
        | some u =>
          rcases hO b with z | ⟨ob, xs, z⟩
          · rw [q] at z; cases z
          · obtain ⟨e1, _⟩ := hok b _ z
            obtain ⟨e2, _⟩ := hok' b _ (un.frzs b ob _ z)
            rw [e] at e1; cases e1
            exact e2
      | _ => exact False.elim h
  cases hk : K.lookup a with
  | some o =>
    have e := KX a o hk
    rw [ha] at e
    cases e
    refine core (fun _ => none) (fun _ => .inl rfl) (.inr ⟨_, vs.toArray, _, hk, rfl, rfl, rfl, by rw [List.size_toArray, lenV]; exact hl, by simpa using rv⟩) (fun b u z => by have z' : (none : Option HO) = some u := z; cases z') (fun b z => absurd rfl z) fun z => absurd rfl z
  | none =>
    refine core (fun b => if b = a then some (.frz { cls := .type "list", data := .seq vs.toArray } (.lst (ns.map V.int))) else none) (fun b => ?_) (.inl (.inr ⟨{ cls := .type "list", data := .seq vs.toArray }, if_pos rfl⟩)) (fun b u z => ?_) (fun b z => ?_) fun _ => hk
    · by_cases hb : b = a
      · exact .inr ⟨_, _, if_pos hb⟩
      · exact .inl (if_neg hb)
    · by_cases hb : b = a
      · cases (if_pos hb).symm.trans z
        subst hb
        exact ⟨ha, by rw [List.length_map]; exact hl, vs, _, rv, ha⟩
      · cases (if_neg hb).symm.trans z
    · by_cases hb : b = a
      · exact hb
      · exact absurd (if_neg hb) z
theorem walk_ofG {l : PySem.W.OpenLaw} {n k : Nat} {q : Program} {loose : List Str} {XP : (Str → Option Value) → Heap → Prop} {YP : World → Heap → Prop} {d : DefRec} {K : Params → PySem.W.Frag} {CX : World → CXT} {sp : World → Sp} {x : Str} (hn : l.most = some n) (hn2 : n ≤ sizeLine) (hdf : d.params.defaults = []) (hr : Room k callerA)
    (hY : ∀ (w : World) (h : Heap), YP w h → (K w.params).In h)
    (F : ∀ (w : World) (mg : Str → Option Value) (fa : Addr) (h : Heap), (K w.params).In h → h.Ns mainGlobals mg → mg d.name = some (.ref fa) → ∃ fd : FuncData, (∀ (s : Shared) (u : Value), BindsTo s fd ⟨[u], []⟩ [(x, u)]) ∧ ∀ base : Heap, (K w.params).In base → base.Ns mainGlobals mg → FnG l.prog w (K w.params) mg base (CX w) k fa fd [x] (sp w))
    (hsp : ∀ (w : World) (H : Hp) (a : Addr) (ns : List Int), ns.length ≤ n → (∀ z ∈ ns, Builtin.Int.intBits z ≤ 1048576) → Only H → SqL (K w.params) H a (ns.map V.int) → sp w [.ref a] H (fun v _ => v = .bl true) fun _ _ _ => False)
    (hCX : ∀ (w : World) (H : Hp) (s : Shared) (e : Value) (s' : Shared), CX w [] H s (fun _ _ _ => False) e s' → False) : PySem.W.WalkO q loose XP YP l.row.toRowW d [] (fun f vs => PySem.call f vs) := by
  refine Att.attach_callB hn hdf fun w s₀ s₁ mg mb fa o pm cd doc a vs ns G Y ho hd hcd hmg hobj hints hlen hbits hg => ?_
  obtain ⟨fd, hb, hF⟩ := F w mg fa _ (hY w _ Y) G.T.g hmg
  exact law_callG (hY w _ Y) G.T.g G.T.b G.T.builtins G.T.nolimit hg hobj hints (Nat.le_trans hlen hn2) hr hF hb (fun H hO hS => hsp w H a ns hlen hbits hO hS) fun H e s' => hCX w H s₁ e s'
theorem law_ok {l : PySem.W.OpenLaw} {n k : Nat} {q : Program} {loose : List Str} {XP : (Str → Option Value) → Heap → Prop} {YP : World → Heap → Prop} {d : DefRec} {KK : Params → PySem.W.Frag} {x : Str} (hn : l.most = some n) (hn2 : n ≤ sizeLine) (hdf : d.params.defaults = []) (hr : Room k callerA)
    (hY : ∀ (w : World) (h : Heap), YP w h → (KK w.params).In h) (F : Fn)
    (hF : ∀ (w : World) (mg : Str → Option Value) (fa : Addr) (h : Heap), (KK w.params).In h → h.Ns mainGlobals mg → mg d.name = some (.ref fa) →
      ∃ fd : FuncData, (∀ (s : Shared) (u : Value), BindsTo s fd ⟨[u], []⟩ [(x, u)]) ∧
        ∀ base : Heap, (KK w.params).In base → base.Ns mainGlobals mg → ∃ mg', FnG l.prog w (KK w.params) mg base (L2.CX l.prog w) k fa fd [x] (spF (KK w.params) mg' 1 F))
    (hT : ∀ ns : List Int, ns.length ≤ n → (∀ z ∈ ns, Builtin.Int.intBits z ≤ 1048576) → ∃ st', F [.loc 0] [.rol (ns.map D.int)] = .ok (.bl true) st') :
    PySem.W.WalkO q loose XP YP l.row.toRowW d [] (fun f vs => PySem.call f vs) := by
  refine walk_ofG (n := n) (k := k) (x := x) (CX := fun w => L2.CX l.prog w) (sp := fun w vs H Q E => ∃ (a : Addr) (ns : List Int), vs = [.ref a] ∧ ns.length ≤ n ∧ (∀ z ∈ ns, Builtin.Int.intBits z ≤ 1048576) ∧ Only H ∧ SqL (KK w.params) H a (ns.map V.int) ∧ ∀ H', Q (.bl true) H') hn hn2 hdf hr hY (fun w mg fa h KX G hmg => ?_)
    (fun w H a ns hl hb hO hS => ⟨a, ns, rfl, hl, hb, hO, hS, fun _ => rfl⟩) (fun w H s e s' h => ?_)
  · obtain ⟨fd, h1, h2⟩ := hF w mg fa h KX G hmg
    refine ⟨fd, h1, fun base hb hns => ?_⟩
    obtain ⟨mg', h3⟩ := h2 base hb hns
    refine h3.imp fun vs H Q E hsp => ?_
    obtain ⟨a, ns, rfl, hl, hbits, hO, hS, hq⟩ := hsp
    refine ⟨rfl, [a], [.rol (ns.map D.int)], [.loc 0], ⟨rfl, fun l m b e1 e2 m1 m2 => ?_, fun l o b e1 e2 => ?_⟩, .cons (.loc rfl) .nil, ?_⟩
    · cases l with
      | zero => cases m1
      | succ l => cases e1
    · cases l with
      | zero =>
        cases e1
        cases e2
        refine ⟨ns.map V.int, ?_, RepL.of_ints ns⟩
        rcases hS with (h | ⟨o, h⟩) | h
        · rcases hO a with z | ⟨o, xs, z⟩
          · rw [z] at h; cases h
          · rw [z] at h; cases h
        · exact .inl ⟨o, h⟩
        · exact .inr h
      | succ l => cases e1
    · obtain ⟨st', e⟩ := hT ns hl hbits
      rw [e]
      intro ρ' H' le s v rv
      cases rv
      exact hq H'
  · obtain ⟨_, _, _, _, _, _, _, _, _, _, _, _, z⟩ := h
    exact z.elim
end Sh

set_option maxHeartbeats 1000000
/-! ShE: built-ins, methods, slices, comprehensions, dict displays, raise. -/
namespace Sh
open PySem PySem.Spec PyProof.Rows L2

def asStrs : List D → Option (List Str)
  | [] => some []
  | .str s :: r => match asStrs r with
    | some ss => some (s :: ss)
    | none => none
  | _ => none
def asBls : List D → Option (List Bool)
  | [] => some []
  | .bl s :: r => match asBls r with
    | some ss => some (s :: ss)
    | none => none
  | _ => none
theorem asStrs_eq : ∀ {ds : List D} {ss : List Str}, asStrs ds = some ss → ds = ss.map D.str
  | [], _, h => by cases h; rfl
  | .str s :: r, _, h => by
    unfold asStrs at h
    cases q : asStrs r with
    | none => rw [q] at h; cases h
    | some ss => rw [q] at h; cases h; rw [asStrs_eq q]; rfl
  | .non :: _, _, h => by cases h
  | .bl _ :: _, _, h => by cases h
  | .int _ :: _, _, h => by cases h
  | .tup _ :: _, _, h => by cases h
  | .loc _ :: _, _, h => by cases h
  | .ty _ :: _, _, h => by cases h
theorem asBls_eq : ∀ {ds : List D} {ss : List Bool}, asBls ds = some ss → ds = ss.map D.bl
  | [], _, h => by cases h; rfl
  | .bl s :: r, _, h => by
    unfold asBls at h
    cases q : asBls r with
    | none => rw [q] at h; cases h
    | some ss => rw [q] at h; cases h; rw [asBls_eq q]; rfl
  | .non :: _, _, h => by cases h
  | .str _ :: _, _, h => by cases h
  | .int _ :: _, _, h => by cases h
  | .tup _ :: _, _, h => by cases h
  | .loc _ :: _, _, h => by cases h
  | .ty _ :: _, _, h => by cases h
theorem asStrs_map (ss : List Str) : asStrs (ss.map D.str) = some ss := by
  induction ss with
  | nil => rfl
  | cons s r ih => unfold asStrs; rw [List.map_cons]; dsimp only; rw [ih]
theorem asBls_map (ss : List Bool) : asBls (ss.map D.bl) = some ss := by
  induction ss with
  | nil => rfl
  | cons s r ih => unfold asBls; rw [List.map_cons]; dsimp only; rw [ih]
/-! ### built-ins -/
def lenD (d : D) (st : Sto) : Option Int := match d with
  | .str s => if s.length ≤ sizeLine then some (s.length : Int) else none
  | .tup ds => some (ds.length : Int)
  | .loc l => match st[l]? with
    | some (.lst ds) => some (ds.length : Int)
    | some (.rol ds) => some (ds.length : Int)
    | some (.dic kvs) => some (kvs.length : Int)
    | _ => none
  | _ => none
def oLen : OC := fun ds st => match ds with
  | [d] => match lenD d st with
    | some n => some (.int n, st)
    | none => none
  | _ => none
def oAbs : OC := fun ds st => match ds with
  | [.int i] => some (.int (if i < 0 then -i else i), st)
  | _ => none
def oInt : OC := fun ds st => match ds with
  | [.int i] => some (.int i, st)
  | [.bl b] => some (.int (if b then 1 else 0), st)
  | _ => none
def oStrI : OC := fun ds st => match ds with
  | [.int i] => if i.natAbs.log2 < 1920 then some (.str (toString i), st) else none
  | _ => none
/-- the items of a list or tuple -/
def itemsD (d : D) (st : Sto) : Option (List D) := match d with
  | .tup ds => some ds
  | .loc l => lstAt st l
  | _ => none
def oTuple : OC := fun ds st => match ds with
  | [d] => match itemsD d st with
    | some es => some (.tup es, st)
    | none => none
  | _ => none
def oAll : OC := fun ds st => match ds with
  | [.loc l] => match lstAt st l with
    | some es => match asBls es with
      | some bs => some (.bl (bs.all id), st)
      | none => none
    | none => none
  | _ => none
section
variable {X : Cx}
theorem items_rep {K : PySem.W.Frag} {ρ : List Addr} {H : Hp} {st : Sto} {d : D} {v : V} {es : List D} (hs : StR K ρ H st) (r : Rep ρ H d v) (h : itemsD d st = some es) : ∃ p ys, v = .ref p ∧ (SqL K H p ys ∨ SqT K H p ys) ∧ RepL ρ H es ys := by
  unfold itemsD at h
  split at h
  · cases h
    obtain ⟨a, xs, rfl, hx, rr⟩ := r.tupA
    exact ⟨a, xs, rfl, .inr (SqT.of hx), rr⟩
  · obtain ⟨a, xs, rfl, hx, rr⟩ := lstAt_seq hs h r
    exact ⟨a, xs, rfl, .inl hx, rr⟩
  · cases h
theorem cb_len : CallR X (.builtin "len") (rC X.K oLen) := by
  intro pins s σ H vs us Q I r ⟨ρ, st, ds, a, st', hs, rs, h, k⟩
  unfold oLen at h
  split at h
  · rename_i d
    split at h
    · rename_i n hn
      cases h
      have kq := k ρ H _ Le.refl hs (.int n)
      cases rs with
      | cons r1 t1 =>
        cases t1
        unfold lenD at hn
        split at hn
        · split at hn
          · rename_i hz
            cases hn
            cases r1
            exact call_len_str pins s σ H _ us Q I r ⟨_, rfl, hz, kq⟩
          · cases hn
        · cases hn
          obtain ⟨p, xs, rfl, hx, rr⟩ := r1.tupA
          exact call_len_seq pins s σ H _ us Q I r ⟨p, xs, rfl, .inr (SqT.of hx), by rw [← rr.length]; exact kq⟩
        · rename_i l
          split at hn
          · rename_i es hl
            cases hn
            obtain ⟨p, xs, rfl, hx, rr⟩ := lstAt_seq (ds := es) hs (by unfold lstAt; rw [hl]) r1
            exact call_len_seq pins s σ H _ us Q I r ⟨p, xs, rfl, .inl hx, by rw [← rr.length]; exact kq⟩
          · rename_i es hl
            cases hn
            obtain ⟨p, xs, rfl, hx, rr⟩ := lstAt_seq (ds := es) hs (by unfold lstAt; rw [hl]) r1
            exact call_len_seq pins s σ H _ us Q I r ⟨p, xs, rfl, .inl hx, by rw [← rr.length]; exact kq⟩
          · rename_i kvs hl
            cases hn
            obtain ⟨p, rfl, hp⟩ := r1.locA
            obtain ⟨us', e1, rr⟩ := hs.ob _ _ p hl hp
            exact call_lenD pins s σ H _ us Q I r ⟨p, us', rfl, e1, by rw [← rr.length]; exact kq⟩
          · cases hn
        · cases hn
    · cases h
  · cases h
theorem cb_abs : CallR X (.builtin "abs") (rC X.K oAbs) := by
  intro pins s σ H vs us Q I r ⟨ρ, st, ds, a, st', hs, rs, h, k⟩
  unfold oAbs at h
  split at h
  · cases h
    cases rs with
    | cons r1 t1 =>
      cases t1
      cases r1
      exact call_abs pins s σ H _ us Q I r ⟨_, rfl, k ρ H _ Le.refl hs (.int _)⟩
  · cases h
theorem ct_int : CallR X (.type "int") (rC X.K oInt) := by
  intro pins s σ H vs us Q I r ⟨ρ, st, ds, a, st', hs, rs, h, k⟩
  unfold oInt at h
  split at h
  · cases h
    cases rs with
    | cons r1 t1 =>
      cases t1
      cases r1
      exact call_int1 pins s σ H _ us Q I r (.inl ⟨_, rfl, k ρ H _ Le.refl hs (.int _)⟩)
  · cases h
    cases rs with
    | cons r1 t1 =>
      cases t1
      cases r1
      exact call_int1 pins s σ H _ us Q I r (.inr ⟨_, rfl, k ρ H _ Le.refl hs (.int _)⟩)
  · cases h
theorem ct_strI : CallR X (.type "str") (rC X.K oStrI) := by
  intro pins s σ H vs us Q I r ⟨ρ, st, ds, a, st', hs, rs, h, k⟩
  unfold oStrI at h
  split at h
  · split at h
    · rename_i hz
      cases h
      cases rs with
      | cons r1 t1 =>
        cases t1
        cases r1
        exact call_str_int pins s σ H _ us Q I r ⟨_, rfl, hz, k ρ H _ Le.refl hs (.str _)⟩
    · cases h
  · cases h
theorem ct_tuple : CallR X (.type "tuple") (rC X.K oTuple) := by
  intro pins s σ H vs us Q I r ⟨ρ, st, ds, a, st', hs, rs, h, k⟩
  unfold oTuple at h
  split at h
  · rename_i d
    split at h
    · rename_i es he
      cases h
      cases rs with
      | cons r1 t1 =>
        cases t1
        obtain ⟨p, ys, rfl, hx, rr⟩ := items_rep hs r1 he
        rcases hx with hx | hx
        · refine call_tuple_of pins s σ H _ us Q I r ⟨p, ys, rfl, .inl ⟨hx, fun n hn => ?_⟩⟩
          have le := Le.laid (ρ := ρ) n (.tup ys) hn
          exact k ρ _ _ le (hs.laid hn) (.tup upd_same (rr.mono le))
        · cases d with
          | tup ds =>
            cases he
            exact call_tuple_of pins s σ H _ us Q I r ⟨p, ys, rfl, .inr ⟨hx, k ρ H _ Le.refl hs r1⟩⟩
          | loc l =>
            obtain ⟨p', xs, e', hx', rr'⟩ := lstAt_seq (K := X.K) hs he r1
            cases e'
            refine call_tuple_of pins s σ H _ us Q I r ⟨p, xs, rfl, .inl ⟨hx', fun n hn => ?_⟩⟩
            have le := Le.laid (ρ := ρ) n (.tup xs) hn
            exact k ρ _ _ le (hs.laid hn) (.tup upd_same (rr'.mono le))
          | non => cases he
          | bl _ => cases he
          | int _ => cases he
          | str _ => cases he
          | ty _ => cases he
    · cases h
  · cases h
theorem cb_all (hc : X.calm = true) : CallR X (.builtin "all") (rC X.K oAll) := by
  intro pins s σ H vs us Q I r ⟨ρ, st, ds, a, st', hs, rs, h, k⟩
  unfold oAll at h
  split at h
  · split at h
    · rename_i es he
      split at h
      · rename_i bs hb
        cases h
        cases rs with
        | cons r1 t1 =>
          cases t1
          obtain ⟨p, ys, rfl, hx, rr⟩ := lstAt_seq hs he r1
          rw [asBls_eq hb] at rr
          rw [rr.bls] at hx
          exact cr_all hc pins s σ H _ us Q I r ⟨p, bs, rfl, hx, k ρ H _ Le.refl hs (.bl _)⟩
      · cases h
    · cases h
  · cases h
def oPow : O2
  | .int i, .int j, st => if (0 ≤ j ∧ j ≤ 1000000 ∧ i.natAbs < 2 ^ 64) then some (.int (i ^ j.toNat), st) else none
  | _, _, _ => none
theorem ob_pow : OpR X (binaryOp .Pow) (rB X.K oPow) := by
  intro pins s σ H x y v u Q I rx ry ⟨ρ, st, d, e, a, st', hs, rd, re, h, k⟩
  unfold oPow at h
  split at h
  · split at h
    · rename_i hc
      cases h; cases rd; cases re
      exact op_pow pins s σ H _ _ v u Q I rx ry ⟨_, _, rfl, rfl, hc, k ρ H _ Le.refl hs (.int _)⟩
    · cases h
  · cases h
def oNotN : O2
  | d, .non, st => some (.bl (match d with | .non => false | _ => true), st)
  | _, _, _ => none
theorem ob_notN : OpR X (compareOp .IsNot) (rB X.K oNotN) := by
  intro pins s σ H x y v u Q I rx ry ⟨ρ, st, d, e, a, st', hs, rd, re, h, k⟩
  unfold oNotN at h
  split at h
  · cases h; cases re
    refine op_notN pins s σ H _ _ v u Q I rx ry ⟨rfl, ?_⟩
    have kq := k ρ H _ Le.refl hs (.bl _)
    cases rd <;> exact kq
  · cases h
end
/-! ### methods -/
abbrev OMt := D → List D → Sto → Option (D × Sto)
def rM (K : PySem.W.Frag) (g : OMt) : V → List V → Hp → VK → Prop := fun x vs H Q => ∃ ρ st d ds a st', StR K ρ H st ∧ Rep ρ H d x ∧ RepL ρ H ds vs ∧ g d ds st = some (a, st') ∧ ∀ ρ' H' v, Le ρ H ρ' H' → StR K ρ' H' st' → Rep ρ' H' a v → Q v H'
def isTyD (T : String) (d : D) (st : Sto) : Bool := match d with
  | .str _ => decide (T = "str")
  | .loc l => match st[l]? with
    | some (.lst _) => decide (T = "list")
    | some (.rol _) => decide (T = "list")
    | some (.dic _) => decide (T = "dict")
    | some (.dit _) => decide (T = "dict")
    | _ => false
  | _ => false
def eBM (T : String) (g : OMt) (o : EM) (as : AM) : EM := fun en => bnd (o en) fun d => bnd (fun st => if isTyD T d st = true then R.ok () st else .bad) fun _ => bnd (as en) fun ds => lft (g d ds)
section
variable {X : Cx} {W : WX} {o e : Expr} {es : List Expr} {mo : EM} {mas : AM} {name : Str} {apos cpos : Pos} {T id : String} {g : OMt}
theorem isTyD_rep {K : PySem.W.Frag} {ρ : List Addr} {H : Hp} {st : Sto} {d : D} {v : V} (hs : StR K ρ H st) (r : Rep ρ H d v) (h : isTyD T d st = true) : tyV K T v H := by
  unfold isTyD at h
  split at h
  · cases r; exact (of_decide_eq_true h : T = "str")
  · obtain ⟨a, rfl, ha⟩ := r.locA
    split at h
    · rename_i e
      obtain ⟨xs, e1, _⟩ := hs.ob _ _ a e ha
      exact .inl ⟨of_decide_eq_true h, xs, .inl (.inl e1)⟩
    · rename_i e
      obtain ⟨xs, e1, _⟩ := hs.ob _ _ a e ha
      refine .inl ⟨of_decide_eq_true h, xs, ?_⟩
      rcases e1 with ⟨o, q⟩ | q
      · exact .inl (.inr ⟨o, q⟩)
      · exact .inr q
    · rename_i e
      obtain ⟨xs, e1, _⟩ := hs.ob _ _ a e ha
      exact .inr (.inr (.inl ⟨of_decide_eq_true h, .inl ⟨xs, e1⟩⟩))
    · rename_i e
      obtain ⟨xs, e1, _⟩ := hs.ob _ _ a e ha
      exact .inr (.inr (.inl ⟨of_decide_eq_true h, .inr ⟨xs, e1⟩⟩))
    · cases h
  · cases h
theorem bm_rd {K : PySem.W.Frag} {mg : Mg} {σ : L2.St} {H : Hp} {Q : VK} (h : rdE K mg W (eBM T g mo mas) σ H Q) : (rdE K mg W mo) σ H fun x H1 => tyV K T x H1 ∧ (rdA K mg W mas) σ H1 fun xs H2 => rM K g x xs H2 Q :=
  (Wh.bnd (m := mo) (f := fun en d => bnd (fun st => if isTyD T d st = true then R.ok () st else .bad) fun _ => bnd (mas en) fun ds => lft (g d ds)) h).imp fun ρ1 H1 st1 d _ ⟨en, he, hs, q⟩ v rv => by
    have q1 := aft_bnd q
    by_cases hc : isTyD T d st1 = true
    · rw [if_pos hc] at q1
      refine ⟨isTyD_rep hs rv hc, ρ1, en, st1, he, hs, (aft_bnd (q1 ρ1 H1 Le.refl hs)).imp fun ρ2 H2 st2 ds le s q2 vs rvs => ?_⟩
      obtain ⟨a, st', e1, k⟩ := aft_lft q2
      exact ⟨ρ2, st2, d, ds, a, st', s, rv.mono le, rvs, e1, fun ρ' H' v le s r => k ρ' H' le s v r⟩
    · rw [if_neg hc] at q1
      exact q1.elim
theorem je_bm (pa : PlainAttrs T) (slot : Slot T name id) (hty : typeOf (.builtin id) = pure (.type "method_descriptor")) (hm : MtR X id (rM X.K g)) (ho : JE X W o mo) (ha : JA X W (e :: es) mas)
    (hbase : attributeBase o name X.env (eval o X.env) = eval o X.env := by rfl)
    (hfew : ((backTo cpos (starEach (e :: es) X.env)).all (fun x => !x.1) && (backToKw cpos (keywordEach [] X.env)).all (fun x => x.1.isSome)
      && decide ((e :: es).length + ([] : List Keyword).length + (if ([] : List Keyword).isEmpty then 0 else 1) < 30)) = true := by rfl)
    (hline : (apos.endLine == cpos.line) = true := by rfl) (hs : starEach (e :: es) X.env = (false, eval e X.env) :: starEach es X.env := by rfl) (hplain : (backTo cpos (starEach es X.env)).any (·.1) = false := by rfl) :
    JE X W (.Call (.Attribute o name apos) (e :: es) [] cpos) (eBM T g mo mas) := pe_imp (pe_bm pa slot hty hm ho ha hbase hfew hline hs hplain) fun σ H Q h => bm_rd h
def oAppend : OMt := fun d ds st => match d, ds with
  | .loc l, [x] => match st[l]? with
    | some (.lst es) => if es.length < sizeLine then some (.non, st.set l (.lst (es ++ [x]))) else none
    | _ => none
  | _, _ => none
theorem om_append : MtR X "list.append" (rM X.K oAppend) := by
  intro pins s σ H x vs v us Q I rx rvs ⟨ρ, st, d, ds, a, st', hs, rd, rs, h, k⟩
  unfold oAppend at h
  split at h
  · rename_i l y
    split at h
    · rename_i es hl
      split at h
      · rename_i hz
        cases h
        obtain ⟨p, rfl, hp⟩ := rd.locA
        obtain ⟨xs, hx, rr⟩ := hs.ob _ _ p hl hp
        cases rs with
        | @cons _ _ w _ r1 t1 =>
          cases t1
          refine mt_append pins s σ H _ _ v us Q I rx rvs ⟨p, xs, w, rfl, rfl, hx, by rw [← rr.length]; exact hz, ?_⟩
          obtain ⟨s1, l1⟩ := hs.put (o := .lst (xs ++ [w])) (u := .lst (es ++ [y])) hl rfl rfl hp fun H' e' le => ⟨_, by rw [e']; exact upd_same, (rr.append (.cons r1 .nil)).mono le⟩
          exact k ρ _ _ l1 s1 .non
      · cases h
    · cases h
  · cases h
def oPopAt : OMt := fun d ds st => match d, ds with
  | .loc l, [.int i] => match st[l]? with
    | some (.lst es) => match ixN es.length i with
      | some j => match es[j]? with
        | some y => some (y, st.set l (.lst (es.eraseIdx j)))
        | none => none
      | none => none
    | _ => none
  | _, _ => none
theorem om_popAt : MtR X "list.pop" (rM X.K oPopAt) := by
  intro pins s σ H x vs v us Q I rx rvs ⟨ρ, st, d, ds, a, st', hs, rd, rs, h, k⟩
  unfold oPopAt at h
  split at h
  · rename_i l i
    split at h
    · rename_i es hl
      split at h
      · rename_i j hj
        split at h
        · rename_i y hy
          cases h
          obtain ⟨p, rfl, hp⟩ := rd.locA
          obtain ⟨xs, hx, rr⟩ := hs.ob _ _ p hl hp
          obtain ⟨w, hw, rw⟩ := rr.get hy
          obtain ⟨_, _, _, _, z, _⟩ : True ∧ True ∧ True ∧ True ∧ xs.length ≤ sizeLine ∧ True := ⟨trivial, trivial, trivial, trivial, (I.hok p _ hx).1, trivial⟩
          obtain ⟨q1, q2, q3, q4⟩ := ixN_seq hj
          have hl63 := line63
          cases rs with
          | cons r1 t1 =>
            cases t1
            cases r1
            refine mt_popAt pins s σ H _ _ v us Q I rx rvs ⟨p, xs, i, j, w, rfl, rfl, hx, by rw [rr.length] at q3; omega, by rw [rr.length] at q4; omega, by rw [← rr.length]; exact q1, hw, ?_⟩
            obtain ⟨s1, l1⟩ := hs.put (o := .lst (xs.eraseIdx j)) (u := .lst (es.eraseIdx j)) hl rfl rfl hp fun H' e' le => ⟨_, by rw [e']; exact upd_same, (rr.erase j).mono le⟩
            exact k ρ _ _ l1 s1 (rw.mono l1)
        · cases h
      · cases h
    · cases h
  · cases h
/-- d.get(k, x) -/
def eGet2 (o i f : EM) : EM := fun en => bnd (o en) fun d => bnd (fun st => if isTyD "dict" d st = true then R.ok () st else .bad) fun _ => bnd (i en) fun k => bnd (f en) fun z => fun st => match d with
  | .loc l => match dkAt st l, keyOf k with
    | some kvs, some kk => .ok ((lookK kvs kk).getD z) st
    | _, _ => .bad
  | _ => .bad
end
/-! ### slices -/
def pOpt (m : Option EM) : Ev → M (Option Int) := fun en => match m with
  | none => ret none
  | some e => bnd (e en) fun d => match d with
    | .int i => ret (some i)
    | _ => fun _ => .bad
def cutD (xs : List D) (lo hi : Option Int) : List D := (xs.drop (HT.sIx xs.length 0 lo)).take (HT.sIx xs.length xs.length hi - HT.sIx xs.length 0 lo)
def slD (d : D) (lo hi : Option Int) (st : Sto) : Option (D × Sto) := match d with
  | .str z => if z.length ≤ sizeLine then some (.str (cutS z lo hi), st) else none
  | .tup ds => some (.tup (cutD ds lo hi), st)
  | .loc l => match lstAt st l with
    | some ds => some (.loc st.length, st ++ [.lst (cutD ds lo hi)])
    | none => none
  | _ => none
def eSl (a : EM) (lo hi : Option EM) : EM := fun en => bnd (a en) fun d => bnd (pOpt lo en) fun l => bnd (pOpt hi en) fun h => lft (slD d l h)
section
variable {X : Cx} {W : WX}
abbrev gO (Q : Option Int → Hp → Prop) : G (Option Int) := fun _ H' _ o => Q o H'
def rdO (K : PySem.W.Frag) (mg : Mg) (W : WX) (m : Option EM) : TO := fun σ H Q => Wh K mg (WE W σ) σ H (pOpt m) (gO Q)
abbrev JO (X : Cx) (W : WX) (e : Option Expr) (m : Option EM) : Prop := PO X e (rdO X.K X.mg W m)
theorem po_imp {e : Option Expr} {t t' : TO} (h : PO X e t) (k : ∀ σ H Q, t' σ H Q → t σ H Q) : PO X e t' := ⟨fun pins s σ H Q I q => h.run pins s σ H Q I (k σ H Q q)⟩
theorem jo_none : JO X W none none := po_imp po_none fun σ H Q ⟨ρ, en, st, he, hs, h⟩ => aft_ret (mg := X.mg) (E := WE W σ) hs h
theorem jo_some {e : Expr} {m : EM} (h : JE X W e m) : JO X W (some e) (some m) := po_imp (po_some h) fun σ H Q h => (Wh.bnd (m := m) (f := fun _ d => match d with
    | .int i => ret (some i)
    | _ => fun _ => .bad) h).imp fun ρ1 H1 st1 d _ ⟨en, he, hs, q⟩ v rv => by
    cases rv with
    | int i => exact ⟨i, rfl, aft_ret (mg := X.mg) (E := WE W σ) hs q⟩
    | non => exact q.elim
    | bl _ => exact q.elim
    | str _ => exact q.elim
    | tup _ _ => exact q.elim
    | loc _ => exact q.elim
    | ty _ => exact q.elim
def rSl (K : PySem.W.Frag) : V → Option Int → Option Int → Hp → VK → Prop := fun x lo hi H Q => ∃ ρ st d a st', StR K ρ H st ∧ Rep ρ H d x ∧ slD d lo hi st = some (a, st') ∧ ∀ ρ' H' v, Le ρ H ρ' H' → StR K ρ' H' st' → Rep ρ' H' a v → Q v H'
theorem cut_rep {ρ : List Addr} {H : Hp} {ds : List D} {xs : List V} {lo hi : Option Int} (r : RepL ρ H ds xs) : RepL ρ H (cutD ds lo hi) (cutV xs lo hi) := by
  unfold cutD cutV
  rw [← r.length]
  exact RepL.take _ (RepL.drop _ r)
theorem cut_all {ds : List D} {lo hi : Option Int} (h1 : HT.sIx ds.length 0 lo = 0) (h2 : HT.sIx ds.length ds.length hi = ds.length) : cutD ds lo hi = ds := by
  unfold cutD
  rw [h1, h2]
  simp
theorem os_sl : SlR X (rSl X.K) := by
  intro pins s σ H x v vl vu lo hi sl Q I rx hsl pl pu ⟨ρ, st, d, a, st', hs, rd, h, k⟩
  unfold slD at h
  split at h
  · split at h
    · rename_i hz
      cases h
      cases rd
      exact sl_str pins s σ H _ v vl vu lo hi sl Q I rx hsl pl pu ⟨_, rfl, hz, k ρ H _ Le.refl hs (.str _)⟩
    · cases h
  · rename_i ds
    cases h
    obtain ⟨p, xs, rfl, hx, rr⟩ := rd.tupA
    refine sl_tupA pins s σ H _ v vl vu lo hi sl Q I rx hsl pl pu ⟨p, xs, rfl, SqT.of hx, fun ⟨z1, z2⟩ => ?_, fun _ n hn => ?_⟩
    · rw [← rr.length] at z1 z2
      rw [cut_all z1 z2] at k
      exact k ρ H _ Le.refl hs rd
    · have le := Le.laid (ρ := ρ) n (.tup (cutV xs lo hi)) hn
      exact k ρ _ _ le (hs.laid hn) (.tup upd_same ((cut_rep rr).mono le))
  · split at h
    · rename_i ds hl
      cases h
      obtain ⟨p, xs, rfl, hx, rr⟩ := lstAt_seq hs hl rd
      refine sl_list pins s σ H _ v vl vu lo hi sl Q I rx hsl pl pu ⟨p, xs, rfl, hx, fun n hn => ?_⟩
      have le : Le ρ H (ρ ++ [n]) (upd H n (.lst (cutV xs lo hi))) := (Le.laid (ρ := ρ) n _ hn).ext (List.prefix_append _ _)
      obtain ⟨s1, l1, g1⟩ := hs.alloc (u := .lst (cutD ds lo hi)) hn ⟨_, upd_same, (cut_rep rr).mono le⟩
      exact k _ _ _ l1 s1 (.loc g1)
    · cases h
  · cases h
theorem je_slice {e : Expr} {lo hi : Option Expr} {me : EM} {ml mh : Option EM} {pos p2 : Pos} (he : JE X W e me) (hl : JO X W lo ml) (hh : JO X W hi mh) : JE X W (.Subscript e (.Slice lo hi none p2) pos) (eSl me ml mh) :=
  pe_imp (pe_slice os_sl he hl hh) fun σ H Q h => (Wh.bnd (m := me) (f := fun en d => bnd (pOpt ml en) fun l => bnd (pOpt mh en) fun h => lft (slD d l h)) h).imp fun ρ1 H1 st1 d _ ⟨en, her, hs, q⟩ v rv => by
    refine ⟨ρ1, en, st1, her, hs, (aft_bnd q).imp fun ρ2 H2 st2 l le2 s2 q2 => ?_⟩
    refine ⟨ρ2, en, st2, her.mono le2, s2, (aft_bnd q2).imp fun ρ3 H3 st3 u le3 s3 q3 => ?_⟩
    obtain ⟨a, st', e1, k⟩ := aft_lft q3
    exact ⟨ρ3, st3, d, a, st', s3, rv.mono (le2.trans le3), e1, fun ρ' H' v le s r => k ρ' H' le s v r⟩
end
/-! ### dict displays -/
def evPairs : List (EM × EM) → Ev → M (List (D × D))
  | [], _ => ret []
  | (a, b) :: r, en => bnd (a en) fun x => bnd (b en) fun y => bnd (evPairs r en) fun ps => ret ((x, y) :: ps)
def asKeys : List (D × D) → Option (List (Key × D))
  | [] => some []
  | (k, v) :: r => match keyOf k, asKeys r with
    | some kk, some ps => some ((kk, v) :: ps)
    | _, _ => none
def mergeD (kvs more : List (Key × D)) : List (Key × D) := more.foldl (fun acc kv => putD acc kv.1 kv.2) kvs
def eDic (ps : List (EM × EM)) : EM := fun en st => match evPairs ps en (st ++ [.dic []]) with
  | .ok prs st' => match asKeys prs with
    | some kvs => match st'[st.length]? with
      | some (.dic []) => if kvs.length ≤ 15 then .ok (.loc st.length) (st'.set st.length (.dic (mergeD [] kvs))) else .bad
      | _ => .bad
    | none => .bad
  | .exc c st' => .exc c st'
  | .bad => .bad
/-- an empty dict that is to have tuple keys -/
def eDicT : EM := fun _ => newO (.dit [])
section
variable {X : Cx} {W : WX} {pos : Pos}
abbrev RepPs (ρ : List Addr) (H : Hp) (ps : List (D × D)) (us : List (V × V)) : Prop := RepL ρ H (ps.map (·.1)) (us.map (·.1)) ∧ RepL ρ H (ps.map (·.2)) (us.map (·.2))
def rdTrs (K : PySem.W.Frag) (mg : Mg) (W : WX) (ps : List (EM × EM)) : List (TE × TE) := ps.map fun p => (rdE K mg W p.1, rdE K mg W p.2)
theorem pairs_rd {K : PySem.W.Frag} {mg : Mg} {σ : L2.St} : ∀ {ps : List (EM × EM)} {H : Hp} {Q : List (V × V) → Hp → Prop},
    Wh K mg (WE W σ) σ H (evPairs ps) (fun ρ' H' _ prs => ∀ us, RepPs ρ' H' prs us → Q us H') → tPairs (rdTrs K mg W ps) σ H Q
  | [], H, Q, ⟨ρ, en, st, he, hs, h⟩ => h ρ H Le.refl hs [] ⟨.nil, .nil⟩
  | (a, b) :: r, H, Q, h => by
    refine (Wh.bnd (m := a) (f := fun en x => bnd (b en) fun y => bnd (evPairs r en) fun ps => ret ((x, y) :: ps)) h).imp fun ρ1 H1 st1 d _ ⟨en, he, hs, q⟩ x rx => ?_
    refine ⟨ρ1, en, st1, he, hs, (aft_bnd q).imp fun ρ2 H2 st2 e le2 s2 q2 y ry => ?_⟩
    refine pairs_rd (ps := r) ⟨ρ2, en, st2, he.mono le2, s2, (aft_bnd q2).imp fun ρ3 H3 st3 prs le3 s3 q3 us rus => ?_⟩
    exact aft_ret (mg := mg) (E := WE W σ) s3 q3 ((x, y) :: us) ⟨.cons (rx.mono (le2.trans le3)) rus.1, .cons (ry.mono le3) rus.2⟩
theorem asKeys_rep {ρ : List Addr} {H : Hp} : ∀ {prs : List (D × D)} {us : List (V × V)} {kvs : List (Key × D)}, RepPs ρ H prs us → asKeys prs = some kvs → ∃ ws : List (Key × V), us = ws.map (fun kv => (kV kv.1, kv.2)) ∧ RepK ρ H kvs ws
  | [], [], _, _, h => by cases h; exact ⟨[], rfl, rfl, .nil⟩
  | [], _ :: _, _, ⟨h, _⟩, _ => by cases h
  | _ :: _, [], _, ⟨h, _⟩, _ => by cases h
  | (k, d) :: r, (y, v) :: t, kvs, ⟨h1, h2⟩, h => by
    rw [List.map_cons, List.map_cons] at h1 h2
    cases h1 with
    | cons a1 b1 =>
      cases h2 with
      | cons a2 b2 =>
        unfold asKeys at h
        split at h
        · rename_i kk ps e1 e2
          cases h
          obtain ⟨ws, ew, rw1, rw2⟩ := asKeys_rep ⟨b1, b2⟩ e2
          have ey := keyOf_rep e1 a1
          refine ⟨(kk, v) :: ws, ?_, ?_, ?_⟩
          · rw [List.map_cons, ← ew]
            show ((y, v) : V × V) :: t = (kV kk, v) :: t
            have ey' : y = kV kk := ey
            rw [ey']
          · rw [List.map_cons, List.map_cons, rw1]
          · exact .cons a2 rw2
        · cases h
theorem merge_rep {ρ : List Addr} {H : Hp} : ∀ {kvs : List (Key × D)} {ws : List (Key × V)} {acc : List (Key × D)} {acw : List (Key × V)}, RepK ρ H kvs ws → RepK ρ H acc acw → RepK ρ H (mergeD acc kvs) (mergeK acw ws)
  | [], [], _, _, _, r => r
  | [], _ :: _, _, _, ⟨h, _⟩, _ => by simp at h
  | _ :: _, [], _, _, ⟨h, _⟩, _ => by simp at h
  | (k, d) :: r, (j, v) :: t, acc, acw, ⟨h1, h2⟩, ra => by
    simp only [List.map_cons, List.cons.injEq] at h1
    obtain ⟨e1, e2⟩ := h1
    subst e1
    rw [List.map_cons, List.map_cons] at h2
    cases h2 with
    | cons q1 q2 =>
      unfold mergeD mergeK
      rw [List.foldl_cons, List.foldl_cons]
      exact merge_rep ⟨e2, q2⟩ (RepK.put k q1 ra)
theorem je_dic {keys : List (Option Expr)} {values : List Expr} {ps : List (EM × EM)} (h : PPs X pos keys values (rdTrs X.K X.mg W ps)) (hall : keys.all (·.isSome) = true := by rfl) (hl : keys.length = values.length := by rfl) (h0 : keys ≠ [] := by intro z; cases z) (h15 : keys.length ≤ 15 := by decide) :
    JE X W (.Dict keys values pos) (eDic ps) := pe_imp (pe_disp h hall hl h0 h15) fun σ H Q ⟨ρ, en, st, he, hs, q⟩ p hp => by
  have e0 : Le ρ H (ρ ++ [p]) (upd H p (.dK [])) := (Le.laid (ρ := ρ) p _ hp).ext (List.prefix_append _ _)
  obtain ⟨s1, l1, g1⟩ := hs.alloc (o := .dK []) (u := .dic []) hp ⟨[], upd_same, rfl, .nil⟩
  refine pairs_rd (ps := ps) ⟨ρ ++ [p], en, st ++ [.dic []], he.mono l1, s1, ?_⟩
  unfold eDic at q
  cases e1 : evPairs ps en (st ++ [.dic []]) with
  | bad => rw [e1] at q; exact q.elim
  | exc c st' =>
    rw [e1] at q
    exact fun ρ2 H2 C le2 s2 m => q ρ2 H2 C (l1.trans le2) s2 m
  | ok prs st' =>
    rw [e1] at q
    dsimp only at q
    intro ρ2 H2 le2 s2 us rus
    split at q
    · rename_i kvs hk
      split at q
      · rename_i hd
        split at q
        · rename_i hz
          obtain ⟨ws, ew, rk⟩ := asKeys_rep rus hk
          have hp2 := pre_get le2.pre g1
          obtain ⟨zs, e2, rz⟩ := s2.ob _ _ p hd hp2
          have ez : zs = [] := by
            have := rz.1
            cases zs with
            | nil => rfl
            | cons _ _ => simp at this
          subst ez
          refine ⟨e2, ws, ew, by rw [← rk.length]; exact hz, ?_⟩
          obtain ⟨s3, l3⟩ := s2.put (o := .dK (mergeK [] ws)) (u := .dic (mergeD [] kvs)) hd rfl rfl hp2 fun H' e' le => ⟨mergeK [] ws, by rw [e']; exact upd_same, (merge_rep rk (show RepK ρ2 H2 ([] : List (Key × D)) [] from ⟨rfl, .nil⟩)).mono le⟩
          exact q ρ2 _ ((l1.trans le2).trans l3) s3 _ (.loc hp2)
        · exact q.elim
      · exact q.elim
    · exact q.elim
theorem jps_nil : PPs X pos [] [] (rdTrs X.K X.mg W []) := pps_nil
theorem jps_cons {k v : Expr} {ks : List (Option Expr)} {vs : List Expr} {mk mv : EM} {ps : List (EM × EM)} (hk : JE X W k mk) (hv : JE X W v mv) (hr : PPs X pos ks vs (rdTrs X.K X.mg W ps)) : PPs X pos (some k :: ks) (v :: vs) (rdTrs X.K X.mg W ((mk, mv) :: ps)) := pps_cons hk hv hr
theorem je_dic0 : JE X W (.Dict [] [] pos) (fun _ => newO (.dic [])) := pe_imp pe_dnewK fun σ H Q ⟨ρ, en, st, he, hs, q⟩ => newO_aft (o := .dic []) (ho := .dK []) hs (fun ρ' H' p le e => ⟨[], e, rfl, .nil⟩) q
theorem je_dit0 : JE X W (.Dict [] [] pos) eDicT := pe_imp pe_dnewT fun σ H Q ⟨ρ, en, st, he, hs, q⟩ => newO_aft (o := .dit []) (ho := .dT []) hs (fun ρ' H' p le e => ⟨[], e, rfl, .nil⟩) q
end
/-! ### comprehensions -/
def wipeD (en : Ev) : List Nat → Ev
  | [] => en
  | v :: vs => (wipeD en vs).set v none
def lcLoop (cond : BM) (el : EM) (tg : D → Ev → Option Ev) (src : Src) (L : Nat) (enw : Ev) : Nat → Nat → Sto → R Unit
  | n, i, st => match src st i with
    | some none => .ok () st
    | some (some d) => match n with
      | 0 => .bad
      | n + 1 => match tg d enw with
        | none => .bad
        | some en1 => match cond en1 st with
          | .ok c st1 => if c = true then (match el en1 st1 with
              | .ok y st2 => match st2[L]? with
                | some (.lst acc) => if acc.length < sizeLine then lcLoop cond el tg src L enw n (i + 1) (st2.set L (.lst (acc ++ [y]))) else .bad
                | _ => .bad
              | _ => .bad)
            else lcLoop cond el tg src L enw n (i + 1) st1
          | _ => .bad
    | none => .bad
def eLc (m : Ev → M (Nat × Src)) (tg : D → Ev → Option Ev) (cond : BM) (el : EM) (vs : List Nat) : EM := fun en => bnd (m en) fun p st => match lcLoop cond el tg p.2 st.length (wipeD en vs) p.1 0 (st ++ [.lst []]) with
  | .ok _ st' => .ok (.loc st.length) st'
  | _ => .bad
abbrev WF : WX := fun _ _ _ _ => False
theorem wipe_en {ρ : List Addr} {H : Hp} {en : Ev} {σ : L2.St} (r : EnR ρ H en σ) : ∀ vs : List Nat, EnR ρ H (wipeD en vs) (wipe σ vs)
  | [] => r
  | v :: vs => by
    have ih := wipe_en r vs
    unfold wipeD wipe
    refine ⟨by rw [List.length_set, List.length_set]; exact ih.len, fun i d h => ?_⟩
    by_cases hi : v = i
    · subst hi
      by_cases hl : v < (wipeD en vs).length
      · rw [List.getElem?_set_self hl] at h; cases h
      · rw [List.getElem?_eq_none_iff.mpr (by rw [List.length_set]; omega)] at h; cases h
    · rw [List.getElem?_set_ne hi] at h ⊢
      exact ih.at_ i d h
theorem wipe_but {vs : List Nat} {σ σ' : L2.St} (h : But vs σ σ') : wipe σ' vs = wipe σ vs := by
  have gen : ∀ (us : List Nat) (j : Nat), (wipe σ' us)[j]? = if j ∈ us then (if j < σ'.length then some none else none) else σ'[j]? := by
    intro us
    induction us with
    | nil => intro j; simp [wipe]
    | cons u r ih =>
      intro j
      unfold wipe
      by_cases hj : u = j
      · subst hj
        by_cases hl : u < σ'.length
        · rw [List.getElem?_set_self (by rw [wipe_length]; exact hl), if_pos List.mem_cons_self, if_pos hl]
        · rw [List.getElem?_eq_none_iff.mpr (by rw [List.length_set, wipe_length]; omega), if_pos List.mem_cons_self, if_neg hl]
      · rw [List.getElem?_set_ne hj, ih j]
        by_cases hm : j ∈ r
        · rw [if_pos hm, if_pos (List.mem_cons_of_mem _ hm)]
        · rw [if_neg hm, if_neg fun z => by rcases List.mem_cons.mp z with q | q; exact hj q.symm; exact hm q]
  have gen2 : ∀ (us : List Nat) (j : Nat), (wipe σ us)[j]? = if j ∈ us then (if j < σ.length then some none else none) else σ[j]? := by
    intro us
    induction us with
    | nil => intro j; simp [wipe]
    | cons u r ih =>
      intro j
      unfold wipe
      by_cases hj : u = j
      · subst hj
        by_cases hl : u < σ.length
        · rw [List.getElem?_set_self (by rw [wipe_length]; exact hl), if_pos List.mem_cons_self, if_pos hl]
        · rw [List.getElem?_eq_none_iff.mpr (by rw [List.length_set, wipe_length]; omega), if_pos List.mem_cons_self, if_neg hl]
      · rw [List.getElem?_set_ne hj, ih j]
        by_cases hm : j ∈ r
        · rw [if_pos hm, if_pos (List.mem_cons_of_mem _ hm)]
        · rw [if_neg hm, if_neg fun z => by rcases List.mem_cons.mp z with q | q; exact hj q.symm; exact hm q]
  apply List.ext_getElem?
  intro j
  rw [gen, gen2, h.1]
  by_cases hm : j ∈ vs
  · rw [if_pos hm, if_pos hm]
  · rw [if_neg hm, if_neg hm, h.2 j hm]
theorem wipe_wipe (σ : L2.St) (vs : List Nat) : wipe (wipe σ vs) vs = wipe σ vs := wipe_but ⟨wipe_length σ vs, fun j hj => by
  cases q : (wipe σ vs)[j]? with
  | none =>
    have := List.getElem?_eq_none_iff.mp q
    rw [wipe_length] at this
    exact (List.getElem?_eq_none_iff.mpr this).symm
  | some o =>
    have gen : ∀ (us : List Nat), j ∉ us → (wipe σ us)[j]? = σ[j]? := by
      intro us
      induction us with
      | nil => intro _; rfl
      | cons u r ih =>
        intro hu
        unfold wipe
        rw [List.getElem?_set_ne fun z => hu (by rw [z]; exact List.mem_cons_self)]
        exact ih fun z => hu (List.mem_cons_of_mem _ z)
    rw [← q]
    exact gen vs hj⟩
def bYes : BM := fun _ => ret true
section
variable {X : Cx} {W : WX}
/-- the reading of a comprehension -/
theorem lc_rd {K : PySem.W.Frag} {mg : Mg} {m : Ev → M (Nat × Src)} {is : List Nat} {tg : D → Ev → Option Ev} {cond : BM} {el : EM} {vs : List Nat} (hsub : ∀ i ∈ is, i ∈ vs) {tt : TT} (htt : ∀ σ H Q, rdB K mg WF cond σ H Q → tt σ H Q) {σ : L2.St} {H : Hp} {Q : VK}
    (h : rdE K mg W (eLc m tg cond el vs) σ H Q) : tLc (rdI K mg W m) (rdG is tg) tt (rdE K mg WF el) vs σ H Q :=
  (Wh.bnd (m := m) (f := fun en p st => match lcLoop cond el tg p.2 st.length (wipeD en vs) p.1 0 (st ++ [.lst []]) with
    | .ok _ st' => R.ok (D.loc st.length) st'
    | _ => .bad) h).imp fun ρ1 H1 st1 p _ ⟨en, he, hs, q⟩ J hJ L hL => by
    obtain ⟨n, src⟩ := p
    have e0 : Le ρ1 H1 (ρ1 ++ [L]) (upd H1 L (.lst [])) := (Le.laid (ρ := ρ1) L _ hL).ext (List.prefix_append _ _)
    obtain ⟨s1, l1, g1⟩ := hs.alloc (o := .lst []) (u := .lst []) hL ⟨[], upd_same, .nil⟩
    -- what is left to do from turn i on
    have fin : ∃ st', lcLoop cond el tg src st1.length (wipeD en vs) n 0 (st1 ++ [.lst []]) = .ok () st' ∧ ∀ ρ' H', Le ρ1 H1 ρ' H' → StR K ρ' H' st' → ∀ v, Rep ρ' H' (.loc st1.length) v → Q v H' := by
      dsimp only at q
      split at q
      · rename_i u st' e
        exact ⟨st', e, q⟩
      · exact q.elim
    obtain ⟨st', hl, hq⟩ := fin
    refine ⟨fun i k H' => ∃ ρ2 st2, Le (ρ1 ++ [L]) (upd H1 L (.lst [])) ρ2 H' ∧ StR K ρ2 H' st2 ∧ lcLoop cond el tg src st1.length (wipeD en vs) k i st2 = .ok () st', ⟨n, ρ1 ++ [L], _, Le.refl, s1, hl⟩, fun i k H' hW => ?_⟩
    obtain ⟨ρ2, st2, le2, s2, hl2⟩ := hW
    obtain ⟨hgo, hstop⟩ := hJ i ρ2 H' st2 (l1.trans le2) s2
    unfold lcLoop at hl2
    split at hl2
    · rename_i e1
      cases hl2
      exact .inl ⟨hstop e1, hq ρ2 H' (l1.trans le2) s2 _ (.loc (pre_get le2.pre g1))⟩
    · rename_i d e1
      obtain ⟨h1, h2⟩ := hgo d e1
      split at hl2
      · cases hl2
      · rename_i k'
        split at hl2
        · cases hl2
        · rename_i en1 e2
          refine .inr ⟨h1, fun H3 => ∃ ρ3 st3, Le (ρ1 ++ [L]) (upd H1 L (.lst [])) ρ3 H3 ∧ StR K ρ3 H3 st3 ∧ lcLoop cond el tg src st1.length (wipeD en vs) k' (i + 1) st3 = .ok () st', fun H3 w => ⟨k', Nat.lt_succ_self k', w⟩, fun x H3 y => ?_⟩
          obtain ⟨le3, s3, r3⟩ := h2 x H3 y
          refine ⟨ρ2, wipeD en vs, d, en1, (wipe_en he vs).mono ((l1.trans le2).trans le3), r3, e2, fun σ3 b3 er3 => ⟨?_, htt _ _ _ ⟨ρ2, en1, st2, er3, s3, ?_⟩⟩⟩
          · rw [wipe_but (b3.mono hsub), wipe_wipe]
          · split at hl2
            · rename_i c st3 e3
              rw [e3]
              intro ρ4 H4 le4 s4
              by_cases hc : c = true
              · rw [if_pos hc] at hl2
                refine (if_pos hc).mpr ⟨ρ4, en1, st3, er3.mono le4, s4, ?_⟩
                split at hl2
                · rename_i yv st4 e4
                  rw [e4]
                  intro ρ5 H5 le5 s5 v rv
                  split at hl2
                  · rename_i acc e5
                    split at hl2
                    · rename_i hz
                      have gL := pre_get ((le4.trans le5).pre) (pre_get le2.pre g1)
                      obtain ⟨xs, e6, rr⟩ := s5.ob _ _ L e5 gL
                      refine ⟨xs, e6, by rw [← rr.length]; exact hz, ?_⟩
                      obtain ⟨s6, l6⟩ := s5.put (o := .lst (xs ++ [v])) (u := .lst (acc ++ [yv])) e5 rfl rfl gL fun H' e' le => ⟨_, by rw [e']; exact upd_same, (rr.append (.cons rv .nil)).mono le⟩
                      exact ⟨ρ5, _, (((le2.trans le3).trans le4).trans le5).trans l6, s6, hl2⟩
                    · cases hl2
                  · cases hl2
                · cases hl2
              · rw [if_neg hc] at hl2
                exact (if_neg hc).mpr ⟨ρ4, st3, (le2.trans le3).trans le4, s4, hl2⟩
            · cases hl2
    · cases hl2
variable {elt tg iter : Expr} {scope : Scope} {own : List (Str × Nat)} {pos : Pos} {m : Ev → M (Nat × Src)} {is : List Nat} {t : D → Ev → Option Ev} {cond : BM} {el : EM}
theorem je_lc0 (hc : X.calm = true) (hN : X.N.Nodup) (hi : JI X W tg iter m) (ok : BlkOk X.N X.env.scope scope own)
    (hg : ∀ (s : Shared) (H : Hp) (C : Addr) (cl : List (Str × Addr)) (fp : List Addr), JG (X.blk s H scope (compEnvC scope cl C X.env) fp) is tg t)
    (he : ∀ (s : Shared) (H : Hp) (C : Addr) (cl : List (Str × Addr)) (fp : List Addr), JE (X.blk s H scope (compEnvC scope cl C X.env) fp) WF elt el) (hsub : ∀ i ∈ is, i ∈ own.map (·.2) := by decide) (hs : ∀ x, foldedSetIterable iter X.env x = pure x := by intro _; rfl) :
    JE X W (.ListComp elt [⟨tg, iter, [], 0⟩] scope pos) (eLc m t bYes el (own.map (·.2))) :=
  pe_imp (pe_lc (tt := tYes) hc hN hi ok hg (fun _ _ _ _ _ => pts_nil) he hs) fun σ H Q h => lc_rd hsub (fun σ H Q ⟨ρ, en, st, he, hs, h⟩ => h ρ H Le.refl hs) h
theorem je_lc1 {c : Expr} (hc : X.calm = true) (hN : X.N.Nodup) (hi : JI X W tg iter m) (ok : BlkOk X.N X.env.scope scope own)
    (hg : ∀ (s : Shared) (H : Hp) (C : Addr) (cl : List (Str × Addr)) (fp : List Addr), JG (X.blk s H scope (compEnvC scope cl C X.env) fp) is tg t)
    (ht : ∀ (s : Shared) (H : Hp) (C : Addr) (cl : List (Str × Addr)) (fp : List Addr), JT (X.blk s H scope (compEnvC scope cl C X.env) fp) WF c cond)
    (he : ∀ (s : Shared) (H : Hp) (C : Addr) (cl : List (Str × Addr)) (fp : List Addr), JE (X.blk s H scope (compEnvC scope cl C X.env) fp) WF elt el) (hsub : ∀ i ∈ is, i ∈ own.map (·.2) := by decide) (hs : ∀ x, foldedSetIterable iter X.env x = pure x := by intro _; rfl) :
    JE X W (.ListComp elt [⟨tg, iter, [c], 0⟩] scope pos) (eLc m t cond el (own.map (·.2))) :=
  pe_imp (pe_lc (tt := rdB X.K X.mg WF cond) hc hN hi ok hg (fun s H C cl fp => pts_one (ht s H C cl fp)) he hs) fun σ H Q h => lc_rd hsub (fun _ _ _ h => h) h
theorem js_setLc0 {i : Nat} {y : Str} {py spos : Pos} (hc : X.calm = true) (hN : X.N.Nodup) (hy : X.N[i]? = some y) (hyl : X.env.scope.names.lookup y = some .local)
    (hsw : swapsWith (.ListComp elt [⟨tg, iter, [], 0⟩] scope pos) (some (.Name y py)) spos.line X.env = pure true) (hi : JI X W tg iter m) (ok : BlkOk X.N X.env.scope scope own)
    (hg : ∀ (s : Shared) (H : Hp) (C : Addr) (cl : List (Str × Addr)) (fp : List Addr), JG (X.blk s H scope (compEnvC scope cl C X.env) fp) is tg t)
    (he : ∀ (s : Shared) (H : Hp) (C : Addr) (cl : List (Str × Addr)) (fp : List Addr), JE (X.blk s H scope (compEnvC scope cl C X.env) fp) WF elt el) (hsub : ∀ i ∈ is, i ∈ own.map (·.2) := by decide) (hs : ∀ x, foldedSetIterable iter X.env x = pure x := by intro _; rfl) :
    JS X W (.Assign [.Name y py] (.ListComp elt [⟨tg, iter, [], 0⟩] scope pos) spos) (sSet i (eLc m t bYes el (own.map (·.2)))) :=
  ps_imp (ps_setLc (tt := tYes) hc hN hy hyl hsw hi ok hg (fun _ _ _ _ _ => pts_nil) he hs) fun E σ H h => lc_rd hsub (fun σ H Q ⟨ρ, en, st, he, hs, h⟩ => h ρ H Le.refl hs) (set_rd h)
/-! ### raise -/
def sRaise (c : Str) : SM := fun en st => .exc c en st
end
end Sh

set_option maxHeartbeats 1000000
/-! ShF: calls of defs that are known by name; what a generator of derivations uses. -/
namespace Sh
open PySem PySem.Spec PyProof.Rows L2

/-- the def called x keeps what fn says, at level k -/
structure Cal (P : Program) (w : World) (K : PySem.W.Frag) (mg : Mg) (base : Heap) (k : Nat) (x : Str) (ps : List Str) (fn : Fn) : Prop where
  ex : ∃ f fd, FnS P w K mg base k f fd ps fn ∧ Binds K fd ps [] ∧ PySem.W.keepIn K (.ref f) = true ∧ mg x = some (.ref f)
section
variable {X : Cx} {W : WX} {e : Expr} {es : List Expr} {mas : AM} {me : EM} {pos p : Pos} {x : Str} {k : Nat} {ps : List Str} {fn : Fn}
theorem je_c (tk : Takes X W) (c : Cal X.prog X.w X.K X.mg X.base k x ps fn) (hr : Room k X.A ∧ X.A.guards = some []) (hg : Gl X x) (ha : JA X W (e :: es) mas) (hdb : (x == ("__debug__" : Str)) = false := by decide)
    (he : starEach (e :: es) X.env = (false, eval e X.env) :: starEach es X.env := by rfl) (hpl : (backTo pos (starEach es X.env)).any (·.1) = false := by rfl) : JE X W (.Call (.Name x p) (e :: es) [] pos) (eCall ps.length fn mas) := by
  obtain ⟨f, fd, F, hb, hk, hm⟩ := c.ex
  exact je_call tk F hr.1 hr.2 hg hm hk hb ha hdb he hpl
def eCall0 (fn : Fn) : EM := fun _ => fn []
theorem blkE (k : Takes X WF → JE X WF e me) : JE X WF e me := k takes0
theorem blkT {mb : BM} (k : Takes X WF → JT X WF e mb) : JT X WF e mb := k takes0
/-- - of an int -/
def eNeg (a : EM) : EM := fun en => bnd (a en) fun d => match d with
  | .int i => ret (.int (-i))
  | _ => badM
/-- a, b, c = x, y, z by plain locals -/
def sPar3 (i j l : Nat) (as : AM) : SM := sB as fun ds en st => match ds with
  | [d, d', d''] => .nx (((en.set i (some d)).set j (some d')).set l (some d'')) st
  | _ => .bad
end
section
variable {P : Program} {w : World} {K : PySem.W.Frag} {mg : Mg} {base : Heap}
theorem cal_mk {k : Nat} {x : Str} {f : Addr} {fd : FuncData} {ps : List Str} {fn : Fn} (F : FnS P w K mg base k f fd ps fn) (b : Binds K fd ps []) (kp : PySem.W.keepIn K (.ref f) = true) (m : mg x = some (.ref f)) : Cal P w K mg base k x ps fn := ⟨f, fd, F, b, kp, m⟩
end
end Sh

set_option maxHeartbeats 1000000
/-! ShG: a constant dict of texts; dict(..); == of dicts that are alike. -/
namespace Sh
open PySem PySem.Spec PyProof.Rows L2
def lookS (kvs : List (Str × Str)) (k : Str) : Option Str := (kvs.find? fun kv => decide (kv.1 = k)).map (·.2)
def eGIx (kvs : List (Str × Str)) (a : EM) : EM := fun en => bnd (a en) fun x => match x with
  | .str z => match lookS kvs z with
    | some r => ret (.str r)
    | none => badM
  | _ => badM
section
variable {X : Cx} {W : WX} {a : Expr} {ma : EM} {pos : Pos}
end
/-! ### dict(pairs), dict(dict) -/
def asDP : List D → Option (List (Key × D))
  | [] => some []
  | .tup [k, v] :: r => match keyOf k, asDP r with
    | some kk, some ps => some ((kk, v) :: ps)
    | _, _ => none
  | _ => none
def oDict : OC := fun ds st => match ds with
  | [.loc l] => match lstAt st l with
    | some es => match asDP es with
      | some kvs => some (.loc st.length, st ++ [.dic (mergeD [] kvs)])
      | none => none
    | none => match dkAt st l with
      | some kvs => some (.loc st.length, st ++ [.dic kvs])
      | none => none
  | _ => none
theorem dp_rep {K : PySem.W.Frag} {ρ : List Addr} {H : Hp} : ∀ {es : List D} {xs : List V} {kvs : List (Key × D)}, RepL ρ H es xs → asDP es = some kvs →
    ∃ (ps : List Addr) (us : List (Key × V)), xs = ps.map V.ref ∧ Paired (fun p kv => SqT K H p [kV kv.1, kv.2]) ps us ∧ RepK ρ H kvs us := by
  intro es
  induction es with
  | nil =>
    intro xs kvs r h
    cases r
    cases h
    exact ⟨[], [], rfl, .nil, rfl, .nil⟩
  | cons d es ih =>
    intro xs kvs r h
    cases r with
    | cons r1 r2 =>
      unfold asDP at h
      split at h
      · rename_i e
        cases e
      · rename_i k v r' e
        cases e
        split at h
        · rename_i kk ps e1 e2
          cases h
          obtain ⟨qs, us, rfl, hp, hr⟩ := ih r2 e2
          obtain ⟨p, ys, rfl, hx, ry⟩ := r1.tupA
          cases ry with
          | cons ra rb =>
            cases rb with
            | cons rb rc =>
              cases rc
              have ek := keyOf_rep e1 ra
              subst ek
              exact ⟨p :: qs, (kk, _) :: us, rfl, .cons (SqT.of hx) hp, by rw [List.map_cons, List.map_cons, hr.1], .cons rb hr.2⟩
        · cases h
      · cases h
section
variable {X : Cx}
theorem ct_dict (hcalm : X.calm = true) : CallR X (.type "dict") (rC X.K oDict) := by
  intro pins s σ H vs us Q I r ⟨ρ, st, ds, a, st', hs, rs, h, k⟩
  unfold oDict at h
  split at h
  · cases rs with
    | cons r1 t1 =>
      cases t1
      rename_i l _
      split at h
      · rename_i es he
        split at h
        · rename_i kvs hk
          cases h
          obtain ⟨p, xs, rfl, hx, rr⟩ := lstAt_seq hs he r1
          obtain ⟨ps, ws, rfl, hp, hr⟩ := dp_rep (K := X.K) rr hk
          refine call_dictP hcalm pins s σ H _ us Q I r ⟨p, ps, ws, rfl, hx, hp, fun n hn => ?_⟩
          have le : Le ρ H (ρ ++ [n]) (upd H n (.dK (mergeK [] ws))) := (Le.laid (ρ := ρ) n _ hn).ext (List.prefix_append _ _)
          obtain ⟨s1, l1, g1⟩ := hs.alloc (u := .dic (mergeD [] kvs)) hn ⟨_, upd_same, (merge_rep hr (show RepK ρ H ([] : List (Key × D)) [] from ⟨rfl, .nil⟩)).mono le⟩
          exact k _ _ _ l1 s1 (.loc g1)
        · cases h
      · split at h
        · rename_i kvs hd
          cases h
          obtain ⟨p, rfl, hp⟩ := r1.locA
          unfold dkAt at hd
          split at hd
          · rename_i kvs' hd'
            cases hd
            obtain ⟨ws, e1, hr⟩ := hs.ob _ _ p hd' hp
            refine call_dictD pins s σ H _ us Q I r ⟨p, ws, rfl, Rd.of e1, fun n hn => ?_⟩
            have le : Le ρ H (ρ ++ [n]) (upd H n (.dK ws)) := (Le.laid (ρ := ρ) n _ hn).ext (List.prefix_append _ _)
            obtain ⟨s1, l1, g1⟩ := hs.alloc (u := .dic kvs) hn ⟨_, upd_same, hr.mono le⟩
            exact k _ _ _ l1 s1 (.loc g1)
          · cases hd
        · cases h
  · cases h
end
/-! ### += of numbers and texts; int(text); membership in a constant dict -/
def oIAdd : O2
  | .int i, .int j, st => some (.int (i + j), st)
  | .str a, .str b, st => if a.length + b.length ≤ sizeLine then some (.str (a ++ b), st) else none
  | _, _, _ => none
theorem ob_iadd {X : Cx} : OpR X (inplaceOp .Add) (rB X.K oIAdd) := by
  intro pins s σ H x y v u Q I rx ry ⟨ρ, st, d, e, a, st', hs, rd, re, h, k⟩
  unfold oIAdd at h
  split at h
  · cases h; cases rd; cases re
    exact iop_add pins s σ H _ _ v u Q I rx ry ⟨_, _, rfl, rfl, k ρ H _ Le.refl hs (.int _)⟩
  · split at h
    · rename_i hl
      cases h; cases rd; cases re
      exact iop_add_str pins s σ H _ _ v u Q I rx ry ⟨_, _, rfl, rfl, hl, k ρ H _ Le.refl hs (.str _)⟩
    · cases h
  · cases h
def oIntX : OC := fun ds st => match ds with
  | [.str a] => match PySem.intText? a with
    | some n => if a.length ≤ 640 then some (.int n, st) else none
    | none => none
  | ds => oInt ds st
theorem ct_intX {X : Cx} : CallR X (.type "int") (rC X.K oIntX) := by
  intro pins s σ H vs us Q I r ⟨ρ, st, ds, a, st', hs, rs, h, k⟩
  unfold oIntX at h
  split at h
  · rename_i z
    split at h
    · rename_i n hn
      split at h
      · rename_i hl
        cases h
        cases rs with
        | cons r1 t1 =>
          cases t1
          cases r1
          exact call_int_str pins s σ H _ us Q I r ⟨_, n, rfl, hn, hl, k ρ H _ Le.refl hs (.int _)⟩
      · cases h
    · cases h
  · exact ct_int pins s σ H vs us Q I r ⟨ρ, st, _, a, st', hs, rs, h, k⟩
section
variable {X : Cx} {W : WX} {a : Expr} {ma : EM} {pos : Pos}
variable {kvs : List (Str × Str)} {C : Addr} {x : Str} {p : Pos} {es : Array DictEntry} {n : Nat}
end
/-- all that is asked of a constant dict of texts -/
structure CDct (K : PySem.W.Frag) (w : World) (C : Addr) (kvs : List (Str × Str)) : Prop where
  ex : ∃ es n, KDict K w C es n
  ix : ∀ z r, lookS kvs z = some r → KDct K w C z (.str r)
  has : ∀ z, ∃ r : Option Value, PySem.W.nsIn K C z = some r ∧ r.isSome = (lookS kvs z).isSome
section
variable {X : Cx} {W : WX} {a : Expr} {ma : EM} {pos p : Pos} {kvs : List (Str × Str)} {C : Addr} {x : Str}
end
end Sh

set_option maxHeartbeats 1000000
/-! ShS: sets of texts and their sorted lists; sorted lists of texts; repr; all over the shallow layer. -/
namespace Sh
open PySem PySem.Spec PyProof.Rows L2

/-! ### a set of texts in the machine's heap -/
def txE (w : World) (e : Int × Value) : Prop := ∃ (k : Str) (u : Tok), e.2 = .str k u ∧ e.1 = hashStr w k
def txK (e : Int × Value) : Str := match e.2 with
  | .str k _ => k
  | _ => ⟨#[]⟩
/-- the set of the texts l stands at a, and can be walked -/
def TSet (w : World) (h : Heap) (a : Addr) (l : List Str) : Prop := ∃ o es ep t, h.get? a = some o ∧ o.ExactSet ∧ o.data = .set es ep t ∧ (∀ e ∈ es.toList, txE w e) ∧ (es.toList.map txK).Perm l ∧ l.Nodup ∧ es.size < scanBound ∧ t.fits es.size = true ∧ Ris t.place.toList ∧
  (w.params.followText "set-order" = true ∨ t.led = true)
def uAdd (l : List Str) (k : Str) : List Str := if k ∈ l then l else k :: l
def uniq (ss : List Str) : List Str := ss.foldl uAdd []
section
variable {P : Program} {w : World} {A : Around} {E : Value → Shared → Prop} {s : Shared} {a : Addr} {l : List Str}
end
theorem mem_uAdd {l : List Str} {k x : Str} : x ∈ uAdd l k ↔ x ∈ l ∨ x = k := by
  unfold uAdd
  split
  · rename_i h
    exact ⟨.inl, fun z => z.elim id fun e => e ▸ h⟩
  · rw [List.mem_cons]; exact Or.comm
theorem mem_fold {x : Str} : ∀ (m l : List Str), x ∈ m.foldl uAdd l ↔ x ∈ l ∨ x ∈ m
  | [], l => by simp
  | k :: m, l => by
    rw [List.foldl_cons, mem_fold m, mem_uAdd, List.mem_cons, or_assoc]
theorem mem_uniq {x : Str} (l : List Str) : x ∈ uniq l ↔ x ∈ l := by
  unfold uniq
  rw [mem_fold]
  simp
theorem nd_uAdd {l : List Str} {k : Str} (h : l.Nodup) : (uAdd l k).Nodup := by
  unfold uAdd
  split
  · exact h
  · rename_i q; exact List.nodup_cons.mpr ⟨q, h⟩
theorem nd_fold : ∀ (m l : List Str), l.Nodup → (m.foldl uAdd l).Nodup
  | [], _, h => h
  | k :: m, l, h => nd_fold m _ (nd_uAdd h)
theorem nd_uniq (l : List Str) : (uniq l).Nodup := nd_fold l [] List.nodup_nil
/-! ### set(xs) of a list of texts -/
section
variable {P : Program} {w : World} {A : Around} {E : Value → Shared → Prop} {s : Shared}
end
section
variable {P : Program} {w : World} {A : Around} {E : Value → Shared → Prop} {s : Shared}
set_option maxHeartbeats 3200000 in
set_option maxHeartbeats 3200000 in
end
/-! ### the order of texts -/
def leS (a b : Str) : Bool := !decide (b.cps.toList < a.cps.toList)
def insS (x : Str) : List Str → List Str
  | [] => [x]
  | y :: r => if leS x y = true then x :: y :: r else y :: insS x r
def srtS : List Str → List Str
  | [] => []
  | x :: r => insS x (srtS r)
theorem str_ext {a b : Str} (h : a.cps.toList = b.cps.toList) : a = b := by
  cases a; cases b
  simp only [Str.mk.injEq]
  exact Array.toList_inj.mp h
theorem leS_iff {a b : Str} : leS a b = true ↔ ¬ b.cps.toList < a.cps.toList := by unfold leS; simp
theorem leS_anti {a b : Str} (h : leS a b = true) (h' : leS b a = true) : a = b := str_ext (List.le_antisymm (List.not_lt.mp (leS_iff.mp h)) (List.not_lt.mp (leS_iff.mp h')))
theorem leS_trans {a b c : Str} (h : leS a b = true) (h' : leS b c = true) : leS a c = true := leS_iff.mpr (List.not_lt.mpr (List.le_trans (List.not_lt.mp (leS_iff.mp h)) (List.not_lt.mp (leS_iff.mp h'))))
theorem leS_total (a b : Str) : leS a b = true ∨ leS b a = true := by
  rcases List.le_total a.cps.toList b.cps.toList with h | h
  · exact .inl (leS_iff.mpr (List.not_lt.mpr h))
  · exact .inr (leS_iff.mpr (List.not_lt.mpr h))
abbrev PwS (l : List Str) : Prop := l.Pairwise fun a b => leS a b = true
theorem ins_perm (x : Str) : ∀ l, (insS x l).Perm (x :: l)
  | [] => List.Perm.refl _
  | y :: r => by
    unfold insS
    split
    · exact List.Perm.refl _
    · exact ((ins_perm x r).cons y).trans (List.Perm.swap x y r)
theorem ins_pw (x : Str) : ∀ l, PwS l → PwS (insS x l)
  | [], _ => List.pairwise_singleton _ _
  | y :: r, h => by
    obtain ⟨h1, h2⟩ := List.pairwise_cons.mp h
    unfold insS
    split
    · rename_i q
      refine List.pairwise_cons.mpr ⟨fun z hz => ?_, h⟩
      rcases List.mem_cons.mp hz with rfl | hz
      · exact q
      · exact leS_trans q (h1 z hz)
    · rename_i q
      refine List.pairwise_cons.mpr ⟨fun z hz => ?_, ins_pw x r h2⟩
      rcases List.mem_cons.mp ((ins_perm x r).mem_iff.mp hz) with rfl | hz
      · exact (leS_total z y).resolve_left q
      · exact h1 z hz
theorem srt_perm : ∀ l, (srtS l).Perm l
  | [] => List.Perm.refl _
  | x :: r => (ins_perm x (srtS r)).trans ((srt_perm r).cons x)
theorem srt_pw : ∀ l, PwS (srtS l)
  | [] => List.Pairwise.nil
  | x :: r => ins_pw x _ (srt_pw r)
theorem pw_unique {l m : List Str} (h : PwS l) (h' : PwS m) (p : l.Perm m) : l = m := List.Perm.eq_of_pairwise (fun a b _ _ q q' => leS_anti q q') h h' p
theorem rising_pw : ∀ (l : List Str) (p : Str), risingS p l = true → PwS (p :: l)
  | [], p, _ => List.pairwise_singleton _ _
  | x :: r, p, h => by
    have h' : (!ltCps x.cps.toList p.cps.toList && risingS x r) = true := h
    rw [Bool.and_eq_true] at h'
    have h1 : leS p x = true := by unfold leS; rw [← ltCps_eq]; exact h'.1
    have h2 := rising_pw r x h'.2
    refine List.pairwise_cons.mpr ⟨fun z hz => ?_, h2⟩
    rcases List.mem_cons.mp hz with rfl | hz
    · exact h1
    · exact leS_trans h1 ((List.pairwise_cons.mp h2).1 z hz)
theorem sorted_pw {l : List Str} (h : sortedS l = true) : PwS l := by
  cases l with
  | nil => exact List.Pairwise.nil
  | cons x r => exact rising_pw r x h
theorem srt_of {l m : List Str} (h : sortedS l = true) (p : l.Perm m) : l = srtS m := pw_unique (sorted_pw h) (srt_pw m) (p.trans (srt_perm m).symm)
theorem srt_len (l : List Str) : (srtS l).length = l.length := (srt_perm l).length_eq
theorem mem_srt {l : List Str} {x : Str} : x ∈ srtS l ↔ x ∈ l := (srt_perm l).mem_iff
/-! ### sorted of a set of texts -/
section
variable {P : Program} {w : World} {A : Around} {E : Value → Shared → Prop} {s : Shared} {a : Addr} {l : List Str}
end
section
variable {X : Cx}
theorem cr_sortAny : CallR X (.builtin "sorted") (fun vs H Q => ∃ (a : Addr) (xs : List Str), vs = [V.ref a] ∧ SqL X.K H a (xs.map V.str) ∧ xs.length ≤ sizeLine ∧ ∀ p, H p = none → Q (.ref p) (upd H p (.lst ((srtS xs).map V.str)))) := by
  intro pins s σ H vs us Q I r h
  obtain ⟨a, xs, rfl, hs, hz, q⟩ := h
  obtain ⟨its, rv, hl, _⟩ := I.list hs
  rw [Vals.ref1 r]
  have len0 := rv.length
  rw [List.length_map] at len0
  refine sorted_strsAny hl.isList rv.strs (by rw [← len0]; exact hz) fun out ys h1 h2 h3 => ?_
  have e1 := srt_of h3 h2
  rw [e1] at h1
  obtain ⟨ep, he'⟩ := PyProof.Rows.sortedAll_at s.heap its out
  have hlen : ((srtS xs).map V.str).length ≤ sizeLine := by rw [List.length_map, srt_len]; exact hz
  exact ⟨.ref _, upd H (s.heap.objs.size + 1) (.lst ((srtS xs).map V.str)), I.laid (t' := s.toks) (fun _ _ => PyProof.Rows.sortedAll_old) (Nat.le_succ _) ⟨hlen, out.toList, ep, vals_of_strs h1, he'⟩, rfl, q _ (I.hok.fresh (Nat.le_succ _))⟩
end
/-! ### sorted(xs) of a list of texts, sorted(set(xs)) -/
def oSorted : OC := fun ds st => match ds with
  | [.loc l] => match lstAt st l with
    | some es => match asStrs es with
      | some ss => if ss.length ≤ sizeLine then some (.loc st.length, st ++ [.lst ((srtS ss).map D.str)]) else none
      | none => none
    | none => none
  | _ => none
theorem cb_sorted {X : Cx} : CallR X (.builtin "sorted") (rC X.K oSorted) := by
  intro pins s σ H vs us Q I r ⟨ρ, st, ds, a, st', hs, rs, h, k⟩
  unfold oSorted at h
  split at h
  · cases rs with
    | cons r1 t1 =>
      cases t1
      rename_i l _
      split at h
      · rename_i es he
        split at h
        · rename_i ss hss
          split at h
          · rename_i hz
            cases h
            obtain ⟨p, xs, rfl, hx, rr⟩ := lstAt_seq hs he r1
            rw [asStrs_eq hss] at rr
            rw [rr.strs] at hx
            refine cr_sortAny pins s σ H _ us Q I r ⟨p, ss, rfl, hx, hz, fun n hn => ?_⟩
            have le : Le ρ H (ρ ++ [n]) (upd H n (.lst ((srtS ss).map V.str))) := (Le.laid (ρ := ρ) n _ hn).ext (List.prefix_append _ _)
            obtain ⟨s1, l1, g1⟩ := hs.alloc (u := .lst ((srtS ss).map D.str)) hn ⟨_, upd_same, RepL.of_strs _⟩
            exact k _ _ _ l1 s1 (.loc g1)
          · cases h
        · cases h
      · cases h
  · cases h
/-- sorted(set(e)) -/
def eSortSet (m : EM) : EM := fun en => bnd (m en) fun d st => match itemsD d st with
  | some es => match asStrs es with
    | some ss => if (uniq ss).length ≤ 4000 then .ok (.loc st.length) (st ++ [.lst ((srtS (uniq ss)).map D.str)]) else .bad
    | none => .bad
  | none => .bad
section
variable {X : Cx} {W : WX} {e : Expr} {me : EM} {pos pos' p p' : Pos}
end
/-! ### in, by == of data of any depth -/
def inDeep (d e : D) (st : Sto) : Option Bool := match toPy st 2 d, toPy st 2 e with
  | some a, some (.list bs) => if (shX a && PyData.canLayAll0 bs) = true then some (bs.any fun z => PyData.eqv z a) else none
  | some a, some (.tuple bs) => if (shX a && PyData.canLayAll0 bs) = true then some (bs.any fun z => PyData.eqv z a) else none
  | _, _ => none
def isInX (d e : D) (st : Sto) : Option Bool := match isIn d e st with
  | some b => some b
  | none => inDeep d e st
def oInX : O2 := fun d e st => match isInX d e st with
  | some b => some (.bl b, st)
  | none => none
theorem in_deep_q {K : PySem.W.Frag} {ρ : List Addr} {H : Hp} {st : Sto} {d e : D} {x y : V} {b : Bool} (hs : StR K ρ H st) (rd : Rep ρ H d x) (re : Rep ρ H e y) (h : inDeep d e st = some b) :
    ∃ a bs, Dp K H x a ∧ (Dp K H y (.list bs) ∨ Dp K H y (.tuple bs)) ∧ shX a = true ∧ PyData.canLayAll0 bs = true ∧ (bs.any fun z => PyData.eqv z a) = b := by
  unfold inDeep at h
  split at h
  · rename_i a bs e1 e2
    split at h
    · rename_i hc
      cases h
      obtain ⟨c1, c2⟩ := Bool.and_eq_true_iff.mp hc
      exact ⟨a, bs, toPy_dp hs 2 rd e1, .inl (toPy_dp hs 2 re e2), c1, c2, rfl⟩
    · cases h
  · rename_i a bs e1 e2
    split at h
    · rename_i hc
      cases h
      obtain ⟨c1, c2⟩ := Bool.and_eq_true_iff.mp hc
      exact ⟨a, bs, toPy_dp hs 2 rd e1, .inr (toPy_dp hs 2 re e2), c1, c2, rfl⟩
    · cases h
  · cases h
section
variable {X : Cx}
theorem in_room {A : Around} {a : PyData} {bs : List PyData} (hu : A.units + 190 < cLine) (h : shX a = true) : A.units + 1 + min (PyData.depthAll bs) a.depth < cLine := by
  have : a.depth ≤ 180 := shX_dep h
  omega
theorem ob_inX (hu : X.A.units + 190 < cLine) : OpR X (compareOp .In) (rB X.K oInX) := by
  intro pins s σ H x y v u Q I rx ry ⟨ρ, st, d, e, a, st', hs, rd, re, h, k⟩
  unfold oInX isInX at h
  cases q : isIn d e st with
  | some b =>
    rw [q] at h
    exact ob_in pins s σ H x y v u Q I rx ry ⟨ρ, st, d, e, a, st', hs, rd, re, by unfold oIn; rw [q]; exact h, k⟩
  | none =>
    rw [q] at h
    dsimp only at h
    cases q2 : inDeep d e st with
    | none => rw [q2] at h; cases h
    | some b =>
      rw [q2] at h
      cases h
      obtain ⟨p, bs, h1, h2, h3, h4, h5⟩ := in_deep_q (K := X.K) hs rd re q2
      have kq := k ρ H _ Le.refl hs (.bl b)
      obtain ⟨_, r1⟩ := Dp.reads I p x v h1 rx
      rcases h2 with h2 | h2
      · obtain ⟨_, r2⟩ := Dp.reads I _ y u h2 ry
        exact SeqAt.in_list_reads r2 r1 h4 (shX_lay h3) (in_room hu h3) ⟨.bl _, H, I, rfl, by rw [h5]; exact kq⟩
      · obtain ⟨_, r2⟩ := Dp.reads I _ y u h2 ry
        exact SeqAt.in_tuple_reads r2 r1 h4 (shX_lay h3) (in_room hu h3) ⟨.bl _, H, I, rfl, by rw [h5]; exact kq⟩
end
/-! ### repr -/
def reprD (d : D) (st : Sto) : Option Str := match toPy st 3 d with
  | some p => if (shX p && p.showable && decide (p.shown.length ≤ sizeLine)) = true then some p.shown else none
  | none => none
def oRepr : OC := fun ds st => match ds with
  | [d] => match reprD d st with
    | some z => some (.str z, st)
    | none => none
  | _ => none
theorem repr_reads {P : Program} {w : World} {A : Around} {E : Value → Shared → Prop} {s : Shared} {u : Value} {d : PyData} {as : List Addr} {Q : Value → Shared → Prop} (r : Reads s.heap u d as) (hs : d.showable = true) (hn : d.hasDict = false) (hg : A.guards = some []) (hu : A.units + (d.depth + 1) < cLine) (hz : d.shown.length ≤ sizeLine)
    (hQ : ∀ h' t tk, (∀ b o, s.heap.get? b = some o → h'.get? b = some o) → Q (.str d.shown t) { s with heap := h', toks := tk }) : wpAny (model P w) A (PySem.call (.builtin "repr") [u]) Q E s := by
  cases r with
  | none =>
    simp only [PyData.shown] at hQ
    exact PySem.P.repr_of_none (hQ s.heap _ _ fun _ _ e => e)
  | bool b =>
    simp only [PyData.shown] at hQ
    exact PySem.P.repr_of_bool (hQ s.heap _ _ fun _ _ e => e)
  | int i t =>
    simp only [PyData.shown] at hQ
    exact PySem.P.repr_of_int (by simpa [PyData.showable] using hs) (hQ s.heap _ _ fun _ _ e => e)
  | str x t =>
    simp only [PyData.shown] at hQ hz
    exact PySem.P.repr_of_str (hQ s.heap _ _ fun _ _ e => e) hz
  | list h1 h2 h3 h4 => exact repr_of_reads' (.list h1 h2 h3 h4) hs (PyData.noDict_hsm hn) hg hu (fun _ _ e => e) (fun h' t tk hk => hQ h' t tk hk) hz
  | tuple h1 h2 h3 h4 => exact repr_of_reads' (.tuple h1 h2 h3 h4) hs (PyData.noDict_hsm hn) hg hu (fun _ _ e => e) (fun h' t tk hk => hQ h' t tk hk) hz
  | dict h1 h2 h3 h4 h5 => simp [PyData.hasDict] at hn
theorem cb_repr {X : Cx} (hg : X.A.guards = some []) (hu : X.A.units + 190 < cLine) : CallR X (.builtin "repr") (rC X.K oRepr) := by
  intro pins s σ H vs us Q I r ⟨ρ, st, ds, a, st', hs, rs, h, k⟩
  unfold oRepr at h
  split at h
  · rename_i d
    cases q : reprD d st with
    | none => rw [q] at h; cases h
    | some z =>
      rw [q] at h
      cases h
      unfold reprD at q
      cases q2 : toPy st 3 d with
      | none => rw [q2] at q; cases q
      | some p =>
        rw [q2] at q
        dsimp only at q
        split at q
        · rename_i hc
          cases q
          rw [Bool.and_eq_true, Bool.and_eq_true, decide_eq_true_eq] at hc
          cases rs with
          | cons r1 t1 =>
            cases t1
            obtain ⟨u, rfl, ru⟩ := vals1 r
            have hd := toPy_dp hs 3 r1 q2
            obtain ⟨as, rr⟩ := Dp.reads I p _ u hd ru
            have hlay := shX_lay hc.1.1
            have hdep : p.depth ≤ 180 := shX_dep hc.1.1
            exact repr_reads rr hc.1.2 (PyData.hasDict_of_canLay p hlay) hg (by omega) hc.2 fun h' t tk hk => ⟨.str _, H, I.kept (t' := tk) hk, ⟨_, rfl⟩, k ρ H _ Le.refl hs (.str _)⟩
        · cases q
  · cases h
end Sh

set_option maxHeartbeats 1000000
/-! ShT: more methods. -/
namespace Sh
open PySem PySem.Spec PyProof.Rows L2
section
variable {X : Cx}
end
/-! ### xs += ys of a list: a list, a tuple -/
theorem iadd_tup0 (l : Addr) (items : Array Value) (n : Nat) (b : Addr) (items2 : Array Value) (n2 : Nat) (dd : Option Addr) (sl : Array (Option Value)) (hs0 : ¬(!items.isEmpty && Builtin.List.listTooLong (items.size + items2.size)) = true) (hs1 : items.size ≤ sizeLine) (hs2 : items.size + items2.size ≤ sizeLine + 1) :
    Meets (Builtin.«list.__iadd__» ⟨[.ref l, .ref b], []⟩) (fun _ R s => s.heap.get? l = some { cls := .type "list", dict := none, data := .seq items n, slots := #[] } ∧ s.heap.get? b = some { cls := .type "tuple", dict := dd, data := .seq items2 n2, slots := sl } ∧ R (.ok (.ret (Value.ref l))) { s with heap := s.heap.update l (Obj.mapSeq fun x => x ++ items2), toks := s.toks }) :=
  .of_wp fun prog w A R s h => by
    obtain ⟨hp, g, d, tk, os⟩ := s
    obtain ⟨hl, hb, h⟩ := h
    have f1 := AutoSeq1.idx_int; have f2 := AutoSeq1.sub_tuple_tuple; have f3 := AutoSeq1.sub_list_list; have f4 := AutoSeq1.sub_tuple_list; have f5 := AutoSeq1.sub_list_tuple
    have hz' : (items ++ items2).size ≤ sizeLine + 1 := by rw [Array.size_append]; exact hs2
    wp_walk using (wpAny_updateSeq hl rfl (hz := hs1) (_hz' := hz')), AutoSeq1.wpAny_loadPart' hl, AutoSeq1.wpAny_loadPart' hb
    exact ⟨_, rfl, h⟩
theorem binop1_lt {M : Model} {A : Around} {E : Value → Shared → Prop} {s : Shared} {a b : Value} {Q : Option Value → Shared → Prop} (ha : s.TypeIs a "list") (hb : s.TypeIs b "tuple") (h : Q none s) : wpAny M A (binaryOp1 "add" a b) Q E s := by
  have h1 : fillsNumberSlot (.type "list") "add" = pure false := noFill_list_add
  have h2 : fillsNumberSlot (.type "tuple") "add" = pure false := noFill_tuple_add
  simp only [binaryOp1]
  refine wpAny_bind (wpAny_typeOf ha (wpAny_bind (wpAny_typeOf hb (wpAny_bind (wpAny_of_eq h1 ?_)))))
  have e : (Value.type "list" == Value.type "tuple") = false := by decide
  rw [e, h2]
  simp only [beq_self_eq_true, if_true, pure_bind, Bool.false_and, Bool.false_eq_true, if_false]
  exact wpAny_pure h
theorem iadd_road2 {M : Model} {A : Around} {E : Value → Shared → Prop} {s : Shared} {a b : Value} {Q : Value → Shared → Prop} (ha : s.TypeIs a "list") (hb : s.TypeIs b "tuple") (hc : wpAny M A (PySem.call (.builtin "list.__iadd__") [a, b]) Q E s) : wpAny M A (inplaceOp .Add a b) Q E s := by
  have hsl : typeLookup (.type "list") (dunderI "add") = pure (some (.builtin "list.__iadd__")) := PySem.F.slot_list_iadd.lookup
  have hsq : isSeqSlot (some (.builtin "list.__iadd__")) = true := by decide +kernel
  have hfi : fillsInplaceSlot (.type "list") "add" (Operator.Add == .Add) = pure false := by
    unfold fillsInplaceSlot
    show (typeLookup (.type "list") (dunderI "add") >>= fun fi => pure (fi.isSome && !isSeqSlot fi)) = pure false
    rw [hsl]
    show (pure (true && !isSeqSlot (some (.builtin "list.__iadd__"))) : Sem Bool) = pure false
    rw [hsq] <;> rfl
  have hsi : seqSlot? (.type "list") (dunderI "add") = pure (some (.builtin "list.__iadd__")) := PySem.seqSlot_of hsl hsq
  unfold inplaceOp
  refine wpAny_holding (wpAny_bind (wpAny_typeOf ha (wpAny_bind (wpAny_of_eq hfi ?_))))
  show wpAny M A (if false = true then _ else _) Q E s
  rw [if_neg Bool.false_ne_true]
  exact wpAny_bind (binop1_lt ha hb (wpAny_bind (wpAny_of_eq hsi (wpAny_bind (wpAny_rule hc)))))
section
variable {X : Cx}
theorem iop_extT : OpR X (inplaceOp .Add) (fun x y H Q => ∃ (l b : Addr) (xs zs : List V), x = .ref l ∧ y = .ref b ∧ H l = some (.lst xs) ∧ SqT X.K H b zs ∧ xs.length + zs.length ≤ sizeLine ∧ Q (.ref l) (upd H l (.lst (xs ++ zs)))) := by
  intro pins s σ H x y v u Q I rx ry h
  obtain ⟨l, b, xs, zs, rfl, rfl, hH, hB, hz, q⟩ := h
  cases rx
  cases ry
  obtain ⟨z, its, n, r, hl, e⟩ := I.lstM hH
  obtain ⟨its2, r2, ⟨⟨ocls, odd, odata, osl⟩, ho2, hc2, n2, hd2⟩, z2⟩ := I.tuple hB
  simp only at hc2 hd2
  subst hc2; subst hd2
  have l2 := r2.length
  have hsz : its.toArray.size + its2.toArray.size ≤ sizeLine := by rw [List.size_toArray, List.size_toArray]; omega
  have hlong : ¬ (!its.toArray.isEmpty && Builtin.List.listTooLong (its.toArray.size + its2.toArray.size)) = true := by
    rw [notLongL hsz, Bool.and_false]
    exact Bool.false_ne_true
  refine iadd_road2 ⟨_, e, rfl⟩ ⟨_, ho2, rfl⟩ (call_meets PySem.F.slot_list_iadd ⟨_, e, rfl⟩ PySem.F.entry_list_iadd (PySem.F.args_list_iadd_2 _ _)
    (iadd_tup0 l its.toArray n b its2.toArray n2 odd osl hlong (by rw [List.size_toArray]; omega) (by omega)) ⟨e, ho2, ?_⟩)
  refine ⟨.ref l, _, I.lset (its' := its ++ its2) (t' := s.toks) hH e (by simp) (r.append r2) ?_, rfl, q⟩
  rw [List.length_append]
  omega
def oIAddX : O2 := fun d e st => match d, e with
  | .loc l, .loc m => match st[l]?, st[m]? with
    | some (.lst xs), some (.lst ys) => if xs.length + ys.length ≤ sizeLine then some (.loc l, st.set l (.lst (xs ++ ys))) else none
    | _, _ => none
  | .loc l, .tup ys => match st[l]? with
    | some (.lst xs) => if xs.length + ys.length ≤ sizeLine then some (.loc l, st.set l (.lst (xs ++ ys))) else none
    | _ => none
  | d, e => oIAdd d e st
theorem ob_iaddx : OpR X (inplaceOp .Add) (rB X.K oIAddX) := by
  intro pins s σ H x y v u Q I rx ry ⟨ρ, st, d, e, a, st', hs, rd, re, h, k⟩
  unfold oIAddX at h
  split at h
  · rename_i l m
    split at h
    · rename_i xs ys hl hm
      split at h
      · rename_i hz
        cases h
        obtain ⟨p, us, rfl, hp, hx, r1⟩ := lst_own hs hl rd
        obtain ⟨q, ws, rfl, hq, hy, r2⟩ := lst_own hs hm re
        refine iop_ext pins s σ H _ _ v u Q I rx ry ⟨p, q, us, ws, rfl, rfl, hx, hy, by rw [← r1.length, ← r2.length]; exact hz, ?_⟩
        obtain ⟨s1, l1⟩ := hs.put (o := .lst (us ++ ws)) (u := .lst (xs ++ ys)) hl rfl rfl hp fun H' e' le => ⟨_, by rw [e']; exact upd_same, (r1.append r2).mono le⟩
        exact k ρ _ _ l1 s1 (.loc hp)
      · cases h
    · cases h
  · rename_i l ys
    split at h
    · rename_i xs hl
      split at h
      · rename_i hz
        cases h
        obtain ⟨p, us, rfl, hp, hx, r1⟩ := lst_own hs hl rd
        obtain ⟨q, ws, rfl, hy, r2⟩ := re.tupA
        refine iop_extT pins s σ H _ _ v u Q I rx ry ⟨p, q, us, ws, rfl, rfl, hx, SqT.of hy, by rw [← r1.length, ← r2.length]; exact hz, ?_⟩
        obtain ⟨s1, l1⟩ := hs.put (o := .lst (us ++ ws)) (u := .lst (xs ++ ys)) hl rfl rfl hp fun H' e' le => ⟨_, by rw [e']; exact upd_same, (r1.append r2).mono le⟩
        exact k ρ _ _ l1 s1 (.loc hp)
      · cases h
    · cases h
  · exact ob_iadd pins s σ H x y v u Q I rx ry ⟨ρ, st, _, _, a, st', hs, rd, re, h, k⟩
end
end Sh

set_option maxHeartbeats 1000000
/-! ShU: enumerate over a tuple or a list; a tuple turned about. -/
namespace Sh
open PySem PySem.Spec PyProof.Rows L2
open AutoSeq1 (wpAny_loadPart')
section
variable {prog : Program} {w : World} {A : Around} {E : Value → Shared → Prop} {s : Shared}
end
section
variable {X : Cx} {W : WX}
end
/-! ### a tuple turned about -/
section
variable {prog : Program} {w : World} {A : Around} {E : Value → Shared → Prop} {s : Shared}
end
section
variable {X : Cx} {W : WX}
end
section
variable {X : Cx}
end
/-! ### is of truths -/
section
variable {X : Cx}
end
end Sh

set_option maxHeartbeats 1000000
/-! ShStr: split, strip, lstrip. -/
namespace Sh
open PySem PySem.Spec PyProof.Rows L2
section
variable {X : Cx}
/-- a new list of texts -/
theorem strs_new {K : PySem.W.Frag} {ρ : List Addr} {H : Hp} {st st' : Sto} {a : D} {ys : List Str} {Q : VK} (hs : StR K ρ H st) (ea : a = .loc st.length) (es : st' = st ++ [.lst (ys.map D.str)])
    (k : ∀ ρ' H' v, Le ρ H ρ' H' → StR K ρ' H' st' → Rep ρ' H' a v → Q v H') : ∀ p, H p = none → Q (.ref p) (upd H p (.lst (ys.map V.str))) := fun p hp => by
  subst ea; subst es
  obtain ⟨s1, l1, g1⟩ := hs.alloc (o := .lst (ys.map V.str)) (u := .lst (ys.map D.str)) hp ⟨_, upd_same, RepL.of_strs ys⟩
  exact k _ _ _ l1 s1 (.loc g1)
def oSplit : OMt := fun d ds st => match d, ds with
  | .str a, [.str b] => if (b.length == 0) = false ∧ a.length + 2 ≤ sizeLine then some (.loc st.length, st ++ [.lst ((Txt.split a b).map D.str)]) else none
  | _, _ => none
theorem om_split : MtR X "str.split" (rM X.K oSplit) := by
  intro pins s σ H x vs v us Q I rx rvs ⟨ρ, st, d, ds, a, st', hs, rd, rs, h, k⟩
  unfold oSplit at h
  split at h
  · split at h
    · rename_i hc
      cases h
      cases rd
      cases rs with
      | cons r1 t1 =>
        cases t1
        cases r1
        exact mt_split pins s σ H _ _ v us Q I rx rvs ⟨_, _, rfl, rfl, hc.1, hc.2, strs_new hs rfl rfl k⟩
    · cases h
  · cases h
end
end Sh

set_option maxHeartbeats 1000000
/-! ShTk: dicts whose keys are tuples of numbers and texts. -/
namespace Sh
open PySem PySem.Spec PyProof.Rows L2
def keysOf : List D → Option (List Key)
  | [] => some []
  | d :: ds => match keyOf d, keysOf ds with
    | some k, some ks => some (k :: ks)
    | _, _ => none
theorem keysOf_rep {ρ : List Addr} {H : Hp} : ∀ {ds : List D} {ks : List Key} {xs : List V}, keysOf ds = some ks → RepL ρ H ds xs → xs = ks.map kV
  | [], ks, xs, h, r => by cases h; cases r; rfl
  | d :: ds, ks, xs, h, r => by
    unfold keysOf at h
    split at h
    · rename_i k ks' h1 h2
      cases h
      cases r with
      | cons r1 r2 => rw [keyOf_rep h1 r1, keysOf_rep h2 r2, List.map_cons]
    · cases h
def kD : Key → D
  | .inl i => .int i
  | .inr z => .str z
def keyD (ks : List Key) : D := .tup (ks.map kD)
theorem kD_rep {ρ : List Addr} {H : Hp} : ∀ k : Key, Rep ρ H (kD k) (kV k)
  | .inl i => .int i
  | .inr z => .str z
theorem kDs_rep {ρ : List Addr} {H : Hp} : ∀ ks : List Key, RepL ρ H (ks.map kD) (ks.map kV)
  | [] => .nil
  | k :: ks => .cons (kD_rep k) (kDs_rep ks)
/-- what a tuple stands for as a key -/
def keyT : D → Option (List Key)
  | .tup ds => keysOf ds
  | _ => none
def dtAt (st : Sto) (l : Nat) : Option (List (List Key × D)) := match st[l]? with
  | some (.dit kvs) => some kvs
  | _ => none
/-- what the dict at l has for a key; none where it is no dict or the key none -/
def rdAt (st : Sto) (l : Nat) (e : D) : Option (Option D) := match st[l]? with
  | some (.dic kvs) => (keyOf e).map (lookK kvs)
  | some (.rod kvs) => (keyOf e).map (lookK kvs)
  | some (.dit kvs) => (keyT e).map (lookK kvs)
  | some (.rot kvs) => (keyT e).map (lookK kvs)
  | _ => none
def oIxT : O2 := fun d e st => match d with
  | .loc l => match rdAt st l e with
    | some (some r) => some (r, st)
    | some none => none
    | none => oIx d e st
  | _ => oIx d e st
section
variable {X : Cx}
theorem keyT_rep {ρ : List Addr} {H : Hp} {e : D} {y : V} {ks : List Key} (h : keyT e = some ks) (r : Rep ρ H e y) : ∃ b, y = .ref b ∧ H b = some (.tup (ks.map kV)) := by
  unfold keyT at h
  split at h
  · obtain ⟨p, xs, rfl, hx, r1⟩ := r.tupA
    exact ⟨p, rfl, by rw [hx, keysOf_rep h r1]⟩
  · cases h
theorem rdAt_get {K : PySem.W.Frag} {ρ : List Addr} {H : Hp} {st : Sto} {l : Nat} {a : Addr} {e : D} {y : V} {r : Option D} (hs : StR K ρ H st) (ha : ρ[l]? = some a) (re : Rep ρ H e y) (h : rdAt st l e = some r) :
    IsD H a ∧ ∃ o, DGet H a y o ∧ ((r = none ∧ o = none) ∨ ∃ d w, r = some d ∧ o = some w ∧ Rep ρ H d w) := by
  unfold rdAt at h
  split at h
  · rename_i kvs hl
    obtain ⟨k, hk, rfl⟩ := Option.map_eq_some_iff.mp h
    obtain ⟨us, e1, rk⟩ := hs.ob l _ a hl ha
    have ey := keyOf_rep hk re
    subst ey
    refine ⟨.inl ⟨us, .inl e1⟩, _, DGet.k e1, ?_⟩
    rcases lookK_rep k rk with ⟨z1, z2⟩ | ⟨d, w, z1, z2, z3⟩
    · exact .inl ⟨z1, z2⟩
    · exact .inr ⟨d, w, z1, z2, z3⟩
  · rename_i kvs hl
    obtain ⟨k, hk, rfl⟩ := Option.map_eq_some_iff.mp h
    obtain ⟨us, od, e1, rk⟩ := hs.ob l _ a hl ha
    have ey := keyOf_rep hk re
    subst ey
    refine ⟨.inl ⟨us, .inr ⟨od, e1⟩⟩, _, .inl ⟨us, k, .inr ⟨od, e1⟩, rfl, rfl⟩, ?_⟩
    rcases lookK_rep k rk with ⟨z1, z2⟩ | ⟨d, w, z1, z2, z3⟩
    · exact .inl ⟨z1, z2⟩
    · exact .inr ⟨d, w, z1, z2, z3⟩
  · rename_i kvs hl
    obtain ⟨k, hk, rfl⟩ := Option.map_eq_some_iff.mp h
    obtain ⟨us, e1, rk⟩ := hs.ob l _ a hl ha
    obtain ⟨b, rfl, hb⟩ := keyT_rep hk re
    refine ⟨.inr ⟨us, .inl e1⟩, _, DGet.t e1 hb, ?_⟩
    rcases lookK_rep k rk with ⟨z1, z2⟩ | ⟨d, w, z1, z2, z3⟩
    · exact .inl ⟨z1, z2⟩
    · exact .inr ⟨d, w, z1, z2, z3⟩
  · rename_i kvs hl
    obtain ⟨k, hk, rfl⟩ := Option.map_eq_some_iff.mp h
    obtain ⟨us, od, e1, rk⟩ := hs.ob l _ a hl ha
    obtain ⟨b, rfl, hb⟩ := keyT_rep hk re
    refine ⟨.inr ⟨us, .inr ⟨od, e1⟩⟩, _, .inr ⟨us, k, b, .inr ⟨od, e1⟩, rfl, hb, rfl⟩, ?_⟩
    rcases lookK_rep k rk with ⟨z1, z2⟩ | ⟨d, w, z1, z2, z3⟩
    · exact .inl ⟨z1, z2⟩
    · exact .inr ⟨d, w, z1, z2, z3⟩
  · cases h
theorem ox_ixT (hu : X.A.units + 1 < cLine) : IxR X (rB X.K oIxT) := by
  intro value slice pins s σ H x y v u Q I rx ry ⟨ρ, st, d, e, a, st', hs, rd, re, h, k⟩ hsub
  unfold oIxT at h
  split at h
  · rename_i l
    split at h
    · rename_i r hr
      cases h
      obtain ⟨p, rfl, hp⟩ := rd.locA
      obtain ⟨_, o, g, hc⟩ := rdAt_get hs hp re hr
      rcases hc with ⟨z, _⟩ | ⟨d, w, z1, z2, z3⟩
      · cases z
      · cases z1
        subst z2
        cases rx
        exact tail_any (dict_typeIs I g) PySem.F.slot_dict_getitem.lookup (d_getItem hu I g ry fun w' s3 I3 rw' => ⟨w, H, I3, rw', k ρ H w Le.refl hs z3⟩) hsub
    · cases h
    · exact ox_ix hu value slice pins s σ H x y v u Q I rx ry ⟨ρ, st, _, e, a, st', hs, rd, re, h, k⟩ hsub
  · exact ox_ix hu value slice pins s σ H x y v u Q I rx ry ⟨ρ, st, d, e, a, st', hs, rd, re, h, k⟩ hsub
variable {W : WX} {a b : Expr} {ma mb : EM} {pos : Pos}
theorem je_ixT (hu : X.A.units + 1 < cLine) (ha : JE X W a ma) (hb : JE X W b mb) (hs : PlainIx b := by intro _ _; rfl) : JE X W (.Subscript a b pos) (eOp oIxT ma mb) := pe_imp (pe_ix (ox_ixT hu) ha hb hs) fun _ _ _ h => op_rd h
end
/-! ### k in d -/
def oInT : O2 := fun e d st => match d with
  | .loc l => match rdAt st l e with
    | some r => some (.bl r.isSome, st)
    | none => oInX e d st
  | _ => oInX e d st
section
variable {X : Cx}
theorem ob_inT (hu : X.A.units + 190 < cLine) : OpR X (compareOp .In) (rB X.K oInT) := by
  intro pins s σ H x y v u Q I rx ry ⟨ρ, st, d, e, a, st', hs, rd, re, h, k⟩
  unfold oInT at h
  split at h
  · rename_i l
    split at h
    · rename_i r hr
      cases h
      obtain ⟨p, rfl, hp⟩ := re.locA
      obtain ⟨_, o, g, hc⟩ := rdAt_get hs hp rd hr
      have ho : r.isSome = o.isSome := by
        rcases hc with ⟨z1, z2⟩ | ⟨d, w, z1, z2, _⟩
        · rw [z1, z2]; rfl
        · rw [z1, z2]; rfl
      cases ry
      exact d_in (by omega) I g rx fun s' I' => ⟨.bl o.isSome, H, I', rfl, k ρ H _ Le.refl hs (by rw [ho]; exact .bl _)⟩
    · exact ob_inX hu pins s σ H x y v u Q I rx ry ⟨ρ, st, d, _, a, st', hs, rd, re, h, k⟩
  · exact ob_inX hu pins s σ H x y v u Q I rx ry ⟨ρ, st, d, e, a, st', hs, rd, re, h, k⟩
end
/-! ### d[k] = v -/
def setT : O3 := fun d e f st => match d with
  | .loc l => match st[l]? with
    | some (.dit kvs) => match keyT e with
      | some k => if kvs.length < sizeLine then some (st.set l (.dit (putD kvs k f))) else none
      | none => none
    | _ => setO d e f st
  | _ => none
section
variable {X : Cx}
theorem os_setT (hu : X.A.units + 1 < cLine) : PSet X (rS3 X.K setT) := by
  intro pins s σ H o i v ov iv u Q I ro ri rv ⟨ρ, st, d, e, f, st', hs, rd, re, rf, h, k⟩
  unfold setT at h
  split at h
  · rename_i l
    split at h
    · rename_i kvs hl
      obtain ⟨a, rfl, ha⟩ := rd.locA
      split at h
      · rename_i ks hk
        split at h
        · rename_i hz
          cases h
          obtain ⟨us, hx, r⟩ := hs.ob l _ a hl ha
          obtain ⟨b, rfl, hb⟩ := keyT_rep hk re
          have g : DPut H a (.ref b) v (upd H a (.dT (putK us ks v))) := DPut.t hx hb (by rw [← r.length]; exact hz)
          cases ro
          refine d_setItem hu I g ri rv fun s' I' => ⟨_, I', ?_⟩
          obtain ⟨s1, l1⟩ := hs.put (o := .dT (putK us ks v)) (u := .dit (putD kvs ks f)) hl rfl rfl ha fun H' e' le => ⟨_, by rw [e']; exact upd_same, (RepK.put ks rf r).mono le⟩
          exact k ρ _ l1 s1
        · cases h
      · cases h
    · exact os_set hu pins s σ H o i v ov iv u Q I ro ri rv ⟨ρ, st, _, e, f, st', hs, rd, re, rf, h, k⟩
  · cases h
end
def sPutT (mv mo mi : EM) : SM := sB (fun en => bnd (mv en) fun v => bnd (mo en) fun o => bnd (mi en) fun i => fun st => match setT o i v st with
  | some st' => R.ok () st'
  | none => R.bad) fun _ en st => .nx en st
section
variable {X : Cx} {W : WX} {e : Expr} {me : EM} {pos : Pos} {E : XK}
theorem js_putT {o i : Expr} {mo mi : EM} {pos' : Pos} (hu : X.A.units + 1 < cLine) (he : JE X W e me) (ho : JE X W o mo) (hi : JE X W i mi)
    (ha : ∀ v, assign (.Subscript o i pos') X.env v = (do
      let ov ← holding [v] (eval o X.env)
      let iv ← holding [v, ov] (eval i X.env)
      standAt pos'
      holding [v, ov, iv] (setItem ov iv v)
      release [v, ov, iv] []) := by intro _; rfl) (hs : swapsWithSole [.Subscript o i pos'] e pos.line X.env = pure false := by rfl) (hw : swappedStores [.Subscript o i pos'] e X.env = pure none := by rfl)
    (h1 : (assignEach [.Subscript o i pos'] X.env).map (·.2) = [assign (.Subscript o i pos') X.env] := by rfl) : JS X W (.Assign [.Subscript o i pos'] e pos) (sPutT me mo mi) :=
  ps_imp (ps_asg he (pg_sub ho hi (os_setT hu) ha) hs hw h1) fun E σ H ⟨ρ, en, st, her, hs, h⟩ => by
    refine ⟨ρ, en, st, her, hs, (aft_bnd (sB_rd her h)).imp fun ρ1 H1 st1 f le1 s1 q1 v rv => ?_⟩
    refine ⟨ρ1, en, st1, her.mono le1, s1, (aft_bnd q1).imp fun ρ2 H2 st2 d le2 s2 q2 ov ro => ?_⟩
    refine ⟨ρ2, en, st2, her.mono (le1.trans le2), s2, (aft_bnd q2).imp fun ρ3 H3 st3 i le3 s3 q3 iv ri => ?_⟩
    cases q4 : setT d i f st3 with
    | none => rw [q4] at q3; exact q3.elim
    | some st4 =>
      rw [q4] at q3
      refine ⟨ρ3, st3, d, i, f, st4, s3, ro.mono le3, ri, rv.mono (le2.trans le3), q4, fun ρ' H' le s => ?_⟩
      obtain ⟨er, q⟩ := q3 ρ' H' le s
      exact q ρ' H' σ Le.refl s er
end
section
variable {X : Cx} {W : WX} {o : Expr} {mo : EM} {apos cpos : Pos}
end
end Sh

set_option maxHeartbeats 1000000
/-! ShFk: dicts walked. -/
namespace Sh
open PySem PySem.Spec PyProof.Rows L2
section
variable {K : PySem.W.Frag} {mg : Mg} {W : WX} {ρ ρ' : List Addr} {H H' : Hp}
theorem EnR.mono0 {en : Ev} {σ : L2.St} (e : Le0 ρ H ρ' H') (r : EnR ρ H en σ) : EnR ρ' H' en σ := ⟨r.len, fun i d h => by
  obtain ⟨v, h1, h2⟩ := r.at_ i d h
  exact ⟨v, h1, Rep.mono0 e h2⟩⟩
end
/-! ### for over a dict -/
section
variable {X : Cx} {W : WX} {mb : SM} {σ : L2.St}
end
end Sh

set_option maxHeartbeats 1000000
/-! ShM: what holds of a result; the words with which a def's function is gone through. (printed in part by mkM.py) -/
namespace Sh
open PySem PySem.Spec PyProof.Rows L2

abbrev NoE : Str → Sto → Prop := fun _ _ => False
def OkX {α : Type} (r : R α) (P : α → Sto → Prop) (E : Str → Sto → Prop) : Prop := match r with
  | .ok a st => P a st
  | .exc c st => E c st
  | .bad => False
abbrev Ok {α : Type} (r : R α) (P : α → Sto → Prop) : Prop := OkX r P NoE
def OkO (o : Option (D × Sto)) (P : D → Sto → Prop) : Prop := match o with
  | some p => P p.1 p.2
  | none => False
def OkV (o : Option (Option D)) (st : Sto) (P : D → Sto → Prop) : Prop := match o with
  | some (some d) => P d st
  | _ => False
structure Po where
  nx : Ev → Sto → Prop
  rt : D → Sto → Prop
  bk : Ev → Sto → Prop
  ct : Ev → Sto → Prop
  ex : Str → Ev → Sto → Prop
def OkS (r : SR) (p : Po) : Prop := match r with
  | .nx en st => p.nx en st
  | .rt d st => p.rt d st
  | .bk en st => p.bk en st
  | .ct en st => p.ct en st
  | .exc c en st => p.ex c en st
  | .bad => False
section
variable {α β : Type} {P P' : α → Sto → Prop} {E E' : Str → Sto → Prop} {st : Sto} {en : Ev} {p : Po}
theorem OkX.imp {r : R α} (h : OkX r P E) (k : ∀ a st, P a st → P' a st) (ke : ∀ c st, E c st → E' c st) : OkX r P' E' := by
  cases r with
  | ok a st => exact k _ _ h
  | exc c st => exact ke _ _ h
  | bad => exact h
theorem Ok.imp {r : R α} (h : Ok r P) (k : ∀ a st, P a st → P' a st) : OkX r P' E := OkX.imp h k fun _ _ z => z.elim
theorem Ok.out {r : R α} (h : Ok r P) : ∃ a st, r = .ok a st ∧ P a st := by
  cases r with
  | ok a st => exact ⟨a, st, rfl, h⟩
  | exc c st => exact h.elim
  | bad => exact h.elim
theorem OkX.of_eq {r : R α} {a : α} {st : Sto} (e : r = .ok a st) (h : P a st) : OkX r P E := by
  rw [e]
  exact h
theorem k_bnd {P : β → Sto → Prop} (m : M α) (f : α → M β) : OkX (bnd m f st) P E = OkX (m st) (fun a st1 => OkX (f a st1) P E) E := by
  unfold bnd
  cases m st <;> rfl
theorem k_ret (a : α) : OkX (ret a st) P E = P a st := rfl
theorem k_ok (a : α) : OkX (R.ok a st) P E = P a st := rfl
theorem k_bad : OkX (R.bad : R α) P E = False := rfl
theorem k_badM : OkX (badM st : R α) P E = False := rfl
theorem k_exc (c : Str) : OkX (R.exc c st : R α) P E = E c st := rfl
theorem k_lft {P : D → Sto → Prop} (o : Sto → Option (D × Sto)) : OkX (lft o st) P E = OkO (o st) P := by
  unfold lft
  cases o st <;> rfl
theorem k_ite {c : Prop} [Decidable c] (m m' : M α) : OkX ((if c then m else m') st) P E = if c then OkX (m st) P E else OkX (m' st) P E := by split <;> rfl
theorem k_ite' {c : Prop} [Decidable c] (m m' : R α) : OkX (if c then m else m') P E = if c then OkX m P E else OkX m' P E := by split <;> rfl
theorem o_some {P : D → Sto → Prop} (d : D) : OkO (some (d, st)) P = P d st := rfl
theorem o_none {P : D → Sto → Prop} : OkO none P = False := rfl
theorem o_ite {P : D → Sto → Prop} {c : Prop} [Decidable c] (a b : Option (D × Sto)) : OkO (if c then a else b) P = if c then OkO a P else OkO b P := by split <;> rfl
theorem v_some {P : D → Sto → Prop} (d : D) : OkV (some (some d)) st P = P d st := rfl
theorem k_var {P : D → Sto → Prop} (i : Nat) : OkX (eVar i en st) P E = OkV en[i]? st P := by
  unfold eVar OkV
  cases en[i]? with
  | none => rfl
  | some o => cases o <;> rfl
theorem k_c {P : D → Sto → Prop} (d : D) : OkX (eC d en st) P E = P d st := rfl
theorem k_op {P : D → Sto → Prop} (g : O2) (a b : EM) : OkX (eOp g a b en st) P E = OkX (a en st) (fun x st1 => OkX (b en st1) (fun y st2 => OkO (g x y st2) P) E) E := by
  unfold eOp
  rw [k_bnd]
  congr 1
  funext x st1
  rw [k_bnd]
  congr 1
  funext y st2
  rw [k_lft]
theorem k_call {P : D → Sto → Prop} (n : Nat) (f : Fn) (as : AM) : OkX (eCall n f as en st) P E = OkX (as en st) (fun ds st1 => if ds.length = n then OkX (f ds st1) P E else False) E := by
  unfold eCall
  rw [k_bnd]
  congr 1
  funext ds st1
  rw [k_ite]
  rfl
theorem k_call0 {P : D → Sto → Prop} (f : Fn) : OkX (eCall0 f en st) P E = OkX (f [] st) P E := rfl
theorem k_cb {P : D → Sto → Prop} (g : OC) (as : AM) : OkX (eCB g as en st) P E = OkX (as en st) (fun ds st1 => OkO (g ds st1) P) E := by
  unfold eCB
  rw [k_bnd]
  congr 1
  funext ds st1
  rw [k_lft]
theorem k_nil {P : List D → Sto → Prop} : OkX (aNil en st) P E = P [] st := rfl
theorem k_cons {P : List D → Sto → Prop} (a : EM) (as : AM) : OkX (aCons a as en st) P E = OkX (a en st) (fun x st1 => OkX (as en st1) (fun xs st2 => P (x :: xs) st2) E) E := by
  unfold aCons
  rw [k_bnd]
  congr 1
  funext x st1
  rw [k_bnd]
  rfl
theorem k_tup {P : D → Sto → Prop} (as : AM) : OkX (eTup as en st) P E = OkX (as en st) (fun ds st1 => if ds.length ≤ sizeLine then P (.tup ds) st1 else False) E := by
  unfold eTup
  rw [k_bnd]
  congr 1
  funext ds st1
  rw [k_ite]
  rfl
theorem k_lst {P : D → Sto → Prop} (as : AM) : OkX (eLst as en st) P E = OkX (as en st) (fun ds st1 => if ds.length ≤ sizeLine then P (.loc st1.length) (st1 ++ [.lst ds]) else False) E := by
  unfold eLst
  rw [k_bnd]
  congr 1
  funext ds st1
  rw [k_ite]
  rfl
theorem k_asB (d : D) {P : Bool → Sto → Prop} : OkX (asB d st) P E = (match d with | .bl b => P b st | _ => False) := by cases d <;> rfl
theorem k_bOf {P : Bool → Sto → Prop} (m : EM) : OkX (bOf m en st) P E = OkX (m en st) (fun d st1 => match d with | .bl b => P b st1 | _ => False) E := by
  unfold bOf
  rw [k_bnd]
  congr 1
  funext d st1
  rw [k_asB]
theorem k_bAnd {P : Bool → Sto → Prop} (t u : BM) : OkX (bAnd t u en st) P E = OkX (t en st) (fun c st1 => if c = true then OkX (u en st1) P E else P false st1) E := by
  unfold bAnd
  rw [k_bnd]
  congr 1
  funext c st1
  rw [k_ite]
  rfl
theorem k_bOr {P : Bool → Sto → Prop} (t u : BM) : OkX (bOr t u en st) P E = OkX (t en st) (fun c st1 => if c = true then P true st1 else OkX (u en st1) P E) E := by
  unfold bOr
  rw [k_bnd]
  congr 1
  funext c st1
  rw [k_ite]
  rfl
theorem k_bNot {P : Bool → Sto → Prop} (t : BM) : OkX (bNot t en st) P E = OkX (t en st) (fun c st1 => P (!c) st1) E := by
  unfold bNot
  rw [k_bnd]
  rfl
theorem k_and {P : D → Sto → Prop} (a b : EM) : OkX (eAnd a b en st) P E = OkX (bOf a en st) (fun c st1 => if c = true then OkX (b en st1) P E else P (.bl false) st1) E := by
  unfold eAnd
  rw [k_bnd]
  congr 1
  funext c st1
  rw [k_ite]
  rfl
theorem k_or {P : D → Sto → Prop} (a b : EM) : OkX (eOr a b en st) P E = OkX (bOf a en st) (fun c st1 => if c = true then P (.bl true) st1 else OkX (b en st1) P E) E := by
  unfold eOr
  rw [k_bnd]
  congr 1
  funext c st1
  rw [k_ite]
  rfl
theorem k_not {P : D → Sto → Prop} (a : EM) : OkX (eNot a en st) P E = OkX (bOf a en st) (fun c st1 => P (.bl (!c)) st1) E := by
  unfold eNot
  rw [k_bnd]
  rfl
theorem k_if {P : D → Sto → Prop} (t : BM) (a b : EM) : OkX (eIf t a b en st) P E = OkX (t en st) (fun c st1 => if c = true then OkX (a en st1) P E else OkX (b en st1) P E) E := by
  unfold eIf
  rw [k_bnd]
  congr 1
  funext c st1
  rw [k_ite]
theorem k_chain {P : D → Sto → Prop} (g g' : O2) (a b c : EM) : OkX (eChain g g' a b c en st) P E = OkX (a en st) (fun x st1 => OkX (b en st1) (fun y st2 => OkO (g x y st2) (fun z st3 => match z with
    | .bl k => if k = true then OkX (c en st3) (fun w st4 => OkO (g' y w st4) P) E else P (.bl false) st3
    | _ => False)) E) E := by
  unfold eChain
  rw [k_bnd]
  congr 1
  funext x st1
  rw [k_bnd]
  congr 1
  funext y st2
  rw [k_bnd, k_lft]
  congr 1
  funext z st3
  rw [k_bnd, k_asB]
  split
  · rw [k_ite, k_bnd]
    congr 1
    congr 1
    funext w st4
    rw [k_lft]
  · rfl
theorem k_inC {P : D → Sto → Prop} (neg : Bool) (ws : List Str) (a : EM) : OkX (eInC neg ws a en st) P E = OkX (a en st) (fun x st1 => if flatD x = true then P (.bl (if neg then !inD x (ws.map D.str) else inD x (ws.map D.str))) st1 else False) E := by
  unfold eInC
  rw [k_bnd]
  congr 1
  funext x st1
  rw [k_ite]
  rfl
theorem k_neg {P : D → Sto → Prop} (a : EM) : OkX (eNeg a en st) P E = OkX (a en st) (fun d st1 => match d with | .int i => P (.int (-i)) st1 | _ => False) E := by
  unfold eNeg
  rw [k_bnd]
  congr 1
  funext d st1
  cases d <;> rfl
theorem k_bm {P : D → Sto → Prop} (T : String) (g : OMt) (o : EM) (as : AM) : OkX (eBM T g o as en st) P E = OkX (o en st) (fun d st1 => if isTyD T d st1 = true then OkX (as en st1) (fun ds st2 => OkO (g d ds st2) P) E else False) E := by
  unfold eBM
  rw [k_bnd]
  congr 1
  funext d st1
  rw [k_bnd]
  show OkX (if isTyD T d st1 = true then R.ok () st1 else R.bad) _ E = _
  rw [k_ite']
  split
  · rw [k_ok, k_bnd]
    congr 1
    funext ds st2
    rw [k_lft]
  · rfl
theorem k_get2 {P : D → Sto → Prop} (o i f : EM) : OkX (eGet2 o i f en st) P E = OkX (o en st) (fun d st1 => if isTyD "dict" d st1 = true then OkX (i en st1) (fun k st2 => OkX (f en st2) (fun z st3 => match d with
    | .loc l => match dkAt st3 l, keyOf k with
      | some kvs, some kk => P ((lookK kvs kk).getD z) st3
      | _, _ => False
    | _ => False) E) E else False) E := by
  unfold eGet2
  rw [k_bnd]
  congr 1
  funext d st1
  rw [k_bnd]
  show OkX (if isTyD "dict" d st1 = true then R.ok () st1 else R.bad) _ E = _
  rw [k_ite']
  split
  · rw [k_ok, k_bnd]
    congr 1
    funext k st2
    rw [k_bnd]
    congr 1
    funext z st3
    cases d <;> try rfl
    rename_i l _
    dsimp only
    cases dkAt st3 l <;> cases keyOf k <;> rfl
  · rfl
theorem k_pnone {P : Option Int → Sto → Prop} : OkX (pOpt none en st) P E = P none st := rfl
theorem k_psome {P : Option Int → Sto → Prop} (m : EM) : OkX (pOpt (some m) en st) P E = OkX (m en st) (fun d st1 => match d with | .int i => P (some i) st1 | _ => False) E := by
  unfold pOpt
  dsimp only
  rw [k_bnd]
  congr 1
  funext d st1
  cases d <;> rfl
theorem k_sl {P : D → Sto → Prop} (a : EM) (lo hi : Option EM) : OkX (eSl a lo hi en st) P E = OkX (a en st) (fun d st1 => OkX (pOpt lo en st1) (fun l st2 => OkX (pOpt hi en st2) (fun h st3 => OkO (slD d l h st3) P) E) E) E := by
  unfold eSl
  rw [k_bnd]
  congr 1
  funext d st1
  rw [k_bnd]
  congr 1
  funext l st2
  rw [k_bnd]
  congr 1
  funext h st3
  rw [k_lft]
theorem k_pnil {P : List (D × D) → Sto → Prop} : OkX (evPairs [] en st) P E = P [] st := rfl
theorem k_pcons {P : List (D × D) → Sto → Prop} (a b : EM) (r : List (EM × EM)) : OkX (evPairs ((a, b) :: r) en st) P E = OkX (a en st) (fun x st1 => OkX (b en st1) (fun y st2 => OkX (evPairs r en st2) (fun ps st3 => P ((x, y) :: ps) st3) E) E) E := by
  rw [evPairs, k_bnd]
  congr 1
  funext x st1
  rw [k_bnd]
  congr 1
  funext y st2
  rw [k_bnd]
  rfl
theorem k_dic {P : D → Sto → Prop} (ps : List (EM × EM)) : OkX (eDic ps en st) P E = OkX (evPairs ps en (st ++ [.dic []])) (fun prs st' => ∃ kvs, asKeys prs = some kvs ∧ st'[st.length]? = some (.dic []) ∧ kvs.length ≤ 15 ∧ P (.loc st.length) (st'.set st.length (.dic (mergeD [] kvs)))) E := by
  unfold eDic
  cases evPairs ps en (st ++ [.dic []]) with
  | bad => rfl
  | exc c st' => rfl
  | ok prs st' =>
    dsimp only
    rw [k_ok]
    cases asKeys prs with
    | none => simp [OkX]
    | some kvs =>
      dsimp only
      split
      · rename_i h
        split
        · rename_i hl
          simp [OkX, h, hl]
        · rename_i hl
          simp [OkX, hl]
      · rename_i h
        simp only [OkX]
        refine propext ⟨fun z => z.elim, fun ⟨_, e, q, _⟩ => ?_⟩
        exact h q
/-! ### statements -/
theorem k_seq (a b : SM) : OkS (sSeq a b en st) p = OkS (a en st) { p with nx := fun en' st' => OkS (b en' st') p } := by
  unfold sSeq
  cases a en st <;> rfl
theorem k_nx : OkS (.nx en st) p = p.nx en st := rfl
theorem k_rt (d : D) : OkS (.rt d st) p = p.rt d st := rfl
theorem k_sbad : OkS .bad p = False := rfl
theorem k_snil : OkS (sNil en st) p = p.nx en st := rfl
theorem k_spass : OkS (sPass en st) p = p.nx en st := rfl
theorem k_sB (m : Ev → M α) (k : α → SM) : OkS (sB m k en st) p = OkX (m en st) (fun a st1 => OkS (k a en st1) p) (fun c st1 => p.ex c en st1) := by
  unfold sB
  cases m en st <;> rfl
theorem k_set (i : Nat) (m : EM) : OkS (sSet i m en st) p = OkX (m en st) (fun d st1 => p.nx (en.set i (some d)) st1) (fun c st1 => p.ex c en st1) := by
  unfold sSet
  rw [k_sB]
  rfl
theorem k_sret (m : EM) : OkS (sRet m en st) p = OkX (m en st) p.rt (fun c st1 => p.ex c en st1) := by
  unfold sRet
  rw [k_sB]
  rfl
theorem k_sretN : OkS (sRetN en st) p = p.rt .non st := rfl
theorem k_sexp (m : EM) : OkS (sExp m en st) p = OkX (m en st) (fun _ st1 => p.nx en st1) (fun c st1 => p.ex c en st1) := by
  unfold sExp
  rw [k_sB]
  rfl
theorem k_site {c : Prop} [Decidable c] (a b : SM) : OkS ((if c then a else b) en st) p = if c then OkS (a en st) p else OkS (b en st) p := by split <;> rfl
theorem k_sif (t : BM) (a b : SM) : OkS (sIf t a b en st) p = OkX (t en st) (fun c st1 => if c = true then OkS (a en st1) p else OkS (b en st1) p) (fun c st1 => p.ex c en st1) := by
  unfold sIf
  rw [k_sB]
  congr 1
  funext c st1
  rw [k_site]
theorem k_asg (m : EM) (t : D → Ev → Option Ev) : OkS (sAsg m t en st) p = OkX (m en st) (fun d st1 => match t d en with | some en' => p.nx en' st1 | none => False) (fun c st1 => p.ex c en st1) := by
  unfold sAsg
  rw [k_sB]
  congr 1
  funext d st1
  cases t d en <;> rfl
theorem k_par2 (i j : Nat) (as : AM) : OkS (sPar2 i j as en st) p = OkX (as en st) (fun ds st1 => match ds with | [d, d'] => p.nx ((en.set i (some d)).set j (some d')) st1 | _ => False) (fun c st1 => p.ex c en st1) := by
  unfold sPar2
  rw [k_sB]
  congr 1
  funext ds st1
  rcases ds with _ | ⟨a, _ | ⟨b, _ | ⟨c, r⟩⟩⟩ <;> rfl
theorem k_par3 (i j l : Nat) (as : AM) : OkS (sPar3 i j l as en st) p = OkX (as en st) (fun ds st1 => match ds with | [d, d', d''] => p.nx (((en.set i (some d)).set j (some d')).set l (some d'')) st1 | _ => False) (fun c st1 => p.ex c en st1) := by
  unfold sPar3
  rw [k_sB]
  congr 1
  funext ds st1
  rcases ds with _ | ⟨a, _ | ⟨b, _ | ⟨c, _ | ⟨d, r⟩⟩⟩⟩ <;> rfl
theorem k_aug (i : Nat) (g : O2) (m : EM) : OkS (sAug i g m en st) p = OkV en[i]? st (fun d0 st0 => OkX (m en st0) (fun d st1 => OkO (g d0 d st1) (fun r st2 => p.nx (en.set i (some r)) st2)) (fun c st1 => p.ex c en st1)) := by
  unfold sAug
  rw [k_sB, k_var]
  congr 1
  funext d0 st0
  rw [k_sB, k_bnd]
  congr 1
  funext d st1
  rw [k_lft]
  rfl
theorem k_put (mv mo mi : EM) : OkS (sPut mv mo mi en st) p = OkX (mv en st) (fun v st1 => OkX (mo en st1) (fun o st2 => OkX (mi en st2) (fun i st3 => match setO o i v st3 with | some st4 => p.nx en st4 | none => False) (fun c st1 => p.ex c en st1)) (fun c st1 => p.ex c en st1)) (fun c st1 => p.ex c en st1) := by
  unfold sPut
  rw [k_sB, k_bnd]
  congr 1
  funext v st1
  rw [k_bnd]
  congr 1
  funext o st2
  rw [k_bnd]
  congr 1
  funext i st3
  show OkX (match setO o i v st3 with | some st' => R.ok () st' | none => R.bad) _ _ = _
  cases setO o i v st3 <;> rfl
theorem k_raise (c : Str) : OkS (sRaise c en st) p = p.ex c en st := rfl
theorem k_run (n : Nat) (b : SM) (ds : List D) {P : D → Sto → Prop} : OkX (runDef n b ds st) P E = OkS (b (startD n ds) st) ⟨fun _ st' => P .non st', P, fun _ _ => False, fun _ _ => False, fun c _ st' => E c st'⟩ := by
  unfold runDef
  cases b (startD n ds) st <;> rfl
theorem OkS.imp {r : SR} {p q : Po} (h : OkS r p) (h1 : ∀ en st, p.nx en st → q.nx en st) (h2 : ∀ d st, p.rt d st → q.rt d st) (h3 : ∀ en st, p.bk en st → q.bk en st) (h4 : ∀ en st, p.ct en st → q.ct en st) (h5 : ∀ c en st, p.ex c en st → q.ex c en st) : OkS r q := by
  cases r with
  | nx _ _ => exact h1 _ _ h
  | rt _ _ => exact h2 _ _ h
  | bk _ _ => exact h3 _ _ h
  | ct _ _ => exact h4 _ _ h
  | exc _ _ _ => exact h5 _ _ _ h
  | bad => exact h
/-! ### loops -/
theorem k_seqI {P : Nat × Src → Sto → Prop} (m : EM) : OkX (iSeq m en st) P E = OkX (m en st) (fun d st1 => match d with
    | .tup ds => P (ds.length, srcIts ds) st1
    | .str s => P (s.length, srcIts (signsD s)) st1
    | .loc l => (match lstAt st1 l with | some ds => P (ds.length, srcAt l) st1 | none => False)
    | _ => False) E := by
  unfold iSeq
  rw [k_bnd]
  congr 1
  funext d st1
  cases d <;> try rfl
  rename_i l
  dsimp only
  cases lstAt st1 l <;> rfl
theorem k_range1 {P : Nat × Src → Sto → Prop} (as : AM) : OkX (iRange1 as en st) P E = OkX (as en st) (fun ds st1 => match ds with
    | [.int j] => if -(2 ^ 62) ≤ j ∧ j < 2 ^ 62 then P (j.toNat, srcIts ((List.range j.toNat).map fun (k : Nat) => D.int (k : Int))) st1 else False
    | _ => False) E := by
  unfold iRange1
  rw [k_bnd]
  congr 1
  funext ds st1
  rcases ds with _ | ⟨a, _ | ⟨b, r⟩⟩
  · rfl
  · cases a <;> try rfl
    dsimp only
    rw [k_ite']
    rfl
  · cases a <;> rfl
theorem k_forI (m : Ev → M (Nat × Src)) (tg : D → Ev → Option Ev) (b : SM) : OkS (sForI m tg b en st) p = OkX (m en st) (fun q st1 => OkS (sFor b tg q.2 q.1 0 en st1) p) (fun c st1 => p.ex c en st1) := by
  unfold sForI
  rw [k_sB]
/-- a loop over items that stand fast, by what holds ahead of each turn -/
theorem for_its {b : SM} {tg : D → Ev → Option Ev} {ds : List D} (I : Nat → Ev → Sto → Prop) (h0 : I 0 en st)
    (hs : ∀ i d en st, ds[i]? = some d → I i en st → ∃ en1, tg d en = some en1 ∧ OkS (b en1 st) { p with nx := I (i + 1), ct := I (i + 1), bk := p.nx })
    (hd : ∀ en st, I ds.length en st → p.nx en st) : OkS (sFor b tg (srcIts ds) ds.length 0 en st) p := by
  have gen : ∀ (n i : Nat) (en : Ev) (st : Sto), n + i = ds.length → I i en st → OkS (sFor b tg (srcIts ds) n i en st) p := by
    intro n
    induction n with
    | zero =>
      intro i en st e hI
      have e' : ds[i]? = none := List.getElem?_eq_none_iff.mpr (by omega)
      unfold sFor srcIts
      rw [e']
      have : i = ds.length := by omega
      subst this
      exact hd en st hI
    | succ n ih =>
      intro i en st e hI
      have hi : i < ds.length := by omega
      have e' : ds[i]? = some ds[i] := List.getElem?_eq_getElem hi
      obtain ⟨en1, e1, h1⟩ := hs i _ en st e' hI
      unfold sFor srcIts
      rw [e']
      dsimp only
      rw [e1]
      dsimp only
      cases q : b en1 st with
      | nx en2 st2 => rw [q] at h1; exact ih (i + 1) en2 st2 (by omega) h1
      | ct en2 st2 => rw [q] at h1; exact ih (i + 1) en2 st2 (by omega) h1
      | bk en2 st2 => rw [q] at h1; exact h1
      | rt d st2 => rw [q] at h1; exact h1
      | exc c en2 st2 => rw [q] at h1; exact h1
      | bad => rw [q] at h1; exact h1
  exact gen ds.length 0 en st rfl h0
/-! ### comprehensions -/
theorem k_lc {P : D → Sto → Prop} (m : Ev → M (Nat × Src)) (tg : D → Ev → Option Ev) (cond : BM) (el : EM) (vs : List Nat) :
    OkX (eLc m tg cond el vs en st) P E = OkX (m en st) (fun q st1 => Ok (lcLoop cond el tg q.2 st1.length (wipeD en vs) q.1 0 (st1 ++ [.lst []])) (fun _ st2 => P (.loc st1.length) st2)) E := by
  unfold eLc
  rw [k_bnd]
  congr 1
  funext q st1
  show OkX (match lcLoop cond el tg q.2 st1.length (wipeD en vs) q.1 0 (st1 ++ [.lst []]) with | .ok _ st' => R.ok (D.loc st1.length) st' | _ => R.bad) P E = _
  cases lcLoop cond el tg q.2 st1.length (wipeD en vs) q.1 0 (st1 ++ [.lst []]) <;> rfl
/-- one turn of a comprehension -/
def LcStep (cond : BM) (el : EM) (tg : D → Ev → Option Ev) (L : Nat) (enw : Ev) (d : D) (st : Sto) (N : Sto → Prop) : Prop :=
  ∃ en1, tg d enw = some en1 ∧ Ok (cond en1 st) fun c st1 => if c = true then Ok (el en1 st1) (fun y st2 => ∃ acc, st2[L]? = some (.lst acc) ∧ acc.length < sizeLine ∧ N (st2.set L (.lst (acc ++ [y])))) else N st1
theorem lc_turn {cond : BM} {el : EM} {tg : D → Ev → Option Ev} {src : Src} {L : Nat} {enw : Ev} {n i : Nat} {d : D} {Q : Sto → Prop} (e : src st i = some (some d)) (h : LcStep cond el tg L enw d st fun st' => Ok (lcLoop cond el tg src L enw n (i + 1) st') fun _ => Q) :
    Ok (lcLoop cond el tg src L enw (n + 1) i st) fun _ => Q := by
  obtain ⟨en1, e1, h⟩ := h
  unfold lcLoop
  rw [e]
  dsimp only
  rw [e1]
  dsimp only
  obtain ⟨c, st1, e2, h⟩ := Ok.out h
  rw [e2]
  dsimp only
  by_cases hc : c = true
  · rw [if_pos hc] at h ⊢
    obtain ⟨y, st2, e3, acc, e4, hl, h⟩ := Ok.out h
    rw [e3]
    dsimp only
    rw [e4]
    dsimp only
    rw [if_pos hl]
    exact h
  · rw [if_neg hc] at h ⊢
    exact h
theorem lc_its {cond : BM} {el : EM} {tg : D → Ev → Option Ev} {L : Nat} {enw : Ev} {ds : List D} (I : Nat → Sto → Prop) (h0 : I 0 st)
    (hs : ∀ i d st, ds[i]? = some d → I i st → LcStep cond el tg L enw d st (I (i + 1))) : Ok (lcLoop cond el tg (srcIts ds) L enw ds.length 0 st) fun _ => I ds.length := by
  have gen : ∀ (n i : Nat) (st : Sto), n + i = ds.length → I i st → Ok (lcLoop cond el tg (srcIts ds) L enw n i st) fun _ => I ds.length := by
    intro n
    induction n with
    | zero =>
      intro i st e hI
      have e' : ds[i]? = none := List.getElem?_eq_none_iff.mpr (by omega)
      have e2 : i = ds.length := by omega
      unfold lcLoop srcIts
      rw [e']
      rw [← e2]
      exact hI
    | succ n ih =>
      intro i st e hI
      have hi : i < ds.length := by omega
      have e' : ds[i]? = some ds[i] := List.getElem?_eq_getElem hi
      refine lc_turn (d := ds[i]) (by unfold srcIts; rw [e']) ?_
      obtain ⟨en1, e1, h1⟩ := hs i _ st e' hI
      refine ⟨en1, e1, h1.imp fun c st1 h => ?_⟩
      by_cases hc : c = true
      · rw [if_pos hc] at h ⊢
        exact Ok.imp h fun y st2 ⟨acc, e4, hl, h⟩ => ⟨acc, e4, hl, ih (i + 1) _ (by omega) h⟩
      · rw [if_neg hc] at h ⊢
        exact ih (i + 1) _ (by omega) h
  exact gen ds.length 0 st rfl h0
theorem lc_at {cond : BM} {el : EM} {tg : D → Ev → Option Ev} {L l : Nat} {enw : Ev} {ds : List D} (I : Nat → Sto → Prop) (h0 : I 0 st) (hl : ∀ i st, I i st → lstAt st l = some ds)
    (hs : ∀ i d st, ds[i]? = some d → I i st → LcStep cond el tg L enw d st (I (i + 1))) : Ok (lcLoop cond el tg (srcAt l) L enw ds.length 0 st) fun _ => I ds.length := by
  have gen : ∀ (n i : Nat) (st : Sto), n + i = ds.length → I i st → Ok (lcLoop cond el tg (srcAt l) L enw n i st) fun _ => I ds.length := by
    intro n
    induction n with
    | zero =>
      intro i st e hI
      have e' : ds[i]? = none := List.getElem?_eq_none_iff.mpr (by omega)
      have e2 : i = ds.length := by omega
      unfold lcLoop srcAt
      rw [hl i st hI]
      dsimp only
      rw [e']
      rw [← e2]
      exact hI
    | succ n ih =>
      intro i st e hI
      have hi : i < ds.length := by omega
      have e' : ds[i]? = some ds[i] := List.getElem?_eq_getElem hi
      refine lc_turn (d := ds[i]) (by unfold srcAt; rw [hl i st hI]; dsimp only; rw [e']) ?_
      obtain ⟨en1, e1, h1⟩ := hs i _ st e' hI
      refine ⟨en1, e1, h1.imp fun c st1 h => ?_⟩
      by_cases hc : c = true
      · rw [if_pos hc] at h ⊢
        exact Ok.imp h fun y st2 ⟨acc, e4, hl, h⟩ => ⟨acc, e4, hl, ih (i + 1) _ (by omega) h⟩
      · rw [if_neg hc] at h ⊢
        exact ih (i + 1) _ (by omega) h
  exact gen ds.length 0 st rfl h0
end
/-- a comprehension whose test and element only look: filter and map -/
theorem lc_pure {cond : BM} {el : EM} {tg : D → Ev → Option Ev} {enw : Ev} {ds : List D} {st0 : Sto} (f : D → D) (q : D → Bool) (hz : ds.length < sizeLine)
    (h : ∀ d ∈ ds, ∃ en1, tg d enw = some en1 ∧ ∀ acc, cond en1 (st0 ++ [.lst acc]) = .ok (q d) (st0 ++ [.lst acc]) ∧ (q d = true → el en1 (st0 ++ [.lst acc]) = .ok (f d) (st0 ++ [.lst acc]))) :
    Ok (lcLoop cond el tg (srcIts ds) st0.length enw ds.length 0 (st0 ++ [.lst []])) fun _ st' => st' = st0 ++ [.lst ((ds.filter q).map f)] := by
  have key : ∀ (acc : List D), (st0 ++ [O.lst acc])[st0.length]? = some (.lst acc) := fun acc => by
    rw [List.getElem?_append_right (Nat.le_refl _), Nat.sub_self]
    rfl
  have keyS : ∀ (acc bcc : List D), (st0 ++ [O.lst acc]).set st0.length (.lst bcc) = st0 ++ [.lst bcc] := fun acc bcc => by
    rw [List.set_append_right _ _ (Nat.le_refl _), Nat.sub_self]
    rfl
  have key2 : ds.take ds.length = ds := List.take_length
  have := lc_its (st := st0 ++ [.lst []]) (cond := cond) (el := el) (tg := tg) (L := st0.length) (enw := enw) (ds := ds) (fun i st' => st' = st0 ++ [.lst (((ds.take i).filter q).map f)]) (by simp) (fun i d st' e hI => by
    subst hI
    obtain ⟨en1, e1, h1⟩ := h d (List.mem_of_getElem? e)
    have hi : i < ds.length := (List.getElem?_eq_some_iff.mp e).1
    obtain ⟨h2, h3⟩ := h1 (((ds.take i).filter q).map f)
    refine ⟨en1, e1, OkX.of_eq h2 ?_⟩
    have e2 : ds.take (i + 1) = ds.take i ++ [d] := by rw [List.take_add_one, e]; rfl
    by_cases hc : q d = true
    · rw [if_pos hc]
      refine OkX.of_eq (h3 hc) ⟨_, key _, ?_, ?_⟩
      · rw [List.length_map]
        have := List.length_filter_le q (ds.take i)
        rw [List.length_take] at this
        omega
      · rw [keyS, e2, List.filter_append, List.map_append]
        simp [hc]
    · rw [if_neg hc, e2, List.filter_append, List.map_append]
      simp [hc])
  refine Ok.imp this fun _ st' e => ?_
  rw [key2] at e
  exact e
theorem st_2_1 (a0 : D) : startD 2 [a0] = [some a0, none] := rfl
theorem st_2_2 (a0 a1 : D) : startD 2 [a0, a1] = [some a0, some a1] := rfl
theorem st_3_1 (a0 : D) : startD 3 [a0] = [some a0, none, none] := rfl
theorem st_6_2 (a0 a1 : D) : startD 6 [a0, a1] = [some a0, some a1, none, none, none, none] := rfl
theorem st_7_3 (a0 a1 a2 : D) : startD 7 [a0, a1, a2] = [some a0, some a1, some a2, none, none, none, none] := rfl
theorem st_9_1 (a0 : D) : startD 9 [a0] = [some a0, none, none, none, none, none, none, none, none] := rfl
theorem st_10_3 (a0 a1 a2 : D) : startD 10 [a0, a1, a2] = [some a0, some a1, some a2, none, none, none, none, none, none, none] := rfl
theorem st_11_2 (a0 a1 : D) : startD 11 [a0, a1] = [some a0, some a1, none, none, none, none, none, none, none, none, none] := rfl
end Sh

set_option maxHeartbeats 1000000
/-! ShP: the laws' common prelude: what is drawn. -/
namespace Sh
open PySem PySem.Spec PyProof.Rows L2

local macro_rules | `(tactic| walk_at "go") => `(tactic| simp only [k_bnd, k_ret, k_ok, k_bad, k_badM, k_exc, k_lft, k_ite, k_ite', o_some, o_none, o_ite, v_some, k_var, k_c, k_op, k_call, k_call0, k_cb, k_nil, k_cons, k_tup, k_lst, k_bOf, k_bAnd, k_bOr, k_bNot, k_and, k_or, k_not, k_if, k_chain, k_inC, k_neg, k_bm, k_get2, k_pnone, k_psome, k_sl, k_pnil, k_pcons, k_dic, k_seq, k_nx, k_rt, k_sbad, k_snil, k_spass, k_set, k_sret, k_sretN, k_sexp, k_sif, k_asg, k_par2, k_par3, k_aug, k_put, k_seqI, k_range1, k_forI, k_lc, List.getElem?_cons_zero, List.getElem?_cons_succ, List.set_cons_zero, List.set_cons_succ, List.length_cons, List.length_nil, if_true, if_false, Bool.not_true, Bool.not_false, Bool.false_eq_true, ite_true, ite_false, reduceIte, Nat.reduceAdd, Nat.zero_add])

def stK (g c : Nat) (r t m : Int) : List (Key × D) := [(.inr "great", .loc g), (.inr "rest", .int r), (.inr "cells", .loc c), (.inr "turn", .int t), (.inr "more", .int m)]
theorem e_gr : ¬ (("great" : Str) = "rest") := by decide +kernel
theorem e_gc : ¬ (("great" : Str) = "cells") := by decide +kernel
theorem e_gt : ¬ (("great" : Str) = "turn") := by decide +kernel
theorem e_rc : ¬ (("rest" : Str) = "cells") := by decide +kernel
theorem e_rt : ¬ (("rest" : Str) = "turn") := by decide +kernel
theorem e_ct : ¬ (("cells" : Str) = "turn") := by decide +kernel
section
variable {g c : Nat} {r t m : Int}
end
theorem ix_dic {s : Nat} {st : Sto} {kvs : List (Key × D)} {k : Str} {d : D} (h : st[s]? = some (.dic kvs)) (e : lookK kvs (.inr k) = some d) : oIx (.loc s) (.str k) st = some (d, st) := by
  have h1 : lstAt st s = none := by unfold lstAt; rw [h]
  have h2 : dkAt st s = some kvs := by unfold dkAt; rw [h]
  have h3 : ixD (.loc s) (.str k) st = some d := by
    unfold ixD
    dsimp only
    rw [h1]
    dsimp only [keyOf]
    rw [h2]
    exact e
  unfold oIx
  rw [h3]
theorem set_dic {s : Nat} {st : Sto} {kvs kvs' : List (Key × D)} {k : Str} {d : D} (h : st[s]? = some (.dic kvs)) (hl : kvs.length < sizeLine) (e : putD kvs (.inr k) d = kvs') : setO (.loc s) (.str k) d st = some (st.set s (.dic kvs')) := by
  unfold setO
  dsimp only
  rw [h]
  dsimp only [keyOf]
  rw [if_pos hl, e]
/-! ### lists -/
theorem ix_lst {l : Nat} {st : Sto} {ds : List D} {i : Int} {d : D} (h : lstAt st l = some ds) (e : atI ds i = some d) : oIx (.loc l) (.int i) st = some (d, st) := by
  have h3 : ixD (.loc l) (.int i) st = some d := by
    unfold ixD
    dsimp only
    rw [h]
    exact e
  unfold oIx
  rw [h3]
theorem ix_tup {ds : List D} {st : Sto} {i : Int} {d : D} (e : atI ds i = some d) : oIx (.tup ds) (.int i) st = some (d, st) := by
  have h3 : ixD (.tup ds) (.int i) st = some d := e
  unfold oIx
  rw [h3]
theorem lst_at {l : Nat} {st : Sto} {ds : List D} (h : st[l]? = some (.lst ds)) : lstAt st l = some ds := by unfold lstAt; rw [h]
theorem rol_at {l : Nat} {st : Sto} {ds : List D} (h : st[l]? = some (.rol ds)) : lstAt st l = some ds := by unfold lstAt; rw [h]
theorem len_lst {l : Nat} {st : Sto} {ds : List D} (h : st[l]? = some (.lst ds)) : oLen [.loc l] st = some (.int ds.length, st) := by
  have : lenD (.loc l) st = some (ds.length : Int) := by unfold lenD; dsimp only; rw [h]
  unfold oLen
  dsimp only
  rw [this]
theorem len_rol {l : Nat} {st : Sto} {ds : List D} (h : st[l]? = some (.rol ds)) : oLen [.loc l] st = some (.int ds.length, st) := by
  have : lenD (.loc l) st = some (ds.length : Int) := by unfold lenD; dsimp only; rw [h]
  unfold oLen
  dsimp only
  rw [this]
/-- data of numbers alone as == sees them -/
theorem pyL_ints (res : Nat → Option PyData) : ∀ ns : List Int, toPyWL res (ns.map D.int) = some (ns.map PyData.int)
  | [] => by unfold toPyWL; rfl
  | n :: r => by
    unfold toPyWL
    rw [List.map_cons]
    dsimp only [toPyW]
    rw [pyL_ints res r]
    rfl
theorem py_loc {st : Sto} {l n : Nat} {ds : List D} {ps : List PyData} (h : lstAt st l = some ds) (e : ∀ res, toPyWL res ds = some ps) : toPy st (n + 1) (.loc l) = some (.list ps) := by
  unfold toPy toPyW
  rw [h]
  dsimp only
  rw [e]
  rfl
theorem lay_ints : ∀ ns : List Int, PyData.canLayAll0 (ns.map PyData.int) = true
  | [] => by simp [PyData.canLayAll0]
  | n :: r => by simp [PyData.canLayAll0, PyData.canLay0, lay_ints r]
def ascS (z : Str) : Prop := ∀ c ∈ z.cps.toList, c < 128
theorem asc_ok {z : Str} (h : ascS z) : PyData.strOk z = true := by
  unfold PyData.strOk
  rw [← Array.all_toList, List.all_eq_true]
  intro c hc
  have := h c hc
  exact decide_eq_true (by omega)
theorem dep_ints : ∀ ns : List Int, PyData.depthAll (ns.map PyData.int) = 0
  | [] => by simp [PyData.depthAll]
  | n :: r => by simp [PyData.depthAll, PyData.depth, dep_ints r]
theorem sh_ints (ns : List Int) : shX (.list (ns.map PyData.int)) = true := by
  unfold shX
  rw [Bool.and_eq_true]
  exact ⟨by rw [PyData.canLay0]; exact lay_ints ns, decide_eq_true (by rw [PyData.depth, dep_ints]; omega)⟩
theorem eq_nil : ∀ ps : List PyData, PyData.eqv (.list ps) (.list []) = ps.isEmpty
  | [] => by simp [PyData.eqv, PyData.eqvAll]
  | _ :: _ => by simp [PyData.eqv, PyData.eqvAll]
theorem ne_ints {st : Sto} {l k : Nat} {ns : List Int} (h : lstAt st l = some (ns.map D.int)) (h2 : lstAt st k = some []) : oNe (.loc l) (.loc k) st = some (.bl (!ns.isEmpty), st) := by
  have e1 : toPy st 2 (.loc l) = some (.list (ns.map PyData.int)) := py_loc h fun res => pyL_ints res ns
  have e2 : toPy st 2 (.loc k) = some (.list (([] : List Int).map PyData.int)) := py_loc (ds := ([] : List Int).map D.int) h2 fun res => pyL_ints res []
  have e3 : eqDat (.loc l) (.loc k) st = some ns.isEmpty := by
    unfold eqDat deepEq
    dsimp only
    rw [e1, e2]
    dsimp only
    rw [sh_ints, sh_ints, Bool.and_self, if_pos rfl]
    show some (PyData.eqv (.list (ns.map PyData.int)) (.list [])) = _
    rw [eq_nil]
    cases ns <;> rfl
  unfold oNe
  rw [e3]
/-! ### what is drawn from -/
structure Dr (s g c : Nat) (st : Sto) : Prop where
  sg : s ≠ g
  sc : s ≠ c
  gc : g ≠ c
  ex : ∃ (r t m : Int) (gs cs : List Int), st[s]? = some (.dic (stK g c r t m)) ∧ st[g]? = some (.lst (gs.map D.int)) ∧ st[c]? = some (.lst (cs.map D.int)) ∧ 0 ≤ m ∧ m < 2 ^ 60
/-- all but what is drawn from stands -/
structure Gr (s g : Nat) (st st' : Sto) : Prop where
  len : st.length ≤ st'.length
  keep : ∀ l o, l ≠ s → l ≠ g → st[l]? = some o → st'[l]? = some o
theorem Gr.refl {s g : Nat} {st : Sto} : Gr s g st st := ⟨Nat.le_refl _, fun _ _ _ _ h => h⟩
theorem Gr.trans {s g : Nat} {st st' st'' : Sto} (a : Gr s g st st') (b : Gr s g st' st'') : Gr s g st st'' := ⟨Nat.le_trans a.len b.len, fun l o h1 h2 e => b.keep l o h1 h2 (a.keep l o h1 h2 e)⟩
theorem app_get {st t : Sto} {l : Nat} {o : O} (h : st[l]? = some o) : (st ++ t)[l]? = some o := by
  rw [List.getElem?_append_left (List.getElem?_eq_some_iff.mp h).1]
  exact h
theorem Gr.app {s g : Nat} {st t : Sto} : Gr s g st (st ++ t) := ⟨by rw [List.length_append]; omega, fun _ _ _ _ h => app_get h⟩
theorem Gr.setS {s g : Nat} {st : Sto} {o : O} : Gr s g st (st.set s o) := ⟨by rw [List.length_set]; exact Nat.le_refl _, fun l u h1 _ e => by rw [List.getElem?_set_ne (Ne.symm h1)]; exact e⟩
theorem Gr.setG {s g : Nat} {st : Sto} {o : O} : Gr s g st (st.set g o) := ⟨by rw [List.length_set]; exact Nat.le_refl _, fun l u _ h1 e => by rw [List.getElem?_set_ne (Ne.symm h1)]; exact e⟩
theorem Dr.app {s g c : Nat} {st t : Sto} (h : Dr s g c st) : Dr s g c (st ++ t) := by
  obtain ⟨h1, h2, h3, r, t', m, gs, cs, e1, e2, e3, e4⟩ := h
  exact ⟨h1, h2, h3, r, t', m, gs, cs, app_get e1, app_get e2, app_get e3, e4⟩
theorem Dr.lt {s g c : Nat} {st : Sto} (h : Dr s g c st) : s < st.length ∧ g < st.length := by
  obtain ⟨h1, h2, h3, r, t', m, gs, cs, e1, e2, e3, e4⟩ := h
  exact ⟨(List.getElem?_eq_some_iff.mp e1).1, (List.getElem?_eq_some_iff.mp e2).1⟩
theorem cut_seq {a b : SM} {en : Ev} {st : Sto} {p : Po} (I : Ev → Sto → Prop) (h1 : OkS (a en st) { p with nx := I }) (h2 : ∀ en' st', I en' st' → OkS (b en' st') p) : OkS (sSeq a b en st) p := by
  rw [k_seq]
  exact OkS.imp h1 h2 (fun _ _ h => h) (fun _ _ h => h) (fun _ _ h => h) (fun _ _ _ h => h)
theorem sz {n : Nat} (h : n ≤ 100000) : n ≤ sizeLine := Nat.le_trans h (by decide)
theorem szl {n : Nat} (h : n < 100000) : n < sizeLine := Nat.lt_of_lt_of_le h (by decide)
section
variable {i j : Int} {st : Sto}
theorem add_i : oAdd (.int i) (.int j) st = some (.int (i + j), st) := rfl
theorem mul_l (h : -(2 ^ 64) < i ∧ i < 2 ^ 64) : oMul (.int i) (.int j) st = some (.int (i * j), st) := by
  unfold oMul
  dsimp only
  exact if_pos (Or.inl h)
theorem mul_r (h : -(2 ^ 64) < j ∧ j < 2 ^ 64) : oMul (.int i) (.int j) st = some (.int (i * j), st) := by
  unfold oMul
  dsimp only
  exact if_pos (Or.inr h)
theorem mod_i (h : 0 < j) : oMod (.int i) (.int j) st = some (.int (i % j), st) := by
  unfold oMod
  dsimp only
  exact if_pos h
theorem div_i (h : 0 < j) (h1 : j < 1073741824) : oDiv (.int i) (.int j) st = some (.int (i / j), st) := by
  unfold oDiv
  dsimp only
  exact if_pos ⟨h, h1⟩
theorem eq_i : oEq (.int i) (.int j) st = some (.bl (decide (i = j)), st) := rfl
theorem eq_s {a b : Str} : oEq (.str a) (.str b) st = some (.bl (decide (a = b)), st) := rfl
theorem ne_i : oNe (.int i) (.int j) st = some (.bl (!decide (i = j)), st) := rfl
theorem ne_s {a b : Str} : oNe (.str a) (.str b) st = some (.bl (!decide (a = b)), st) := rfl
theorem ne_b {a b : Bool} : oNe (.bl a) (.bl b) st = some (.bl (!decide (a = b)), st) := rfl
theorem lt_i : oLt (.int i) (.int j) st = some (.bl (decide (i < j)), st) := rfl
theorem le_i : oLe (.int i) (.int j) st = some (.bl (decide (i ≤ j)), st) := rfl
theorem gt_i : oGt (.int i) (.int j) st = some (.bl (decide (j < i)), st) := rfl
theorem ge_i : oGe (.int i) (.int j) st = some (.bl (decide (j ≤ i)), st) := rfl
end
theorem at_nat {α : Type} {xs : List α} {i : Int} (h0 : 0 ≤ i) (h1 : i < xs.length) : atI xs i = xs[i.toNat]? := by
  unfold atI ixN
  rw [if_pos h0, if_pos h1]
  rfl
theorem lc_pureAt {cond : BM} {el : EM} {tg : D → Ev → Option Ev} {enw : Ev} {l : Nat} {ds : List D} {st0 : Sto} (f : D → D) (q : D → Bool) (hz : ds.length < sizeLine) (hl : lstAt st0 l = some ds)
    (h : ∀ d ∈ ds, ∃ en1, tg d enw = some en1 ∧ ∀ acc, cond en1 (st0 ++ [.lst acc]) = .ok (q d) (st0 ++ [.lst acc]) ∧ (q d = true → el en1 (st0 ++ [.lst acc]) = .ok (f d) (st0 ++ [.lst acc]))) :
    Ok (lcLoop cond el tg (srcAt l) st0.length enw ds.length 0 (st0 ++ [.lst []])) fun _ st' => st' = st0 ++ [.lst ((ds.filter q).map f)] := by
  have key : ∀ (acc : List D), (st0 ++ [O.lst acc])[st0.length]? = some (.lst acc) := fun acc => by
    rw [List.getElem?_append_right (Nat.le_refl _), Nat.sub_self]
    rfl
  have keyS : ∀ (acc bcc : List D), (st0 ++ [O.lst acc]).set st0.length (.lst bcc) = st0 ++ [.lst bcc] := fun acc bcc => by
    rw [List.set_append_right _ _ (Nat.le_refl _), Nat.sub_self]
    rfl
  have key2 : ds.take ds.length = ds := List.take_length
  have hlt : l < st0.length := by
    unfold lstAt at hl
    cases e : st0[l]? with
    | none => rw [e] at hl; cases hl
    | some o => exact (List.getElem?_eq_some_iff.mp e).1
  have hl2 : ∀ acc, lstAt (st0 ++ [O.lst acc]) l = some ds := fun acc => by
    unfold lstAt at hl ⊢
    rw [List.getElem?_append_left hlt]
    exact hl
  have := lc_at (st := st0 ++ [.lst []]) (cond := cond) (el := el) (tg := tg) (L := st0.length) (l := l) (enw := enw) (ds := ds) (fun i st' => st' = st0 ++ [.lst (((ds.take i).filter q).map f)]) (by simp) (fun i st' e => by subst e; exact hl2 _) (fun i d st' e hI => by
    subst hI
    obtain ⟨en1, e1, h1⟩ := h d (List.mem_of_getElem? e)
    have hi : i < ds.length := (List.getElem?_eq_some_iff.mp e).1
    obtain ⟨h2, h3⟩ := h1 (((ds.take i).filter q).map f)
    refine ⟨en1, e1, OkX.of_eq h2 ?_⟩
    have e2 : ds.take (i + 1) = ds.take i ++ [d] := by rw [List.take_add_one, e]; rfl
    by_cases hc : q d = true
    · rw [if_pos hc]
      refine OkX.of_eq (h3 hc) ⟨_, key _, ?_, ?_⟩
      · rw [List.length_map]
        have := List.length_filter_le q (ds.take i)
        rw [List.length_take] at this
        omega
      · rw [keyS, e2, List.filter_append, List.map_append]
        simp [hc]
    · rw [if_neg hc, e2, List.filter_append, List.map_append]
      simp [hc])
  refine Ok.imp this fun _ st' e => ?_
  rw [key2] at e
  exact e
theorem lift_len {st : Sto} {l : Nat} {o : O} (h : st[l]? = some o) : l < st.length := (List.getElem?_eq_some_iff.mp h).1
def oneS (c : Nat) : Str := ⟨#[c]⟩
theorem ix_str {z : Str} {st : Sto} {i : Int} {c : Nat} (hz : z.length ≤ sizeLine) (e : atI z.cps.toList i = some c) : oIx (.str z) (.int i) st = some (.str (oneS c), st) := by
  have h3 : ixD (.str z) (.int i) st = some (.str (oneS c)) := by
    unfold ixD
    dsimp only
    rw [if_pos hz, e]
    rfl
  unfold oIx
  rw [h3]
theorem in_strs {st : Sto} {l : Nat} {ws : List Str} {z : Str} (h : lstAt st l = some (ws.map D.str)) : isIn (.str z) (.loc l) st = some (decide (z ∈ ws)) := by
  unfold isIn
  dsimp only
  rw [h]
  dsimp only
  rw [if_pos, inC_str]
  rw [Bool.and_eq_true]
  refine ⟨rfl, List.all_eq_true.mpr fun d hd => ?_⟩
  obtain ⟨w, _, rfl⟩ := List.mem_map.mp hd
  rfl
theorem add_s {a b : Str} {st : Sto} (h : a.length + b.length ≤ 100000) : oAdd (.str a) (.str b) st = some (.str (a ++ b), st) := by
  unfold oAdd
  dsimp only
  exact if_pos (sz h)
theorem len_app (a b : Str) : (a ++ b).length = a.length + b.length := by
  show (a.cps ++ b.cps).size = _
  exact Array.size_append
theorem len_one (c : Nat) : (oneS c).length = 1 := rfl
theorem len_toL (z : Str) : z.cps.toList.length = z.length := Array.length_toList ..
theorem sl_txt {z : Str} {lo hi : Option Int} {st : Sto} (h : z.length ≤ 100000) : slD (.str z) lo hi st = some (.str (cutS z lo hi), st) := if_pos (sz h)
theorem asc_app {a b : Str} (h : ascS a) (h' : ascS b) : ascS (a ++ b) := by
  intro c hc
  have e : (a ++ b).cps.toList = a.cps.toList ++ b.cps.toList := Array.toList_append ..
  rw [e, List.mem_append] at hc
  rcases hc with hc | hc
  · exact h c hc
  · exact h' c hc
/-- a text of the program as ascS -/
theorem asc_of {z : Str} (h : z.cps.toList.all (fun c => decide (c < 128)) = true) : ascS z := fun c hc => of_decide_eq_true (List.all_eq_true.mp h c hc)
theorem Dr.setO {s g c l : Nat} {st : Sto} {o : O} (h : Dr s g c st) (n1 : l ≠ s) (n2 : l ≠ g) (n3 : l ≠ c) : Dr s g c (st.set l o) := by
  obtain ⟨h1, h2, h3, r, t', m, gs, cs, e1, e2, e3, e4⟩ := h
  exact ⟨h1, h2, h3, r, t', m, gs, cs, by rw [List.getElem?_set_ne n1]; exact e1, by rw [List.getElem?_set_ne n2]; exact e2, by rw [List.getElem?_set_ne n3]; exact e3, e4⟩
theorem Gr.setN {s g l : Nat} {st st1 : Sto} {o : O} (h : Gr s g st st1) (n : st.length ≤ l) : Gr s g st (st1.set l o) :=
  ⟨by rw [List.length_set]; exact h.len, fun i u h1 h2 e => by
    have : i < st.length := (List.getElem?_eq_some_iff.mp e).1
    rw [List.getElem?_set_ne (by omega)]
    exact h.keep i u h1 h2 e⟩
end Sh

set_option maxHeartbeats 1000000
/-! ShQ: == and in of plain data without truths. -/
namespace Sh
open PySem PySem.Spec PyProof.Rows L2
noncomputable instance : DecidableEq D := fun a b => Classical.propDecidable (a = b)

mutual
/-- numbers, ASCII texts, None, tuples of such -/
def pureD : D → Bool
  | .non => true
  | .int _ => true
  | .str s => PyData.strOk s
  | .tup ds => pureL ds
  | .bl _ => false
  | .loc _ => false
  | .ty _ => false
def pureL : List D → Bool
  | [] => true
  | d :: ds => pureD d && pureL ds
end
mutual
def depD : D → Nat
  | .tup ds => depL ds + 1
  | .non => 0
  | .int _ => 0
  | .str _ => 0
  | .bl _ => 0
  | .loc _ => 0
  | .ty _ => 0
def depL : List D → Nat
  | [] => 0
  | d :: ds => max (depD d) (depL ds)
end
mutual
def toP : D → PyData
  | .non => .none
  | .int i => .int i
  | .str s => .str s
  | .tup ds => .tuple (toPL ds)
  | .bl b => .bool b
  | .loc _ => .none
  | .ty _ => .none
def toPL : List D → List PyData
  | [] => []
  | d :: ds => toP d :: toPL ds
end
mutual
theorem pure_py (res : Nat → Option PyData) : ∀ d : D, pureD d = true → toPyW res d = some (toP d)
  | .non, _ => by unfold toPyW toP; rfl
  | .int _, _ => by unfold toPyW toP; rfl
  | .str _, _ => by unfold toPyW toP; rfl
  | .tup ds, h => by
    unfold pureD at h
    unfold toPyW toP
    rw [pure_pyL res ds h]
    rfl
  | .bl _, h => by simp [pureD] at h
  | .loc _, h => by simp [pureD] at h
  | .ty _, h => by simp [pureD] at h
theorem pure_pyL (res : Nat → Option PyData) : ∀ ds : List D, pureL ds = true → toPyWL res ds = some (toPL ds)
  | [], _ => by unfold toPyWL toPL; rfl
  | d :: ds, h => by
    unfold pureL at h
    rw [Bool.and_eq_true] at h
    unfold toPyWL toPL
    rw [pure_py res d h.1, pure_pyL res ds h.2]
end
mutual
theorem pure_lay : ∀ d : D, pureD d = true → (toP d).canLay0 = true
  | .non, _ => by simp [toP, PyData.canLay0]
  | .int _, _ => by simp [toP, PyData.canLay0]
  | .str _, h => by simpa [toP, PyData.canLay0, pureD] using h
  | .tup ds, h => by
    unfold pureD at h
    simpa [toP, PyData.canLay0] using pure_layL ds h
  | .bl _, h => by simp [pureD] at h
  | .loc _, h => by simp [pureD] at h
  | .ty _, h => by simp [pureD] at h
theorem pure_layL : ∀ ds : List D, pureL ds = true → PyData.canLayAll0 (toPL ds) = true
  | [], _ => by simp [toPL, PyData.canLayAll0]
  | d :: ds, h => by
    unfold pureL at h
    rw [Bool.and_eq_true] at h
    simp [toPL, PyData.canLayAll0, pure_lay d h.1, pure_layL ds h.2]
end
mutual
theorem pure_dep : ∀ d : D, (toP d).depth = depD d
  | .non => by simp [toP, PyData.depth, depD]
  | .int _ => by simp [toP, PyData.depth, depD]
  | .str _ => by simp [toP, PyData.depth, depD]
  | .tup ds => by simp [toP, PyData.depth, depD, pure_depL ds]
  | .bl _ => by simp [toP, PyData.depth, depD]
  | .loc _ => by simp [toP, PyData.depth, depD]
  | .ty _ => by simp [toP, PyData.depth, depD]
theorem pure_depL : ∀ ds : List D, PyData.depthAll (toPL ds) = depL ds
  | [] => by simp [toPL, PyData.depthAll, depL]
  | d :: ds => by simp [toPL, PyData.depthAll, depL, pure_dep d, pure_depL ds]
end
mutual
theorem pure_eqv : ∀ d e : D, pureD d = true → pureD e = true → PyData.eqv (toP d) (toP e) = decide (d = e)
  | .non, .non, _, _ => by simp [toP, PyData.eqv]
  | .non, .int _, _, _ => by simp [toP, PyData.eqv]
  | .non, .str _, _, _ => by simp [toP, PyData.eqv]
  | .non, .tup _, _, _ => by simp [toP, PyData.eqv]
  | .int _, .non, _, _ => by simp [toP, PyData.eqv]
  | .int i, .int j, _, _ => by simp only [toP, PyData.eqv]; by_cases h : i = j <;> simp [h]
  | .int _, .str _, _, _ => by simp [toP, PyData.eqv]
  | .int _, .tup _, _, _ => by simp [toP, PyData.eqv]
  | .str _, .non, _, _ => by simp [toP, PyData.eqv]
  | .str _, .int _, _, _ => by simp [toP, PyData.eqv]
  | .str i, .str j, _, _ => by simp only [toP, PyData.eqv]; by_cases h : i = j <;> simp [h]
  | .str _, .tup _, _, _ => by simp [toP, PyData.eqv]
  | .tup _, .non, _, _ => by simp [toP, PyData.eqv]
  | .tup _, .int _, _, _ => by simp [toP, PyData.eqv]
  | .tup _, .str _, _, _ => by simp [toP, PyData.eqv]
  | .tup ds, .tup es, h, h' => by
    unfold pureD at h h'
    simp only [toP, PyData.eqv]
    rw [pure_eqvL ds es h h']
    by_cases q : ds = es <;> simp [q]
  | .bl _, _, h, _ => by simp [pureD] at h
  | .loc _, _, h, _ => by simp [pureD] at h
  | .ty _, _, h, _ => by simp [pureD] at h
  | .non, .bl _, _, h => by simp [pureD] at h
  | .non, .loc _, _, h => by simp [pureD] at h
  | .non, .ty _, _, h => by simp [pureD] at h
  | .int _, .bl _, _, h => by simp [pureD] at h
  | .int _, .loc _, _, h => by simp [pureD] at h
  | .int _, .ty _, _, h => by simp [pureD] at h
  | .str _, .bl _, _, h => by simp [pureD] at h
  | .str _, .loc _, _, h => by simp [pureD] at h
  | .str _, .ty _, _, h => by simp [pureD] at h
  | .tup _, .bl _, _, h => by simp [pureD] at h
  | .tup _, .loc _, _, h => by simp [pureD] at h
  | .tup _, .ty _, _, h => by simp [pureD] at h
theorem pure_eqvL : ∀ ds es : List D, pureL ds = true → pureL es = true → PyData.eqvAll (toPL ds) (toPL es) = decide (ds = es)
  | [], [], _, _ => by simp [toPL, PyData.eqvAll]
  | [], _ :: _, _, _ => by simp [toPL, PyData.eqvAll]
  | _ :: _, [], _, _ => by simp [toPL, PyData.eqvAll]
  | d :: ds, e :: es, h, h' => by
    unfold pureL at h h'
    rw [Bool.and_eq_true] at h h'
    simp only [toPL, PyData.eqvAll]
    rw [pure_eqv d e h.1 h'.1, pure_eqvL ds es h.2 h'.2]
    by_cases q : d = e <;> by_cases q2 : ds = es <;> simp [q, q2]
end
theorem depL_le {ds : List D} {n : Nat} : depL ds ≤ n ↔ ∀ d ∈ ds, depD d ≤ n := by
  induction ds with
  | nil => simp [depL]
  | cons d r ih => rw [depL, Nat.max_le, ih]; simp
/-- plain data that is not too deep -/
structure Pl (d : D) : Prop where
  pu : pureD d = true
  dp : depD d ≤ 180
structure PlL (ds : List D) : Prop where
  pu : pureL ds = true
  dp : depL ds ≤ 179
theorem pl_sh {d : D} (h : Pl d) : shX (toP d) = true := by
  unfold shX
  rw [Bool.and_eq_true]
  exact ⟨pure_lay d h.pu, decide_eq_true (by rw [pure_dep]; exact h.dp)⟩
theorem pl_py {d : D} (h : Pl d) (st : Sto) : ∀ n, toPy st n d = some (toP d)
  | 0 => by unfold toPy; exact pure_py _ d h.pu
  | _ + 1 => by unfold toPy; exact pure_py _ d h.pu
theorem deep_pl {d e : D} {st : Sto} (h : Pl d) (h' : Pl e) : deepEq d e st = some (decide (d = e)) := by
  unfold deepEq
  rw [pl_py h, pl_py h']
  dsimp only
  rw [pl_sh h, pl_sh h', Bool.and_self, if_pos rfl, pure_eqv d e h.pu h'.pu]
theorem eq_pl {d e : D} {st : Sto} (h : Pl d) (h' : Pl e) : eqDat d e st = some (decide (d = e)) := by
  unfold eqDat
  split
  · rename_i i j
    by_cases q : i = j <;> simp [q]
  · rename_i i j
    by_cases q : i = j <;> simp [q]
  · rename_i i j
    by_cases q : i = j <;> simp [q]
  · simp
  · exact deep_pl h h'
theorem oNe_pl {d e : D} {st : Sto} (h : Pl d) (h' : Pl e) : oNe d e st = some (.bl (!decide (d = e)), st) := by unfold oNe; rw [eq_pl h h']
theorem k_sortSet {P : D → Sto → Prop} {E : Str → Sto → Prop} {st : Sto} {en : Ev} (m : EM) : OkX (eSortSet m en st) P E = OkX (m en st) (fun d st1 => match itemsD d st1 with
    | some es => (match asStrs es with
      | some ss => if (uniq ss).length ≤ 4000 then P (.loc st1.length) (st1 ++ [.lst ((srtS (uniq ss)).map D.str)]) else False
      | none => False)
    | none => False) E := by
  unfold eSortSet
  rw [k_bnd]
  congr 1
  funext d st1
  show OkX (match itemsD d st1 with | some es => (match asStrs es with | some ss => if (uniq ss).length ≤ 4000 then R.ok (D.loc st1.length) (st1 ++ [.lst ((srtS (uniq ss)).map D.str)]) else .bad | none => R.bad) | none => R.bad) P E = _
  cases itemsD d st1 with
  | none => rfl
  | some es =>
    dsimp only
    cases asStrs es with
    | none => rfl
    | some ss =>
      dsimp only
      by_cases h : (uniq ss).length ≤ 4000
      · rw [if_pos h, if_pos h]; rfl
      · rw [if_neg h, if_neg h]; rfl
theorem k_range2 {P : Nat × Src → Sto → Prop} {E : Str → Sto → Prop} {st : Sto} {en : Ev} (as : AM) : OkX (iRange2 as en st) P E = OkX (as en st) (fun ds st1 => match ds with
    | [.int i, .int j] => if -(2 ^ 62) ≤ i ∧ i < 2 ^ 62 ∧ -(2 ^ 62) ≤ j ∧ j < 2 ^ 62 then P ((j - i).toNat, srcIts ((List.range (j - i).toNat).map fun (k : Nat) => D.int (i + (k : Int)))) st1 else False
    | _ => False) E := by
  unfold iRange2
  rw [k_bnd]
  congr 1
  funext ds st1
  rcases ds with _ | ⟨a, _ | ⟨b, _ | ⟨c, r⟩⟩⟩
  · rfl
  · cases a <;> rfl
  · cases a <;> cases b <;> try rfl
    dsimp only
    rw [k_ite']
    rfl
  · cases a <;> cases b <;> rfl
/-! words of the walk -/
theorem iadd_i {i j : Int} {st : Sto} : oIAddX (.int i) (.int j) st = some (.int (i + j), st) := rfl
theorem ix_0 {d : D} {ds : List D} {st : Sto} : oIx (.tup (d :: ds)) (.int 0) st = some (d, st) := ix_tup (by rw [at_nat (by omega) (by rw [List.length_cons]; omega)]; rfl)
theorem ix_1 {d e : D} {ds : List D} {st : Sto} : oIx (.tup (d :: e :: ds)) (.int 1) st = some (e, st) := ix_tup (by rw [at_nat (by omega) (by rw [List.length_cons, List.length_cons]; omega)]; rfl)
theorem ix_2 {d e f : D} {ds : List D} {st : Sto} : oIx (.tup (d :: e :: f :: ds)) (.int 2) st = some (f, st) := ix_tup (by rw [at_nat (by omega) (by rw [List.length_cons, List.length_cons, List.length_cons]; omega)]; rfl)
theorem sub_i {i j : Int} {st : Sto} : oSub (.int i) (.int j) st = some (.int (i - j), st) := rfl
theorem flat_str {s : Str} : flatD (.str s) = true := rfl
theorem flat_int {i : Int} : flatD (.int i) = true := rfl
theorem flat_non : flatD .non = true := rfl
theorem sz_0 : (0 ≤ sizeLine) = True := eq_true (by decide)
theorem sz_1 : (1 ≤ sizeLine) = True := eq_true (by decide)
theorem sz_2 : (2 ≤ sizeLine) = True := eq_true (by decide)
theorem sz_3 : (3 ≤ sizeLine) = True := eq_true (by decide)
theorem sz_4 : (4 ≤ sizeLine) = True := eq_true (by decide)
theorem sz_5 : (5 ≤ sizeLine) = True := eq_true (by decide)
theorem sz_6 : (6 ≤ sizeLine) = True := eq_true (by decide)
theorem sz_7 : (7 ≤ sizeLine) = True := eq_true (by decide)
theorem sz_8 : (8 ≤ sizeLine) = True := eq_true (by decide)
theorem sz_9 : (9 ≤ sizeLine) = True := eq_true (by decide)
theorem inC_strs {s : Str} {ws : List Str} : inD (.str s) (ws.map D.str) = decide (s ∈ ws) := inC_str s ws
/-- what stood stands; more may have come behind -/
structure Ext (st st' : Sto) : Prop where
  len : st.length ≤ st'.length
  keep : ∀ l, l < st.length → st'[l]? = st[l]?
theorem Ext.refl {st : Sto} : Ext st st := ⟨Nat.le_refl _, fun _ _ => rfl⟩
theorem Ext.trans {a b c : Sto} (h : Ext a b) (k : Ext b c) : Ext a c := ⟨Nat.le_trans h.len k.len, fun l hl => (k.keep l (Nat.lt_of_lt_of_le hl h.len)).trans (h.keep l hl)⟩
theorem Ext.app {st u : Sto} : Ext st (st ++ u) := ⟨by rw [List.length_append]; omega, fun l hl => List.getElem?_append_left hl⟩
theorem Ext.appR {st s u : Sto} (h : Ext st s) : Ext st (s ++ u) := h.trans Ext.app
theorem Ext.setR {st s : Sto} {l : Nat} {o : O} (h : Ext st s) (n : st.length ≤ l) : Ext st (s.set l o) := ⟨by rw [List.length_set]; exact h.len, fun j hj => by rw [List.getElem?_set_ne (by omega)]; exact h.keep j hj⟩
theorem Ext.get {st s : Sto} {l : Nat} {o : O} (h : Ext st s) (e : st[l]? = some o) : s[l]? = some o := (h.keep l (lift_len e)).trans e
theorem Ext.out {st s : Sto} (h : Ext st s) : ∃ u, s = st ++ u := ⟨s.drop st.length, by
  apply List.ext_getElem?
  intro i
  by_cases hi : i < st.length
  · rw [List.getElem?_append_left hi, h.keep i hi]
  · rw [List.getElem?_append_right (by omega), List.getElem?_drop]
    congr 1
    omega⟩
theorem Ext.of {st u : Sto} {s : Sto} (e : s = st ++ u) : Ext st s := e ▸ Ext.app
theorem Ext.gr {s g : Nat} {st st' : Sto} (h : Ext st st') : Gr s g st st' := ⟨h.len, fun l o _ _ e => h.get e⟩
theorem isTy_lst {st : Sto} {l : Nat} {ds : List D} (h : st[l]? = some (.lst ds)) : isTyD "list" (.loc l) st = true := by
  unfold isTyD
  dsimp only
  rw [h]
  rfl
theorem oNotIn_strs {st : Sto} {l : Nat} {ws : List Str} {z : Str} (h : lstAt st l = some (ws.map D.str)) : oNotIn (.str z) (.loc l) st = some (.bl (!decide (z ∈ ws)), st) := by
  unfold oNotIn
  rw [in_strs h]
theorem oIn_strs {st : Sto} {l : Nat} {ws : List Str} {z : Str} (h : lstAt st l = some (ws.map D.str)) : oIn (.str z) (.loc l) st = some (.bl (decide (z ∈ ws)), st) := by
  unfold oIn
  rw [in_strs h]
theorem for_rng {b : SM} {tg : D → Ev → Option Ev} {n : Nat} {en : Ev} {st : Sto} {p : Po} (I : Nat → Ev → Sto → Prop) (h0 : I 0 en st)
    (hs : ∀ (i : Nat) en st, i < n → I i en st → ∃ en1, tg (.int (i : Int)) en = some en1 ∧ OkS (b en1 st) { p with nx := I (i + 1), ct := I (i + 1), bk := p.nx })
    (hd : ∀ en st, I n en st → p.nx en st) : OkS (sFor b tg (srcIts ((List.range n).map fun (k : Nat) => D.int (k : Int))) n 0 en st) p := by
  have hl : ((List.range n).map fun (k : Nat) => D.int (k : Int)).length = n := by rw [List.length_map, List.length_range]
  have := for_its (b := b) (tg := tg) (p := p) (ds := (List.range n).map fun (k : Nat) => D.int (k : Int)) I h0 (fun i d en st hd hI => by
    have hi : i < n := by
      have := (List.getElem?_eq_some_iff.mp hd).1
      rwa [hl] at this
    rw [List.getElem?_map, List.getElem?_range hi] at hd
    cases hd
    exact hs i en st hi hI) (fun en st h => hd en st (by rw [hl] at h; exact h))
  rw [hl] at this
  exact this
end Sh

set_option maxHeartbeats 1000000
/-! ShSd: lists of tuples sorted, the empty tuple among them. -/
namespace Sh
open PySem PySem.Spec PyProof.Rows L2 PySem.W PySem.SeqAt PySem.Calls
section
variable {prog : Program} {w : World} {A : Around} {E : Value → Shared → Prop} {s : Shared}
theorem call_tuple_lt {Q : Value → Shared → Prop} {l b : Addr} {items items2 : Array Value} {e r : Nat → Bool} (hl : s.heap.IsTuple l items) (hb : s.heap.IsTuple b items2)
    (he : ∀ j (h1 : j < items.size) (h2 : j < items2.size), EqAt A.in1 s items[j] items2[j] (e j)) (hr : ∀ j (h1 : j < items.size) (h2 : j < items2.size), e j = false → RcLt A.in1 s items[j] items2[j] (r j))
    (h : Q (.bool (firstLt e r (decide (items.size < items2.size)) (List.range (min items.size items2.size)))) s) : wpAny (model prog w) A (call (.builtin "tuple.__lt__") [.ref l, .ref b]) Q E s := by
  obtain ⟨⟨cls, dd, data, sl⟩, ho, hc, n, hd⟩ := id hl
  obtain ⟨⟨cls2, dd2, data2, sl2⟩, ho2, hc2, n2, hd2⟩ := id hb
  simp only at hc hd hc2 hd2
  subst hc hd hc2 hd2
  exact call_meets F.slot_tuple_lt ⟨_, ho, rfl⟩ F.entry_tuple_lt (F.args_tuple_lt_2 _ _) (tuple_ltAt l b items items2 n n2 dd dd2 sl sl2 e r) ⟨ho, ho2, he, hr, h⟩
theorem oneLt_tuples {xs ys : List PyData} {a b : Value} {as bs : List Addr} {Q : Bool → Shared → Prop} (ra : Reads s.heap a (.tuple xs) as) (rb : Reads s.heap b (.tuple ys) bs) (h : alike (.tuple xs) (.tuple ys) = true)
    (hu : A.units + min (PyData.tuple xs).depth (PyData.tuple ys).depth < cLine) (hq : Q (dataLt (.tuple xs) (.tuple ys)) s) : wpAny (model prog w) A (oneLt' true a b) Q E s := by
  have hal : alikeAll xs ys = true := by simpa [alike] using h
  cases ra with
  | @tuple l o vs n _ as₁ h1 h2 h3 h4 =>
    cases rb with
    | @tuple l' o' vs' n' _ bs₁ k1 k2 k3 k4 =>
      have n1 : vs.size = xs.length := by simpa using SeqAt.ReadsAll.length _ _ _ h4
      have n2 : vs'.size = ys.length := by simpa using SeqAt.ReadsAll.length _ _ _ k4
      rw [dataLt_tuple, ← firstLt_toks xs ys hal, ← n1, ← n2] at hq
      rw [oneLt'_eq]
      simp only [if_true]
      refine wpAny_bind (wpAny_cRoomFor (room_here hu) ?_)
      refine wpAny_bind (wpAny_callSpecialIfBound?_slot (T := "tuple") ⟨_, h1, h2⟩ F.slot_tuple_lt (call_tuple_lt (e := pairEq xs ys) (r := fun j => dataLt (xs.getD j .none) (ys.getD j .none)) ⟨_, h1, h2, _, h3⟩ ⟨_, k1, k2, _, k3⟩ (fun j j1 j2 => ?_) (fun j j1 j2 hj => ?_) ?_))
      · have := eqAt_alikeAll xs ys A.in1 s vs.toList vs'.toList _ _ h4 k4 hal (room_in hu) j (by simpa using j1) (by simpa using j2)
        simpa using this
      · have := rcLt_alikeAll xs ys A.in1 s vs.toList vs'.toList _ _ h4 k4 hal (room_in hu) j (by simpa using j1) (by simpa using j2) hj
        simpa using this
      · exact wpAny_truthy_bool hq
theorem firsts_any {M : Model} : ∀ (vs : List Value) (ds : List PyData) {Q : List (Option Value) → Shared → Prop}, EachIs (fun v d => ∃ as, Reads s.heap v d as) vs ds → (∀ d ∈ ds, ∃ xs, d = .tuple xs) →
    (∀ fs, EachIs (fun (f : Option Value) d => f.isSome = true ↔ d ≠ .tuple []) fs ds → Q fs s) → wpAny M A (vs.mapM firstOfTuple') Q E s
  | [], _, _, .nil, _, h => by rw [List.mapM_nil]; exact wpAny_pure (h [] .nil)
  | v :: vs, d :: ds, Q, .cons ⟨as, r⟩ t, ht, h => by
    obtain ⟨xs, rfl⟩ := ht d List.mem_cons_self
    cases r with
    | @tuple a o its n _ _ ho hc hd hr =>
      rw [List.mapM_cons]
      refine wpAny_bind ?_
      rw [kas_first_eq]
      refine wpAny_bind (Looks.here (show Looks M s.heap (typeOf (.ref a)) o.cls from (Looks.ld ho).andThen .now) ?_)
      rw [hc, if_neg (by first | decide | simp)]
      refine wpAny_bind (listItems_at ho hd (wpAny_pure ?_))
      refine wpAny_bind (firsts_any vs ds (Q := fun bs s' => wpAny M A (pure (its[0]? :: bs)) Q E s') t (fun d hd => ht d (List.mem_cons_of_mem _ hd)) fun fs hf => wpAny_pure (h _ (.cons ?_ hf)))
      cases q : its.toList with
      | nil =>
        rw [q] at hr
        cases hr
        have : its[0]? = none := by rw [← Array.getElem?_toList, q]; rfl
        rw [this]
        simp
      | cons f fr =>
        rw [q] at hr
        cases hr with
        | cons r1 r2 =>
          have : its[0]? = some f := by rw [← Array.getElem?_toList, q]; rfl
          rw [this]
          simp
/-- tuples that read as alike data can be sorted, the empty one among them or not -/
theorem SortsAt.tups {vs : List Value} {ds : List PyData} (e : EachIs (fun v d => ∃ as, Reads s.heap v d as) vs ds) (hal : AllAlike ds) (ht : ∀ d, d ∈ ds → ∃ xs, d = .tuple xs) (hu : ∀ d, d ∈ ds → A.units + d.depth < cLine) : SortsAt prog w A s (dataKind s.heap ds) vs := by
  by_cases hne : ∀ d, d ∈ ds → ∃ x r, d = .tuple (x :: r)
  · exact SortsAt.data e hal (.inl hne) hu
  have hex : ∃ d ∈ ds, d = .tuple [] := by
    by_cases hx : ∃ d ∈ ds, d = .tuple []
    · exact hx
    · refine absurd (fun d hd => ?_) hne
      obtain ⟨xs, rfl⟩ := ht d hd
      cases xs with
      | nil => exact absurd ⟨_, hd, rfl⟩ hx
      | cons x r => exact ⟨x, r, rfl⟩
  have room : ∀ {d d' : PyData}, d ∈ ds → A.units + min d.depth d'.depth < cLine := fun {d d'} hd => Nat.lt_of_le_of_lt (Nat.add_le_add_left (Nat.min_le_left _ _) _) (hu d hd)
  refine ⟨fun v hv => ?_, ?_⟩
  · obtain ⟨d, hd, as, r⟩ := e.left v hv
    exact ⟨_, dataKind_some hal hd r⟩
  have hnall : ∀ fs : List (Option Value), EachIs (fun (f : Option Value) d => f.isSome = true ↔ d ≠ .tuple []) fs ds → fs.toArray.all (fun x => x.isSome) = false := by
    intro fs hf
    obtain ⟨d, hd, rfl⟩ := hex
    have key : ∀ {fs : List (Option Value)} {ds : List PyData}, EachIs (fun (f : Option Value) d => f.isSome = true ↔ d ≠ .tuple []) fs ds → PyData.tuple [] ∈ ds → ∃ f ∈ fs, f.isSome = false := by
      intro fs ds h
      induction h with
      | nil => intro h; cases h
      | cons h1 _ ih =>
        intro hm
        rcases List.mem_cons.mp hm with rfl | hm
        · refine ⟨_, List.mem_cons_self, ?_⟩
          rw [Bool.eq_false_iff]
          exact fun q => h1.mp q rfl
        · obtain ⟨f, hf, e⟩ := ih hm
          exact ⟨f, List.mem_cons_of_mem _ hf, e⟩
    obtain ⟨f, hf', e⟩ := key hf hd
    rw [Bool.eq_false_iff]
    intro q
    rw [List.all_toArray, List.all_eq_true] at q
    rw [q f hf'] at e
    cases e
  cases ds with
  | nil => obtain ⟨d, hd, _⟩ := hex; cases hd
  | cons d₀ ds₀ =>
    by_cases h0 : d₀ = .tuple []
    · refine ⟨oneType', ?_, fun h2 E Q hq => ?_⟩
      · intro E x y a b Q ha hb hq
        obtain ⟨d, as, hd, ra, rfl⟩ := dataKind_inv ha
        obtain ⟨d', as', hd', rb, rfl⟩ := dataKind_inv hb
        have hdd := hal d hd d' hd'
        have hroom := room (d' := d') hd
        obtain ⟨xs, rfl⟩ := ht d hd
        obtain ⟨ys, rfl⟩ := ht d' hd'
        rw [keyLt'_oneType]
        exact oneLt_tuples ra rb hdd hroom hq
      · rw [kat_kind_eq, List.mapM_toArray, map_eq_pure_bind]
        refine wpAny_bind (wpAny_bind (firsts_any vs (d₀ :: ds₀) e ht fun fs hf => wpAny_pure ?_))
        rw [if_neg (by rw [hnall fs hf]; exact Bool.false_ne_true)]
        have hf0 : (fs.toArray[0]?.bind id).isSome = false := by
          cases hf with
          | @cons f _ fr _ h1 _ =>
            show (Option.bind (some f) (id : Option Value → Option Value)).isSome = false
            rw [Bool.eq_false_iff]
            exact fun q => h1.mp q h0
        rw [if_neg (by rw [hf0]; exact Bool.false_ne_true), oneTypeOnly'_eq, List.mapM_toArray, map_eq_pure_bind]
        refine wpAny_bind (wpAny_bind (wpAny_bind (kas_mapM (r := Value.type "tuple") _ (fun v hv Q' hq' => ?_) (wpAny_pure ?_))))
        · obtain ⟨d, hd, as, r⟩ := e.left v hv
          obtain ⟨xs, rfl⟩ := ht d hd
          exact (looks_reads r).here hq'
        · have hall2 : ((List.map (fun _ => Value.type "tuple") vs).toArray.all fun x => x == Value.type "tuple") = true := by
            simp only [List.all_toArray, List.all_map, List.all_eq_true]
            intro _ _
            rfl
          have h0 : (List.map (fun _ => Value.type "tuple") vs).toArray[0]? = some (Value.type "tuple") := by
            cases vs with
            | nil => simp at h2
            | cons v vs => simp
          rw [h0]
          simp only [hall2, if_true]
          exact wpAny_pure (wpAny_pure hq)
    · refine ⟨general', ?_, fun h2 E Q hq => ?_⟩
      · intro E x y a b Q ha hb hq
        obtain ⟨d, as, hd, ra, rfl⟩ := dataKind_inv ha
        obtain ⟨d', as', hd', rb, rfl⟩ := dataKind_inv hb
        have hdd := hal d hd d' hd'
        obtain ⟨xs, rfl⟩ := ht d hd
        exact oneLt_alike (f := false) (fun q => by cases q) ra rb hdd (fun q => by cases q) (room (d' := d') hd) hq
      · rw [kat_kind_eq, List.mapM_toArray, map_eq_pure_bind]
        refine wpAny_bind (wpAny_bind (firsts_any vs (d₀ :: ds₀) e ht fun fs hf => wpAny_pure ?_))
        rw [if_neg (by rw [hnall fs hf]; exact Bool.false_ne_true)]
        have hf0 : (fs.toArray[0]?.bind id).isSome = true := by
          cases hf with
          | @cons f _ fr _ h1 _ =>
            show (Option.bind (some f) (id : Option Value → Option Value)).isSome = true
            exact h1.mpr h0
        rw [if_pos hf0]
        exact wpAny_pure hq
theorem sorted_tups {β : Type} {vs : List Value} {bs : List β} {enc : β → PyData} {R : Value → β → Prop} {l : Addr} {Q : Value → Shared → Prop} (hl : s.heap.IsList l vs.toArray) (e : EachIs R vs bs) (er : EachIs (fun v b => ∃ as, Reads s.heap v (enc b) as) vs bs) (hal : AllAlike (bs.map enc)) (hk : ∀ d ∈ bs.map enc, ∃ xs, d = PyData.tuple xs) (hL : bs.length ≤ sizeLine)
    (hu : ∀ b, b ∈ bs → A.units + 2 + (enc b).depth < cLine) (h : ∀ out, out.length = bs.length → EachIs R out (bs.mergeSort (dataLe false enc)) → Q (.ref (s.heap.objs.size + 1)) { s with heap := sortedAll s.heap vs (List.toArray out) }) :
    wpAny (model prog w) A (call (.builtin "sorted") [.ref l]) Q E s := by
  have er' : EachIs (fun v b => ∃ as, Reads (sortingHeap (copyHeap s.heap vs) (s.heap.objs.size + 1) vs) v (enc b) as) vs bs := er.mono fun _ _ ⟨as, r⟩ => ⟨as, PyProof.Rows.Reads.keeps (fun _ _ => sorting_copy_old) r⟩
  exact sorted_vals hl (SortsAt.tups (s := { s with heap := sortingHeap (copyHeap s.heap vs) (s.heap.objs.size + 1) vs }) (each_map (R := fun v d => ∃ as, Reads (sortingHeap (copyHeap s.heap vs) (s.heap.objs.size + 1) vs) v d as) enc er') hal hk (bound_map hu)) (by rw [e.length]; exact hL)
    (h _ (by rw [sortVals_length false rfl]; exact e.length) (sortVals_data false e er' hal))
end
/-! ### sorted(xs) of a list of tuples -/
def isTup : D → Bool
  | .tup _ => true
  | _ => false
/-- alike tuples of plain data -/
def tupsB (es : List D) : Bool := es.all (fun d => pureD d && isTup d && decide (depD d ≤ 100)) && es.all (fun d => es.all fun e => alike (toP d) (toP e))
def srtT (es : List D) : List D := es.mergeSort (dataLe false toP)
def oSortedT : OC := fun ds st => match ds with
  | [.loc l] => match lstAt st l with
    | some es => if tupsB es = true then (if es.length ≤ sizeLine then some (.loc st.length, st ++ [.lst (srtT es)]) else none) else oSorted ds st
    | none => oSorted ds st
  | _ => oSorted ds st
theorem each_rep {ρ : List Addr} {H : Hp} : ∀ {es : List D} {xs : List V} {vs : List Value}, RepL ρ H es xs → Vals xs vs → EachIs (fun v (q : D × V) => RelV q.2 v ∧ Rep ρ H q.1 q.2) vs (es.zip xs)
  | [], _, vs, r, h => by
    cases r
    cases h
    exact .nil
  | d :: ds, _, vs, r, h => by
    cases r with
    | cons r1 r2 =>
      cases h with
      | cons h1 h2 => exact .cons ⟨h1, r1⟩ (each_rep r2 h2)
theorem each_out {ρ : List Addr} {H : Hp} : ∀ {qs : List (D × V)} {vs : List Value}, EachIs (fun v (q : D × V) => RelV q.2 v ∧ Rep ρ H q.1 q.2) vs qs → Vals (qs.map (·.2)) vs ∧ RepL ρ H (qs.map (·.1)) (qs.map (·.2))
  | _, _, .nil => ⟨.nil, .nil⟩
  | _, _, .cons h t => ⟨.cons h.1 (each_out t).1, .cons h.2 (each_out t).2⟩
theorem cb_sortedT {X : Cx} (hu : X.A.units + 190 < cLine) : CallR X (.builtin "sorted") (rC X.K oSortedT) := by
  intro pins s σ H vs us Q I r ⟨ρ, st, ds, a, st', hs, rs, h, k⟩
  unfold oSortedT at h
  split at h
  · rename_i l
    split at h
    · rename_i es he
      split at h
      · rename_i ht
        split at h
        · rename_i hz
          cases h
          unfold tupsB at ht
          rw [Bool.and_eq_true, List.all_eq_true, List.all_eq_true] at ht
          cases rs with
          | cons r1 t1 =>
            cases t1
            obtain ⟨p, xs, rfl, hx, rr⟩ := lstAt_seq hs he r1
            obtain ⟨its, rv, hl, _⟩ := I.list hx
            rw [Vals.ref1 r]
            have hlen := rr.length
            have E0 := each_rep rr rv
            have hz2 : (es.zip xs).length = es.length := by rw [List.length_zip, hlen, Nat.min_self]
            have hfst : (es.zip xs).map (·.1) = es := by rw [List.map_fst_zip]; omega
            have hin : ∀ q ∈ es.zip xs, q.1 ∈ es := fun q hq => (List.of_mem_zip hq).1
            have hpu : ∀ q ∈ es.zip xs, pureD q.1 = true ∧ isTup q.1 = true ∧ depD q.1 ≤ 100 := fun q hq => by
              have := ht.1 q.1 (hin q hq)
              rw [Bool.and_eq_true, Bool.and_eq_true, decide_eq_true_eq] at this
              exact ⟨this.1.1, this.1.2, this.2⟩
            have hrd : EachIs (fun v (q : D × V) => ∃ as, Reads s.heap v (toP q.1) as) its (es.zip xs) := (each_mem E0).mono fun v q h => by
              obtain ⟨p1, _, _⟩ := hpu q h.2
              have hd := toPy_dp hs 0 h.1.2 (show toPy st 0 q.1 = some (toP q.1) by unfold toPy; exact pure_py _ _ p1)
              exact Dp.reads I _ _ v hd h.1.1
            refine sorted_tups (enc := fun q : D × V => toP q.1) (bs := es.zip xs) (vs := its) hl.isList E0 hrd ?_ ?_ (by rw [hz2]; exact hz) (fun q hq => ?_) fun out h1 h2 => ?_
            · intro d hd d' hd'
              obtain ⟨q, hq, rfl⟩ := List.mem_map.mp hd
              obtain ⟨q', hq', rfl⟩ := List.mem_map.mp hd'
              exact List.all_eq_true.mp (ht.2 q.1 (hin q hq)) q'.1 (hin q' hq')
            · intro d hd
              obtain ⟨q, hq, rfl⟩ := List.mem_map.mp hd
              obtain ⟨_, p2, _⟩ := hpu q hq
              cases hq1 : q.1 with
              | tup ds => exact ⟨toPL ds, by simp [toP]⟩
              | _ => rw [hq1] at p2; cases p2
            · obtain ⟨_, _, p3⟩ := hpu q hq
              rw [pure_dep]
              omega
            · obtain ⟨v1, v2⟩ := each_out h2
              have hfs : ((es.zip xs).mergeSort (dataLe false fun q : D × V => toP q.1)).map (·.1) = srtT es := by
                have := sort_maps (r := dataLe false fun q : D × V => toP q.1) (s := dataLe false toP) (l := es.zip xs) (fun q : D × V => q.1) (fun a _ b _ => rfl)
                rw [hfst] at this
                exact this
              rw [hfs] at v2
              obtain ⟨ep, he'⟩ := PyProof.Rows.sortedAll_at s.heap its (List.toArray out)
              have hn := I.hok.fresh (Nat.le_succ s.heap.objs.size)
              have hlz : (((es.zip xs).mergeSort (dataLe false fun q : D × V => toP q.1)).map (·.2)).length ≤ sizeLine := by rw [List.length_map, List.length_mergeSort, hz2]; exact hz
              have le : Le ρ H (ρ ++ [s.heap.objs.size + 1]) (upd H (s.heap.objs.size + 1) (.lst (((es.zip xs).mergeSort (dataLe false fun q : D × V => toP q.1)).map (·.2)))) := (Le.laid (ρ := ρ) _ _ hn).ext (List.prefix_append _ _)
              obtain ⟨s1, l1, g1⟩ := hs.alloc (u := .lst (srtT es)) hn ⟨_, upd_same, v2.mono le⟩
              exact ⟨.ref _, _, I.laid (o := .lst (((es.zip xs).mergeSort (dataLe false fun q : D × V => toP q.1)).map (·.2))) (t' := s.toks) (fun _ _ => PyProof.Rows.sortedAll_old) (Nat.le_succ _) ⟨hlz, out, ep, v1, he'⟩, rfl, k _ _ _ l1 s1 (.loc g1)⟩
        · cases h
      · exact cb_sorted pins s σ H vs us Q I r ⟨ρ, st, _, a, st', hs, rs, h, k⟩
    · exact cb_sorted pins s σ H vs us Q I r ⟨ρ, st, _, a, st', hs, rs, h, k⟩
  · exact cb_sorted pins s σ H vs us Q I r ⟨ρ, st, ds, a, st', hs, rs, h, k⟩
/-! ### sorted(d) of a dict whose keys are tuples -/
theorem each_keys {ρ : List Addr} {H : Hp} : ∀ {us : List (List Key × V)} {bs : List Addr}, IsKeys H us bs → EachIs (fun v (q : D × V) => RelV q.2 v ∧ Rep ρ H q.1 q.2) (bs.map Value.ref) ((us.map fun p => keyD p.1).zip (bs.map V.ref))
  | [], [], _ => .nil
  | [], _ :: _, h => by cases h
  | _ :: _, [], h => by cases h
  | p :: us, b :: bs, h => by
    cases h with
    | cons h1 h2 => exact .cons ⟨rfl, .tup h1 (kDs_rep p.1)⟩ (each_keys h2)
def oSortedK : OC := fun ds st => match ds with
  | [.loc l] => match dtAt st l with
    | some kvs => if tupsB (kvs.map fun kv => keyD kv.1) = true then (if kvs.length ≤ sizeLine then some (.loc st.length, st ++ [.lst (srtT (kvs.map fun kv => keyD kv.1))]) else none) else none
    | none => oSortedT ds st
  | _ => oSortedT ds st
theorem cb_sortedK {X : Cx} (hc : X.calm = true) (hu : X.A.units + 190 < cLine) : CallR X (.builtin "sorted") (rC X.K oSortedK) := by
  intro pins s σ H vs us Q I r ⟨ρ, st, ds, a, st', hs, rs, h, k⟩
  unfold oSortedK at h
  split at h
  · rename_i l
    split at h
    · rename_i kvs he
      split at h
      · rename_i ht
        split at h
        · rename_i hz
          cases h
          unfold tupsB at ht
          rw [Bool.and_eq_true, List.all_eq_true, List.all_eq_true] at ht
          cases rs with
          | cons r1 t1 =>
            cases t1
            obtain ⟨p, rfl, hp⟩ := r1.locA
            unfold dtAt at he
            split at he
            · rename_i kvs' hd'
              cases he
              obtain ⟨ws, e1, rk⟩ := hs.ob _ _ p hd' hp
              rw [Vals.ref1 r]
              obtain ⟨z, hsm, ks, pr, o, es, ep, ho, hx, hdt, hes, hn⟩ := (show ObjOk X.prog X.w H s.heap p (.dT ws) from I.hok _ _ e1)
              have l1 : es.size = ks.length := size_of_entries hes
              have l2 : ws.length = ks.length := Paired.length pr
              have l3 := rk.length
              have hkeys : kvs.map (fun kv => keyD kv.1) = ws.map fun kv => keyD kv.1 := by
                have := congrArg (List.map keyD) rk.1
                rw [List.map_map, List.map_map] at this
                exact this
              generalize hE : kvs.map (fun kv => keyD kv.1) = ke at ht hkeys k
              have hkel : ke.length = ks.length := by rw [hkeys, List.length_map]; exact l2
              refine Calls.call_function_entry PyProof.Rows.kind_sorted PyProof.Rows.plain_sorted PyProof.Rows.entry_sorted (PyProof.Rows.args_sorted1 _) ?_
              unfold Builtin.«sorted»
              refine wpAny_bind (m := checkCount "sorted" 1 1 _) (wpAny_pure ?_)
              refine wpAny_bind (PySem.W.kdu_collect (A := X.A.in1) (kdl_raw hsm hx hdt) (I.ok.hd hc) ho (by omega) fun h' tk acc hk hacc => ?_)
              have ea : acc.toList = ks.map fun x => Value.ref x.2.1 := by
                have hl : acc.toList.length = ks.length := by rw [Array.length_toList, hacc.1]; exact l1
                apply List.ext_getElem?
                intro j
                rw [List.getElem?_map]
                cases hj : acc.toList[j]? with
                | none =>
                  have h1 := List.getElem?_eq_none_iff.mp hj
                  rw [List.getElem?_eq_none (by omega)]
                  all_goals rfl
                | some v =>
                  obtain ⟨en, hen, hv⟩ := hacc.2 j v (by rw [← Array.getElem?_toList]; exact hj)
                  have qe := entry_at hes j
                  rw [hen] at qe
                  cases hb : ks[j]? with
                  | none =>
                    rw [hb] at qe
                    exact nomatch (show some en = none from qe)
                  | some b =>
                    rw [hb] at qe
                    have e2 : en = entryOfKey (tupleKind (mixKind X.prog X.w)) b := Option.some.inj qe
                    rw [hv, e2]
                    all_goals rfl
              have eb : acc.toList = (ks.map fun x => x.2.1).map Value.ref := by rw [ea, List.map_map]; all_goals rfl
              have hIK := isKeys_of pr
              have E0 := each_keys (ρ := ρ) hIK
              generalize hbs : (ks.map fun x => x.2.1) = bs at eb E0
              have hbl : bs.length = ks.length := by rw [← hbs, List.length_map]
              rw [← hkeys] at E0
              have hz2 : (ke.zip (bs.map V.ref)).length = ke.length := by rw [List.length_zip, List.length_map]; omega
              have hfst : (ke.zip (bs.map V.ref)).map (·.1) = ke := by rw [List.map_fst_zip]; rw [List.length_map]; omega
              have hin : ∀ q ∈ ke.zip (bs.map V.ref), q.1 ∈ ke := fun q hq => (List.of_mem_zip hq).1
              have hpu : ∀ q ∈ ke.zip (bs.map V.ref), pureD q.1 = true ∧ isTup q.1 = true ∧ depD q.1 ≤ 100 := fun q hq => by
                have := ht.1 q.1 (hin q hq)
                rw [Bool.and_eq_true, Bool.and_eq_true, decide_eq_true_eq] at this
                exact ⟨this.1.1, this.1.2, this.2⟩
              have hrd : EachIs (fun v (q : D × V) => ∃ as, Reads s.heap v (toP q.1) as) (bs.map Value.ref) (ke.zip (bs.map V.ref)) := (each_mem E0).mono fun v q h => by
                obtain ⟨p1, _, _⟩ := hpu q h.2
                have hd := toPy_dp hs 0 h.1.2 (show toPy st 0 q.1 = some (toP q.1) by unfold toPy; exact pure_py _ _ p1)
                exact Dp.reads I _ _ v hd h.1.1
              have hal : AllAlike ((ke.zip (bs.map V.ref)).map fun q : D × V => toP q.1) := by
                intro d hd d' hd'
                obtain ⟨q, hq, rfl⟩ := List.mem_map.mp hd
                obtain ⟨q', hq', rfl⟩ := List.mem_map.mp hd'
                exact List.all_eq_true.mp (ht.2 q.1 (hin q hq)) q'.1 (hin q' hq')
              have htu : ∀ d ∈ (ke.zip (bs.map V.ref)).map fun q : D × V => toP q.1, ∃ xs, d = PyData.tuple xs := by
                intro d hd
                obtain ⟨q, hq, rfl⟩ := List.mem_map.mp hd
                obtain ⟨_, p2, _⟩ := hpu q hq
                cases hq1 : q.1 with
                | tup ds => exact ⟨toPL ds, by simp [toP]⟩
                | _ => rw [hq1] at p2; cases p2
              have I1 : L2.Inv X pins σ H { s with heap := h', toks := tk } := I.kept hk
              rw [eb]
              have hvl : (bs.map Value.ref).length ≤ sizeLine := by rw [List.length_map]; omega
              refine wpAny_bind (wpAny_newList ?_ hvl)
              have hoL : (h'.push (seqObj "list" (bs.map Value.ref).toArray 0)).get? h'.objs.size = some (seqObj "list" (bs.map Value.ref).toArray 0) := Heap.get?_push_size _ rfl
              show wpAny _ _ _ _ _ { s with heap := h'.push (seqObj "list" (bs.map Value.ref).toArray 0), toks := tk }
              have hkeep : ∀ (b : Addr) (o : Obj), s.heap.get? b = some o → (sortingHeap (h'.push (seqObj "list" (bs.map Value.ref).toArray 0)) h'.objs.size (bs.map Value.ref)).get? b = some o := fun b o e =>
                sortingHeap_old (Nat.ne_of_lt (Heap.lt_size (hk b o e))) (Heap.get?_push_of_some _ (hk b o e))
              have er' : EachIs (fun v (q : D × V) => ∃ as, Reads (sortingHeap (h'.push (seqObj "list" (bs.map Value.ref).toArray 0)) h'.objs.size (bs.map Value.ref)) v (toP q.1) as) (bs.map Value.ref) (ke.zip (bs.map V.ref)) := hrd.mono fun _ _ ⟨as, r⟩ => ⟨as, PyProof.Rows.Reads.keeps hkeep r⟩
              refine wpAny_bind (wpAny_holding (wpAny_call_entry PyProof.Rows.slot_list_sort ⟨_, hoL, rfl⟩ PyProof.Rows.entry_list_sort
                (list_sort_vals (s := { s with heap := h'.push (seqObj "list" (bs.map Value.ref).toArray 0), toks := tk }) hoL
                  (SortsAt.tups (s := { s with heap := sortingHeap (h'.push (seqObj "list" (bs.map Value.ref).toArray 0)) h'.objs.size (bs.map Value.ref), toks := tk }) (each_map (R := fun v d => ∃ as, Reads (sortingHeap (h'.push (seqObj "list" (bs.map Value.ref).toArray 0)) h'.objs.size (bs.map Value.ref)) v d as) (fun q : D × V => toP q.1) er') hal htu (bound_map (fun q hq => by
                    obtain ⟨_, _, p3⟩ := hpu q hq
                    rw [pure_dep]
                    show X.A.units + 1 + 1 + _ < _
                    omega))) hvl ⟨_, rfl, ?_⟩)
                (PyProof.Rows.args_list_sort _)))
              have h2 := sortVals_data false E0 er' hal
              generalize hout : sortVals _ false (bs.map Value.ref) (bs.map Value.ref) = out at h2 ⊢
              obtain ⟨v1, v2⟩ := each_out h2
              have hfs : ((ke.zip (bs.map V.ref)).mergeSort (dataLe false fun q : D × V => toP q.1)).map (·.1) = srtT ke := by
                have := sort_maps (r := dataLe false fun q : D × V => toP q.1) (s := dataLe false toP) (l := ke.zip (bs.map V.ref)) (fun q : D × V => q.1) (fun a _ b _ => rfl)
                rw [hfst] at this
                exact this
              rw [hfs] at v2
              obtain ⟨ep2, he'⟩ := PyProof.Rows.sortedHeap_at (vs := bs.map Value.ref) (out := out.toArray) hoL
              have hn1 := I1.hok.fresh (Nat.le_refl h'.objs.size)
              have hlz : (((ke.zip (bs.map V.ref)).mergeSort (dataLe false fun q : D × V => toP q.1)).map (·.2)).length ≤ sizeLine := by rw [List.length_map, List.length_mergeSort, hz2]; omega
              have le : Le ρ H (ρ ++ [h'.objs.size]) (upd H h'.objs.size (.lst (((ke.zip (bs.map V.ref)).mergeSort (dataLe false fun q : D × V => toP q.1)).map (·.2)))) := (Le.laid (ρ := ρ) _ _ hn1).ext (List.prefix_append _ _)
              obtain ⟨s1, l4, g1⟩ := hs.alloc (u := .lst (srtT ke)) hn1 ⟨_, upd_same, v2.mono le⟩
              refine wpAny_pure ⟨_, rfl, .ref h'.objs.size, _, I1.laid (o := .lst (((ke.zip (bs.map V.ref)).mergeSort (dataLe false fun q : D × V => toP q.1)).map (·.2))) (t' := tk) (fun b u e => ?_) (Nat.le_refl _) ⟨hlz, out, ep2, v1, he'⟩, rfl, k _ _ _ l4 s1 (.loc g1)⟩
              have hb : b < h'.objs.size := Heap.lt_size e
              rw [PyProof.Rows.sortedHeap_old (Nat.ne_of_lt hb) (by rw [size_push']; exact Nat.lt_succ_of_lt hb)]
              exact Heap.get?_push_of_some _ e
            · cases he
        · cases h
      · cases h
    · exact cb_sortedT hu pins s σ H vs us Q I r ⟨ρ, st, _, a, st', hs, rs, h, k⟩
  · exact cb_sortedT hu pins s σ H vs us Q I r ⟨ρ, st, ds, a, st', hs, rs, h, k⟩
/-! ### sorted(t) of a tuple of texts -/
def oSortedA : OC := fun ds st => match ds with
  | [.tup es] => match asStrs es with
    | some ss => if ss.length < 64 then some (.loc st.length, st ++ [.lst ((srtS ss).map D.str)]) else none
    | none => none
  | _ => oSortedK ds st
theorem cb_sortedA {X : Cx} (hc : X.calm = true) (hu : X.A.units + 190 < cLine) : CallR X (.builtin "sorted") (rC X.K oSortedA) := by
  intro pins s σ H vs us Q I r ⟨ρ, st, ds, a, st', hs, rs, h, k⟩
  unfold oSortedA at h
  split at h
  · rename_i es
    split at h
    · rename_i ss hss
      split at h
      · rename_i h64
        cases h
        cases rs with
        | cons r1 t1 =>
          cases t1
          obtain ⟨p, xs, rfl, hx, rr⟩ := r1.tupA
          rw [asStrs_eq hss] at rr
          rw [rr.strs] at hx
          rw [Vals.ref1 r]
          obtain ⟨its, rv, ⟨o, ho, hcl, n, hd⟩, _⟩ := I.tuple (SqT.of (K := X.K) hx)
          have hS : StrsAre its ss := rv.strs
          have hil : its.length = ss.length := by have := rv.length; rw [List.length_map] at this; exact this.symm
          refine Calls.call_function_entry PyProof.Rows.kind_sorted PyProof.Rows.plain_sorted PyProof.Rows.entry_sorted (PyProof.Rows.args_sorted1 _) ?_
          unfold Builtin.«sorted»
          refine wpAny_bind (m := checkCount "sorted" 1 1 _) (wpAny_pure ?_)
          refine wpAny_bind (wpAny_collect_seq p (.inr rfl) ho hcl hd (fun h' hk => ?_) (by rw [List.size_toArray, hil, sizeLine_eq]; omega))
          have I1 : L2.Inv X pins σ H { s with heap := h' } := I.kept (t' := s.toks) hk
          show wpAny _ _ _ _ _ { s with heap := h' }
          rw [show its.toArray.toList = its from List.toList_toArray]
          refine wpAny_bind (wpAny_newList ?_ (by rw [hil, sizeLine_eq]; omega))
          have hoL : (h'.push (seqObj "list" its.toArray 0)).get? h'.objs.size = some (seqObj "list" its.toArray 0) := Heap.get?_push_size _ rfl
          show wpAny _ _ _ _ _ { s with heap := h'.push (seqObj "list" its.toArray 0) }
          refine wpAny_bind (wpAny_holding (wpAny_call_entry PyProof.Rows.slot_list_sort ⟨_, hoL, rfl⟩ PyProof.Rows.entry_list_sort
            (list_sort_treeK strKind_oneLt (s := { s with heap := h'.push (seqObj "list" its.toArray 0) }) hoL hS.keysOf (fun v₁ v₂ rest e => keyKind_strs (by rw [← e]; exact hS)) (by rw [hil]; exact h64) fun st' hp hsrt => ⟨_, rfl, ?_⟩)
            (PyProof.Rows.args_list_sort _)))
          obtain ⟨ys, g1, g2, g3⟩ := sorted_out_str hS hp hsrt
          have e1 := srt_of g3 g2
          subst e1
          obtain ⟨e', he'⟩ := PyProof.Rows.sortedHeap_at (vs := its) (out := (arrOf st').map (·.2)) hoL
          have hlen : ((srtS ss).map V.str).length ≤ sizeLine := by
            rw [List.length_map, srt_len]
            exact Nat.le_trans (Nat.le_of_lt h64) (by decide)
          have hn1 := I1.hok.fresh (Nat.le_refl h'.objs.size)
          have le : Le ρ H (ρ ++ [h'.objs.size]) (upd H h'.objs.size (.lst ((srtS ss).map V.str))) := (Le.laid (ρ := ρ) _ _ hn1).ext (List.prefix_append _ _)
          obtain ⟨s1, l4, gg⟩ := hs.alloc (u := .lst ((srtS ss).map D.str)) hn1 ⟨_, upd_same, RepL.of_strs _⟩
          refine wpAny_pure ⟨_, rfl, .ref h'.objs.size, upd H h'.objs.size (.lst ((srtS ss).map V.str)), I1.laid (t' := s.toks) (fun b u e => ?_) (Nat.le_refl _)
            (show ObjOk X.prog X.w _ _ _ (.lst ((srtS ss).map V.str)) from ⟨hlen, ((arrOf st').map (·.2)).toList, e', vals_of_strs g1, by rw [Array.toArray_toList]; exact he'⟩), rfl, k _ _ _ l4 s1 (.loc gg)⟩
          have hb : b < h'.objs.size := Heap.lt_size e
          rw [PyProof.Rows.sortedHeap_old (Nat.ne_of_lt hb) (by rw [size_push']; exact Nat.lt_succ_of_lt hb)]
          exact Heap.get?_push_of_some _ e
      · cases h
    · cases h
  · exact cb_sortedK hc hu pins s σ H vs us Q I r ⟨ρ, st, ds, a, st', hs, rs, h, k⟩
end Sh

set_option maxHeartbeats 1000000
/-! ShUn: a, b = a tuple or a list of that length. -/
namespace Sh
open PySem PySem.Spec PyProof.Rows L2
section
variable {X : Cx} {W : WX} {pos : Pos}
end
structure JFs (X : Cx) (k n : Nat) (es : List Expr) (fns : List Fn) : Prop where
  ex : ∃ addrs : List Addr, PA X es (fun σ H Q => Q (addrs.map V.ref) H) ∧ addrs.length = fns.length ∧ ∀ (i : Nat) (f : Addr) (fn : Fn), addrs[i]? = some f → fns[i]? = some fn → ∃ fd ps, ps.length = n ∧ FnS X.prog X.w X.K X.mg X.base k f fd ps fn ∧ Binds X.K fd ps [] ∧ PySem.W.keepIn X.K (.ref f) = true
section
variable {X : Cx} {W : WX} {pos : Pos} {k n : Nat}
end
end Sh

set_option maxHeartbeats 1000000
/-! ShDi: sorted(d.items()), d.clear(), d.pop(k). -/
namespace Sh
open PySem PySem.Spec PyProof.Rows L2 PySem.W PySem.SeqAt PySem.Calls
section
variable {X : Cx}
def dropD (kvs : List (Key × D)) (k : Key) : List (Key × D) := kvs.filter fun kv => decide (kv.1 ≠ k)
end
section
variable {X : Cx} {W : WX} {e : Expr} {m : EM} {p apos cpos pos : Pos}
end
/-! ### a comprehension within a comprehension -/
def relS (scope outer : Scope) : Scope :=
  { scope with names := scope.names.map fun (n, k) => if (k == .free && outer.kind == .function && outer.names.lookup n == some .cell) then (n, .cell) else (n, k) }
theorem blkOk_in {N : List Str} {outer mid scope : Scope} {own : List (Str × Nat)} {env : Env} (he : env.scope = outer) (h : blkC N (relS mid outer) scope own = true) : BlkOk N (relabel mid env) scope own := by
  subst he
  exact blkOk_by h
end Sh

set_option maxHeartbeats 1000000
/-! ShMm: min and max of two numbers. -/
namespace Sh
open PySem PySem.Spec PyProof.Rows L2
def oMin2 : OC := fun ds st => match ds with
  | [.int i, .int j] => some (.int (if j < i then j else i), st)
  | _ => none
section
variable {X : Cx}
theorem cb_min2 (hc : X.calm = true) : CallR X (.builtin "min") (rC X.K oMin2) := by
  intro pins s σ H vs us Q I r ⟨ρ, st, ds, a, st', hs, rs, h, k⟩
  unfold oMin2 at h
  split at h
  · cases h
    cases rs with
    | cons r1 t1 =>
      cases t1 with
      | cons r2 t2 =>
        cases t2
        cases r1
        cases r2
        exact call_min2 hc pins s σ H _ us Q I r ⟨_, _, rfl, k ρ H _ Le.refl hs (.int _)⟩
  · cases h
end
end Sh

set_option maxHeartbeats 4000000
namespace Law
open PySem PySem.Spec PyProof.Rows L2 Sh
/-! ### the text by places -/
def topS (i : Nat) : Stmt := PySem.Challenge.pw_turngrow_k63_spans_told.main.body.getD i (.Pass ⟨0, 0, 0, 0⟩)
abbrev s_size_of : Stmt := topS 1
abbrev s_worth_of : Stmt := topS 3
abbrev s_span : Stmt := topS 4
abbrev s_law_begun : Stmt := topS 6
abbrev s_law_take : Stmt := topS 7
abbrev s_law_pick : Stmt := topS 8
abbrev s_law_names : Stmt := topS 9
abbrev s_law_size : Stmt := topS 10
abbrev s_law_spread : Stmt := topS 11
abbrev s_law_whole : Stmt := topS 12
abbrev s_law_all_worths : Stmt := topS 13
abbrev s_law : Stmt := topS 14
abbrev n_size_of : List Str := ["width", "found", "step"]
abbrev p_size_of : List Str := ["width"]
theorem sc_size_of : FnScope n_size_of p_size_of (defScope s_size_of) := ⟨rfl, rfl, rfl, by decide +kernel, rfl, by decide +kernel, by decide +kernel⟩
abbrev n_worth_of : List Str := ["told", "worths", "total", "names", "factor", "name"]
abbrev p_worth_of : List Str := ["told", "worths"]
theorem sc_worth_of : FnScope n_worth_of p_worth_of (defScope s_worth_of) := ⟨rfl, rfl, rfl, by decide +kernel, rfl, by decide +kernel, by decide +kernel⟩
abbrev n_span : List Str := ["told", "inputs", "width", "least", "most", "names", "factor", "name", "low", "high"]
abbrev p_span : List Str := ["told", "inputs", "width"]
theorem sc_span : FnScope n_span p_span (defScope s_span) := ⟨rfl, rfl, rfl, by decide +kernel, rfl, by decide +kernel, by decide +kernel⟩
abbrev n_law_begun : List Str := ["_law_script", "_law_cell"]
abbrev p_law_begun : List Str := ["_law_script"]
theorem sc_law_begun : FnScope n_law_begun p_law_begun (defScope s_law_begun) := ⟨rfl, rfl, rfl, by decide +kernel, rfl, by decide +kernel, by decide +kernel⟩
abbrev n_law_take : List Str := ["_law_state", "_law_many", "_law_found", "_law_turn", "_law_cell", "_law_more"]
abbrev p_law_take : List Str := ["_law_state", "_law_many"]
theorem sc_law_take : FnScope n_law_take p_law_take (defScope s_law_take) := ⟨rfl, rfl, rfl, by decide +kernel, rfl, by decide +kernel, by decide +kernel⟩
abbrev n_law_pick : List Str := ["_law_state", "_law_some"]
abbrev p_law_pick : List Str := ["_law_state", "_law_some"]
theorem sc_law_pick : FnScope n_law_pick p_law_pick (defScope s_law_pick) := ⟨rfl, rfl, rfl, by decide +kernel, rfl, by decide +kernel, by decide +kernel⟩
abbrev n_law_names : List Str := ["_law_state", "_law_many", "_law_kept", "_law_some", "_law_found", "_law_k", "_law_name", "_law_j", "_law_others", "_law_letter", "_law_other"]
abbrev p_law_names : List Str := ["_law_state", "_law_many"]
theorem sc_law_names : FnScope n_law_names p_law_names (defScope s_law_names) := ⟨rfl, rfl, rfl, by decide +kernel, rfl, by decide +kernel, by decide +kernel⟩
abbrev n_law_size : List Str := ["_law_width", "_law_size_here", "_law_k"]
abbrev p_law_size : List Str := ["_law_width"]
theorem sc_law_size : FnScope n_law_size p_law_size (defScope s_law_size) := ⟨rfl, rfl, rfl, by decide +kernel, rfl, by decide +kernel, by decide +kernel⟩
abbrev n_law_spread : List Str := ["_law_state", "_law_names_here", "_law_width", "_law_found", "_law_k", "_law_some", "_law_turn"]
abbrev p_law_spread : List Str := ["_law_state", "_law_names_here", "_law_width"]
theorem sc_law_spread : FnScope n_law_spread p_law_spread (defScope s_law_spread) := ⟨rfl, rfl, rfl, by decide +kernel, rfl, by decide +kernel, by decide +kernel⟩
abbrev n_law_whole : List Str := ["_law_told", "_law_worths", "_law_total", "_law_names_here", "_law_factor", "_law_name"]
abbrev p_law_whole : List Str := ["_law_told", "_law_worths"]
theorem sc_law_whole : FnScope n_law_whole p_law_whole (defScope s_law_whole) := ⟨rfl, rfl, rfl, by decide +kernel, rfl, by decide +kernel, by decide +kernel⟩
abbrev n_law_all_worths : List Str := ["_law_inputs", "_law_found", "_law_name", "_law_least", "_law_most", "_law_longer", "_law_worths", "_law_k", "_law_more"]
abbrev p_law_all_worths : List Str := ["_law_inputs"]
theorem sc_law_all_worths : FnScope n_law_all_worths p_law_all_worths (defScope s_law_all_worths) := ⟨rfl, rfl, rfl, by decide +kernel, rfl, by decide +kernel, by decide +kernel⟩
abbrev n_law : List Str := ["_law_script", "_law_state", "_law_turn", "_law_odd", "_law_small", "_law_width", "_law_size_here", "_law_names_here", "_law_spare", "_law_inputs", "_law_name", "_law_least", "_law_told", "_law_shown", "_law_found", "_law_far", "_law_due", "_law_worths", "_law_one", "_law_k"]
abbrev p_law : List Str := ["_law_script"]
theorem sc_law : FnScope n_law p_law (defScope s_law) := ⟨rfl, rfl, rfl, by decide +kernel, rfl, by decide +kernel, by decide +kernel⟩
/-! ### what each def computes -/
structure Fs where
  size_of : Fn
  worth_of : Fn
  span : Fn
  law_begun : Fn
  law_take : Fn
  law_pick : Fn
  law_names : Fn
  law_size : Fn
  law_spread : Fn
  law_whole : Fn
  law_all_worths : Fn
  law : Fn
def b_size_of (F : Fs) (NW : Nat) : SM :=
  sSeq (sSet 1 (eC (.int 1))) (sSeq (sForI (iRange1 (aCons (eVar 0) (aNil))) (gN 2) (sSet 1 (eOp oMul (eVar 1) (eC (.int 2))))) (sRet (eVar 1)))
def b_worth_of (F : Fs) (NW : Nat) : SM :=
  sSeq (sSet 2 (eC (.int 0))) (sSeq (sForI (iSeq (eVar 0)) (gT [gN 3, gN 4]) (sSeq (sForI (iSeq (eVar 3)) (gN 5) (sSet 4 (eOp oMul (eVar 4) (eOp oIx (eVar 1) (eVar 5))))) (sAug 2 oIAddX (eVar 4)))) (sRet (eVar 2)))
def b_span (F : Fs) (NW : Nat) : SM :=
  sSeq (sSet 3 (eCB oDict (aCons (eLc (iSeq (eVar 1)) (gT [gN 7, gN 8, gN 9]) (bYes) (eTup (aCons (eVar 7) (aCons (eVar 8) (aNil)))) [7, 8, 9]) (aNil)))) (sSeq (sSet 4 (eCB oDict (aCons (eLc (iSeq (eVar 1)) (gT [gN 7, gN 8, gN 9]) (bYes) (eTup (aCons (eVar 7) (aCons (eVar 9) (aNil)))) [7, 8, 9]) (aNil)))) (sSeq (sForI (iSeq (eVar 0)) (gT [gN 5, gN 6]) (sIf (bNot (bOf (eCB oAll (aCons (eLc (iSeq (eVar 5)) (gN 7) (bYes) (eOp oInT (eVar 7) (eVar 4)) [7]) (aNil))))) (sRet (eC .non)) (sNil))) (sSeq (sIf (bOf (eOp oGe (eCall 2 F.worth_of (aCons (eVar 0) (aCons (eVar 4) (aNil)))) (eCall 1 F.size_of (aCons (eVar 2) (aNil))))) (sRet (eC .non)) (sNil)) (sRet (eTup (aCons (eCall 2 F.worth_of (aCons (eVar 0) (aCons (eVar 3) (aNil)))) (aCons (eCall 2 F.worth_of (aCons (eVar 0) (aCons (eVar 4) (aNil)))) (aNil))))))))
def b_law_begun (F : Fs) (NW : Nat) : SM :=
  sRet (eDic [(eC (.str "great"), eLc (iSeq (eVar 0)) (gN 1) (bOf (eOp oGe (eVar 1) (eOp oPow (eC (.int 10)) (eC (.int 18))))) (eVar 1) [1]), (eC (.str "rest"), eC (.int 0)), (eC (.str "turn"), eC (.int 0)), (eC (.str "seed"), eOp oAdd (eC (.int 11)) (eCB oLen (aCons (eVar 0) (aNil)))), (eC (.str "cells"), eOp oAdd (eLc (iSeq (eVar 0)) (gN 1) (bYes) (eOp oMod (eCB oAbs (aCons (eVar 1) (aNil))) (eOp oPow (eC (.int 10)) (eC (.int 9)))) [1]) (eLst (aCons (eC (.int 5)) (aNil))))])
def b_law_take (F : Fs) (NW : Nat) : SM :=
  sSeq (sIf (bAnd (bOf (eOp oEq (eOp oIx (eVar 0) (eC (.str "rest"))) (eC (.int 0)))) (bOf (eOp oNe (eOp oIx (eVar 0) (eC (.str "great"))) (eLst (aNil))))) (sPut (eBM "list" oPopAt (eOp oIx (eVar 0) (eC (.str "great"))) (aCons (eC (.int 0)) (aNil))) (eVar 0) (eC (.str "rest"))) (sNil)) (sSeq (sIf (bOf (eOp oGt (eOp oIx (eVar 0) (eC (.str "rest"))) (eC (.int 0)))) (sSeq (sSet 2 (eOp oMod (eOp oIx (eVar 0) (eC (.str "rest"))) (eVar 1))) (sSeq (sPut (eOp oDiv (eOp oIx (eVar 0) (eC (.str "rest"))) (eVar 1)) (eVar 0) (eC (.str "rest"))) (sRet (eVar 2)))) (sNil)) (sSeq (sSet 3 (eOp oIx (eVar 0) (eC (.str "turn")))) (sSeq (sPut (eOp oAdd (eVar 3) (eC (.int 1))) (eVar 0) (eC (.str "turn"))) (sSeq (sSet 4 (eOp oIx (eOp oIx (eVar 0) (eC (.str "cells"))) (eOp oMod (eVar 3) (eCB oLen (aCons (eOp oIx (eVar 0) (eC (.str "cells"))) (aNil)))))) (sSeq (sSet 5 (eOp oAdd (eOp oMul (eOp oIx (eVar 0) (eC (.str "seed"))) (eC (.int 69621))) (eOp oMul (eVar 4) (eOp oAdd (eOp oMul (eC (.int 2)) (eVar 3)) (eC (.int 1)))))) (sSeq (sPut (eOp oMod (eOp oAdd (eOp oAdd (eVar 5) (eOp oPow (eVar 3) (eC (.int 3)))) (eC (.int 1))) (eC (.int 2147483647))) (eVar 0) (eC (.str "seed"))) (sRet (eOp oMod (eOp oMod (eOp oPow (eOp oIx (eVar 0) (eC (.str "seed"))) (eC (.int 3))) (eC (.int 2147483629))) (eVar 1)))))))))
def b_law_pick (F : Fs) (NW : Nat) : SM :=
  sRet (eOp oIx (eVar 1) (eCall 2 F.law_take (aCons (eVar 0) (aCons (eCB oLen (aCons (eVar 1) (aNil))) (aNil)))))
def b_law_names (F : Fs) (NW : Nat) : SM :=
  sSeq (sSet 2 (eBM "str" oSplit (eC (.str "width input set tell if else while turns below same unlike end")) (aCons (eC (.str " ")) (aNil)))) (sSeq (sSet 3 (eC (.str "abcdefghijklmnopqrstuvwxyz0123456789"))) (sSeq (sSet 4 (eLst (aNil))) (sSeq (sForI (iRange1 (aCons (eVar 1) (aNil))) (gN 5) (sSeq (sSet 6 (eOp oIx (eVar 3) (eCall 2 F.law_take (aCons (eVar 0) (aCons (eC (.int 26)) (aNil)))))) (sSeq (sForI (iRange1 (aCons (eCB oMin2 (aCons (eC (.int 5)) (aCons (eOp oAdd (eCall 2 F.law_take (aCons (eVar 0) (aCons (eC (.int 3)) (aNil)))) (eOp oDiv (eVar 5) (eC (.int 3)))) (aNil)))) (aNil))) (gN 7) (sSet 6 (eOp oAdd (eVar 6) (eOp oIx (eVar 3) (eCall 2 F.law_take (aCons (eVar 0) (aCons (eC (.int 36)) (aNil)))))))) (sSeq (sIf (bOr (bOf (eOp oIn (eVar 6) (eVar 2))) (bOf (eOp oIn (eVar 6) (eVar 4)))) (sSeq (sSet 8 (eLc (iSeq (eSl (eVar 3) none (some (eC (.int 26))))) (gN 9) (bYes) (eOp oAdd (eOp oAdd (eVar 9) (eCB oStrI (aCons (eVar 5) (aNil)))) (eC (.str "z"))) [9])) (sSet 6 (eOp oIx (eLc (iSeq (eVar 8)) (gN 10) (bOf (eOp oNotIn (eVar 10) (eVar 4))) (eVar 10) [10]) (eC (.int 0))))) (sNil)) (sExp (eBM "list" oAppend (eVar 4) (aCons (eVar 6) (aNil)))))))) (sRet (eVar 4)))))
def b_law_size (F : Fs) (NW : Nat) : SM :=
  sSeq (sSet 1 (eC (.int 1))) (sSeq (sForI (iRange1 (aCons (eVar 0) (aNil))) (gN 2) (sSet 1 (eOp oMul (eVar 1) (eC (.int 2))))) (sRet (eVar 1)))
def b_law_spread (F : Fs) (NW : Nat) : SM :=
  sSeq (sSet 3 (eDicT)) (sSeq (sForI (iRange1 (aCons (eCall 2 F.law_take (aCons (eVar 0) (aCons (eC (.int 4)) (aNil)))) (aNil))) (gN 4) (sSeq (sSet 5 (eCB oTuple (aCons (eCB oSortedA (aCons (eLc (iRange1 (aCons (eCall 2 F.law_take (aCons (eVar 0) (aCons (eC (.int 3)) (aNil)))) (aNil))) (gN 6) (bYes) (eCall 2 F.law_pick (aCons (eVar 0) (aCons (eVar 1) (aNil)))) [6]) (aNil))) (aNil)))) (sPutT (eOp oAdd (eC (.int 1)) (eCall 2 F.law_take (aCons (eVar 0) (aCons (eOp oSub (eCall 1 F.law_size (aCons (eVar 2) (aNil))) (eC (.int 1))) (aNil))))) (eVar 3) (eVar 5)))) (sRet (eCB oTuple (aCons (eLc (iSeq (eCB oSortedA (aCons (eVar 3) (aNil)))) (gN 5) (bYes) (eTup (aCons (eVar 5) (aCons (eOp oIxT (eVar 3) (eVar 5)) (aNil)))) [5]) (aNil)))))
def b_law_whole (F : Fs) (NW : Nat) : SM :=
  sSeq (sSet 2 (eC (.int 0))) (sSeq (sForI (iSeq (eVar 0)) (gT [gN 3, gN 4]) (sSeq (sForI (iSeq (eVar 3)) (gN 5) (sSet 4 (eOp oMul (eVar 4) (eOp oIx (eVar 1) (eVar 5))))) (sSet 2 (eOp oAdd (eVar 2) (eVar 4))))) (sRet (eVar 2)))
def b_law_all_worths (F : Fs) (NW : Nat) : SM :=
  sSeq (sSet 1 (eLst (aCons ((fun _ => newO (.dic []))) (aNil)))) (sSeq (sForI (iSeq (eVar 0)) (gT [gN 2, gN 3, gN 4]) (sSeq (sSet 5 (eLst (aNil))) (sSeq (sForI (iSeq (eVar 1)) (gN 6) (sForI (iRange1 (aCons (eCB oMin2 (aCons (eC (.int 4)) (aCons (eOp oAdd (eOp oSub (eVar 4) (eVar 3)) (eC (.int 1))) (aNil)))) (aNil))) (gN 7) (sSeq (sSet 8 (eCB oDict (aCons (eVar 6) (aNil)))) (sSeq (sPut (eOp oIx (eLst (aCons (eOp oAdd (eVar 3) (eVar 7)) (aCons (eVar 4) (aNil)))) (eCB oIntX (aCons (eOp oEq (eVar 7) (eC (.int 3))) (aNil)))) (eVar 8) (eVar 2)) (sExp (eBM "list" oAppend (eVar 5) (aCons (eVar 8) (aNil)))))))) (sSet 1 (eVar 5))))) (sRet (eVar 1)))
def b_law (F : Fs) (NW : Nat) : SM :=
  sSeq (sSet 1 (eCall 1 F.law_begun (aCons (eVar 0) (aNil)))) (sSeq (sForI (iRange1 (aCons (eOp oAdd (eC (.int 2)) (eCB oMin2 (aCons (eC (.int 30)) (aCons (eCB oLen (aCons (eVar 0) (aNil))) (aNil))))) (aNil))) (gN 2) (sSeq (sSet 3 (eCall 2 F.law_take (aCons (eVar 1) (aCons (eC (.int 5)) (aNil))))) (sSeq (sSet 4 (eCall 2 F.law_take (aCons (eVar 1) (aCons (eC (.int 3)) (aNil))))) (sSeq (sSet 5 (eOp oAdd (eC (.int 1)) (eCall 2 F.law_take (aCons (eVar 1) (aCons (eC (.int 24)) (aNil)))))) (sSeq (sSet 6 (eCall 1 F.law_size (aCons (eVar 5) (aNil)))) (sSeq (sSet 7 (eCB oSortedA (aCons (eCall 2 F.law_names (aCons (eVar 1) (aCons (eC (.int 4)) (aNil)))) (aNil)))) (sSeq (sSet 8 (eBM "list" oPopAt (eVar 7) (aCons (eCall 2 F.law_take (aCons (eVar 1) (aCons (eC (.int 4)) (aNil)))) (aNil)))) (sSeq (sSet 9 (eLst (aNil))) (sSeq (sForI (iSeq (eVar 7)) (gN 10) (sSeq (sSet 11 (eOp oMod (eCall 2 F.law_take (aCons (eVar 1) (aCons (eOp oIx (eLst (aCons (eVar 6) (aCons (eC (.int 3)) (aNil)))) (eCB oIntX (aCons (eOp oGt (eVar 4) (eC (.int 0))) (aNil)))) (aNil)))) (eVar 6))) (sExp (eBM "list" oAppend (eVar 9) (aCons (eTup (aCons (eVar 10) (aCons (eVar 11) (aCons (eCB oMin2 (aCons (eOp oSub (eVar 6) (eC (.int 1))) (aCons (eOp oAdd (eVar 11) (eOp oIx (eLst (aCons (eC (.int 0)) (aCons (eC (.int 1)) (aCons (eC (.int 3)) (aCons (eOp oSub (eVar 6) (eC (.int 1))) (aNil)))))) (eCall 2 F.law_take (aCons (eVar 1) (aCons (eC (.int 4)) (aNil)))))) (aNil)))) (aNil))))) (aNil)))))) (sSeq (sSet 12 (eCall 3 F.law_spread (aCons (eVar 1) (aCons (eVar 7) (aCons (eOp oIx (eLst (aCons (eVar 5) (aCons (eCB oMin2 (aCons (eVar 5) (aCons (eC (.int 2)) (aNil)))) (aNil)))) (eCB oIntX (aCons (eOp oGt (eVar 4) (eC (.int 0))) (aNil)))) (aNil)))))) (sSeq (sIf (bOf (eOp oEq (eVar 3) (eC (.int 0)))) (sSet 12 (eCB oTuple (aCons (eCB oSortedA (aCons (eOp oAdd (eLc (iSeq (eVar 12)) (gN 18) (bYes) (eVar 18) [18]) (eLst (aCons (eTup (aCons (eTup (aCons (eVar 8) (aNil))) (aCons (eC (.int 1)) (aNil)))) (aNil)))) (aNil))) (aNil)))) (sNil)) (sSeq (sSet 13 (eCB oRepr (aCons (eLst (aCons (eVar 12) (aCons (eVar 9) (aNil)))) (aNil)))) (sSeq (sSet 14 (eCall 3 F.span (aCons (eVar 12) (aCons (eCB oTuple (aCons (eVar 9) (aNil))) (aCons (eVar 5) (aNil)))))) (sSeq (sSet 15 (eCB oDict (aCons (eOp oAdd (eLc (iSeq (eVar 9)) (gN 18) (bYes) (eTup (aCons (eOp oIx (eVar 18) (eC (.int 0))) (aCons (eOp oIx (eVar 18) (eC (.int 2))) (aNil)))) [18]) (eLst (aCons (eTup (aCons (eVar 8) (aCons (eC (.int 0)) (aNil)))) (aNil)))) (aNil)))) (sSeq (sIf (bOr (bOf (eOp oEq (eVar 3) (eC (.int 0)))) (bOf (eOp oGe (eCall 2 F.law_whole (aCons (eVar 12) (aCons (eVar 15) (aNil)))) (eVar 6)))) (sIf (bOf (eOp oNotN (eVar 14) (eC .non))) (sRet (eC (.bl false))) (sNil)) (sSeq (sSet 16 (eLc (iSeq (eTup (aCons (eC (.int 1)) (aCons (eC (.int 2)) (aNil))))) (gN 19) (bYes) (eCall 2 F.law_whole (aCons (eVar 12) (aCons (eCB oDict (aCons (eLc (iSeq (eVar 9)) (gN 18) (bYes) (eTup (aCons (eOp oIx (eVar 18) (eC (.int 0))) (aCons (eOp oIx (eVar 18) (eVar 19)) (aNil)))) [18]) (aNil))) (aNil)))) [19])) (sSeq (sIf (bOr (bOf (eOp oNe (eCB oRepr (aCons (eVar 14) (aNil))) (eCB oRepr (aCons (eCB oTuple (aCons (eVar 16) (aNil))) (aNil))))) (bOf (eOp oNe (eCall 3 F.span (aCons (eVar 12) (aCons (eCB oTuple (aCons (eVar 9) (aNil))) (aCons (eVar 5) (aNil))))) (eVar 14)))) (sRet (eC (.bl false))) (sNil)) (sForI (iSeq (eCall 1 F.law_all_worths (aCons (eVar 9) (aNil)))) (gN 17) (sIf (bNot (bOf (eChain oLe oLe (eOp oIx (eVar 16) (eC (.int 0))) (eCall 2 F.law_whole (aCons (eVar 12) (aCons (eVar 17) (aNil)))) (eOp oIx (eVar 16) (eC (.int 1)))))) (sRet (eC (.bl false))) (sNil)))))) (sIf (bOf (eOp oNe (eCB oRepr (aCons (eLst (aCons (eVar 12) (aCons (eVar 9) (aNil)))) (aNil))) (eVar 13))) (sRet (eC (.bl false))) (sNil))))))))))))))))) (sRet (eC (.bl true))))
def stepF (NW : Nat) (F : Fs) : Fs where
  size_of := runDef 3 (b_size_of F NW)
  worth_of := runDef 6 (b_worth_of F NW)
  span := runDef 10 (b_span F NW)
  law_begun := runDef 2 (b_law_begun F NW)
  law_take := runDef 6 (b_law_take F NW)
  law_pick := runDef 2 (b_law_pick F NW)
  law_names := runDef 11 (b_law_names F NW)
  law_size := runDef 3 (b_law_size F NW)
  law_spread := runDef 7 (b_law_spread F NW)
  law_whole := runDef 6 (b_law_whole F NW)
  law_all_worths := runDef 9 (b_law_all_worths F NW)
  law := runDef 20 (b_law F NW)
def lev (NW : Nat) : Nat → Fs
  | 0 => ⟨fun _ => badM, fun _ => badM, fun _ => badM, fun _ => badM, fun _ => badM, fun _ => badM, fun _ => badM, fun _ => badM, fun _ => badM, fun _ => badM, fun _ => badM, fun _ => badM⟩
  | n + 1 => stepF NW (lev NW n)
/-! ### what the walk asks of the top -/
structure Tx (K : PySem.W.Frag) (w : World) (mg : Mg) : Prop where
  b_abs : mg "abs" = none
  b_all : mg "all" = none
  b_dict : mg "dict" = none
  b_int : mg "int" = none
  b_len : mg "len" = none
  b_min : mg "min" = none
  b_range : mg "range" = none
  b_repr : mg "repr" = none
  b_sorted : mg "sorted" = none
  b_str : mg "str" = none
  b_tuple : mg "tuple" = none
structure All (P : Program) (w : World) (K : PySem.W.Frag) (mg : Mg) (base : Heap) (k : Nat) (F : Fs) : Prop where
  size_of : Cal P w K mg base k "size_of" p_size_of F.size_of
  worth_of : Cal P w K mg base k "worth_of" p_worth_of F.worth_of
  span : Cal P w K mg base k "span" p_span F.span
  law_begun : Cal P w K mg base k "_law_begun" p_law_begun F.law_begun
  law_take : Cal P w K mg base k "_law_take" p_law_take F.law_take
  law_pick : Cal P w K mg base k "_law_pick" p_law_pick F.law_pick
  law_names : Cal P w K mg base k "_law_names" p_law_names F.law_names
  law_size : Cal P w K mg base k "_law_size" p_law_size F.law_size
  law_spread : Cal P w K mg base k "_law_spread" p_law_spread F.law_spread
  law_whole : Cal P w K mg base k "_law_whole" p_law_whole F.law_whole
  law_all_worths : Cal P w K mg base k "_law_all_worths" p_law_all_worths F.law_all_worths
  law : Cal P w K mg base k "law" p_law F.law
section
variable {P : Program} {w : World} {K : PySem.W.Frag} {mg : Mg} {base : Heap} {NW k : Nat} {F : Fs}
theorem ok_size_of (T : Tx K w mg) (A : All P w K mg base k F) {f : Addr} {fd : FuncData} (D : L2.Fun K "size_of" "size_of" s_size_of f fd) : FnS P w K mg base (k + 1) f fd p_size_of (runDef 3 (b_size_of F NW)) := by
  refine def_ok (N := n_size_of) D sc_size_of fun cdv A0 outer s H E hr hgd => ?_
  have tk : Takes (cxOf (L2.CX P w) P w K mg base n_size_of "size_of" (defScope s_size_of) f cdv A0 outer s H E) (fun cls d _ H => E cls d H) := takes_of rfl rfl rfl rfl
  have hpo : PassesOwn (model P w) (cxOf (L2.CX P w) P w K mg base n_size_of "size_of" (defScope s_size_of) f cdv A0 outer s H E).A (cxOf (L2.CX P w) P w K mg base n_size_of "size_of" (defScope s_size_of) f cdv A0 outer s H E).env (cxOf (L2.CX P w) P w K mg base n_size_of "size_of" (defScope s_size_of) f cdv A0 outer s H E).xe := passes_of rfl
  exact jss_cons (js_set (i := 1) sc_size_of.nd rfl (by first | exact Or.inl rfl | exact Or.inr rfl) (je_int))
      (jss_cons (js_for hpo rfl (ji_range1 (by rfl) T.b_range (ja_cons (jv 0) (ja_nil))) (jg_name (i := 2) sc_size_of.nd rfl (by first | exact Or.inl rfl | exact Or.inr rfl)) (jss_one (js_set (i := 1) sc_size_of.nd rfl (by first | exact Or.inl rfl | exact Or.inr rfl) (je_op ob_mul (jv 1) (je_int)))))
      (jss_one (js_ret (jv 1))))
theorem ok_worth_of (T : Tx K w mg) (A : All P w K mg base k F) {f : Addr} {fd : FuncData} (D : L2.Fun K "worth_of" "worth_of" s_worth_of f fd) : FnS P w K mg base (k + 1) f fd p_worth_of (runDef 6 (b_worth_of F NW)) := by
  refine def_ok (N := n_worth_of) D sc_worth_of fun cdv A0 outer s H E hr hgd => ?_
  have tk : Takes (cxOf (L2.CX P w) P w K mg base n_worth_of "worth_of" (defScope s_worth_of) f cdv A0 outer s H E) (fun cls d _ H => E cls d H) := takes_of rfl rfl rfl rfl
  have hpo : PassesOwn (model P w) (cxOf (L2.CX P w) P w K mg base n_worth_of "worth_of" (defScope s_worth_of) f cdv A0 outer s H E).A (cxOf (L2.CX P w) P w K mg base n_worth_of "worth_of" (defScope s_worth_of) f cdv A0 outer s H E).env (cxOf (L2.CX P w) P w K mg base n_worth_of "worth_of" (defScope s_worth_of) f cdv A0 outer s H E).xe := passes_of rfl
  exact jss_cons (js_set (i := 2) sc_worth_of.nd rfl (by first | exact Or.inl rfl | exact Or.inr rfl) (je_int))
      (jss_cons (js_for hpo rfl (ji_seq (jv 0)) (jg_tup rfl (jgs_cons (jg_name (i := 3) sc_worth_of.nd rfl (by first | exact Or.inl rfl | exact Or.inr rfl)) (jgs_cons (jg_name (i := 4) sc_worth_of.nd rfl (by first | exact Or.inl rfl | exact Or.inr rfl)) (jgs_nil)))) (jss_cons (js_for hpo rfl (ji_seq (jv 3)) (jg_name (i := 5) sc_worth_of.nd rfl (by first | exact Or.inl rfl | exact Or.inr rfl)) (jss_one (js_set (i := 4) sc_worth_of.nd rfl (by first | exact Or.inl rfl | exact Or.inr rfl) (je_op ob_mul (jv 4) (je_ix (hu_of hr) (jv 1) (jv 5))))))
      (jss_one (js_aug (i := 2) sc_worth_of.nd rfl (by first | exact Or.inl rfl | exact Or.inr rfl) (jv 4) ob_iaddx))))
      (jss_one (js_ret (jv 2))))
theorem ok_span (T : Tx K w mg) (A : All P w K mg base k F) {f : Addr} {fd : FuncData} (D : L2.Fun K "span" "span" s_span f fd) : FnS P w K mg base (k + 1) f fd p_span (runDef 10 (b_span F NW)) := by
  refine def_ok (N := n_span) D sc_span fun cdv A0 outer s H E hr hgd => ?_
  have tk : Takes (cxOf (L2.CX P w) P w K mg base n_span "span" (defScope s_span) f cdv A0 outer s H E) (fun cls d _ H => E cls d H) := takes_of rfl rfl rfl rfl
  have hpo : PassesOwn (model P w) (cxOf (L2.CX P w) P w K mg base n_span "span" (defScope s_span) f cdv A0 outer s H E).A (cxOf (L2.CX P w) P w K mg base n_span "span" (defScope s_span) f cdv A0 outer s H E).env (cxOf (L2.CX P w) P w K mg base n_span "span" (defScope s_span) f cdv A0 outer s H E).xe := passes_of rfl
  exact jss_cons (js_set (i := 3) sc_span.nd rfl (by first | exact Or.inl rfl | exact Or.inr rfl) (je_callTy (ct_dict rfl) (by rfl) T.b_dict (by decide +kernel) (ja_cons (je_lc0 (own := [("name", 7), ("low", 8), ("high", 9)]) rfl sc_span.nd (ji_seq (jv 1)) (blkOk_by (N := n_span) (sc := defScope s_span) (by decide +kernel)) (fun _ _ _ _ _ => jg_tup rfl (jgs_cons (jg_name (i := 7) sc_span.nd rfl (by first | exact Or.inl rfl | exact Or.inr rfl)) (jgs_cons (jg_name (i := 8) sc_span.nd rfl (by first | exact Or.inl rfl | exact Or.inr rfl)) (jgs_cons (jg_name (i := 9) sc_span.nd rfl (by first | exact Or.inl rfl | exact Or.inr rfl)) (jgs_nil)))))  (fun _ _ _ _ _ => blkE fun tk => je_tup (ja_cons (jv 7) (ja_cons (jv 8) (ja_nil)))) ) (ja_nil))))
      (jss_cons (js_set (i := 4) sc_span.nd rfl (by first | exact Or.inl rfl | exact Or.inr rfl) (je_callTy (ct_dict rfl) (by rfl) T.b_dict (by decide +kernel) (ja_cons (je_lc0 (own := [("name", 7), ("low", 8), ("high", 9)]) rfl sc_span.nd (ji_seq (jv 1)) (blkOk_by (N := n_span) (sc := defScope s_span) (by decide +kernel)) (fun _ _ _ _ _ => jg_tup rfl (jgs_cons (jg_name (i := 7) sc_span.nd rfl (by first | exact Or.inl rfl | exact Or.inr rfl)) (jgs_cons (jg_name (i := 8) sc_span.nd rfl (by first | exact Or.inl rfl | exact Or.inr rfl)) (jgs_cons (jg_name (i := 9) sc_span.nd rfl (by first | exact Or.inl rfl | exact Or.inr rfl)) (jgs_nil)))))  (fun _ _ _ _ _ => blkE fun tk => je_tup (ja_cons (jv 7) (ja_cons (jv 9) (ja_nil)))) ) (ja_nil))))
      (jss_cons (js_for hpo rfl (ji_seq (jv 0)) (jg_tup rfl (jgs_cons (jg_name (i := 5) sc_span.nd rfl (by first | exact Or.inl rfl | exact Or.inr rfl)) (jgs_cons (jg_name (i := 6) sc_span.nd rfl (by first | exact Or.inl rfl | exact Or.inr rfl)) (jgs_nil)))) (jss_one (js_if (jt_not (jt_val (je_callB (cb_all rfl) (by rfl) T.b_all (by decide +kernel) (ja_cons (je_lc0 (own := [("name", 7)]) rfl sc_span.nd (ji_seq (jv 5)) (blkOk_by (N := n_span) (sc := defScope s_span) (by decide +kernel)) (fun _ _ _ _ _ => jg_name (i := 7) sc_span.nd rfl (by first | exact Or.inl rfl | exact Or.inr rfl))  (fun _ _ _ _ _ => blkE fun tk => je_cmp (ob_inT (hu190 hr)) (jv 7) (jv 4) (by rfl)) ) (ja_nil))))) (jss_one (js_ret (je_non))) (jss_nil))))
      (jss_cons (js_if (jt_cmp ob_ge (je_c tk A.worth_of ⟨hr, hgd⟩ (by rfl) (ja_cons (jv 0) (ja_cons (jv 4) (ja_nil)))) (je_c tk A.size_of ⟨hr, hgd⟩ (by rfl) (ja_cons (jv 2) (ja_nil))) (nomark _)) (jss_one (js_ret (je_non))) (jss_nil))
      (jss_one (js_ret (je_tup (ja_cons (je_c tk A.worth_of ⟨hr, hgd⟩ (by rfl) (ja_cons (jv 0) (ja_cons (jv 3) (ja_nil)))) (ja_cons (je_c tk A.worth_of ⟨hr, hgd⟩ (by rfl) (ja_cons (jv 0) (ja_cons (jv 4) (ja_nil)))) (ja_nil)))))))))
theorem ok_law_begun (T : Tx K w mg) (A : All P w K mg base k F) {f : Addr} {fd : FuncData} (D : L2.Fun K "_law_begun" "_law_begun" s_law_begun f fd) : FnS P w K mg base (k + 1) f fd p_law_begun (runDef 2 (b_law_begun F NW)) := by
  refine def_ok (N := n_law_begun) D sc_law_begun fun cdv A0 outer s H E hr hgd => ?_
  have tk : Takes (cxOf (L2.CX P w) P w K mg base n_law_begun "_law_begun" (defScope s_law_begun) f cdv A0 outer s H E) (fun cls d _ H => E cls d H) := takes_of rfl rfl rfl rfl
  exact jss_one (js_ret (je_dic (jps_cons (je_str) (je_lc1 (own := [("_law_cell", 1)]) rfl sc_law_begun.nd (ji_seq (jv 0)) (blkOk_by (N := n_law_begun) (sc := defScope s_law_begun) (by decide +kernel)) (fun _ _ _ _ _ => jg_name (i := 1) sc_law_begun.nd rfl (by first | exact Or.inl rfl | exact Or.inr rfl)) (fun _ _ _ _ _ => blkT fun tk => jt_cmp ob_ge (jv 1) (je_op ob_pow (je_int) (je_int)) (nomark _)) (fun _ _ _ _ _ => blkE fun tk => jv 1) ) (jps_cons (je_str) (je_int) (jps_cons (je_str) (je_int) (jps_cons (je_str) (je_op ob_add (je_int) (je_callB cb_len (by rfl) T.b_len (by decide +kernel) (ja_cons (jv 0) (ja_nil)))) (jps_cons (je_str) (je_op ob_add (je_lc0 (own := [("_law_cell", 1)]) rfl sc_law_begun.nd (ji_seq (jv 0)) (blkOk_by (N := n_law_begun) (sc := defScope s_law_begun) (by decide +kernel)) (fun _ _ _ _ _ => jg_name (i := 1) sc_law_begun.nd rfl (by first | exact Or.inl rfl | exact Or.inr rfl))  (fun _ _ _ _ _ => blkE fun tk => je_op ob_mod (je_callB cb_abs (by rfl) T.b_abs (by decide +kernel) (ja_cons (jv 1) (ja_nil))) (je_op ob_pow (je_int) (je_int))) ) (je_lst (ja_cons (je_int) (ja_nil)))) (jps_nil))))))))
theorem ok_law_take (T : Tx K w mg) (A : All P w K mg base k F) {f : Addr} {fd : FuncData} (D : L2.Fun K "_law_take" "_law_take" s_law_take f fd) : FnS P w K mg base (k + 1) f fd p_law_take (runDef 6 (b_law_take F NW)) := by
  refine def_ok (N := n_law_take) D sc_law_take fun cdv A0 outer s H E hr hgd => ?_
  have tk : Takes (cxOf (L2.CX P w) P w K mg base n_law_take "_law_take" (defScope s_law_take) f cdv A0 outer s H E) (fun cls d _ H => E cls d H) := takes_of rfl rfl rfl rfl
  exact jss_cons (js_if (jw_pt (jw_and (jt_cmp (ob_eq (hu190 hr)) (je_ix (hu_of hr) (jv 0) (je_str)) (je_int) (nomark _)) (jw_and1 (jt_cmp (ob_ne (hu190 hr)) (je_ix (hu_of hr) (jv 0) (je_str)) (je_lst (ja_nil)) (nomark _))))) (jss_one (js_put (hu_of hr) (je_bm PySem.F.plainAttrs_list PySem.F.slot_list_pop PySem.F.type_list_pop om_popAt (je_ix (hu_of hr) (jv 0) (je_str)) (ja_cons (je_int) (ja_nil))) (jv 0) (je_str))) (jss_nil))
      (jss_cons (js_if (jt_cmp ob_gt (je_ix (hu_of hr) (jv 0) (je_str)) (je_int) (nomark _)) (jss_cons (js_set (i := 2) sc_law_take.nd rfl (by first | exact Or.inl rfl | exact Or.inr rfl) (je_op ob_mod (je_ix (hu_of hr) (jv 0) (je_str)) (jv 1)))
      (jss_cons (js_put (hu_of hr) (je_op ob_div (je_ix (hu_of hr) (jv 0) (je_str)) (jv 1)) (jv 0) (je_str))
      (jss_one (js_ret (jv 2))))) (jss_nil))
      (jss_cons (js_set (i := 3) sc_law_take.nd rfl (by first | exact Or.inl rfl | exact Or.inr rfl) (je_ix (hu_of hr) (jv 0) (je_str)))
      (jss_cons (js_put (hu_of hr) (je_op ob_add (jv 3) (je_int)) (jv 0) (je_str))
      (jss_cons (js_set (i := 4) sc_law_take.nd rfl (by first | exact Or.inl rfl | exact Or.inr rfl) (je_ix (hu_of hr) (je_ix (hu_of hr) (jv 0) (je_str)) (je_op ob_mod (jv 3) (je_callB cb_len (by rfl) T.b_len (by decide +kernel) (ja_cons (je_ix (hu_of hr) (jv 0) (je_str)) (ja_nil))))))
      (jss_cons (js_set (i := 5) sc_law_take.nd rfl (by first | exact Or.inl rfl | exact Or.inr rfl) (je_op ob_add (je_op ob_mul (je_ix (hu_of hr) (jv 0) (je_str)) (je_int)) (je_op ob_mul (jv 4) (je_op ob_add (je_op ob_mul (je_int) (jv 3)) (je_int)))))
      (jss_cons (js_put (hu_of hr) (je_op ob_mod (je_op ob_add (je_op ob_add (jv 5) (je_op ob_pow (jv 3) (je_int))) (je_int)) (je_int)) (jv 0) (je_str))
      (jss_one (js_ret (je_op ob_mod (je_op ob_mod (je_op ob_pow (je_ix (hu_of hr) (jv 0) (je_str)) (je_int)) (je_int)) (jv 1))))))))))
theorem ok_law_pick (T : Tx K w mg) (A : All P w K mg base k F) {f : Addr} {fd : FuncData} (D : L2.Fun K "_law_pick" "_law_pick" s_law_pick f fd) : FnS P w K mg base (k + 1) f fd p_law_pick (runDef 2 (b_law_pick F NW)) := by
  refine def_ok (N := n_law_pick) D sc_law_pick fun cdv A0 outer s H E hr hgd => ?_
  have tk : Takes (cxOf (L2.CX P w) P w K mg base n_law_pick "_law_pick" (defScope s_law_pick) f cdv A0 outer s H E) (fun cls d _ H => E cls d H) := takes_of rfl rfl rfl rfl
  exact jss_one (js_ret (je_ix (hu_of hr) (jv 1) (je_c tk A.law_take ⟨hr, hgd⟩ (by rfl) (ja_cons (jv 0) (ja_cons (je_callB cb_len (by rfl) T.b_len (by decide +kernel) (ja_cons (jv 1) (ja_nil))) (ja_nil))))))
theorem ok_law_names (T : Tx K w mg) (A : All P w K mg base k F) {f : Addr} {fd : FuncData} (D : L2.Fun K "_law_names" "_law_names" s_law_names f fd) : FnS P w K mg base (k + 1) f fd p_law_names (runDef 11 (b_law_names F NW)) := by
  refine def_ok (N := n_law_names) D sc_law_names fun cdv A0 outer s H E hr hgd => ?_
  have tk : Takes (cxOf (L2.CX P w) P w K mg base n_law_names "_law_names" (defScope s_law_names) f cdv A0 outer s H E) (fun cls d _ H => E cls d H) := takes_of rfl rfl rfl rfl
  have hpo : PassesOwn (model P w) (cxOf (L2.CX P w) P w K mg base n_law_names "_law_names" (defScope s_law_names) f cdv A0 outer s H E).A (cxOf (L2.CX P w) P w K mg base n_law_names "_law_names" (defScope s_law_names) f cdv A0 outer s H E).env (cxOf (L2.CX P w) P w K mg base n_law_names "_law_names" (defScope s_law_names) f cdv A0 outer s H E).xe := passes_of rfl
  exact jss_cons (js_set (i := 2) sc_law_names.nd rfl (by first | exact Or.inl rfl | exact Or.inr rfl) (je_bm PySem.F.plainAttrs_str PySem.F.slot_str_split PySem.F.type_str_split om_split (je_str) (ja_cons (je_str) (ja_nil))))
      (jss_cons (js_set (i := 3) sc_law_names.nd rfl (by first | exact Or.inl rfl | exact Or.inr rfl) (je_str))
      (jss_cons (js_set (i := 4) sc_law_names.nd rfl (by first | exact Or.inl rfl | exact Or.inr rfl) (je_lst (ja_nil)))
      (jss_cons (js_for hpo rfl (ji_range1 (by rfl) T.b_range (ja_cons (jv 1) (ja_nil))) (jg_name (i := 5) sc_law_names.nd rfl (by first | exact Or.inl rfl | exact Or.inr rfl)) (jss_cons (js_set (i := 6) sc_law_names.nd rfl (by first | exact Or.inl rfl | exact Or.inr rfl) (je_ix (hu_of hr) (jv 3) (je_c tk A.law_take ⟨hr, hgd⟩ (by rfl) (ja_cons (jv 0) (ja_cons (je_int) (ja_nil))))))
      (jss_cons (js_for hpo rfl (ji_range1 (by rfl) T.b_range (ja_cons (je_callB (cb_min2 rfl) (by rfl) T.b_min (by decide +kernel) (ja_cons (je_int) (ja_cons (je_op ob_add (je_c tk A.law_take ⟨hr, hgd⟩ (by rfl) (ja_cons (jv 0) (ja_cons (je_int) (ja_nil)))) (je_op ob_div (jv 5) (je_int))) (ja_nil)))) (ja_nil))) (jg_name (i := 7) sc_law_names.nd rfl (by first | exact Or.inl rfl | exact Or.inr rfl)) (jss_one (js_set (i := 6) sc_law_names.nd rfl (by first | exact Or.inl rfl | exact Or.inr rfl) (je_op ob_add (jv 6) (je_ix (hu_of hr) (jv 3) (je_c tk A.law_take ⟨hr, hgd⟩ (by rfl) (ja_cons (jv 0) (ja_cons (je_int) (ja_nil)))))))))
      (jss_cons (js_if (jw_pt (jw_or (jt_cmp ob_in (jv 6) (jv 2) (by rfl)) (jw_or1 (jt_cmp ob_in (jv 6) (jv 4) (by rfl))))) (jss_cons (js_setLc0 (i := 8) (own := [("_law_letter", 9)]) rfl sc_law_names.nd rfl rfl (sw_true rfl rfl rfl (by decide +kernel)) (ji_seq (je_slice (jv 3) (jo_none) (jo_some (je_int)))) (blkOk_by (N := n_law_names) (sc := defScope s_law_names) (by decide +kernel)) (fun _ _ _ _ _ => jg_name (i := 9) sc_law_names.nd rfl (by first | exact Or.inl rfl | exact Or.inr rfl))  (fun _ _ _ _ _ => blkE fun tk => je_op ob_add (je_op ob_add (jv 9) (je_callTy ct_strI (by rfl) T.b_str (by decide +kernel) (ja_cons (jv 5) (ja_nil)))) (je_str)) )
      (jss_one (js_set (i := 6) sc_law_names.nd rfl (by first | exact Or.inl rfl | exact Or.inr rfl) (je_ix (hu_of hr) (je_lc1 (own := [("_law_other", 10)]) rfl sc_law_names.nd (ji_seq (jv 8)) (blkOk_by (N := n_law_names) (sc := defScope s_law_names) (by decide +kernel)) (fun _ _ _ _ _ => jg_name (i := 10) sc_law_names.nd rfl (by first | exact Or.inl rfl | exact Or.inr rfl)) (fun _ _ _ _ _ => blkT fun tk => jt_cmp ob_notIn (jv 10) (jv 4) (by rfl)) (fun _ _ _ _ _ => blkE fun tk => jv 10) ) (je_int))))) (jss_nil))
      (jss_one (js_expr (je_bm PySem.F.plainAttrs_list PySem.F.slot_list_append PySem.F.type_list_append om_append (jv 4) (ja_cons (jv 6) (ja_nil)))))))))
      (jss_one (js_ret (jv 4))))))
theorem ok_law_size (T : Tx K w mg) (A : All P w K mg base k F) {f : Addr} {fd : FuncData} (D : L2.Fun K "_law_size" "_law_size" s_law_size f fd) : FnS P w K mg base (k + 1) f fd p_law_size (runDef 3 (b_law_size F NW)) := by
  refine def_ok (N := n_law_size) D sc_law_size fun cdv A0 outer s H E hr hgd => ?_
  have tk : Takes (cxOf (L2.CX P w) P w K mg base n_law_size "_law_size" (defScope s_law_size) f cdv A0 outer s H E) (fun cls d _ H => E cls d H) := takes_of rfl rfl rfl rfl
  have hpo : PassesOwn (model P w) (cxOf (L2.CX P w) P w K mg base n_law_size "_law_size" (defScope s_law_size) f cdv A0 outer s H E).A (cxOf (L2.CX P w) P w K mg base n_law_size "_law_size" (defScope s_law_size) f cdv A0 outer s H E).env (cxOf (L2.CX P w) P w K mg base n_law_size "_law_size" (defScope s_law_size) f cdv A0 outer s H E).xe := passes_of rfl
  exact jss_cons (js_set (i := 1) sc_law_size.nd rfl (by first | exact Or.inl rfl | exact Or.inr rfl) (je_int))
      (jss_cons (js_for hpo rfl (ji_range1 (by rfl) T.b_range (ja_cons (jv 0) (ja_nil))) (jg_name (i := 2) sc_law_size.nd rfl (by first | exact Or.inl rfl | exact Or.inr rfl)) (jss_one (js_set (i := 1) sc_law_size.nd rfl (by first | exact Or.inl rfl | exact Or.inr rfl) (je_op ob_mul (jv 1) (je_int)))))
      (jss_one (js_ret (jv 1))))
theorem ok_law_spread (T : Tx K w mg) (A : All P w K mg base k F) {f : Addr} {fd : FuncData} (D : L2.Fun K "_law_spread" "_law_spread" s_law_spread f fd) : FnS P w K mg base (k + 1) f fd p_law_spread (runDef 7 (b_law_spread F NW)) := by
  refine def_ok (N := n_law_spread) D sc_law_spread fun cdv A0 outer s H E hr hgd => ?_
  have tk : Takes (cxOf (L2.CX P w) P w K mg base n_law_spread "_law_spread" (defScope s_law_spread) f cdv A0 outer s H E) (fun cls d _ H => E cls d H) := takes_of rfl rfl rfl rfl
  have hpo : PassesOwn (model P w) (cxOf (L2.CX P w) P w K mg base n_law_spread "_law_spread" (defScope s_law_spread) f cdv A0 outer s H E).A (cxOf (L2.CX P w) P w K mg base n_law_spread "_law_spread" (defScope s_law_spread) f cdv A0 outer s H E).env (cxOf (L2.CX P w) P w K mg base n_law_spread "_law_spread" (defScope s_law_spread) f cdv A0 outer s H E).xe := passes_of rfl
  exact jss_cons (js_set (i := 3) sc_law_spread.nd rfl (by first | exact Or.inl rfl | exact Or.inr rfl) (je_dit0))
      (jss_cons (js_for hpo rfl (ji_range1 (by rfl) T.b_range (ja_cons (je_c tk A.law_take ⟨hr, hgd⟩ (by rfl) (ja_cons (jv 0) (ja_cons (je_int) (ja_nil)))) (ja_nil))) (jg_name (i := 4) sc_law_spread.nd rfl (by first | exact Or.inl rfl | exact Or.inr rfl)) (jss_cons (js_set (i := 5) sc_law_spread.nd rfl (by first | exact Or.inl rfl | exact Or.inr rfl) (je_callTy ct_tuple (by rfl) T.b_tuple (by decide +kernel) (ja_cons (je_callB (cb_sortedA rfl (hu190 hr)) (by rfl) T.b_sorted (by decide +kernel) (ja_cons (je_lc0 (own := [("_law_turn", 6)]) rfl sc_law_spread.nd (ji_range1 (by rfl) T.b_range (ja_cons (je_c tk A.law_take ⟨hr, hgd⟩ (by rfl) (ja_cons (jv 0) (ja_cons (je_int) (ja_nil)))) (ja_nil))) (blkOk_by (N := n_law_spread) (sc := defScope s_law_spread) (by decide +kernel)) (fun _ _ _ _ _ => jg_name (i := 6) sc_law_spread.nd rfl (by first | exact Or.inl rfl | exact Or.inr rfl))  (fun _ _ _ _ _ => blkE fun tk => je_c tk A.law_pick ⟨hr, hgd⟩ (by rfl) (ja_cons (jv 0) (ja_cons (jv 1) (ja_nil)))) ) (ja_nil))) (ja_nil))))
      (jss_one (js_putT (hu_of hr) (je_op ob_add (je_int) (je_c tk A.law_take ⟨hr, hgd⟩ (by rfl) (ja_cons (jv 0) (ja_cons (je_op ob_sub (je_c tk A.law_size ⟨hr, hgd⟩ (by rfl) (ja_cons (jv 2) (ja_nil))) (je_int)) (ja_nil))))) (jv 3) (jv 5)))))
      (jss_one (js_ret (je_callTy ct_tuple (by rfl) T.b_tuple (by decide +kernel) (ja_cons (je_lc0 (own := [("_law_some", 5)]) rfl sc_law_spread.nd (ji_seq (je_callB (cb_sortedA rfl (hu190 hr)) (by rfl) T.b_sorted (by decide +kernel) (ja_cons (jv 3) (ja_nil)))) (blkOk_by (N := n_law_spread) (sc := defScope s_law_spread) (by decide +kernel)) (fun _ _ _ _ _ => jg_name (i := 5) sc_law_spread.nd rfl (by first | exact Or.inl rfl | exact Or.inr rfl))  (fun _ _ _ _ _ => blkE fun tk => je_tup (ja_cons (jv 5) (ja_cons (je_ixT (hu_of hr) (jv 3) (jv 5)) (ja_nil)))) ) (ja_nil))))))
theorem ok_law_whole (T : Tx K w mg) (A : All P w K mg base k F) {f : Addr} {fd : FuncData} (D : L2.Fun K "_law_whole" "_law_whole" s_law_whole f fd) : FnS P w K mg base (k + 1) f fd p_law_whole (runDef 6 (b_law_whole F NW)) := by
  refine def_ok (N := n_law_whole) D sc_law_whole fun cdv A0 outer s H E hr hgd => ?_
  have tk : Takes (cxOf (L2.CX P w) P w K mg base n_law_whole "_law_whole" (defScope s_law_whole) f cdv A0 outer s H E) (fun cls d _ H => E cls d H) := takes_of rfl rfl rfl rfl
  have hpo : PassesOwn (model P w) (cxOf (L2.CX P w) P w K mg base n_law_whole "_law_whole" (defScope s_law_whole) f cdv A0 outer s H E).A (cxOf (L2.CX P w) P w K mg base n_law_whole "_law_whole" (defScope s_law_whole) f cdv A0 outer s H E).env (cxOf (L2.CX P w) P w K mg base n_law_whole "_law_whole" (defScope s_law_whole) f cdv A0 outer s H E).xe := passes_of rfl
  exact jss_cons (js_set (i := 2) sc_law_whole.nd rfl (by first | exact Or.inl rfl | exact Or.inr rfl) (je_int))
      (jss_cons (js_for hpo rfl (ji_seq (jv 0)) (jg_tup rfl (jgs_cons (jg_name (i := 3) sc_law_whole.nd rfl (by first | exact Or.inl rfl | exact Or.inr rfl)) (jgs_cons (jg_name (i := 4) sc_law_whole.nd rfl (by first | exact Or.inl rfl | exact Or.inr rfl)) (jgs_nil)))) (jss_cons (js_for hpo rfl (ji_seq (jv 3)) (jg_name (i := 5) sc_law_whole.nd rfl (by first | exact Or.inl rfl | exact Or.inr rfl)) (jss_one (js_set (i := 4) sc_law_whole.nd rfl (by first | exact Or.inl rfl | exact Or.inr rfl) (je_op ob_mul (jv 4) (je_ix (hu_of hr) (jv 1) (jv 5))))))
      (jss_one (js_set (i := 2) sc_law_whole.nd rfl (by first | exact Or.inl rfl | exact Or.inr rfl) (je_op ob_add (jv 2) (jv 4))))))
      (jss_one (js_ret (jv 2))))
theorem ok_law_all_worths (T : Tx K w mg) (A : All P w K mg base k F) {f : Addr} {fd : FuncData} (D : L2.Fun K "_law_all_worths" "_law_all_worths" s_law_all_worths f fd) : FnS P w K mg base (k + 1) f fd p_law_all_worths (runDef 9 (b_law_all_worths F NW)) := by
  refine def_ok (N := n_law_all_worths) D sc_law_all_worths fun cdv A0 outer s H E hr hgd => ?_
  have tk : Takes (cxOf (L2.CX P w) P w K mg base n_law_all_worths "_law_all_worths" (defScope s_law_all_worths) f cdv A0 outer s H E) (fun cls d _ H => E cls d H) := takes_of rfl rfl rfl rfl
  have hpo : PassesOwn (model P w) (cxOf (L2.CX P w) P w K mg base n_law_all_worths "_law_all_worths" (defScope s_law_all_worths) f cdv A0 outer s H E).A (cxOf (L2.CX P w) P w K mg base n_law_all_worths "_law_all_worths" (defScope s_law_all_worths) f cdv A0 outer s H E).env (cxOf (L2.CX P w) P w K mg base n_law_all_worths "_law_all_worths" (defScope s_law_all_worths) f cdv A0 outer s H E).xe := passes_of rfl
  exact jss_cons (js_set (i := 1) sc_law_all_worths.nd rfl (by first | exact Or.inl rfl | exact Or.inr rfl) (je_lst (ja_cons (je_dic0) (ja_nil))))
      (jss_cons (js_for hpo rfl (ji_seq (jv 0)) (jg_tup rfl (jgs_cons (jg_name (i := 2) sc_law_all_worths.nd rfl (by first | exact Or.inl rfl | exact Or.inr rfl)) (jgs_cons (jg_name (i := 3) sc_law_all_worths.nd rfl (by first | exact Or.inl rfl | exact Or.inr rfl)) (jgs_cons (jg_name (i := 4) sc_law_all_worths.nd rfl (by first | exact Or.inl rfl | exact Or.inr rfl)) (jgs_nil))))) (jss_cons (js_set (i := 5) sc_law_all_worths.nd rfl (by first | exact Or.inl rfl | exact Or.inr rfl) (je_lst (ja_nil)))
      (jss_cons (js_for hpo rfl (ji_seq (jv 1)) (jg_name (i := 6) sc_law_all_worths.nd rfl (by first | exact Or.inl rfl | exact Or.inr rfl)) (jss_one (js_for hpo rfl (ji_range1 (by rfl) T.b_range (ja_cons (je_callB (cb_min2 rfl) (by rfl) T.b_min (by decide +kernel) (ja_cons (je_int) (ja_cons (je_op ob_add (je_op ob_sub (jv 4) (jv 3)) (je_int)) (ja_nil)))) (ja_nil))) (jg_name (i := 7) sc_law_all_worths.nd rfl (by first | exact Or.inl rfl | exact Or.inr rfl)) (jss_cons (js_set (i := 8) sc_law_all_worths.nd rfl (by first | exact Or.inl rfl | exact Or.inr rfl) (je_callTy (ct_dict rfl) (by rfl) T.b_dict (by decide +kernel) (ja_cons (jv 6) (ja_nil))))
      (jss_cons (js_put (hu_of hr) (je_ix (hu_of hr) (je_lst (ja_cons (je_op ob_add (jv 3) (jv 7)) (ja_cons (jv 4) (ja_nil)))) (je_callTy ct_intX (by rfl) T.b_int (by decide +kernel) (ja_cons (je_cmp (ob_eq (hu190 hr)) (jv 7) (je_int) (nomark _)) (ja_nil)))) (jv 8) (jv 2))
      (jss_one (js_expr (je_bm PySem.F.plainAttrs_list PySem.F.slot_list_append PySem.F.type_list_append om_append (jv 5) (ja_cons (jv 8) (ja_nil))))))))))
      (jss_one (js_set (i := 1) sc_law_all_worths.nd rfl (by first | exact Or.inl rfl | exact Or.inr rfl) (jv 5))))))
      (jss_one (js_ret (jv 1))))
theorem ok_law (T : Tx K w mg) (A : All P w K mg base k F) {f : Addr} {fd : FuncData} (D : L2.Fun K "law" "law" s_law f fd) : FnS P w K mg base (k + 1) f fd p_law (runDef 20 (b_law F NW)) := by
  refine def_ok (N := n_law) D sc_law fun cdv A0 outer s H E hr hgd => ?_
  have tk : Takes (cxOf (L2.CX P w) P w K mg base n_law "law" (defScope s_law) f cdv A0 outer s H E) (fun cls d _ H => E cls d H) := takes_of rfl rfl rfl rfl
  have hpo : PassesOwn (model P w) (cxOf (L2.CX P w) P w K mg base n_law "law" (defScope s_law) f cdv A0 outer s H E).A (cxOf (L2.CX P w) P w K mg base n_law "law" (defScope s_law) f cdv A0 outer s H E).env (cxOf (L2.CX P w) P w K mg base n_law "law" (defScope s_law) f cdv A0 outer s H E).xe := passes_of rfl
  exact jss_cons (js_set (i := 1) sc_law.nd rfl (by first | exact Or.inl rfl | exact Or.inr rfl) (je_c tk A.law_begun ⟨hr, hgd⟩ (by rfl) (ja_cons (jv 0) (ja_nil))))
      (jss_cons (js_for hpo rfl (ji_range1 (by rfl) T.b_range (ja_cons (je_op ob_add (je_int) (je_callB (cb_min2 rfl) (by rfl) T.b_min (by decide +kernel) (ja_cons (je_int) (ja_cons (je_callB cb_len (by rfl) T.b_len (by decide +kernel) (ja_cons (jv 0) (ja_nil))) (ja_nil))))) (ja_nil))) (jg_name (i := 2) sc_law.nd rfl (by first | exact Or.inl rfl | exact Or.inr rfl)) (jss_cons (js_set (i := 3) sc_law.nd rfl (by first | exact Or.inl rfl | exact Or.inr rfl) (je_c tk A.law_take ⟨hr, hgd⟩ (by rfl) (ja_cons (jv 1) (ja_cons (je_int) (ja_nil)))))
      (jss_cons (js_set (i := 4) sc_law.nd rfl (by first | exact Or.inl rfl | exact Or.inr rfl) (je_c tk A.law_take ⟨hr, hgd⟩ (by rfl) (ja_cons (jv 1) (ja_cons (je_int) (ja_nil)))))
      (jss_cons (js_set (i := 5) sc_law.nd rfl (by first | exact Or.inl rfl | exact Or.inr rfl) (je_op ob_add (je_int) (je_c tk A.law_take ⟨hr, hgd⟩ (by rfl) (ja_cons (jv 1) (ja_cons (je_int) (ja_nil))))))
      (jss_cons (js_set (i := 6) sc_law.nd rfl (by first | exact Or.inl rfl | exact Or.inr rfl) (je_c tk A.law_size ⟨hr, hgd⟩ (by rfl) (ja_cons (jv 5) (ja_nil))))
      (jss_cons (js_set (i := 7) sc_law.nd rfl (by first | exact Or.inl rfl | exact Or.inr rfl) (je_callB (cb_sortedA rfl (hu190 hr)) (by rfl) T.b_sorted (by decide +kernel) (ja_cons (je_c tk A.law_names ⟨hr, hgd⟩ (by rfl) (ja_cons (jv 1) (ja_cons (je_int) (ja_nil)))) (ja_nil))))
      (jss_cons (js_set (i := 8) sc_law.nd rfl (by first | exact Or.inl rfl | exact Or.inr rfl) (je_bm PySem.F.plainAttrs_list PySem.F.slot_list_pop PySem.F.type_list_pop om_popAt (jv 7) (ja_cons (je_c tk A.law_take ⟨hr, hgd⟩ (by rfl) (ja_cons (jv 1) (ja_cons (je_int) (ja_nil)))) (ja_nil))))
      (jss_cons (js_set (i := 9) sc_law.nd rfl (by first | exact Or.inl rfl | exact Or.inr rfl) (je_lst (ja_nil)))
      (jss_cons (js_for hpo rfl (ji_seq (jv 7)) (jg_name (i := 10) sc_law.nd rfl (by first | exact Or.inl rfl | exact Or.inr rfl)) (jss_cons (js_set (i := 11) sc_law.nd rfl (by first | exact Or.inl rfl | exact Or.inr rfl) (je_op ob_mod (je_c tk A.law_take ⟨hr, hgd⟩ (by rfl) (ja_cons (jv 1) (ja_cons (je_ix (hu_of hr) (je_lst (ja_cons (jv 6) (ja_cons (je_int) (ja_nil)))) (je_callTy ct_intX (by rfl) T.b_int (by decide +kernel) (ja_cons (je_cmp ob_gt (jv 4) (je_int) (nomark _)) (ja_nil)))) (ja_nil)))) (jv 6)))
      (jss_one (js_expr (je_bm PySem.F.plainAttrs_list PySem.F.slot_list_append PySem.F.type_list_append om_append (jv 9) (ja_cons (je_tup (ja_cons (jv 10) (ja_cons (jv 11) (ja_cons (je_callB (cb_min2 rfl) (by rfl) T.b_min (by decide +kernel) (ja_cons (je_op ob_sub (jv 6) (je_int)) (ja_cons (je_op ob_add (jv 11) (je_ix (hu_of hr) (je_lst (ja_cons (je_int) (ja_cons (je_int) (ja_cons (je_int) (ja_cons (je_op ob_sub (jv 6) (je_int)) (ja_nil)))))) (je_c tk A.law_take ⟨hr, hgd⟩ (by rfl) (ja_cons (jv 1) (ja_cons (je_int) (ja_nil)))))) (ja_nil)))) (ja_nil))))) (ja_nil)))))))
      (jss_cons (js_set (i := 12) sc_law.nd rfl (by first | exact Or.inl rfl | exact Or.inr rfl) (je_c tk A.law_spread ⟨hr, hgd⟩ (by rfl) (ja_cons (jv 1) (ja_cons (jv 7) (ja_cons (je_ix (hu_of hr) (je_lst (ja_cons (jv 5) (ja_cons (je_callB (cb_min2 rfl) (by rfl) T.b_min (by decide +kernel) (ja_cons (jv 5) (ja_cons (je_int) (ja_nil)))) (ja_nil)))) (je_callTy ct_intX (by rfl) T.b_int (by decide +kernel) (ja_cons (je_cmp ob_gt (jv 4) (je_int) (nomark _)) (ja_nil)))) (ja_nil))))))
      (jss_cons (js_if (jt_cmp (ob_eq (hu190 hr)) (jv 3) (je_int) (nomark _)) (jss_one (js_set (i := 12) sc_law.nd rfl (by first | exact Or.inl rfl | exact Or.inr rfl) (je_callTy ct_tuple (by rfl) T.b_tuple (by decide +kernel) (ja_cons (je_callB (cb_sortedA rfl (hu190 hr)) (by rfl) T.b_sorted (by decide +kernel) (ja_cons (je_op ob_add (je_lc0 (own := [("_law_one", 18)]) rfl sc_law.nd (ji_seq (jv 12)) (blkOk_by (N := n_law) (sc := defScope s_law) (by decide +kernel)) (fun _ _ _ _ _ => jg_name (i := 18) sc_law.nd rfl (by first | exact Or.inl rfl | exact Or.inr rfl))  (fun _ _ _ _ _ => blkE fun tk => jv 18) ) (je_lst (ja_cons (je_tup (ja_cons (je_tup (ja_cons (jv 8) (ja_nil))) (ja_cons (je_int) (ja_nil)))) (ja_nil)))) (ja_nil))) (ja_nil))))) (jss_nil))
      (jss_cons (js_set (i := 13) sc_law.nd rfl (by first | exact Or.inl rfl | exact Or.inr rfl) (je_callB (cb_repr hgd (hu190 hr)) (by rfl) T.b_repr (by decide +kernel) (ja_cons (je_lst (ja_cons (jv 12) (ja_cons (jv 9) (ja_nil)))) (ja_nil))))
      (jss_cons (js_set (i := 14) sc_law.nd rfl (by first | exact Or.inl rfl | exact Or.inr rfl) (je_c tk A.span ⟨hr, hgd⟩ (by rfl) (ja_cons (jv 12) (ja_cons (je_callTy ct_tuple (by rfl) T.b_tuple (by decide +kernel) (ja_cons (jv 9) (ja_nil))) (ja_cons (jv 5) (ja_nil))))))
      (jss_cons (js_set (i := 15) sc_law.nd rfl (by first | exact Or.inl rfl | exact Or.inr rfl) (je_callTy (ct_dict rfl) (by rfl) T.b_dict (by decide +kernel) (ja_cons (je_op ob_add (je_lc0 (own := [("_law_one", 18)]) rfl sc_law.nd (ji_seq (jv 9)) (blkOk_by (N := n_law) (sc := defScope s_law) (by decide +kernel)) (fun _ _ _ _ _ => jg_name (i := 18) sc_law.nd rfl (by first | exact Or.inl rfl | exact Or.inr rfl))  (fun _ _ _ _ _ => blkE fun tk => je_tup (ja_cons (je_ix (hu_of hr) (jv 18) (je_int)) (ja_cons (je_ix (hu_of hr) (jv 18) (je_int)) (ja_nil)))) ) (je_lst (ja_cons (je_tup (ja_cons (jv 8) (ja_cons (je_int) (ja_nil)))) (ja_nil)))) (ja_nil))))
      (jss_cons (js_if (jw_pt (jw_or (jt_cmp (ob_eq (hu190 hr)) (jv 3) (je_int) (nomark _)) (jw_or1 (jt_cmp ob_ge (je_c tk A.law_whole ⟨hr, hgd⟩ (by rfl) (ja_cons (jv 12) (ja_cons (jv 15) (ja_nil)))) (jv 6) (nomark _))))) (jss_one (js_if (jt_cmp ob_notN (jv 14) (je_non) (nomark _)) (jss_one (js_ret (je_bl))) (jss_nil))) (jss_cons (js_setLc0 (i := 16) (own := [("_law_k", 19)]) rfl sc_law.nd rfl rfl (sw_true rfl rfl rfl (by decide +kernel)) (ji_seq (je_tup (ja_cons (je_int) (ja_cons (je_int) (ja_nil))))) (blkOk_by (N := n_law) (sc := defScope s_law) (by decide +kernel)) (fun _ _ _ _ _ => jg_name (i := 19) sc_law.nd rfl (by first | exact Or.inl rfl | exact Or.inr rfl))  (fun _ _ _ _ _ => blkE fun tk => je_c tk A.law_whole ⟨hr, hgd⟩ (by rfl) (ja_cons (jv 12) (ja_cons (je_callTy (ct_dict rfl) (by rfl) T.b_dict (by decide +kernel) (ja_cons (je_lc0 (own := [("_law_one", 18)]) rfl sc_law.nd (ji_seq (jv 9)) (by dsimp only [compEnvC]; exact blkOk_in (N := n_law) (outer := defScope s_law) rfl (by decide +kernel)) (fun _ _ _ _ _ => jg_name (i := 18) sc_law.nd rfl (by first | exact Or.inl rfl | exact Or.inr rfl))  (fun _ _ _ _ _ => blkE fun tk => je_tup (ja_cons (je_ix (hu_of hr) (jv 18) (je_int)) (ja_cons (je_ix (hu_of hr) (jv 18) (jv 19)) (ja_nil)))) ) (ja_nil))) (ja_nil)))) )
      (jss_cons (js_if (jw_pt (jw_or (jt_cmp (ob_ne (hu190 hr)) (je_callB (cb_repr hgd (hu190 hr)) (by rfl) T.b_repr (by decide +kernel) (ja_cons (jv 14) (ja_nil))) (je_callB (cb_repr hgd (hu190 hr)) (by rfl) T.b_repr (by decide +kernel) (ja_cons (je_callTy ct_tuple (by rfl) T.b_tuple (by decide +kernel) (ja_cons (jv 16) (ja_nil))) (ja_nil))) (nomark _)) (jw_or1 (jt_cmp (ob_ne (hu190 hr)) (je_c tk A.span ⟨hr, hgd⟩ (by rfl) (ja_cons (jv 12) (ja_cons (je_callTy ct_tuple (by rfl) T.b_tuple (by decide +kernel) (ja_cons (jv 9) (ja_nil))) (ja_cons (jv 5) (ja_nil))))) (jv 14) (nomark _))))) (jss_one (js_ret (je_bl))) (jss_nil))
      (jss_one (js_for hpo rfl (ji_seq (je_c tk A.law_all_worths ⟨hr, hgd⟩ (by rfl) (ja_cons (jv 9) (ja_nil)))) (jg_name (i := 17) sc_law.nd rfl (by first | exact Or.inl rfl | exact Or.inr rfl)) (jss_one (js_if (jt_not (jt_chain ob_le ob_le (je_ix (hu_of hr) (jv 16) (je_int)) (je_c tk A.law_whole ⟨hr, hgd⟩ (by rfl) (ja_cons (jv 12) (ja_cons (jv 17) (ja_nil)))) (je_ix (hu_of hr) (jv 16) (je_int)))) (jss_one (js_ret (je_bl))) (jss_nil))))))))
      (jss_one (js_if (jt_cmp (ob_ne (hu190 hr)) (je_callB (cb_repr hgd (hu190 hr)) (by rfl) T.b_repr (by decide +kernel) (ja_cons (je_lst (ja_cons (jv 12) (ja_cons (jv 9) (ja_nil)))) (ja_nil))) (jv 13) (nomark _)) (jss_one (js_ret (je_bl))) (jss_nil))))))))))))))))))
      (jss_one (js_ret (je_bl))))
end
structure Defs (K : PySem.W.Frag) (mg : Mg) : Prop where
  size_of : ∃ f fd, L2.Fun K "size_of" "size_of" s_size_of f fd ∧ Binds K fd p_size_of [] ∧ mg "size_of" = some (.ref f)
  worth_of : ∃ f fd, L2.Fun K "worth_of" "worth_of" s_worth_of f fd ∧ Binds K fd p_worth_of [] ∧ mg "worth_of" = some (.ref f)
  span : ∃ f fd, L2.Fun K "span" "span" s_span f fd ∧ Binds K fd p_span [] ∧ mg "span" = some (.ref f)
  law_begun : ∃ f fd, L2.Fun K "_law_begun" "_law_begun" s_law_begun f fd ∧ Binds K fd p_law_begun [] ∧ mg "_law_begun" = some (.ref f)
  law_take : ∃ f fd, L2.Fun K "_law_take" "_law_take" s_law_take f fd ∧ Binds K fd p_law_take [] ∧ mg "_law_take" = some (.ref f)
  law_pick : ∃ f fd, L2.Fun K "_law_pick" "_law_pick" s_law_pick f fd ∧ Binds K fd p_law_pick [] ∧ mg "_law_pick" = some (.ref f)
  law_names : ∃ f fd, L2.Fun K "_law_names" "_law_names" s_law_names f fd ∧ Binds K fd p_law_names [] ∧ mg "_law_names" = some (.ref f)
  law_size : ∃ f fd, L2.Fun K "_law_size" "_law_size" s_law_size f fd ∧ Binds K fd p_law_size [] ∧ mg "_law_size" = some (.ref f)
  law_spread : ∃ f fd, L2.Fun K "_law_spread" "_law_spread" s_law_spread f fd ∧ Binds K fd p_law_spread [] ∧ mg "_law_spread" = some (.ref f)
  law_whole : ∃ f fd, L2.Fun K "_law_whole" "_law_whole" s_law_whole f fd ∧ Binds K fd p_law_whole [] ∧ mg "_law_whole" = some (.ref f)
  law_all_worths : ∃ f fd, L2.Fun K "_law_all_worths" "_law_all_worths" s_law_all_worths f fd ∧ Binds K fd p_law_all_worths [] ∧ mg "_law_all_worths" = some (.ref f)
  law : ∃ f fd, L2.Fun K "law" "law" s_law f fd ∧ Binds K fd p_law [] ∧ mg "law" = some (.ref f)
theorem all_ok {P : Program} {w : World} {K : PySem.W.Frag} {mg : Mg} {base : Heap} (NW : Nat) (T : Tx K w mg) (B : Defs K mg) : ∀ k, All P w K mg base k (lev NW k)
  | 0 => by
    obtain ⟨_, _, D_size_of, b_size_of, m_size_of⟩ := B.size_of
    obtain ⟨_, _, D_worth_of, b_worth_of, m_worth_of⟩ := B.worth_of
    obtain ⟨_, _, D_span, b_span, m_span⟩ := B.span
    obtain ⟨_, _, D_law_begun, b_law_begun, m_law_begun⟩ := B.law_begun
    obtain ⟨_, _, D_law_take, b_law_take, m_law_take⟩ := B.law_take
    obtain ⟨_, _, D_law_pick, b_law_pick, m_law_pick⟩ := B.law_pick
    obtain ⟨_, _, D_law_names, b_law_names, m_law_names⟩ := B.law_names
    obtain ⟨_, _, D_law_size, b_law_size, m_law_size⟩ := B.law_size
    obtain ⟨_, _, D_law_spread, b_law_spread, m_law_spread⟩ := B.law_spread
    obtain ⟨_, _, D_law_whole, b_law_whole, m_law_whole⟩ := B.law_whole
    obtain ⟨_, _, D_law_all_worths, b_law_all_worths, m_law_all_worths⟩ := B.law_all_worths
    obtain ⟨_, _, D_law, b_law, m_law⟩ := B.law
    exact ⟨cal_mk def_zero b_size_of D_size_of.kp m_size_of, cal_mk def_zero b_worth_of D_worth_of.kp m_worth_of, cal_mk def_zero b_span D_span.kp m_span, cal_mk def_zero b_law_begun D_law_begun.kp m_law_begun, cal_mk def_zero b_law_take D_law_take.kp m_law_take, cal_mk def_zero b_law_pick D_law_pick.kp m_law_pick, cal_mk def_zero b_law_names D_law_names.kp m_law_names, cal_mk def_zero b_law_size D_law_size.kp m_law_size, cal_mk def_zero b_law_spread D_law_spread.kp m_law_spread, cal_mk def_zero b_law_whole D_law_whole.kp m_law_whole, cal_mk def_zero b_law_all_worths D_law_all_worths.kp m_law_all_worths, cal_mk def_zero b_law D_law.kp m_law⟩
  | k + 1 => by
    have A := all_ok (P := P) (w := w) (base := base) NW T B k
    obtain ⟨_, _, D_size_of, b_size_of, m_size_of⟩ := B.size_of
    obtain ⟨_, _, D_worth_of, b_worth_of, m_worth_of⟩ := B.worth_of
    obtain ⟨_, _, D_span, b_span, m_span⟩ := B.span
    obtain ⟨_, _, D_law_begun, b_law_begun, m_law_begun⟩ := B.law_begun
    obtain ⟨_, _, D_law_take, b_law_take, m_law_take⟩ := B.law_take
    obtain ⟨_, _, D_law_pick, b_law_pick, m_law_pick⟩ := B.law_pick
    obtain ⟨_, _, D_law_names, b_law_names, m_law_names⟩ := B.law_names
    obtain ⟨_, _, D_law_size, b_law_size, m_law_size⟩ := B.law_size
    obtain ⟨_, _, D_law_spread, b_law_spread, m_law_spread⟩ := B.law_spread
    obtain ⟨_, _, D_law_whole, b_law_whole, m_law_whole⟩ := B.law_whole
    obtain ⟨_, _, D_law_all_worths, b_law_all_worths, m_law_all_worths⟩ := B.law_all_worths
    obtain ⟨_, _, D_law, b_law, m_law⟩ := B.law
    exact ⟨cal_mk (ok_size_of (NW := NW) T A D_size_of) b_size_of D_size_of.kp m_size_of, cal_mk (ok_worth_of (NW := NW) T A D_worth_of) b_worth_of D_worth_of.kp m_worth_of, cal_mk (ok_span (NW := NW) T A D_span) b_span D_span.kp m_span, cal_mk (ok_law_begun (NW := NW) T A D_law_begun) b_law_begun D_law_begun.kp m_law_begun, cal_mk (ok_law_take (NW := NW) T A D_law_take) b_law_take D_law_take.kp m_law_take, cal_mk (ok_law_pick (NW := NW) T A D_law_pick) b_law_pick D_law_pick.kp m_law_pick, cal_mk (ok_law_names (NW := NW) T A D_law_names) b_law_names D_law_names.kp m_law_names, cal_mk (ok_law_size (NW := NW) T A D_law_size) b_law_size D_law_size.kp m_law_size, cal_mk (ok_law_spread (NW := NW) T A D_law_spread) b_law_spread D_law_spread.kp m_law_spread, cal_mk (ok_law_whole (NW := NW) T A D_law_whole) b_law_whole D_law_whole.kp m_law_whole, cal_mk (ok_law_all_worths (NW := NW) T A D_law_all_worths) b_law_all_worths D_law_all_worths.kp m_law_all_worths, cal_mk (ok_law (NW := NW) T A D_law) b_law D_law.kp m_law⟩
/-! ### the top -/
theorem all_mk {l : PySem.W.OpenLaw} {w : World} {K : PySem.W.Frag} {h : Heap} {mg : Mg} {fa : Addr} {NW : Nat} (kk : Nat) (X : K.In h) (G : h.Ns mainGlobals mg) (hfa : mg "law" = some (.ref fa))
    {f0 f1 f2 f3 f4 f5 f6 f7 f8 f9 f10 f11 : Addr}
    {od0 an0 od1 an1 od2 an2 od3 an3 od4 an4 od5 an5 od6 an6 od7 an7 od8 an8 od9 an9 od10 an10 od11 an11 : Option Addr} {sl0 sl1 sl2 sl3 sl4 sl5 sl6 sl7 sl8 sl9 sl10 sl11 : Array (Option Value)} {oc0 kV0 dc0 pm0 cd0 ct0 oc1 kV1 dc1 pm1 cd1 ct1 oc2 kV2 dc2 pm2 cd2 ct2 oc3 kV3 dc3 pm3 cd3 ct3 oc4 kV4 dc4 pm4 cd4 ct4 oc5 kV5 dc5 pm5 cd5 ct5 oc6 kV6 dc6 pm6 cd6 ct6 oc7 kV7 dc7 pm7 cd7 ct7 oc8 kV8 dc8 pm8 cd8 ct8 oc9 kV9 dc9 pm9 cd9 ct9 oc10 kV10 dc10 pm10 cd10 ct10 oc11 kV11 dc11 pm11 cd11 ct11 : Value}
    (a0 : PySem.W.nsIn K mainGlobals "size_of" = some (some (.ref f0))) (l0 : K.lookup f0 = some ⟨oc0, od0, .func (PySem.W.fnOf "size_of" "size_of" (defArgs s_size_of) (defBody s_size_of) (defScope s_size_of) .none kV0 dc0 pm0 an0 cd0 ct0), sl0⟩) (c0 : PySem.W.codeIn K cd0 "size_of" = true) (k0 : PySem.W.keepIn K (.ref f0) = true)
    (a1 : PySem.W.nsIn K mainGlobals "worth_of" = some (some (.ref f1))) (l1 : K.lookup f1 = some ⟨oc1, od1, .func (PySem.W.fnOf "worth_of" "worth_of" (defArgs s_worth_of) (defBody s_worth_of) (defScope s_worth_of) .none kV1 dc1 pm1 an1 cd1 ct1), sl1⟩) (c1 : PySem.W.codeIn K cd1 "worth_of" = true) (k1 : PySem.W.keepIn K (.ref f1) = true)
    (a2 : PySem.W.nsIn K mainGlobals "span" = some (some (.ref f2))) (l2 : K.lookup f2 = some ⟨oc2, od2, .func (PySem.W.fnOf "span" "span" (defArgs s_span) (defBody s_span) (defScope s_span) .none kV2 dc2 pm2 an2 cd2 ct2), sl2⟩) (c2 : PySem.W.codeIn K cd2 "span" = true) (k2 : PySem.W.keepIn K (.ref f2) = true)
    (a3 : PySem.W.nsIn K mainGlobals "_law_begun" = some (some (.ref f3))) (l3 : K.lookup f3 = some ⟨oc3, od3, .func (PySem.W.fnOf "_law_begun" "_law_begun" (defArgs s_law_begun) (defBody s_law_begun) (defScope s_law_begun) .none kV3 dc3 pm3 an3 cd3 ct3), sl3⟩) (c3 : PySem.W.codeIn K cd3 "_law_begun" = true) (k3 : PySem.W.keepIn K (.ref f3) = true)
    (a4 : PySem.W.nsIn K mainGlobals "_law_take" = some (some (.ref f4))) (l4 : K.lookup f4 = some ⟨oc4, od4, .func (PySem.W.fnOf "_law_take" "_law_take" (defArgs s_law_take) (defBody s_law_take) (defScope s_law_take) .none kV4 dc4 pm4 an4 cd4 ct4), sl4⟩) (c4 : PySem.W.codeIn K cd4 "_law_take" = true) (k4 : PySem.W.keepIn K (.ref f4) = true)
    (a5 : PySem.W.nsIn K mainGlobals "_law_pick" = some (some (.ref f5))) (l5 : K.lookup f5 = some ⟨oc5, od5, .func (PySem.W.fnOf "_law_pick" "_law_pick" (defArgs s_law_pick) (defBody s_law_pick) (defScope s_law_pick) .none kV5 dc5 pm5 an5 cd5 ct5), sl5⟩) (c5 : PySem.W.codeIn K cd5 "_law_pick" = true) (k5 : PySem.W.keepIn K (.ref f5) = true)
    (a6 : PySem.W.nsIn K mainGlobals "_law_names" = some (some (.ref f6))) (l6 : K.lookup f6 = some ⟨oc6, od6, .func (PySem.W.fnOf "_law_names" "_law_names" (defArgs s_law_names) (defBody s_law_names) (defScope s_law_names) .none kV6 dc6 pm6 an6 cd6 ct6), sl6⟩) (c6 : PySem.W.codeIn K cd6 "_law_names" = true) (k6 : PySem.W.keepIn K (.ref f6) = true)
    (a7 : PySem.W.nsIn K mainGlobals "_law_size" = some (some (.ref f7))) (l7 : K.lookup f7 = some ⟨oc7, od7, .func (PySem.W.fnOf "_law_size" "_law_size" (defArgs s_law_size) (defBody s_law_size) (defScope s_law_size) .none kV7 dc7 pm7 an7 cd7 ct7), sl7⟩) (c7 : PySem.W.codeIn K cd7 "_law_size" = true) (k7 : PySem.W.keepIn K (.ref f7) = true)
    (a8 : PySem.W.nsIn K mainGlobals "_law_spread" = some (some (.ref f8))) (l8 : K.lookup f8 = some ⟨oc8, od8, .func (PySem.W.fnOf "_law_spread" "_law_spread" (defArgs s_law_spread) (defBody s_law_spread) (defScope s_law_spread) .none kV8 dc8 pm8 an8 cd8 ct8), sl8⟩) (c8 : PySem.W.codeIn K cd8 "_law_spread" = true) (k8 : PySem.W.keepIn K (.ref f8) = true)
    (a9 : PySem.W.nsIn K mainGlobals "_law_whole" = some (some (.ref f9))) (l9 : K.lookup f9 = some ⟨oc9, od9, .func (PySem.W.fnOf "_law_whole" "_law_whole" (defArgs s_law_whole) (defBody s_law_whole) (defScope s_law_whole) .none kV9 dc9 pm9 an9 cd9 ct9), sl9⟩) (c9 : PySem.W.codeIn K cd9 "_law_whole" = true) (k9 : PySem.W.keepIn K (.ref f9) = true)
    (a10 : PySem.W.nsIn K mainGlobals "_law_all_worths" = some (some (.ref f10))) (l10 : K.lookup f10 = some ⟨oc10, od10, .func (PySem.W.fnOf "_law_all_worths" "_law_all_worths" (defArgs s_law_all_worths) (defBody s_law_all_worths) (defScope s_law_all_worths) .none kV10 dc10 pm10 an10 cd10 ct10), sl10⟩) (c10 : PySem.W.codeIn K cd10 "_law_all_worths" = true) (k10 : PySem.W.keepIn K (.ref f10) = true)
    (a11 : PySem.W.nsIn K mainGlobals "law" = some (some (.ref f11))) (l11 : K.lookup f11 = some ⟨oc11, od11, .func (PySem.W.fnOf "law" "law" (defArgs s_law) (defBody s_law) (defScope s_law) .none kV11 dc11 pm11 an11 cd11 ct11), sl11⟩) (c11 : PySem.W.codeIn K cd11 "law" = true) (k11 : PySem.W.keepIn K (.ref f11) = true)
    (z_abs : PySem.W.nsIn K mainGlobals "abs" = some none)
    (z_all : PySem.W.nsIn K mainGlobals "all" = some none)
    (z_dict : PySem.W.nsIn K mainGlobals "dict" = some none)
    (z_int : PySem.W.nsIn K mainGlobals "int" = some none)
    (z_len : PySem.W.nsIn K mainGlobals "len" = some none)
    (z_min : PySem.W.nsIn K mainGlobals "min" = some none)
    (z_range : PySem.W.nsIn K mainGlobals "range" = some none)
    (z_repr : PySem.W.nsIn K mainGlobals "repr" = some none)
    (z_sorted : PySem.W.nsIn K mainGlobals "sorted" = some none)
    (z_str : PySem.W.nsIn K mainGlobals "str" = some none)
    (z_tuple : PySem.W.nsIn K mainGlobals "tuple" = some none)
    : ∃ fd : FuncData, (∀ (s : Shared) (v : Value), BindsTo s fd ⟨[v], []⟩ [("_law_script", v)]) ∧ ∀ base : Heap, K.In base → base.Ns mainGlobals mg → ∃ mg', FnG l.prog w K mg base (L2.CX l.prog w) (kk + 1) fa fd ["_law_script"] (spF K mg' 1 (lev NW (kk + 1)).law) := by
  have e := hfa.symm.trans (PySem.W.mg_of X G a11)
  cases e
  have T : Tx K w mg := ⟨PySem.W.mg_none_of X G z_abs, PySem.W.mg_none_of X G z_all, PySem.W.mg_none_of X G z_dict, PySem.W.mg_none_of X G z_int, PySem.W.mg_none_of X G z_len, PySem.W.mg_none_of X G z_min, PySem.W.mg_none_of X G z_range, PySem.W.mg_none_of X G z_repr, PySem.W.mg_none_of X G z_sorted, PySem.W.mg_none_of X G z_str, PySem.W.mg_none_of X G z_tuple⟩
  have D0 := fun_mk (st := s_size_of) l0 c0 k0
  have b0 := D0.binds (ps := p_size_of) fun _ _ _ _ _ _ us hl => match us, hl with | [_], _ => rfl
  have D1 := fun_mk (st := s_worth_of) l1 c1 k1
  have b1 := D1.binds (ps := p_worth_of) fun _ _ _ _ _ _ us hl => match us, hl with | [_, _], _ => rfl
  have D2 := fun_mk (st := s_span) l2 c2 k2
  have b2 := D2.binds (ps := p_span) fun _ _ _ _ _ _ us hl => match us, hl with | [_, _, _], _ => rfl
  have D3 := fun_mk (st := s_law_begun) l3 c3 k3
  have b3 := D3.binds (ps := p_law_begun) fun _ _ _ _ _ _ us hl => match us, hl with | [_], _ => rfl
  have D4 := fun_mk (st := s_law_take) l4 c4 k4
  have b4 := D4.binds (ps := p_law_take) fun _ _ _ _ _ _ us hl => match us, hl with | [_, _], _ => rfl
  have D5 := fun_mk (st := s_law_pick) l5 c5 k5
  have b5 := D5.binds (ps := p_law_pick) fun _ _ _ _ _ _ us hl => match us, hl with | [_, _], _ => rfl
  have D6 := fun_mk (st := s_law_names) l6 c6 k6
  have b6 := D6.binds (ps := p_law_names) fun _ _ _ _ _ _ us hl => match us, hl with | [_, _], _ => rfl
  have D7 := fun_mk (st := s_law_size) l7 c7 k7
  have b7 := D7.binds (ps := p_law_size) fun _ _ _ _ _ _ us hl => match us, hl with | [_], _ => rfl
  have D8 := fun_mk (st := s_law_spread) l8 c8 k8
  have b8 := D8.binds (ps := p_law_spread) fun _ _ _ _ _ _ us hl => match us, hl with | [_, _, _], _ => rfl
  have D9 := fun_mk (st := s_law_whole) l9 c9 k9
  have b9 := D9.binds (ps := p_law_whole) fun _ _ _ _ _ _ us hl => match us, hl with | [_, _], _ => rfl
  have D10 := fun_mk (st := s_law_all_worths) l10 c10 k10
  have b10 := D10.binds (ps := p_law_all_worths) fun _ _ _ _ _ _ us hl => match us, hl with | [_], _ => rfl
  have D11 := fun_mk (st := s_law) l11 c11 k11
  have b11 := D11.binds (ps := p_law) fun _ _ _ _ _ _ us hl => match us, hl with | [_], _ => rfl
  have B : Defs K mg := ⟨⟨_, _, D0, b0, PySem.W.mg_of X G a0⟩, ⟨_, _, D1, b1, PySem.W.mg_of X G a1⟩, ⟨_, _, D2, b2, PySem.W.mg_of X G a2⟩, ⟨_, _, D3, b3, PySem.W.mg_of X G a3⟩, ⟨_, _, D4, b4, PySem.W.mg_of X G a4⟩, ⟨_, _, D5, b5, PySem.W.mg_of X G a5⟩, ⟨_, _, D6, b6, PySem.W.mg_of X G a6⟩, ⟨_, _, D7, b7, PySem.W.mg_of X G a7⟩, ⟨_, _, D8, b8, PySem.W.mg_of X G a8⟩, ⟨_, _, D9, b9, PySem.W.mg_of X G a9⟩, ⟨_, _, D10, b10, PySem.W.mg_of X G a10⟩, ⟨_, _, D11, b11, PySem.W.mg_of X G a11⟩⟩
  exact ⟨PySem.W.fnOf "law" "law" (defArgs s_law) (defBody s_law) (defScope s_law) .none kV11 dc11 pm11 an11 cd11 ct11, fun s v => .of_eq rfl, fun base _ _ => ⟨mg, ok_law (NW := NW) T (all_ok NW T B kk) D11⟩⟩
end Law

set_option maxHeartbeats 2000000
/-! ShEx: errors that are caught: try, except, isinstance of an error, raise with any words; count and index of flat lists. -/
namespace Sh
open PySem PySem.Spec PyProof.Rows L2

section
variable {X : Cx} {pins : List (Addr × Obj)} {σ : L2.St} {H : Hp} {s : Shared}
variable {x n : Str} {c : Value} {i : Nat} {body suite : List Stmt} {b₀ : Stmt} {np pos pos' : Pos} {tb : WX → TS} {ts : Addr → Value → Option Addr → TS} {Wout : WX}
end
/-! ### the classes, by their names: tab tells of each class that may be raised all that it stands under -/
/-- D is a class of the program -/
structure ClsD (K : PySem.W.Frag) (mg : Mg) (tab : List (Str × List Str)) (D : Str) : Prop where
  ex : ∃ CD, mg D = some (.ref CD) ∧ PySem.W.subIn K (.ref CD) (.type "BaseException") = some true ∧ PySem.W.hasDictIn K CD = true ∧ PySem.W.typeIn K (.ref CD) = some (.type "type") ∧
    ∀ p ∈ tab, ∃ C, PySem.W.nsIn K mainGlobals p.1 = some (some (.ref C)) ∧ mg p.1 = some (.ref C) ∧ ExcC K C ∧ PySem.W.subIn K (.ref C) (.ref C) = some true ∧ PySem.W.subIn K (.ref C) (.ref CD) = some (decide (D ∈ p.2))
/-- D is a class of the built-in ones -/
structure ClsB (K : PySem.W.Frag) (mg : Mg) (tab : List (Str × List Str)) (D : String) : Prop where
  nm : mg D = none
  mt : PySem.W.kitMeta D = true
  ex : ∀ p ∈ tab, ∃ C, PySem.W.nsIn K mainGlobals p.1 = some (some (.ref C)) ∧ ExcC K C ∧ PySem.W.subIn K (.ref C) (.type D) = some (decide ((D : Str) ∈ p.2))
def upsOf (tab : List (Str × List Str)) (c : Str) : Option (List Str) := (tab.find? fun p => decide (p.1 = c)).map (·.2)
theorem EnR.none {ρ : List Addr} {H : Hp} {en : Ev} {σ : L2.St} (r : EnR ρ H en σ) (i : Nat) : EnR ρ H (en.set i none) (σ.set i none) := by
  refine ⟨by rw [List.length_set, List.length_set]; exact r.len, fun j d h => ?_⟩
  by_cases hij : i = j
  · subst hij
    by_cases hl : i < en.length
    · rw [List.getElem?_set_self hl] at h; cases h
    · rw [List.getElem?_eq_none_iff.mpr (by rw [List.length_set]; omega)] at h; cases h
  · rw [List.getElem?_set_ne hij] at h ⊢
    exact r.at_ j d h
/-- try: b / except D as n: y = n (n in slot i, y in slot j) -/
def sTryAs (tab : List (Str × List Str)) (D : Str) (i j : Nat) (b : SM) : SM := fun en st => match b en st with
  | .exc c en' st' => match upsOf tab c with
    | some us => if D ∈ us then (if i < en'.length then .nx ((en'.set j (some (.loc st'.length))).set i none) (st' ++ [.err c]) else .bad) else .exc c en' st'
    | none => .bad
  | r => r
/-- try: b / except D: s -/
def sTryO (tab : List (Str × List Str)) (D : Str) (b s : SM) : SM := fun en st => match b en st with
  | .exc c en' st' => match upsOf tab c with
    | some us => if D ∈ us then (match s en' st' with
        | .exc _ _ _ => .bad
        | r => r) else .exc c en' st'
    | none => .bad
  | r => r
section
variable {X : Cx} {W : WX} {tab : List (Str × List Str)} {D n y : Str} {i j : Nat} {np ny nn pa pos pos' : Pos} {body suite : List Stmt} {b₀ : Stmt} {mb ms : SM}
end
/-! ### raise with any words -/
def sRaiseA (c : Str) (as : AM) : SM := sB as fun ds en st => if ds.length ≤ sizeLine then .exc c en st else .bad
section
variable {X : Cx} {W : WX} {x : Str} {C : Addr} {mp : Pos} {e : Expr} {as : AM}
end
/-! ### isinstance of an error -/
def eIsE (tab : List (Str × List Str)) (D : Str) (a : EM) : EM := fun en => bnd (a en) fun d st => match d with
  | .loc l => match st[l]? with
    | some (.err c) => match upsOf tab c with
      | some us => .ok (.bl (decide (D ∈ us))) st
      | none => .bad
    | _ => .bad
  | _ => .bad
section
variable {X : Cx} {W : WX} {tab : List (Str × List Str)} {a : Expr} {ma : EM} {p p2 pos : Pos}
end
section
variable {X : Cx}
end
/-! ### going through -/
section
variable {en : Ev} {st : Sto} {p : Po} {P : D → Sto → Prop} {E : Str → Sto → Prop}
theorem k_tryAs (tab : List (Str × List Str)) (D : Str) (i j : Nat) (b : SM) : OkS (sTryAs tab D i j b en st) p = OkS (b en st) { p with ex := fun c en' st' => match upsOf tab c with
    | some us => if D ∈ us then (if i < en'.length then p.nx ((en'.set j (some (.loc st'.length))).set i none) (st' ++ [.err c]) else False) else p.ex c en' st'
    | none => False } := by
  unfold sTryAs
  cases b en st with
  | exc c en' st' =>
    dsimp only
    rw [show ∀ q : Po, OkS (.exc c en' st') q = q.ex c en' st' from fun _ => rfl]
    dsimp only
    cases upsOf tab c with
    | none => rfl
    | some us =>
      dsimp only
      by_cases hm : D ∈ us
      · rw [if_pos hm, if_pos hm]
        by_cases hl : i < en'.length
        · rw [if_pos hl, if_pos hl]
          rfl
        · rw [if_neg hl, if_neg hl]
          rfl
      · rw [if_neg hm, if_neg hm]
        rfl
  | _ => rfl
theorem k_tryO (tab : List (Str × List Str)) (D : Str) (b s : SM) : OkS (sTryO tab D b s en st) p = OkS (b en st) { p with ex := fun c en' st' => match upsOf tab c with
    | some us => if D ∈ us then OkS (s en' st') { p with ex := fun _ _ _ => False } else p.ex c en' st'
    | none => False } := by
  unfold sTryO
  cases b en st with
  | exc c en' st' =>
    dsimp only
    rw [show ∀ q : Po, OkS (.exc c en' st') q = q.ex c en' st' from fun _ => rfl]
    dsimp only
    cases upsOf tab c with
    | none => rfl
    | some us =>
      dsimp only
      by_cases hm : D ∈ us
      · rw [if_pos hm, if_pos hm]
        cases s en' st' <;> rfl
      · rw [if_neg hm, if_neg hm]
        rfl
  | _ => rfl
theorem k_raiseA (c : Str) (as : AM) : OkS (sRaiseA c as en st) p = OkX (as en st) (fun ds st1 => if ds.length ≤ sizeLine then p.ex c en st1 else False) (fun c st1 => p.ex c en st1) := by
  unfold sRaiseA
  rw [k_sB]
  congr 1
  funext ds st1
  split <;> rfl
theorem k_isE (tab : List (Str × List Str)) (D : Str) (a : EM) : OkX (eIsE tab D a en st) P E = OkX (a en st) (fun d st1 => match d with
    | .loc l => match st1[l]? with
      | some (.err c) => match upsOf tab c with
        | some us => P (.bl (decide (D ∈ us))) st1
        | none => False
      | _ => False
    | _ => False) E := by
  unfold eIsE
  rw [k_bnd]
  congr 1
  funext d st1
  cases d with
  | loc l =>
    dsimp only
    cases st1[l]? with
    | none => rfl
    | some o =>
      cases o with
      | err c =>
        dsimp only
        cases upsOf tab c <;> rfl
      | _ => rfl
  | _ => rfl
end
end Sh

set_option maxHeartbeats 1000000
/-! ShN: names, numbers and terms as the laws draw them. -/
namespace Sh
open PySem PySem.Spec PyProof.Rows L2
theorem k_gix {P : D → Sto → Prop} {E : Str → Sto → Prop} {st : Sto} {en : Ev} (kvs : List (Str × Str)) (a : EM) : OkX (eGIx kvs a en st) P E = OkX (a en st) (fun d st1 => match d with
    | .str z => (match lookS kvs z with | some r => P (.str r) st1 | none => False)
    | _ => False) E := by
  unfold eGIx
  rw [k_bnd]
  congr 1
  funext d st1
  cases d with
  | str z => dsimp only; cases lookS kvs z <;> rfl
  | _ => rfl
local macro_rules | `(tactic| walk_at "go") => `(tactic| simp only [k_bnd, k_ret, k_ok, k_bad, k_badM, k_exc, k_lft, k_ite, k_ite', o_some, o_none, o_ite, v_some, k_var, k_c, k_op, k_call, k_call0, k_cb, k_nil, k_cons, k_tup, k_lst, k_bOf, k_bAnd, k_bOr, k_bNot, k_and, k_or, k_not, k_if, k_chain, k_inC, k_neg, k_bm, k_get2, k_pnone, k_psome, k_sl, k_pnil, k_pcons, k_dic, k_gix, k_seq, k_nx, k_rt, k_sbad, k_snil, k_spass, k_set, k_sret, k_sretN, k_sexp, k_sif, k_asg, k_par2, k_par3, k_aug, k_put, k_seqI, k_range1, k_forI, k_lc, List.getElem?_cons_zero, List.getElem?_cons_succ, List.set_cons_zero, List.set_cons_succ, List.length_cons, List.length_nil, if_true, if_false, Bool.not_true, Bool.not_false, Bool.false_eq_true, ite_true, ite_false, reduceIte, Nat.reduceAdd, Nat.zero_add])
def g_law_size : SM :=
  sSeq (sSet 1 (eC (.int 1))) (sSeq (sForI (iRange1 (aCons (eVar 0) (aNil))) (gN 2) (sSet 1 (eOp oMul (eVar 1) (eC (.int 2))))) (sRet (eVar 1)))
/-! ### what is drawn, whatever it is drawn by -/
structure Draws (s g c : Nat) (I : Sto → Prop) (take pick : Fn) : Prop where
  app : ∀ {st t : Sto}, I st → I (st ++ t)
  setO : ∀ {st : Sto} {l : Nat} {o : O}, I st → l ≠ s → l ≠ g → l ≠ c → I (st.set l o)
  lt : ∀ {st : Sto}, I st → s < st.length ∧ g < st.length ∧ c < st.length
  take : ∀ {st : Sto} {many : Int}, I st → 0 < many → many < 1073741824 → Ok (take [.loc s, .int many] st) fun d st' => (∃ v : Int, d = .int v ∧ 0 ≤ v ∧ v < many) ∧ I st' ∧ Gr s g st st'
  pickL : ∀ {st : Sto} {l : Nat} {ds : List D}, I st → st[l]? = some (.lst ds) → l ≠ s → l ≠ g → 0 < ds.length → ds.length ≤ 1000000 → Ok (pick [.loc s, .loc l] st) fun d st' => d ∈ ds ∧ I st' ∧ Gr s g st st'
  pickT : ∀ {st : Sto} {ds : List D}, I st → 0 < ds.length → ds.length ≤ 1000000 → Ok (pick [.loc s, .tup ds] st) fun d st' => d ∈ ds ∧ I st' ∧ Gr s g st st'
  pickS : ∀ {st : Sto} {z : Str}, I st → 0 < z.length → z.length ≤ 1000 → Ok (pick [.loc s, .str z] st) fun d st' => (∃ x, d = .str (oneS x) ∧ x ∈ z.cps.toList) ∧ I st' ∧ Gr s g st st'
/-! ### names -/
abbrev lettersT : Str := "abcdefghijklmnopqrstuvwxyz"
abbrev figuresT : Str := "0123456789"
abbrev keptT : List Str := ["width", "input", "set", "tell", "if", "else", "while", "turns", "below", "same", "unlike", "end"]
def nmB (w : Str) : Bool := match w.cps.toList with
  | [] => false
  | c :: r => decide (c ∈ lettersT.cps.toList) && r.all (fun x => decide (x ∈ (lettersT ++ figuresT).cps.toList)) && decide (w.length ≤ 6)
def Name (w : Str) : Prop := nmB w = true ∧ ¬ w ∈ keptT
theorem nmB_mk {w : Str} {c : Nat} {r : List Nat} (e : w.cps.toList = c :: r) (h1 : c ∈ lettersT.cps.toList) (h2 : ∀ x ∈ r, x ∈ (lettersT ++ figuresT).cps.toList) (h3 : w.length ≤ 6) : nmB w = true := by
  unfold nmB
  rw [e]
  dsimp only
  rw [decide_eq_true h1, decide_eq_true h3, Bool.and_true, Bool.true_and]
  exact List.all_eq_true.mpr fun x hx => decide_eq_true (h2 x hx)
theorem nmB_out {w : Str} (h : nmB w = true) : ∃ c r, w.cps.toList = c :: r ∧ c ∈ lettersT.cps.toList ∧ (∀ x ∈ r, x ∈ (lettersT ++ figuresT).cps.toList) ∧ w.length ≤ 6 := by
  unfold nmB at h
  cases e : w.cps.toList with
  | nil => rw [e] at h; cases h
  | cons c r =>
    rw [e] at h
    dsimp only at h
    rw [Bool.and_eq_true, Bool.and_eq_true, decide_eq_true_eq, decide_eq_true_eq] at h
    exact ⟨c, r, rfl, h.1.1, fun x hx => of_decide_eq_true (List.all_eq_true.mp h.1.2 x hx), h.2⟩
theorem letters_lf : ∀ c ∈ lettersT.cps.toList, c ∈ (lettersT ++ figuresT).cps.toList := by decide +kernel
theorem asc_lf : ascS (lettersT ++ figuresT) := asc_of (by decide +kernel)
theorem toL_app (a b : Str) : (a ++ b).cps.toList = a.cps.toList ++ b.cps.toList := Array.toList_append ..
theorem nmB_asc {w : Str} (h : nmB w = true) : ascS w ∧ 1 ≤ w.length ∧ w.length ≤ 6 := by
  obtain ⟨c, r, e, h1, h2, h3⟩ := nmB_out h
  refine ⟨fun x hx => ?_, ?_, h3⟩
  · rw [e] at hx
    rcases List.mem_cons.mp hx with rfl | hx
    · exact asc_lf x (letters_lf x h1)
    · exact asc_lf x (h2 x hx)
  · have := len_toL w
    rw [e, List.length_cons] at this
    omega
theorem nmB_app {w : Str} {x : Nat} (h : nmB w = true) (hx : x ∈ (lettersT ++ figuresT).cps.toList) (hl : w.length < 6) : nmB (w ++ oneS x) = true := by
  obtain ⟨c, r, e, h1, h2, h3⟩ := nmB_out h
  refine nmB_mk (c := c) (r := r ++ [x]) (by rw [toL_app, e]; rfl) h1 (fun y hy => ?_) (by rw [len_app, len_one]; omega)
  rcases List.mem_append.mp hy with hy | hy
  · exact h2 y hy
  · rw [List.mem_singleton.mp hy]; exact hx
theorem nmB_one {x : Nat} (hx : x ∈ lettersT.cps.toList) : nmB (oneS x) = true := nmB_mk (c := x) (r := []) rfl hx (fun _ h => by cases h) (by rw [len_one]; omega)
theorem last_at {st : Sto} {b : O} : (st ++ [b])[st.length]? = some b := by
  rw [List.getElem?_append_right (Nat.le_refl _), Nat.sub_self]
  rfl
section
variable {s g c : Nat} {I : Sto → Prop} {take pick kept : Fn} {st : Sto} {NW : Nat}
end
theorem nd_le : ∀ {l m : List Str}, l.Nodup → (∀ x ∈ l, x ∈ m) → l.length ≤ m.length
  | [], _, _, _ => Nat.zero_le _
  | x :: l, m, h, hs => by
    obtain ⟨h1, h2⟩ := List.nodup_cons.mp h
    have hx := hs x List.mem_cons_self
    have := nd_le (l := l) (m := m.erase x) h2 fun y hy => (List.mem_erase_of_ne fun e => h1 (by rw [← e]; exact hy)).mpr (hs y (List.mem_cons_of_mem _ hy))
    rw [List.length_erase_of_mem hx] at this
    have := List.length_pos_of_mem hx
    rw [List.length_cons]
    omega
section
variable {s g c : Nat} {I : Sto → Prop} {take pick kept name : Fn} {st : Sto} {NW : Nat}
end
/-! ### sizes, numbers -/
def SizeSp (f : Fn) : Prop := ∀ (st : Sto) (y : Int) (w : Nat), y = (w : Int) → w ≤ 24 → Ok (f [.int y] st) fun d st' => d = .int (2 ^ w) ∧ st' = st
theorem pow24 {w : Nat} (h : w ≤ 24) : (2 : Int) ^ w ≤ 16777216 := by
  have h1 : (2 : Nat) ^ w ≤ 16777216 := Nat.le_trans (Nat.pow_le_pow_right (by omega) h) (by decide)
  have h2 : ((2 ^ w : Nat) : Int) = (2 : Int) ^ w := Int.natCast_pow 2 w
  omega
theorem pow_pos' (w : Nat) : 0 < (2 : Int) ^ w := Int.pow_pos (by omega)
def p2 : Nat → Int
  | 0 => 1
  | n + 1 => p2 n * 2
theorem p2_eq : ∀ n, p2 n = 2 ^ n
  | 0 => rfl
  | n + 1 => by
    unfold p2
    rw [p2_eq n, Int.pow_succ]
theorem size_loop {y : Int} {w : Nat} {st : Sto} (hy : y.toNat = w) {p : Po} (hp : ∀ en' st', ((∃ x2 : Option D, en' = [some (.int y), some (.int (p2 w)), x2]) ∧ st' = st) → p.nx en' st') : OkS (sFor (sSet 1 (eOp oMul (eVar 1) (eC (.int 2)))) (gN 2) (srcIts ((List.range y.toNat).map fun (k : Nat) => D.int (k : Int))) y.toNat 0 [some (.int y), some (.int 1), none] st) p := by
  have hl : ((List.range y.toNat).map fun (k : Nat) => D.int (k : Int)).length = y.toNat := by rw [List.length_map, List.length_range]
  have key := for_its (p := p) (b := sSet 1 (eOp oMul (eVar 1) (eC (.int 2)))) (tg := gN 2) (ds := (List.range y.toNat).map fun (k : Nat) => D.int (k : Int)) (st := st) (en := [some (.int y), some (.int 1), none]) (fun i en' st' => (∃ x2 : Option D, en' = [some (.int y), some (.int (p2 i)), x2]) ∧ st' = st) ⟨⟨none, rfl⟩, rfl⟩ (fun i d en st1 hd hI => by
    obtain ⟨⟨x2, rfl⟩, rfl⟩ := hI
    refine ⟨_, rfl, ?_⟩
    walk_at "go"
    rw [mul_r (i := p2 i) (j := 2) (by omega), show p2 i * 2 = p2 (i + 1) from rfl]
    exact ⟨⟨_, rfl⟩, by trivial⟩) (fun en st h => by rw [hl, hy] at h; exact hp _ _ h)
  rw [hl] at key
  exact key
theorem size_at {st : Sto} {y z : Int} {w : Nat} (hy : y.toNat = w) (hz : p2 w = z) (h0 : 0 ≤ y) (h1 : y ≤ 24) : Ok (runDef 3 g_law_size [.int y] st) fun d st' => d = .int z ∧ st' = st := by
  unfold Ok
  rw [k_run, st_3_1]
  unfold g_law_size
  refine cut_seq (fun en' st' => en' = [some (.int y), some (.int 1), none] ∧ st' = st) ?_ (fun en1 st1 hJ => ?_)
  · walk_at "go"
    exact ⟨by trivial, by trivial⟩
  obtain ⟨rfl, rfl⟩ := hJ
  walk_at "go"
  rw [if_pos (by omega)]
  refine size_loop hy fun en' st' ⟨⟨x2, e⟩, e2⟩ => ?_
  subst e; subst e2
  rw [hz]
  walk_at "go"
  exact ⟨trivial, trivial⟩
theorem size_sp : SizeSp (runDef 3 g_law_size) := by
  intro st y w hy hw
  have h1 : y.toNat = w := by omega
  have h4 := p2_eq w
  generalize (2 : Int) ^ w = z at h4 ⊢
  exact size_at h1 h4 (by omega) (by omega)
section
variable {s g c : Nat} {I : Sto → Prop} {take pick size : Fn} {st : Sto}
end
/-! ### terms -/
inductive Trm where
  | num (n : Int)
  | at (w : Str)
  | op (o : Str) (a b : Trm)
def Trm.d : Trm → D
  | .num n => .tup [.str "number", .int n]
  | .at w => .tup [.str "at", .str w]
  | .op o a b => .tup [.str o, a.d, b.d]
abbrev opsT : List Str := ["sum", "less", "times"]
def Trm.ok (z : Int) (ws : List Str) : Trm → Prop
  | .num n => 0 ≤ n ∧ n < z
  | .at w => w ∈ ws
  | .op o a b => o ∈ opsT ∧ a.ok z ws ∧ b.ok z ws
def Trm.dep : Trm → Nat
  | .num _ => 1
  | .at _ => 1
  | .op _ a b => 1 + max a.dep b.dep
def Trm.lvs : Trm → Nat
  | .num _ => 1
  | .at _ => 1
  | .op _ a b => a.lvs + b.lvs
section
variable {s g c L : Nat} {I : Sto → Prop} {take pick number leaf term wide tall : Fn} {st : Sto} {y : Int} {w : Nat} {ws : List Str}
end
end Sh

set_option maxHeartbeats 1000000
namespace Sh
open PySem PySem.Spec PyProof.Rows L2
local macro_rules | `(tactic| walk_at "go") => `(tactic| simp only [k_bnd, k_ret, k_ok, k_bad, k_badM, k_exc, k_lft, k_ite, k_ite', o_some, o_none, o_ite, v_some, k_var, k_c, k_op, k_call, k_call0, k_cb, k_nil, k_cons, k_tup, k_lst, k_bOf, k_bAnd, k_bOr, k_bNot, k_and, k_or, k_not, k_if, k_chain, k_inC, k_neg, k_bm, k_get2, k_pnone, k_psome, k_sl, k_pnil, k_pcons, k_dic, k_gix, k_seq, k_nx, k_rt, k_sbad, k_snil, k_spass, k_set, k_sret, k_sretN, k_sexp, k_sif, k_asg, k_par2, k_par3, k_aug, k_put, k_seqI, k_range1, k_forI, k_lc, List.getElem?_cons_zero, List.getElem?_cons_succ, List.set_cons_zero, List.set_cons_succ, List.length_cons, List.length_nil, if_true, if_false, Bool.not_true, Bool.not_false, Bool.false_eq_true, ite_true, ite_false, reduceIte, Nat.reduceAdd, Nat.zero_add])
def signsC : List (Str × Str) := [("sum", "+"), ("less", "-"), ("times", "*")]
/-! ### texts of terms -/
def sg (o : Str) : Str := (lookS signsC o).getD ""
def txt : Trm → Str
  | .num n => Str.ofString (toString n)
  | .at w => w
  | .op o a b => ("(" : Str) ++ txt a ++ (" " : Str) ++ sg o ++ (" " : Str) ++ txt b ++ (")" : Str)
def Trm.gd : Trm → Prop
  | .num n => 0 ≤ n ∧ n < 100000000
  | .at w => w.length ≤ 6
  | .op o a b => o ∈ opsT ∧ a.gd ∧ b.gd
section
variable {f : Fn} {st : Sto} {t : Trm}
end
end Sh

set_option maxHeartbeats 1000000
namespace Sh
open PySem PySem.Spec PyProof.Rows L2
local macro_rules | `(tactic| walk_at "go") => `(tactic| simp only [k_bnd, k_ret, k_ok, k_bad, k_badM, k_exc, k_lft, k_ite, k_ite', o_some, o_none, o_ite, v_some, k_var, k_c, k_op, k_call, k_call0, k_cb, k_nil, k_cons, k_tup, k_lst, k_bOf, k_bAnd, k_bOr, k_bNot, k_and, k_or, k_not, k_if, k_chain, k_inC, k_neg, k_bm, k_get2, k_pnone, k_psome, k_sl, k_pnil, k_pcons, k_dic, k_gix, k_seq, k_nx, k_rt, k_sbad, k_snil, k_spass, k_set, k_sret, k_sretN, k_sexp, k_sif, k_asg, k_par2, k_par3, k_aug, k_put, k_seqI, k_range1, k_forI, k_lc, List.getElem?_cons_zero, List.getElem?_cons_succ, List.set_cons_zero, List.set_cons_succ, List.length_cons, List.length_nil, if_true, if_false, Bool.not_true, Bool.not_false, Bool.false_eq_true, ite_true, ite_false, reduceIte, Nat.reduceAdd, Nat.zero_add])
local macro_rules | `(tactic| walk_at "gg") => `(tactic| simp only [k_bnd, k_ret, k_ok, k_bad, k_badM, k_exc, k_lft, k_ite, k_ite', o_some, o_none, o_ite, v_some, k_var, k_c, k_op, k_call, k_call0, k_cb, k_nil, k_cons, k_tup, k_lst, k_bOf, k_bAnd, k_bOr, k_bNot, k_and, k_or, k_not, k_if, k_chain, k_inC, k_neg, k_bm, k_get2, k_pnone, k_psome, k_sl, k_pnil, k_pcons, k_dic, k_gix, k_seq, k_nx, k_rt, k_sbad, k_snil, k_spass, k_set, k_sret, k_sretN, k_sexp, k_sif, k_asg, k_par2, k_par3, k_aug, k_put, k_seqI, k_range1, k_forI, k_lc, List.getElem?_cons_zero, List.getElem?_cons_succ, List.set_cons_zero, List.set_cons_succ, List.length_cons, List.length_nil, if_true, if_false, Bool.not_true, Bool.not_false, Bool.false_eq_true, ite_true, ite_false, reduceIte, Nat.reduceAdd, Nat.zero_add, k_sortSet, k_range2, iadd_i, add_i, sub_i, eq_i, eq_s, ne_i, ne_s, ne_b, lt_i, le_i, gt_i, ge_i, ix_0, ix_1, ix_2, flat_str, flat_int, flat_non, sz_0, sz_1, sz_2, sz_3, sz_4, sz_5, sz_6, sz_7, sz_8, sz_9, decide_eq_true_eq, Bool.not_eq_eq_eq_not, decide_eq_false_iff_not, decide_true, decide_false, true_and, and_true, exists_eq_left, inC_strs, not_true_eq_false, not_false_eq_true])
def Trm.parts : Trm → List Trm
  | .num n => [.num n]
  | .at w => [.at w]
  | .op o a b => .op o a b :: (a.parts ++ b.parts)
theorem Trm.parts_sub {z : Int} {ws : List Str} : ∀ {t : Trm}, t.ok z ws → ∀ u ∈ t.parts, u.ok z ws ∧ u.dep ≤ t.dep
  | .num _, h, u, hu => by simp [Trm.parts] at hu; subst hu; exact ⟨h, Nat.le_refl _⟩
  | .at _, h, u, hu => by simp [Trm.parts] at hu; subst hu; exact ⟨h, Nat.le_refl _⟩
  | .op o a b, h, u, hu => by
    simp only [Trm.parts, List.mem_cons, List.mem_append] at hu
    have hd : (Trm.op o a b).dep = 1 + max a.dep b.dep := rfl
    rcases hu with rfl | hu | hu
    · exact ⟨h, Nat.le_refl _⟩
    · have := parts_sub h.2.1 u hu; exact ⟨this.1, by omega⟩
    · have := parts_sub h.2.2 u hu; exact ⟨this.1, by omega⟩
theorem Trm.d_inj : ∀ {t u : Trm}, t.d = u.d → (∀ o a b, t = .op o a b → o ≠ "at") → (∀ o a b, u = .op o a b → o ≠ "at") → ∀ w, u = .at w → t = .at w := by
  intro t u h ht hu w hw
  subst hw
  cases t with
  | num n => simp [Trm.d] at h
  | «at» v => simp [Trm.d] at h; rw [h]
  | op o a b => simp [Trm.d] at h
/-- the names in a term, as they stand -/
def Trm.nms (t : Trm) : List Str := t.parts.filterMap fun u => match u with
  | .at w => some w
  | _ => none
theorem mem_nms {t : Trm} {w : Str} : w ∈ t.nms ↔ .at w ∈ t.parts := by
  unfold Trm.nms
  rw [List.mem_filterMap]
  constructor
  · rintro ⟨u, hu, e⟩
    cases u with
    | num n => cases e
    | «at» v => cases e; exact hu
    | op o a b => cases e
  · intro h
    exact ⟨_, h, rfl⟩
theorem nms_sub {z : Int} {ws : List Str} {t : Trm} (h : t.ok z ws) : ∀ w ∈ t.nms, w ∈ ws := fun w hw => (Trm.parts_sub h _ (mem_nms.mp hw)).1
section
variable {f : Fn} {t : Trm} {st : Sto}
end
section
variable {f : Fn} {t : Trm} {st : Sto}
end
def rest (ts : List Trm) : List Trm := ts.reverse.flatMap Trm.parts
end Sh

set_option maxHeartbeats 1000000
namespace Sh
open PySem PySem.Spec PyProof.Rows L2
local macro_rules | `(tactic| walk_at "go") => `(tactic| simp only [k_bnd, k_ret, k_ok, k_bad, k_badM, k_exc, k_lft, k_ite, k_ite', o_some, o_none, o_ite, v_some, k_var, k_c, k_op, k_call, k_call0, k_cb, k_nil, k_cons, k_tup, k_lst, k_bOf, k_bAnd, k_bOr, k_bNot, k_and, k_or, k_not, k_if, k_chain, k_inC, k_neg, k_bm, k_get2, k_pnone, k_psome, k_sl, k_pnil, k_pcons, k_dic, k_gix, k_seq, k_nx, k_rt, k_sbad, k_snil, k_spass, k_set, k_sret, k_sretN, k_sexp, k_sif, k_asg, k_par2, k_par3, k_aug, k_put, k_seqI, k_range1, k_forI, k_lc, List.getElem?_cons_zero, List.getElem?_cons_succ, List.set_cons_zero, List.set_cons_succ, List.length_cons, List.length_nil, if_true, if_false, Bool.not_true, Bool.not_false, Bool.false_eq_true, ite_true, ite_false, reduceIte, Nat.reduceAdd, Nat.zero_add])
local macro_rules | `(tactic| walk_at "gg") => `(tactic| simp only [k_bnd, k_ret, k_ok, k_bad, k_badM, k_exc, k_lft, k_ite, k_ite', o_some, o_none, o_ite, v_some, k_var, k_c, k_op, k_call, k_call0, k_cb, k_nil, k_cons, k_tup, k_lst, k_bOf, k_bAnd, k_bOr, k_bNot, k_and, k_or, k_not, k_if, k_chain, k_inC, k_neg, k_bm, k_get2, k_pnone, k_psome, k_sl, k_pnil, k_pcons, k_dic, k_gix, k_seq, k_nx, k_rt, k_sbad, k_snil, k_spass, k_set, k_sret, k_sretN, k_sexp, k_sif, k_asg, k_par2, k_par3, k_aug, k_put, k_seqI, k_range1, k_forI, k_lc, List.getElem?_cons_zero, List.getElem?_cons_succ, List.set_cons_zero, List.set_cons_succ, List.length_cons, List.length_nil, if_true, if_false, Bool.not_true, Bool.not_false, Bool.false_eq_true, ite_true, ite_false, reduceIte, Nat.reduceAdd, Nat.zero_add, k_sortSet, k_range2, iadd_i, add_i, sub_i, eq_i, eq_s, ne_i, ne_s, ne_b, lt_i, le_i, gt_i, ge_i, ix_0, ix_1, ix_2, flat_str, flat_int, flat_non, sz_0, sz_1, sz_2, sz_3, sz_4, sz_5, sz_6, sz_7, sz_8, sz_9, decide_eq_true_eq, Bool.not_eq_eq_eq_not, decide_eq_false_iff_not, decide_true, decide_false, true_and, and_true, exists_eq_left, inC_strs, not_true_eq_false, not_false_eq_true])
local macro_rules | `(tactic| walk_at "gz") => `(tactic| simp only [k_bnd, k_ret, k_ok, k_bad, k_badM, k_exc, k_lft, k_ite, k_ite', o_some, o_none, o_ite, v_some, k_var, k_c, k_op, k_call, k_call0, k_cb, k_nil, k_cons, k_tup, k_lst, k_bOf, k_bAnd, k_bOr, k_bNot, k_and, k_or, k_not, k_if, k_chain, k_inC, k_neg, k_bm, k_get2, k_pnone, k_psome, k_sl, k_pnil, k_pcons, k_dic, k_gix, k_seq, k_nx, k_rt, k_sbad, k_snil, k_spass, k_set, k_sret, k_sretN, k_sexp, k_sif, k_asg, k_par2, k_par3, k_aug, k_put, k_seqI, k_range1, k_forI, k_lc, List.getElem?_cons_zero, List.getElem?_cons_succ, List.set_cons_zero, List.set_cons_succ, List.length_cons, List.length_nil, if_true, if_false, Bool.not_true, Bool.not_false, Bool.false_eq_true, ite_true, ite_false, reduceIte, Nat.reduceAdd, Nat.zero_add, k_sortSet, k_range2, iadd_i, add_i, sub_i, eq_i, eq_s, ne_i, ne_s, ne_b, lt_i, le_i, gt_i, ge_i, ix_0, ix_1, ix_2, flat_str, flat_int, flat_non, sz_0, sz_1, sz_2, sz_3, sz_4, sz_5, sz_6, sz_7, sz_8, sz_9, decide_eq_true_eq, Bool.not_eq_eq_eq_not, decide_eq_false_iff_not, decide_true, decide_false, true_and, and_true, exists_eq_left, inC_strs, not_true_eq_false, not_false_eq_true, k_isE, k_tryAs, k_tryO, k_raiseA, k_raise, Bool.true_eq_false, reduceCtorEq, ne_eq])
theorem add_l {st : Sto} {l m : Nat} {xs ys : List D} (h1 : st[l]? = some (.lst xs)) (h2 : st[m]? = some (.lst ys)) (hz : xs.length + ys.length ≤ 100000) : oAdd (.loc l) (.loc m) st = some (.loc st.length, st ++ [.lst (xs ++ ys)]) := by
  unfold oAdd
  dsimp only
  rw [h1, h2]
  dsimp only
  rw [if_pos (sz hz)]
end Sh

/-! ShPo: sums of products as lists of pairs (key, factor), by the rest. -/
namespace Sh
section
variable {κ : Type} [DecidableEq κ]
/-- what a list of pairs comes to by the worths h of its keys -/
def wsum (h : κ → Int) : List (κ × Int) → Int
  | [] => 0
  | e :: r => e.2 * h e.1 + wsum h r
def coef (p : List (κ × Int)) (m : κ) : Int := wsum (fun k => if k = m then 1 else 0) p
def EqP (N : Int) (p q : List (κ × Int)) : Prop := ∀ h : κ → Int, (wsum h p) % N = (wsum h q) % N
theorem EqP.refl {N : Int} {p : List (κ × Int)} : EqP N p p := fun _ => rfl
theorem EqP.symm {N : Int} {p q : List (κ × Int)} (h : EqP N p q) : EqP N q p := fun g => (h g).symm
theorem EqP.trans {N : Int} {p q r : List (κ × Int)} (h : EqP N p q) (k : EqP N q r) : EqP N p r := fun g => (h g).trans (k g)
theorem wsum_app (h : κ → Int) : ∀ p q : List (κ × Int), wsum h (p ++ q) = wsum h p + wsum h q
  | [], q => by simp [wsum]
  | e :: r, q => by
    rw [List.cons_append, wsum, wsum, wsum_app h r q]
    omega
theorem wsum_perm {h : κ → Int} {p q : List (κ × Int)} (e : p.Perm q) : wsum h p = wsum h q := by
  induction e with
  | nil => rfl
  | cons x _ ih => rw [wsum, wsum, ih]
  | swap x y l => simp only [wsum]; omega
  | trans _ _ a b => exact a.trans b
theorem EqP.perm {N : Int} {p q : List (κ × Int)} (e : p.Perm q) : EqP N p q := fun h => by rw [wsum_perm e]
theorem EqP.app {N : Int} {p q r s : List (κ × Int)} (a : EqP N p q) (b : EqP N r s) : EqP N (p ++ r) (q ++ s) := fun h => by
  rw [wsum_app, wsum_app, Int.add_emod, a h, b h, ← Int.add_emod]
/-- each factor c times -/
def sclP (c : Int) (p : List (κ × Int)) : List (κ × Int) := p.map fun e => (e.1, c * e.2)
theorem wsum_scl (h : κ → Int) (c : Int) : ∀ p : List (κ × Int), wsum h (sclP c p) = c * wsum h p
  | [] => by simp [sclP, wsum]
  | e :: r => by
    have := wsum_scl h c r
    unfold sclP at this ⊢
    rw [List.map_cons, wsum, wsum, this, Int.mul_add, Int.mul_assoc]
theorem wsum_congr {h g : κ → Int} {p : List (κ × Int)} (e : ∀ x ∈ p, h x.1 = g x.1) : wsum h p = wsum g p := by
  induction p with
  | nil => rfl
  | cons x r ih =>
    rw [wsum, wsum, e x List.mem_cons_self, ih fun y hy => e y (List.mem_cons_of_mem _ hy)]
theorem wsum_modh {N : Int} {h g : κ → Int} {p : List (κ × Int)} (e : ∀ x ∈ p, h x.1 % N = g x.1 % N) : wsum h p % N = wsum g p % N := by
  induction p with
  | nil => rfl
  | cons x r ih =>
    rw [wsum, wsum, Int.add_emod, Int.mul_emod, e x List.mem_cons_self, ih fun y hy => e y (List.mem_cons_of_mem _ hy), ← Int.mul_emod, ← Int.add_emod]
theorem wsum_zero : ∀ p : List (κ × Int), wsum (fun _ => 0) p = 0
  | [] => rfl
  | x :: r => by rw [wsum, wsum_zero r, Int.mul_zero]; rfl
theorem wsum_swap {μ : Type} (g : κ → μ → Int) : ∀ (p : List (κ × Int)) (q : List (μ × Int)), wsum (fun k => wsum (fun l => g k l) q) p = wsum (fun l => wsum (fun k => g k l) p) q
  | [], q => by
    show 0 = wsum (fun _ => 0) q
    induction q with
    | nil => rfl
    | cons x r ih => rw [wsum, ← ih]; simp
  | x :: r, q => by
    rw [wsum, wsum_swap g r q]
    have : wsum (fun l => wsum (fun k => g k l) (x :: r)) q = wsum (fun l => x.2 * g x.1 l + wsum (fun k => g k l) r) q := rfl
    rw [this]
    clear this
    induction q with
    | nil => simp [wsum]
    | cons y s ih =>
      rw [wsum, wsum, wsum, ← ih]
      simp only [Int.mul_add, Int.add_assoc, Int.mul_left_comm]
      have : ∀ a b c d : Int, a + (b + (c + d)) = a + (c + (b + d)) := fun a b c d => by omega
      rw [this]
/-! ### by the coefficients -/
/-- a key's worths, of a row of keys each once -/
def keysum (f : κ → Int) : List κ → Int
  | [] => 0
  | k :: r => f k + keysum f r
theorem keysum_zero {f : κ → Int} : ∀ {L : List κ}, (∀ k ∈ L, f k = 0) → keysum f L = 0
  | [], _ => rfl
  | k :: r, h => by rw [keysum, h k List.mem_cons_self, keysum_zero fun x hx => h x (List.mem_cons_of_mem _ hx)]; rfl
theorem keysum_one {f : κ → Int} {k : κ} : ∀ {L : List κ}, L.Nodup → k ∈ L → (∀ x ∈ L, x ≠ k → f x = 0) → keysum f L = f k
  | [], _, h, _ => by cases h
  | x :: r, hn, h, hz => by
    obtain ⟨n1, n2⟩ := List.nodup_cons.mp hn
    rw [keysum]
    by_cases e : x = k
    · subst e
      rw [keysum_zero fun y hy => hz y (List.mem_cons_of_mem _ hy) fun e => n1 (e ▸ hy)]
      omega
    · have hk : k ∈ r := by
        rcases List.mem_cons.mp h with h | h
        · exact absurd h.symm e
        · exact h
      rw [hz x List.mem_cons_self e, keysum_one n2 hk fun y hy => hz y (List.mem_cons_of_mem _ hy)]
      omega
theorem keysum_add (f g : κ → Int) : ∀ L : List κ, keysum (fun k => f k + g k) L = keysum f L + keysum g L
  | [] => rfl
  | k :: r => by rw [keysum, keysum, keysum, keysum_add f g r]; omega
theorem wsum_keys {h : κ → Int} {L : List κ} (hn : L.Nodup) : ∀ {p : List (κ × Int)}, (∀ x ∈ p, x.1 ∈ L) → wsum h p = keysum (fun k => coef p k * h k) L
  | [], _ => by
    rw [keysum_zero]
    · rfl
    · intro k _
      simp [coef, wsum]
  | x :: r, hs => by
    rw [wsum, wsum_keys hn (p := r) fun y hy => hs y (List.mem_cons_of_mem _ hy)]
    have e : keysum (fun k => coef (x :: r) k * h k) L = keysum (fun k => (x.2 * (if x.1 = k then 1 else 0)) * h k + coef r k * h k) L := by
      congr 1
      funext k
      unfold coef
      rw [wsum, Int.add_mul]
    rw [e, keysum_add, keysum_one (f := fun k => (x.2 * (if x.1 = k then 1 else 0)) * h k) hn (hs x List.mem_cons_self)]
    · simp
    · intro y _ hy
      simp only [if_neg (Ne.symm hy)]
      simp
theorem keysum_modh {N : Int} {f g : κ → Int} : ∀ {L : List κ}, (∀ k ∈ L, f k % N = g k % N) → keysum f L % N = keysum g L % N
  | [], _ => rfl
  | k :: r, h => by rw [keysum, keysum, Int.add_emod, h k List.mem_cons_self, keysum_modh fun x hx => h x (List.mem_cons_of_mem _ hx), ← Int.add_emod]
def ddp : List κ → List κ
  | [] => []
  | k :: r => if k ∈ r then ddp r else k :: ddp r
theorem mem_ddp {k : κ} : ∀ {L : List κ}, k ∈ ddp L ↔ k ∈ L
  | [] => Iff.rfl
  | x :: r => by
    unfold ddp
    split
    · rename_i h
      rw [mem_ddp, List.mem_cons]
      exact ⟨Or.inr, fun e => e.elim (fun e => e ▸ h) id⟩
    · rw [List.mem_cons, List.mem_cons, mem_ddp]
theorem nd_ddp : ∀ L : List κ, (ddp L).Nodup
  | [] => List.nodup_nil
  | x :: r => by
    unfold ddp
    split
    · exact nd_ddp r
    · rename_i h
      exact List.nodup_cons.mpr ⟨fun e => h (mem_ddp.mp e), nd_ddp r⟩
theorem EqP.of_coef {N : Int} {p q : List (κ × Int)} (h : ∀ m, coef p m % N = coef q m % N) : EqP N p q := fun g => by
  have hp : ∀ x ∈ p, x.1 ∈ ddp ((p ++ q).map (·.1)) := fun x hx => mem_ddp.mpr (List.mem_map.mpr ⟨x, List.mem_append_left _ hx, rfl⟩)
  have hq : ∀ x ∈ q, x.1 ∈ ddp ((p ++ q).map (·.1)) := fun x hx => mem_ddp.mpr (List.mem_map.mpr ⟨x, List.mem_append_right _ hx, rfl⟩)
  rw [wsum_keys (nd_ddp _) hp, wsum_keys (nd_ddp _) hq]
  exact keysum_modh fun k _ => by rw [Int.mul_emod, h k, ← Int.mul_emod]
theorem EqP.coef {N : Int} {p q : List (κ × Int)} (h : EqP N p q) (m : κ) : coef p m % N = coef q m % N := h _
/-- each key once, each factor from 1 to N - 1 -/
structure Can (N : Int) (p : List (κ × Int)) : Prop where
  nd : (p.map (·.1)).Nodup
  fa : ∀ e ∈ p, 0 < e.2 ∧ e.2 < N
theorem coef_none {p : List (κ × Int)} {m : κ} (h : ∀ e ∈ p, e.1 ≠ m) : coef p m = 0 := by
  unfold coef
  rw [wsum_congr (g := fun _ => 0) fun e he => if_neg (h e he)]
  exact wsum_zero p
theorem coef_cons (x : κ × Int) (r : List (κ × Int)) (m : κ) : coef (x :: r) m = (if x.1 = m then x.2 else 0) + coef r m := by
  unfold coef
  rw [wsum]
  split
  · rw [Int.mul_one]
  · rw [Int.mul_zero]
theorem coef_mem : ∀ {p : List (κ × Int)} {e : κ × Int}, (p.map (·.1)).Nodup → e ∈ p → coef p e.1 = e.2
  | [], _, _, h => by cases h
  | x :: r, e, hn, h => by
    rw [List.map_cons, List.nodup_cons] at hn
    rw [coef_cons]
    rcases List.mem_cons.mp h with rfl | h
    · rw [if_pos rfl, coef_none fun y hy q => hn.1 (List.mem_map.mpr ⟨y, hy, q⟩)]
      omega
    · rw [if_neg fun q => hn.1 (List.mem_map.mpr ⟨e, h, q.symm⟩), coef_mem hn.2 h]
      omega
theorem Can.coef_lt {N : Int} {p : List (κ × Int)} (h : Can N p) (hN : 0 < N) (m : κ) : coef p m % N = coef p m := by
  by_cases hm : ∃ e ∈ p, e.1 = m
  · obtain ⟨e, he, rfl⟩ := hm
    rw [coef_mem h.nd he]
    have := h.fa e he
    exact Int.emod_eq_of_lt (by omega) this.2
  · rw [coef_none fun e he q => hm ⟨e, he, q⟩, Int.zero_emod]
theorem Can.mem_iff {N : Int} {p : List (κ × Int)} (h : Can N p) {m : κ} {f : Int} : (m, f) ∈ p ↔ coef p m = f ∧ f ≠ 0 := by
  refine ⟨fun e => ⟨coef_mem h.nd e, fun q => ?_⟩, fun ⟨e, q⟩ => ?_⟩
  · have := h.fa _ e
    simp only at this
    omega
  · by_cases hm : ∃ e ∈ p, e.1 = m
    · obtain ⟨⟨k, g⟩, he, rfl⟩ := hm
      have := coef_mem h.nd he
      simp only at this e
      rw [this] at e
      subst e
      exact he
    · rw [coef_none fun e he q => hm ⟨e, he, q⟩] at e
      exact absurd e.symm q
theorem nodup_of_map {α β : Type} {f : α → β} : ∀ {l : List α}, (l.map f).Nodup → l.Nodup
  | [], _ => List.nodup_nil
  | x :: r, h => by
    rw [List.map_cons, List.nodup_cons] at h
    exact List.nodup_cons.mpr ⟨fun e => h.1 (List.mem_map.mpr ⟨x, e, rfl⟩), nodup_of_map h.2⟩
/-- like sums are told by like pairs -/
theorem Can.perm {N : Int} {p q : List (κ × Int)} (hN : 0 < N) (hp : Can N p) (hq : Can N q) (h : EqP N p q) : p.Perm q := by
  refine (List.perm_ext_iff_of_nodup (nodup_of_map hp.nd) (nodup_of_map hq.nd)).mpr fun ⟨m, f⟩ => ?_
  rw [hp.mem_iff, hq.mem_iff, ← hp.coef_lt hN m, ← hq.coef_lt hN m, h.coef m]
theorem Can.of_perm {N : Int} {p q : List (κ × Int)} (hp : Can N p) (h : p.Perm q) : Can N q :=
  ⟨(h.map _).nodup_iff.mp hp.nd, fun e he => hp.fa e (h.mem_iff.mpr he)⟩
theorem Can.nil {N : Int} : Can N ([] : List (κ × Int)) := ⟨List.nodup_nil, fun _ h => by cases h⟩
/-- the sum, each key once -/
def clct (N : Int) (p : List (κ × Int)) : List (κ × Int) := ((ddp (p.map (·.1))).map fun k => (k, coef p k % N)).filter fun e => e.2 != 0
theorem clct_can {N : Int} (hN : 0 < N) (p : List (κ × Int)) : Can N (clct N p) := by
  refine ⟨?_, fun e he => ?_⟩
  · unfold clct
    have h1 : ((ddp (p.map (·.1))).map fun k => (k, coef p k % N)).map (·.1) = ddp (p.map (·.1)) := by
      rw [List.map_map]
      exact List.map_id _
    have h2 : List.Sublist ((((ddp (p.map (·.1))).map fun k => (k, coef p k % N)).filter fun e => e.2 != 0).map (·.1)) (((ddp (p.map (·.1))).map fun k => (k, coef p k % N)).map (·.1)) := List.Sublist.map _ List.filter_sublist
    rw [h1] at h2
    exact h2.nodup (nd_ddp _)
  · obtain ⟨h1, h2⟩ := List.mem_filter.mp he
    obtain ⟨k, _, rfl⟩ := List.mem_map.mp h1
    have := Int.emod_nonneg (coef p k) (Int.ne_of_gt hN)
    have := Int.emod_lt_of_pos (coef p k) hN
    have h3 : coef p k % N ≠ 0 := by simpa using h2
    simp only
    omega
theorem clct_eq {N : Int} (hN : 0 < N) (p : List (κ × Int)) : EqP N (clct N p) p := by
  refine EqP.of_coef fun m => ?_
  have hc := clct_can hN p
  by_cases h0 : coef p m % N = 0
  · rw [h0, coef_none, Int.zero_emod]
    intro e he q
    obtain ⟨h1, h2⟩ := List.mem_filter.mp he
    obtain ⟨k, _, rfl⟩ := List.mem_map.mp h1
    simp only at q h2
    subst q
    rw [h0] at h2
    cases h2
  · have hm : m ∈ ddp (p.map (·.1)) := by
      refine mem_ddp.mpr ?_
      by_cases hm : ∃ e ∈ p, e.1 = m
      · obtain ⟨e, he, rfl⟩ := hm
        exact List.mem_map.mpr ⟨e, he, rfl⟩
      · rw [coef_none fun e he q => hm ⟨e, he, q⟩, Int.zero_emod] at h0
        exact absurd rfl h0
    have he : (m, coef p m % N) ∈ clct N p := List.mem_filter.mpr ⟨List.mem_map.mpr ⟨m, hm, rfl⟩, by simpa using h0⟩
    have := coef_mem hc.nd he
    simp only at this
    rw [this, Int.emod_emod_of_dvd _ (Int.dvd_refl N)]
theorem clct_keys {N : Int} {p : List (κ × Int)} {e : κ × Int} (he : e ∈ clct N p) : ∃ x ∈ p, x.1 = e.1 := by
  obtain ⟨h1, _⟩ := List.mem_filter.mp he
  obtain ⟨k, hk, rfl⟩ := List.mem_map.mp h1
  obtain ⟨x, hx, e⟩ := List.mem_map.mp (mem_ddp.mp hk)
  exact ⟨x, hx, e⟩
/-! ### a dict of sums -/
def getM (p : List (κ × Int)) (m : κ) : Option Int := (p.find? fun e => e.1 == m).map (·.2)
def putM : List (κ × Int) → κ → Int → List (κ × Int)
  | [], m, f => [(m, f)]
  | e :: r, m, f => if e.1 = m then (m, f) :: r else e :: putM r m f
theorem putM_keys {m k : κ} {f : Int} : ∀ {p : List (κ × Int)}, k ∈ (putM p m f).map (·.1) ↔ k = m ∨ k ∈ p.map (·.1)
  | [] => by simp [putM]
  | e :: r => by
    unfold putM
    split
    · rename_i h
      simp only [List.map_cons, List.mem_cons, h]
      exact ⟨fun q => q.elim Or.inl fun q => .inr (.inr q), fun q => q.elim Or.inl fun q => q.elim Or.inl .inr⟩
    · simp only [List.map_cons, List.mem_cons, putM_keys (p := r)]
      exact ⟨fun q => q.elim (fun q => .inr (.inl q)) fun q => q.elim Or.inl fun q => .inr (.inr q), fun q => q.elim (fun q => .inr (.inl q)) fun q => q.elim Or.inl fun q => .inr (.inr q)⟩
theorem putM_nd {m : κ} {f : Int} : ∀ {p : List (κ × Int)}, (p.map (·.1)).Nodup → ((putM p m f).map (·.1)).Nodup
  | [], _ => by simp [putM]
  | e :: r, h => by
    rw [List.map_cons, List.nodup_cons] at h
    unfold putM
    split
    · rename_i q
      rw [List.map_cons, List.nodup_cons]
      exact ⟨q ▸ h.1, h.2⟩
    · rename_i q
      rw [List.map_cons, List.nodup_cons, putM_keys]
      exact ⟨fun z => z.elim (fun z => q z) h.1, putM_nd h.2⟩
theorem getM_coef {m : κ} : ∀ {p : List (κ × Int)}, (p.map (·.1)).Nodup → (getM p m).getD 0 = coef p m
  | [], _ => rfl
  | e :: r, h => by
    rw [List.map_cons, List.nodup_cons] at h
    rw [coef_cons]
    unfold getM
    rw [List.find?_cons]
    by_cases q : e.1 = m
    · rw [if_pos q, coef_none fun y hy z => h.1 (List.mem_map.mpr ⟨y, hy, z.trans q.symm⟩)]
      simp [q]
    · rw [if_neg q]
      have := getM_coef (m := m) h.2
      unfold getM at this
      simp only [beq_eq_false_iff_ne.mpr q, this]
      omega
theorem getM_mem {p : List (κ × Int)} {m : κ} (h : m ∈ p.map (·.1)) : ∃ v, getM p m = some v := by
  unfold getM
  cases q : p.find? fun e => e.1 == m with
  | some e => exact ⟨e.2, rfl⟩
  | none =>
    obtain ⟨e, he, rfl⟩ := List.mem_map.mp h
    have := List.find?_eq_none.mp q e he
    simp at this
theorem putM_coef {m k : κ} {f : Int} : ∀ {p : List (κ × Int)}, (p.map (·.1)).Nodup → coef (putM p m f) k = if m = k then f else coef p k
  | [], _ => by
    unfold putM
    rw [coef_cons]
    simp [coef, wsum]
  | e :: r, h => by
    rw [List.map_cons, List.nodup_cons] at h
    unfold putM
    by_cases q : e.1 = m
    · rw [if_pos q, coef_cons, coef_cons]
      by_cases z : m = k
      · rw [if_pos z, if_pos z, coef_none fun y hy w => h.1 (List.mem_map.mpr ⟨y, hy, w.trans (z.symm.trans q.symm)⟩)]
        omega
      · rw [if_neg z, if_neg z, if_neg fun w => z (q.symm.trans w)]
    · rw [if_neg q, coef_cons, coef_cons, putM_coef h.2]
      by_cases z : m = k
      · rw [if_pos z, if_pos z, if_neg fun w => q (w.trans z.symm)]
        omega
      · rw [if_neg z, if_neg z]
theorem putM_vals {P : κ × Int → Prop} {m : κ} {f : Int} (hf : P (m, f)) : ∀ {p : List (κ × Int)}, (∀ e ∈ p, P e) → ∀ e ∈ putM p m f, P e
  | [], _, e, he => by rw [putM, List.mem_singleton] at he; exact he ▸ hf
  | x :: r, h, e, he => by
    unfold putM at he
    split at he
    · rcases List.mem_cons.mp he with rfl | he
      · exact hf
      · exact h e (List.mem_cons_of_mem _ he)
    · rcases List.mem_cons.mp he with rfl | he
      · exact h _ List.mem_cons_self
      · exact putM_vals hf (fun e he => h e (List.mem_cons_of_mem _ he)) e he
theorem putM_len {m : κ} {f : Int} : ∀ {p : List (κ × Int)}, (putM p m f).length ≤ p.length + 1
  | [] => by simp [putM]
  | x :: r => by
    unfold putM
    split
    · simp
    · rw [List.length_cons, List.length_cons]
      have := putM_len (m := m) (f := f) (p := r)
      omega
/-- a pair added into a dict of sums -/
def addM (N : Int) (acc : List (κ × Int)) (e : κ × Int) : List (κ × Int) := putM acc e.1 (((getM acc e.1).getD 0 + e.2) % N)
structure Acc (N : Int) (acc p : List (κ × Int)) : Prop where
  nd : (acc.map (·.1)).Nodup
  lt : ∀ e ∈ acc, 0 ≤ e.2 ∧ e.2 < N
  eq : EqP N acc p
theorem Acc.nil {N : Int} : Acc N ([] : List (κ × Int)) [] := ⟨List.nodup_nil, fun _ h => (by cases h), EqP.refl⟩
theorem Acc.add {N : Int} (hN : 0 < N) {acc p : List (κ × Int)} (h : Acc N acc p) (e : κ × Int) : Acc N (addM N acc e) (p ++ [e]) := by
  refine ⟨putM_nd h.nd, putM_vals (P := fun e => 0 ≤ e.2 ∧ e.2 < N) ⟨Int.emod_nonneg _ (Int.ne_of_gt hN), Int.emod_lt_of_pos _ hN⟩ h.lt, EqP.of_coef fun m => ?_⟩
  unfold addM
  rw [putM_coef h.nd, getM_coef h.nd]
  have e1 : coef (p ++ [e]) m = coef p m + (if e.1 = m then e.2 else 0) := by
    unfold coef
    rw [wsum_app, wsum, wsum]
    split
    · omega
    · omega
  rw [e1]
  have hc := h.eq.coef m
  by_cases z : e.1 = m
  · rw [if_pos z, if_pos z, Int.emod_emod_of_dvd _ (Int.dvd_refl N), z, Int.add_emod, hc, ← Int.add_emod]
  · rw [if_neg z, if_neg z, hc]
    congr 1
    omega
theorem Acc.can {N : Int} {acc p : List (κ × Int)} (h : Acc N acc p) : Can N (acc.filter fun e => e.2 != 0) ∧ EqP N (acc.filter fun e => e.2 != 0) p := by
  refine ⟨⟨(List.Sublist.map _ List.filter_sublist).nodup h.nd, fun e he => ?_⟩, EqP.trans ?_ h.eq⟩
  · obtain ⟨h1, h2⟩ := List.mem_filter.mp he
    have := h.lt e h1
    have h3 : e.2 ≠ 0 := by simpa using h2
    omega
  · intro g
    congr 1
    clear h
    induction acc with
    | nil => rfl
    | cons x r ih =>
      rw [List.filter_cons]
      split
      · rw [wsum, wsum, ih]
      · rename_i hx
        have : x.2 = 0 := by simpa using hx
        rw [wsum, this, ih]
        omega
/-! ### products -/
variable (mm : κ → κ → κ)
def mulP (p q : List (κ × Int)) : List (κ × Int) := p.flatMap fun e => q.map fun g => (mm e.1 g.1, e.2 * g.2)
theorem wsum_map (h : κ → Int) (e : κ × Int) : ∀ q : List (κ × Int), wsum h (q.map fun g => (mm e.1 g.1, e.2 * g.2)) = e.2 * wsum (fun l => h (mm e.1 l)) q
  | [] => by simp [wsum]
  | g :: r => by
    rw [List.map_cons, wsum, wsum, wsum_map h e r, Int.mul_add, Int.mul_assoc]
theorem wsum_mul (h : κ → Int) : ∀ p q : List (κ × Int), wsum h (mulP mm p q) = wsum (fun k => wsum (fun l => h (mm k l)) q) p
  | [], q => rfl
  | e :: r, q => by
    have := wsum_mul h r q
    unfold mulP at this ⊢
    rw [List.flatMap_cons, wsum_app, wsum_map, this]
    rfl
variable {mm}
theorem EqP.mul {N : Int} {p q r s : List (κ × Int)} (a : EqP N p q) (b : EqP N r s) : EqP N (mulP mm p r) (mulP mm q s) := fun h => by
  rw [wsum_mul, wsum_mul, a]
  exact wsum_modh fun x _ => b _
theorem mul_comm_eq {N : Int} (hc : ∀ a b, mm a b = mm b a) (p q : List (κ × Int)) : EqP N (mulP mm p q) (mulP mm q p) := fun h => by
  rw [wsum_mul, wsum_mul, wsum_swap]
  congr 2
  funext l
  congr 1
  funext k
  rw [hc]
theorem mul_assoc_eq {N : Int} (ha : ∀ a b c, mm (mm a b) c = mm a (mm b c)) (p q r : List (κ × Int)) : EqP N (mulP mm (mulP mm p q) r) (mulP mm p (mulP mm q r)) := fun h => by
  simp only [wsum_mul, ha]
end
end Sh

set_option maxHeartbeats 1000000
/-! ShPq: rows of names, spreads: their order, their form, their data. -/
namespace Sh
open PySem PySem.Spec PyProof.Rows L2 PySem.W
abbrev Mon := List Str
abbrev Pol := List (Mon × Int)
/-! ### the order of rows of names -/
def ltM : Mon → Mon → Bool
  | [], [] => false
  | [], _ :: _ => true
  | _ :: _, [] => false
  | x :: xs, y :: ys => if x = y then ltM xs ys else decide (x.cps.toList < y.cps.toList)
def leM (a b : Mon) : Bool := !ltM b a
theorem cps_inj {x y : Str} (h : x ≠ y) : x.cps.toList ≠ y.cps.toList := fun e => h (str_ext e)
theorem ltS_tri {x y : Str} (h : x ≠ y) : x.cps.toList < y.cps.toList ∨ y.cps.toList < x.cps.toList := by
  by_cases h1 : x.cps.toList < y.cps.toList
  · exact .inl h1
  · by_cases h2 : y.cps.toList < x.cps.toList
    · exact .inr h2
    · exact absurd (List.le_antisymm (List.not_lt.mp h2) (List.not_lt.mp h1)) (cps_inj h)
theorem ltM_irr : ∀ a : Mon, ltM a a = false
  | [] => rfl
  | x :: xs => by rw [ltM, if_pos rfl, ltM_irr xs]
theorem ltM_tri : ∀ {a b : Mon}, ltM a b = false → ltM b a = false → a = b
  | [], [], _, _ => rfl
  | [], _ :: _, h, _ => by cases h
  | _ :: _, [], _, h => by cases h
  | x :: xs, y :: ys, h, h' => by
    unfold ltM at h h'
    by_cases e : x = y
    · rw [if_pos e] at h
      rw [if_pos e.symm] at h'
      rw [e, ltM_tri h h']
    · rw [if_neg e, decide_eq_false_iff_not] at h
      rw [if_neg (Ne.symm e), decide_eq_false_iff_not] at h'
      rcases ltS_tri e with q | q
      · exact absurd q h
      · exact absurd q h'
theorem ltM_trans : ∀ {a b c : Mon}, ltM a b = true → ltM b c = true → ltM a c = true
  | [], [], _, h, _ => by cases h
  | _ :: _, [], _, h, _ => by cases h
  | _, _ :: _, [], _, h => by cases h
  | [], _ :: _, _ :: _, _, _ => rfl
  | x :: xs, y :: ys, z :: zs, h, h' => by
    unfold ltM at h h' ⊢
    by_cases e : x = y
    · subst e
      rw [if_pos rfl] at h
      by_cases e2 : x = z
      · subst e2
        rw [if_pos rfl] at h' ⊢
        exact ltM_trans h h'
      · rw [if_neg e2] at h' ⊢
        exact h'
    · rw [if_neg e, decide_eq_true_eq] at h
      by_cases e2 : y = z
      · subst e2
        rw [if_neg e]
        exact decide_eq_true h
      · rw [if_neg e2, decide_eq_true_eq] at h'
        have h3 := List.lt_trans h h'
        rw [if_neg fun q => by subst q; exact List.lt_irrefl _ h3]
        exact decide_eq_true h3
theorem ltM_asym {a b : Mon} (h : ltM a b = true) : ltM b a = false := by
  cases q : ltM b a with
  | false => rfl
  | true =>
    have := ltM_trans h q
    rw [ltM_irr] at this
    cases this
theorem leM_total (a b : Mon) : (leM a b || leM b a) = true := by
  unfold leM
  cases q : ltM b a with
  | false => rfl
  | true => rw [ltM_asym q]; rfl
theorem leM_trans {a b c : Mon} (h : leM a b = true) (h' : leM b c = true) : leM a c = true := by
  unfold leM at h h' ⊢
  cases q : ltM c a with
  | false => rfl
  | true =>
    have h1 : ltM b a = false := by simpa using h
    have h2 : ltM c b = false := by simpa using h'
    cases q2 : ltM a b with
    | true => rw [ltM_trans q q2] at h2; cases h2
    | false =>
      have := ltM_tri q2 h1
      subst this
      rw [h2] at q
      cases q
/-- as the machine sees it -/
theorem rowLt_strs : ∀ xs ys : Mon, rowLt (xs.map PyData.str) (ys.map PyData.str) = ltM xs ys
  | [], [] => lex_irrefl _
  | [], y :: ys => by
    unfold rowLt
    rw [List.map_cons, toks_all_cons]
    simp only [keyToksAll, List.map_nil]
    rw [lex_diff (O := itemOrd) (by simp)]
    rfl
  | x :: xs, [] => by
    unfold rowLt
    rw [List.map_cons, toks_all_cons]
    simp only [keyToksAll, List.map_nil]
    rw [lex_diff (O := itemOrd) (by simp)]
    rfl
  | x :: xs, y :: ys => by
    have ih := rowLt_strs xs ys
    unfold rowLt at ih ⊢
    rw [List.map_cons, List.map_cons, dataLt_cons (by simp [alike]), dataLt_str, ih, ltM]
    simp only [PyData.eqv, beq_iff_eq]
theorem dataLt_mon (a b : Mon) : dataLt (.tuple (a.map .str)) (.tuple (b.map .str)) = ltM a b := by
  rw [dataLt_tuple]
  exact rowLt_strs a b
/-! ### as data -/
def monD (m : Mon) : D := .tup (m.map D.str)
def pairD (e : Mon × Int) : D := .tup [monD e.1, .int e.2]
def spD (p : Pol) : D := .tup (p.map pairD)
theorem toPL_map {α : Type} (f : α → D) : ∀ xs : List α, toPL (xs.map f) = xs.map fun x => toP (f x)
  | [] => rfl
  | x :: r => by rw [List.map_cons, toPL, toPL_map f r, List.map_cons]
theorem toP_mon (m : Mon) : toP (monD m) = .tuple (m.map .str) := by
  unfold monD
  rw [toP, toPL_map]
  rfl
theorem toP_pair (e : Mon × Int) : toP (pairD e) = .tuple [.tuple (e.1.map .str), .int e.2] := by
  unfold pairD
  rw [toP, toPL, toP_mon, toPL, toP, toPL]
theorem alike_strs : ∀ a b : Mon, alikeAll (a.map PyData.str) (b.map PyData.str) = true
  | [], [] => by simp [alikeAll]
  | [], _ :: _ => by simp [alikeAll]
  | _ :: _, [] => by simp [alikeAll]
  | x :: xs, y :: ys => by
    have := alike_strs xs ys
    simp [alikeAll, alike, this]
theorem alike_mon (a b : Mon) : alike (.tuple (a.map .str)) (.tuple (b.map .str)) = true := by
  simp only [alike]
  exact alike_strs a b
theorem eqv_strs : ∀ a b : Mon, PyData.eqvAll (a.map PyData.str) (b.map PyData.str) = decide (a = b)
  | [], [] => by simp [PyData.eqvAll]
  | [], _ :: _ => by simp [PyData.eqvAll]
  | _ :: _, [] => by simp [PyData.eqvAll]
  | x :: xs, y :: ys => by
    have := eqv_strs xs ys
    rw [List.map_cons, List.map_cons, PyData.eqvAll, this]
    simp only [PyData.eqv]
    by_cases h : x = y <;> by_cases h2 : xs = ys <;> simp [h, h2]
theorem eqv_mon (a b : Mon) : PyData.eqv (.tuple (a.map .str)) (.tuple (b.map .str)) = decide (a = b) := by
  simp only [PyData.eqv]
  exact eqv_strs a b
theorem dataLe_monD : dataLe false (fun m : Mon => toP (monD m)) = leM := by
  funext a b
  show (!dataLt (toP (monD b)) (toP (monD a))) = _
  rw [toP_mon, toP_mon, dataLt_mon]
  rfl
theorem dataLt_pairD (a b : Mon × Int) : dataLt (toP (pairD a)) (toP (pairD b)) = if a.1 = b.1 then decide (a.2 < b.2) else ltM a.1 b.1 := by
  rw [toP_pair, toP_pair, dataLt_pair (alike_mon _ _) (by simp [alike]), eqv_mon, dataLt_mon]
  simp only [decide_eq_true_eq]
  split
  · split
    · rename_i h
      have : a.2 = b.2 := by simpa [PyData.eqv] using h
      rw [this]
      simp
    · rw [dataLt_int]
  · rfl
/-! ### sorted -/
def srtM (ms : List Mon) : List Mon := ms.mergeSort leM
def srtP (p : Pol) : Pol := p.mergeSort fun a b => leM a.1 b.1
theorem srtM_perm (ms : List Mon) : (srtM ms).Perm ms := List.mergeSort_perm _ _
theorem srtP_perm (p : Pol) : (srtP p).Perm p := List.mergeSort_perm _ _
abbrev SrtM (ms : List Mon) : Prop := ms.Pairwise fun a b => ltM a b = true
abbrev SrtP (p : Pol) : Prop := p.Pairwise fun a b => ltM a.1 b.1 = true
theorem ltM_of {a b : Mon} (h : leM a b = true) (n : a ≠ b) : ltM a b = true := by
  cases q : ltM a b with
  | true => rfl
  | false => exact absurd (ltM_tri q (by unfold leM at h; simpa using h)) n
theorem srtM_of_nd {ms : List Mon} (h : ms.Nodup) : SrtM (srtM ms) := by
  have h1 := List.pairwise_mergeSort (le := leM) (fun _ _ _ => leM_trans) leM_total ms
  have h2 := List.nodup_iff_pairwise_ne.mp ((srtM_perm ms).nodup_iff.mpr h)
  exact (h1.and h2).imp fun ⟨a, b⟩ => ltM_of a b
theorem srtP_of_nd {p : Pol} (h : (p.map (·.1)).Nodup) : SrtP (srtP p) := by
  have h1 := List.pairwise_mergeSort (le := fun a b : Mon × Int => leM a.1 b.1) (fun _ _ _ => leM_trans) (fun a b => leM_total a.1 b.1) p
  have h2 := List.nodup_iff_pairwise_ne.mp (((srtP_perm p).map (·.1)).nodup_iff.mpr h)
  rw [List.pairwise_map] at h2
  exact (h1.and h2).imp fun ⟨a, b⟩ => ltM_of a b
theorem SrtM.nd {ms : List Mon} (h : SrtM ms) : ms.Nodup := List.nodup_iff_pairwise_ne.mpr (h.imp fun {a b} q e => by subst e; rw [ltM_irr] at q; cases q)
theorem srtP_unique {a b : Pol} (h : SrtP a) (h' : SrtP b) (p : a.Perm b) : a = b :=
  List.Perm.eq_of_pairwise (fun x y _ _ q q' => by rw [ltM_asym q] at q'; cases q') h h' p
theorem srtT_mon (ms : List Mon) : srtT (ms.map monD) = (srtM ms).map monD := by
  unfold srtT srtM
  refine (sort_maps (r := leM) (s := dataLe false toP) monD fun a _ b _ => ?_).symm
  have := congrFun (congrFun dataLe_monD a) b
  rw [← this]
  rfl
theorem srtT_pairs {p : Pol} (h : (p.map (·.1)).Nodup) : srtT (p.map pairD) = (srtP p).map pairD := by
  unfold srtT srtP
  refine (sort_maps (r := fun a b : Mon × Int => leM a.1 b.1) (s := dataLe false toP) pairD fun a ha b hb => ?_).symm
  show leM a.1 b.1 = !dataLt (toP (pairD b)) (toP (pairD a))
  rw [dataLt_pairD]
  by_cases e : b.1 = a.1
  · have hc : ∀ {p : Pol}, (p.map (·.1)).Nodup → ∀ {a b : Mon × Int}, a ∈ p → b ∈ p → b.1 = a.1 → b = a := by
      intro p
      induction p with
      | nil => intro _ a b ha; cases ha
      | cons x r ih =>
        intro hn a b ha hb e
        rw [List.map_cons, List.nodup_cons] at hn
        rcases List.mem_cons.mp ha with q | ha
        · rcases List.mem_cons.mp hb with q2 | hb
          · rw [q, q2]
          · exact absurd (List.mem_map.mpr ⟨b, hb, by rw [e, q]⟩) hn.1
        · rcases List.mem_cons.mp hb with q2 | hb
          · exact absurd (List.mem_map.mpr ⟨a, ha, by rw [← e, q2]⟩) hn.1
          · exact ih hn.2 ha hb e
    have := hc h ha hb e
    subst this
    rw [if_pos rfl]
    unfold leM
    rw [ltM_irr]
    simp
  · rw [if_neg e]
    rfl
/-! ### products of rows of names -/
def mmM (k l : Mon) : Mon := srtS (k ++ l)
theorem srt_idem {m : Mon} (h : PwS m) : srtS m = m := pw_unique (srt_pw m) h (srt_perm m)
theorem srt_congr {a b : Mon} (p : a.Perm b) : srtS a = srtS b := pw_unique (srt_pw a) (srt_pw b) ((srt_perm a).trans (p.trans (srt_perm b).symm))
theorem mmM_comm (a b : Mon) : mmM a b = mmM b a := srt_congr List.perm_append_comm
theorem mmM_assoc (a b c : Mon) : mmM (mmM a b) c = mmM a (mmM b c) := by
  unfold mmM
  refine srt_congr (((srt_perm _).append_right c).trans ?_)
  rw [List.append_assoc]
  exact ((srt_perm _).append_left a).symm
theorem mmM_nil {m : Mon} (h : PwS m) : mmM [] m = m := srt_idem h
theorem mem_mmM {a b : Mon} {x : Str} : x ∈ mmM a b ↔ x ∈ a ∨ x ∈ b := by
  unfold mmM
  rw [mem_srt, List.mem_append]
/-- a row of names, rising -/
structure MOk (m : Mon) : Prop where
  nm : ∀ w ∈ m, nmB w = true
  up : PwS m
theorem MOk.nil : MOk [] := ⟨fun _ h => (by cases h), List.Pairwise.nil⟩
theorem MOk.mul {a b : Mon} (h : MOk a) (k : MOk b) : MOk (mmM a b) := ⟨fun w hw => (mem_mmM.mp hw).elim (h.nm w) (k.nm w), srt_pw _⟩
theorem MOk.srt {a : Mon} (h : ∀ w ∈ a, nmB w = true) : MOk (srtS a) := ⟨fun w hw => h w (mem_srt.mp hw), srt_pw _⟩
def POk (p : Pol) : Prop := ∀ e ∈ p, MOk e.1
theorem POk.app {p q : Pol} (h : POk p) (k : POk q) : POk (p ++ q) := fun e he => (List.mem_append.mp he).elim (h e) (k e)
theorem POk.mul {p q : Pol} (h : POk p) (k : POk q) : POk (mulP mmM p q) := fun e he => by
  obtain ⟨a, ha, he⟩ := List.mem_flatMap.mp he
  obtain ⟨b, hb, rfl⟩ := List.mem_map.mp he
  exact (h a ha).mul (k b hb)
theorem POk.perm {p q : Pol} (h : POk p) (e : p.Perm q) : POk q := fun x hx => h x (e.mem_iff.mpr hx)
/-! ### spreads -/
/-- as the program puts pairs of like names together -/
def nrm (N : Int) (p : Pol) : Pol := srtP (clct N p)
structure Spr (N : Int) (p : Pol) : Prop where
  can : Can N p
  ok : POk p
  up : SrtP p
theorem nrm_can {N : Int} (hN : 0 < N) (p : Pol) : Can N (nrm N p) := (clct_can hN p).of_perm (srtP_perm _).symm
theorem nrm_eq {N : Int} (hN : 0 < N) (p : Pol) : EqP N (nrm N p) p := (EqP.perm (srtP_perm _)).trans (clct_eq hN p)
theorem nrm_up {N : Int} (hN : 0 < N) (p : Pol) : SrtP (nrm N p) := srtP_of_nd (clct_can hN p).nd
theorem nrm_unique {N : Int} (hN : 0 < N) {p q : Pol} (hc : Can N p) (hu : SrtP p) (h : EqP N p q) : nrm N q = p :=
  srtP_unique (nrm_up hN q) hu ((nrm_can hN q).perm hN hc ((nrm_eq hN q).trans h.symm))
theorem Spr.nrm {N : Int} (hN : 0 < N) {p : Pol} (h : Spr N p) : Sh.nrm N p = p := nrm_unique hN h.can h.up EqP.refl
theorem Spr.eq {N : Int} (hN : 0 < N) {p q : Pol} (h : Spr N p) (k : Spr N q) (e : EqP N p q) : p = q := srtP_unique h.up k.up (h.can.perm hN k.can e)
/-! ### texts of rows of names -/
def jnM (m : Mon) : Str := Txt.join " " m
end Sh

set_option maxHeartbeats 1000000
namespace Sh
open PySem PySem.Spec PyProof.Rows L2
local macro_rules | `(tactic| walk_at "go") => `(tactic| simp only [k_bnd, k_ret, k_ok, k_bad, k_badM, k_exc, k_lft, k_ite, k_ite', o_some, o_none, o_ite, v_some, k_var, k_c, k_op, k_call, k_call0, k_cb, k_nil, k_cons, k_tup, k_lst, k_bOf, k_bAnd, k_bOr, k_bNot, k_and, k_or, k_not, k_if, k_chain, k_inC, k_neg, k_bm, k_get2, k_pnone, k_psome, k_sl, k_pnil, k_pcons, k_dic, k_gix, k_seq, k_nx, k_rt, k_sbad, k_snil, k_spass, k_set, k_sret, k_sretN, k_sexp, k_sif, k_asg, k_par2, k_par3, k_aug, k_put, k_seqI, k_range1, k_forI, k_lc, List.getElem?_cons_zero, List.getElem?_cons_succ, List.set_cons_zero, List.set_cons_succ, List.length_cons, List.length_nil, if_true, if_false, Bool.not_true, Bool.not_false, Bool.false_eq_true, ite_true, ite_false, reduceIte, Nat.reduceAdd, Nat.zero_add])
local macro_rules | `(tactic| walk_at "gg") => `(tactic| simp only [k_bnd, k_ret, k_ok, k_bad, k_badM, k_exc, k_lft, k_ite, k_ite', o_some, o_none, o_ite, v_some, k_var, k_c, k_op, k_call, k_call0, k_cb, k_nil, k_cons, k_tup, k_lst, k_bOf, k_bAnd, k_bOr, k_bNot, k_and, k_or, k_not, k_if, k_chain, k_inC, k_neg, k_bm, k_get2, k_pnone, k_psome, k_sl, k_pnil, k_pcons, k_dic, k_gix, k_seq, k_nx, k_rt, k_sbad, k_snil, k_spass, k_set, k_sret, k_sretN, k_sexp, k_sif, k_asg, k_par2, k_par3, k_aug, k_put, k_seqI, k_range1, k_forI, k_lc, List.getElem?_cons_zero, List.getElem?_cons_succ, List.set_cons_zero, List.set_cons_succ, List.length_cons, List.length_nil, if_true, if_false, Bool.not_true, Bool.not_false, Bool.false_eq_true, ite_true, ite_false, reduceIte, Nat.reduceAdd, Nat.zero_add, k_sortSet, k_range2, iadd_i, add_i, sub_i, eq_i, eq_s, ne_i, ne_s, ne_b, lt_i, le_i, gt_i, ge_i, ix_0, ix_1, ix_2, flat_str, flat_int, flat_non, sz_0, sz_1, sz_2, sz_3, sz_4, sz_5, sz_6, sz_7, sz_8, sz_9, decide_eq_true_eq, Bool.not_eq_eq_eq_not, decide_eq_false_iff_not, decide_true, decide_false, true_and, and_true, exists_eq_left, inC_strs, not_true_eq_false, not_false_eq_true])
local macro_rules | `(tactic| walk_at "g2") => `(tactic| simp only [k_bnd, k_ret, k_ok, k_bad, k_badM, k_exc, k_lft, k_ite, k_ite', o_some, o_none, o_ite, v_some, k_var, k_c, k_op, k_call, k_call0, k_cb, k_nil, k_cons, k_tup, k_lst, k_bOf, k_bAnd, k_bOr, k_bNot, k_and, k_or, k_not, k_if, k_chain, k_inC, k_neg, k_bm, k_get2, k_pnone, k_psome, k_sl, k_pnil, k_pcons, k_dic, k_gix, k_seq, k_nx, k_rt, k_sbad, k_snil, k_spass, k_set, k_sret, k_sretN, k_sexp, k_sif, k_asg, k_par2, k_par3, k_aug, k_put, k_seqI, k_range1, k_forI, k_lc, List.getElem?_cons_zero, List.getElem?_cons_succ, List.set_cons_zero, List.set_cons_succ, List.length_cons, List.length_nil, if_true, if_false, Bool.not_true, Bool.not_false, Bool.false_eq_true, ite_true, ite_false, reduceIte, Nat.reduceAdd, Nat.zero_add, k_sortSet, iadd_i, add_i, sub_i, eq_i, eq_s, ne_i, ne_s, ne_b, lt_i, le_i, gt_i, ge_i, ix_0, ix_1, ix_2, flat_str, flat_int, flat_non, sz_0, sz_1, sz_2, sz_3, sz_4, sz_5, sz_6, sz_7, sz_8, sz_9, decide_eq_true_eq, Bool.not_eq_eq_eq_not, decide_eq_false_iff_not, decide_true, decide_false, true_and, and_true, exists_eq_left, inC_strs, not_true_eq_false, not_false_eq_true, k_isE, k_tryAs, k_tryO, k_raiseA, k_raise, Bool.true_eq_false, reduceCtorEq, ne_eq])
local macro_rules | `(tactic| walk_at "g1") => `(tactic| simp only [k_bnd, k_ret, k_ok, k_bad, k_badM, k_exc, k_lft, k_ite, k_ite', o_some, o_none, o_ite, v_some, k_var, k_c, k_op, k_call, k_call0, k_cb, k_nil, k_cons, k_tup, k_lst, k_bOf, k_bAnd, k_bOr, k_bNot, k_and, k_or, k_not, k_if, k_chain, k_inC, k_neg, k_bm, k_get2, k_pnone, k_psome, k_sl, k_pnil, k_pcons, k_dic, k_gix, k_seq, k_nx, k_rt, k_sbad, k_snil, k_spass, k_set, k_sret, k_sretN, k_sexp, k_sif, k_asg, k_par2, k_par3, k_aug, k_put, k_seqI, k_forI, k_lc, List.getElem?_cons_zero, List.getElem?_cons_succ, List.set_cons_zero, List.set_cons_succ, List.length_cons, List.length_nil, if_true, if_false, Bool.not_true, Bool.not_false, Bool.false_eq_true, ite_true, ite_false, reduceIte, Nat.reduceAdd, Nat.zero_add, k_sortSet, iadd_i, add_i, sub_i, eq_i, eq_s, ne_i, ne_s, ne_b, lt_i, le_i, gt_i, ge_i, ix_0, ix_1, ix_2, flat_str, flat_int, flat_non, sz_0, sz_1, sz_2, sz_3, sz_4, sz_5, sz_6, sz_7, sz_8, sz_9, decide_eq_true_eq, Bool.not_eq_eq_eq_not, decide_eq_false_iff_not, decide_true, decide_false, true_and, and_true, exists_eq_left, inC_strs, not_true_eq_false, not_false_eq_true, k_isE, k_tryAs, k_tryO, k_raiseA, k_raise, Bool.true_eq_false, reduceCtorEq, ne_eq])
local macro_rules | `(tactic| walk_at "gz") => `(tactic| simp only [k_bnd, k_ret, k_ok, k_bad, k_badM, k_exc, k_lft, k_ite, k_ite', o_some, o_none, o_ite, v_some, k_var, k_c, k_op, k_call, k_call0, k_cb, k_nil, k_cons, k_tup, k_lst, k_bOf, k_bAnd, k_bOr, k_bNot, k_and, k_or, k_not, k_if, k_chain, k_inC, k_neg, k_bm, k_get2, k_pnone, k_psome, k_sl, k_pnil, k_pcons, k_dic, k_gix, k_seq, k_nx, k_rt, k_sbad, k_snil, k_spass, k_set, k_sret, k_sretN, k_sexp, k_sif, k_asg, k_par2, k_par3, k_aug, k_put, k_seqI, k_range1, k_forI, k_lc, List.getElem?_cons_zero, List.getElem?_cons_succ, List.set_cons_zero, List.set_cons_succ, List.length_cons, List.length_nil, if_true, if_false, Bool.not_true, Bool.not_false, Bool.false_eq_true, ite_true, ite_false, reduceIte, Nat.reduceAdd, Nat.zero_add, k_sortSet, k_range2, iadd_i, add_i, sub_i, eq_i, eq_s, ne_i, ne_s, ne_b, lt_i, le_i, gt_i, ge_i, ix_0, ix_1, ix_2, flat_str, flat_int, flat_non, sz_0, sz_1, sz_2, sz_3, sz_4, sz_5, sz_6, sz_7, sz_8, sz_9, decide_eq_true_eq, Bool.not_eq_eq_eq_not, decide_eq_false_iff_not, decide_true, decide_false, true_and, and_true, exists_eq_left, inC_strs, not_true_eq_false, not_false_eq_true, k_isE, k_tryAs, k_tryO, k_raiseA, k_raise, Bool.true_eq_false, reduceCtorEq, ne_eq])
/-! ### what is drawn from (the laws of spreads and goings) -/
def stB (g c : Nat) (r t m : Int) : List (Key × D) := [(.inr "great", .loc g), (.inr "cells", .loc c), (.inr "rest", .int r), (.inr "turn", .int t), (.inr "more", .int m)]
section
variable {g c : Nat} {r t m : Int}
end
structure DrB (s g c : Nat) (st : Sto) : Prop where
  sg : s ≠ g
  sc : s ≠ c
  gc : g ≠ c
  ex : ∃ (r t m : Int) (gs cs : List Int), st[s]? = some (.dic (stB g c r t m)) ∧ st[g]? = some (.lst (gs.map D.int)) ∧ st[c]? = some (.lst (cs.map D.int)) ∧ 0 ≤ m ∧ m < 2 ^ 60 ∧ gs.length ≤ 63
theorem DrB.app {s g c : Nat} {st t : Sto} (h : DrB s g c st) : DrB s g c (st ++ t) := by
  obtain ⟨h1, h2, h3, r, t', m, gs, cs, e1, e2, e3, e4⟩ := h
  exact ⟨h1, h2, h3, r, t', m, gs, cs, app_get e1, app_get e2, app_get e3, e4⟩
theorem DrB.lt {s g c : Nat} {st : Sto} (h : DrB s g c st) : s < st.length ∧ g < st.length ∧ c < st.length := by
  obtain ⟨h1, h2, h3, r, t', m, gs, cs, e1, e2, e3, e4⟩ := h
  exact ⟨(List.getElem?_eq_some_iff.mp e1).1, (List.getElem?_eq_some_iff.mp e2).1, (List.getElem?_eq_some_iff.mp e3).1⟩
theorem DrB.setO {s g c : Nat} {st : Sto} {l : Nat} {o : O} (h : DrB s g c st) (n1 : l ≠ s) (n2 : l ≠ g) (n3 : l ≠ c) : DrB s g c (st.set l o) := by
  obtain ⟨h1, h2, h3, r, t', m, gs, cs, e1, e2, e3, e4⟩ := h
  exact ⟨h1, h2, h3, r, t', m, gs, cs, by rw [List.getElem?_set_ne n1]; exact e1, by rw [List.getElem?_set_ne n2]; exact e2, by rw [List.getElem?_set_ne n3]; exact e3, e4⟩
/-! ### picking, whatever takes -/
section
variable {s g c : Nat} {I : Sto → Prop} {take : Fn} {st : Sto}
end
section
variable {s g c : Nat} {I : Sto → Prop} {take pick : Fn} {st : Sto}
end
/-! ### names -/
theorem split_kept : Txt.split "width input set tell if else while turns below same unlike end" " " = keptT := TL.map_tl_inj (by
  rw [TL.split_spl _ _ (by decide +kernel) (TL.kind_ok (by decide +kernel))]
  decide +kernel)
theorem split_keptO {st : Sto} : oSplit (.str "width input set tell if else while turns below same unlike end") [.str " "] st = some (.loc st.length, st ++ [.lst (keptT.map D.str)]) := by
  unfold oSplit
  dsimp only
  rw [if_pos ⟨by decide +kernel, by decide +kernel⟩, split_kept]
abbrev signsT : Str := "abcdefghijklmnopqrstuvwxyz0123456789"
def othN (k : Nat) (x : Nat) : Str := oneS x ++ Str.ofString (toString (k : Int)) ++ ("z" : Str)
theorem othN_name {k x : Nat} (hk : k < 24) (hx : x ∈ lettersT.cps.toList) : Name (othN k x) := by
  have : ((List.range 24).all fun k => lettersT.cps.toList.all fun x => nmB (othN k x) && decide (¬ othN k x ∈ keptT)) = true := by decide +kernel
  have := List.all_eq_true.mp (List.all_eq_true.mp this k (List.mem_range.mpr hk)) x hx
  rw [Bool.and_eq_true, decide_eq_true_eq] at this
  exact this
theorem oth_nd {k : Nat} (hk : k < 24) : (lettersT.cps.toList.map (othN k)).Nodup := by
  have : ((List.range 24).all fun k => decide ((lettersT.cps.toList.map (othN k)).Nodup)) = true := by decide +kernel
  exact of_decide_eq_true (List.all_eq_true.mp this k (List.mem_range.mpr hk))
theorem letters_len : lettersT.cps.toList.length = 26 := by decide +kernel
theorem signs_at {i : Int} (h0 : 0 ≤ i) (h1 : i < 36) : ∃ x, atI signsT.cps.toList i = some x ∧ x ∈ (lettersT ++ figuresT).cps.toList ∧ (i < 26 → x ∈ lettersT.cps.toList) := by
  have key : ((List.range 36).all fun i => match signsT.cps.toList[i]? with | some x => decide (x ∈ (lettersT ++ figuresT).cps.toList) && (decide (26 ≤ i) || decide (x ∈ lettersT.cps.toList)) | none => false) = true := by decide +kernel
  have h2 := List.all_eq_true.mp key i.toNat (List.mem_range.mpr (by omega))
  have hl : signsT.cps.toList.length = 36 := by decide +kernel
  rw [at_nat h0 (by rw [hl]; exact h1)]
  cases e : signsT.cps.toList[i.toNat]? with
  | none => rw [e] at h2; cases h2
  | some x =>
    rw [e] at h2
    dsimp only at h2
    rw [Bool.and_eq_true, Bool.or_eq_true, decide_eq_true_eq, decide_eq_true_eq, decide_eq_true_eq] at h2
    exact ⟨x, rfl, h2.1, fun q => h2.2.resolve_left (by omega)⟩
theorem strI_small {st : Sto} {k : Nat} (hk : k < 24) : oStrI [.int (k : Int)] st = some (.str (Str.ofString (toString (k : Int))), st) := by
  unfold oStrI
  dsimp only
  have hsm : ((k : Int)).natAbs.log2 < 1920 := by
    have h1 : ((k : Int)).natAbs < 2 ^ 1920 := by
      have : ((k : Int)).natAbs ≤ 24 := by omega
      have h3 : 24 < 2 ^ 1920 := by decide
      omega
    rcases Nat.eq_zero_or_pos ((k : Int)).natAbs with e | e
    · rw [e]; decide
    · exact (Nat.log2_lt (by omega)).mpr h1
  rw [if_pos hsm]
theorem lettersC : cutS signsT none (some 26) = lettersT := by decide +kernel
theorem signsD_letters : signsD lettersT = lettersT.cps.toList.map fun x => D.str (oneS x) := rfl
section
variable {s g c : Nat} {I : Sto → Prop} {take pick : Fn} {st : Sto}
end
end Sh

set_option maxHeartbeats 1000000
namespace Sh
open PySem PySem.Spec PyProof.Rows L2
local macro_rules | `(tactic| walk_at "go") => `(tactic| simp only [k_bnd, k_ret, k_ok, k_bad, k_badM, k_exc, k_lft, k_ite, k_ite', o_some, o_none, o_ite, v_some, k_var, k_c, k_op, k_call, k_call0, k_cb, k_nil, k_cons, k_tup, k_lst, k_bOf, k_bAnd, k_bOr, k_bNot, k_and, k_or, k_not, k_if, k_chain, k_inC, k_neg, k_bm, k_get2, k_pnone, k_psome, k_sl, k_pnil, k_pcons, k_dic, k_gix, k_seq, k_nx, k_rt, k_sbad, k_snil, k_spass, k_set, k_sret, k_sretN, k_sexp, k_sif, k_asg, k_par2, k_par3, k_aug, k_put, k_seqI, k_range1, k_forI, k_lc, List.getElem?_cons_zero, List.getElem?_cons_succ, List.set_cons_zero, List.set_cons_succ, List.length_cons, List.length_nil, if_true, if_false, Bool.not_true, Bool.not_false, Bool.false_eq_true, ite_true, ite_false, reduceIte, Nat.reduceAdd, Nat.zero_add])
local macro_rules | `(tactic| walk_at "gg") => `(tactic| simp only [k_bnd, k_ret, k_ok, k_bad, k_badM, k_exc, k_lft, k_ite, k_ite', o_some, o_none, o_ite, v_some, k_var, k_c, k_op, k_call, k_call0, k_cb, k_nil, k_cons, k_tup, k_lst, k_bOf, k_bAnd, k_bOr, k_bNot, k_and, k_or, k_not, k_if, k_chain, k_inC, k_neg, k_bm, k_get2, k_pnone, k_psome, k_sl, k_pnil, k_pcons, k_dic, k_gix, k_seq, k_nx, k_rt, k_sbad, k_snil, k_spass, k_set, k_sret, k_sretN, k_sexp, k_sif, k_asg, k_par2, k_par3, k_aug, k_put, k_seqI, k_range1, k_forI, k_lc, List.getElem?_cons_zero, List.getElem?_cons_succ, List.set_cons_zero, List.set_cons_succ, List.length_cons, List.length_nil, if_true, if_false, Bool.not_true, Bool.not_false, Bool.false_eq_true, ite_true, ite_false, reduceIte, Nat.reduceAdd, Nat.zero_add, k_sortSet, k_range2, iadd_i, add_i, sub_i, eq_i, eq_s, ne_i, ne_s, ne_b, lt_i, le_i, gt_i, ge_i, ix_0, ix_1, ix_2, flat_str, flat_int, flat_non, sz_0, sz_1, sz_2, sz_3, sz_4, sz_5, sz_6, sz_7, sz_8, sz_9, decide_eq_true_eq, Bool.not_eq_eq_eq_not, decide_eq_false_iff_not, decide_true, decide_false, true_and, and_true, exists_eq_left, inC_strs, not_true_eq_false, not_false_eq_true])
local macro_rules | `(tactic| walk_at "g2") => `(tactic| simp only [k_bnd, k_ret, k_ok, k_bad, k_badM, k_exc, k_lft, k_ite, k_ite', o_some, o_none, o_ite, v_some, k_var, k_c, k_op, k_call, k_call0, k_cb, k_nil, k_cons, k_tup, k_lst, k_bOf, k_bAnd, k_bOr, k_bNot, k_and, k_or, k_not, k_if, k_chain, k_inC, k_neg, k_bm, k_get2, k_pnone, k_psome, k_sl, k_pnil, k_pcons, k_dic, k_gix, k_seq, k_nx, k_rt, k_sbad, k_snil, k_spass, k_set, k_sret, k_sretN, k_sexp, k_sif, k_asg, k_par2, k_par3, k_aug, k_put, k_seqI, k_range1, k_forI, k_lc, List.getElem?_cons_zero, List.getElem?_cons_succ, List.set_cons_zero, List.set_cons_succ, List.length_cons, List.length_nil, if_true, if_false, Bool.not_true, Bool.not_false, Bool.false_eq_true, ite_true, ite_false, reduceIte, Nat.reduceAdd, Nat.zero_add, k_sortSet, iadd_i, add_i, sub_i, eq_i, eq_s, ne_i, ne_s, ne_b, lt_i, le_i, gt_i, ge_i, ix_0, ix_1, ix_2, flat_str, flat_int, flat_non, sz_0, sz_1, sz_2, sz_3, sz_4, sz_5, sz_6, sz_7, sz_8, sz_9, decide_eq_true_eq, Bool.not_eq_eq_eq_not, decide_eq_false_iff_not, decide_true, decide_false, true_and, and_true, exists_eq_left, inC_strs, not_true_eq_false, not_false_eq_true, k_isE, k_tryAs, k_tryO, k_raiseA, k_raise, Bool.true_eq_false, reduceCtorEq, ne_eq])
local macro_rules | `(tactic| walk_at "g1") => `(tactic| simp only [k_bnd, k_ret, k_ok, k_bad, k_badM, k_exc, k_lft, k_ite, k_ite', o_some, o_none, o_ite, v_some, k_var, k_c, k_op, k_call, k_call0, k_cb, k_nil, k_cons, k_tup, k_lst, k_bOf, k_bAnd, k_bOr, k_bNot, k_and, k_or, k_not, k_if, k_chain, k_inC, k_neg, k_bm, k_get2, k_pnone, k_psome, k_sl, k_pnil, k_pcons, k_dic, k_gix, k_seq, k_nx, k_rt, k_sbad, k_snil, k_spass, k_set, k_sret, k_sretN, k_sexp, k_sif, k_asg, k_par2, k_par3, k_aug, k_put, k_seqI, k_forI, k_lc, List.getElem?_cons_zero, List.getElem?_cons_succ, List.set_cons_zero, List.set_cons_succ, List.length_cons, List.length_nil, if_true, if_false, Bool.not_true, Bool.not_false, Bool.false_eq_true, ite_true, ite_false, reduceIte, Nat.reduceAdd, Nat.zero_add, k_sortSet, iadd_i, add_i, sub_i, eq_i, eq_s, ne_i, ne_s, ne_b, lt_i, le_i, gt_i, ge_i, ix_0, ix_1, ix_2, flat_str, flat_int, flat_non, sz_0, sz_1, sz_2, sz_3, sz_4, sz_5, sz_6, sz_7, sz_8, sz_9, decide_eq_true_eq, Bool.not_eq_eq_eq_not, decide_eq_false_iff_not, decide_true, decide_false, true_and, and_true, exists_eq_left, inC_strs, not_true_eq_false, not_false_eq_true, k_isE, k_tryAs, k_tryO, k_raiseA, k_raise, Bool.true_eq_false, reduceCtorEq, ne_eq])
local macro_rules | `(tactic| walk_at "gz") => `(tactic| simp only [k_bnd, k_ret, k_ok, k_bad, k_badM, k_exc, k_lft, k_ite, k_ite', o_some, o_none, o_ite, v_some, k_var, k_c, k_op, k_call, k_call0, k_cb, k_nil, k_cons, k_tup, k_lst, k_bOf, k_bAnd, k_bOr, k_bNot, k_and, k_or, k_not, k_if, k_chain, k_inC, k_neg, k_bm, k_get2, k_pnone, k_psome, k_sl, k_pnil, k_pcons, k_dic, k_gix, k_seq, k_nx, k_rt, k_sbad, k_snil, k_spass, k_set, k_sret, k_sretN, k_sexp, k_sif, k_asg, k_par2, k_par3, k_aug, k_put, k_seqI, k_range1, k_forI, k_lc, List.getElem?_cons_zero, List.getElem?_cons_succ, List.set_cons_zero, List.set_cons_succ, List.length_cons, List.length_nil, if_true, if_false, Bool.not_true, Bool.not_false, Bool.false_eq_true, ite_true, ite_false, reduceIte, Nat.reduceAdd, Nat.zero_add, k_sortSet, k_range2, iadd_i, add_i, sub_i, eq_i, eq_s, ne_i, ne_s, ne_b, lt_i, le_i, gt_i, ge_i, ix_0, ix_1, ix_2, flat_str, flat_int, flat_non, sz_0, sz_1, sz_2, sz_3, sz_4, sz_5, sz_6, sz_7, sz_8, sz_9, decide_eq_true_eq, Bool.not_eq_eq_eq_not, decide_eq_false_iff_not, decide_true, decide_false, true_and, and_true, exists_eq_left, inC_strs, not_true_eq_false, not_false_eq_true, k_isE, k_tryAs, k_tryO, k_raiseA, k_raise, Bool.true_eq_false, reduceCtorEq, ne_eq])
def gd_law_begun : SM :=
  sRet (eDic [(eC (.str "great"), eLc (iSeq (eVar 0)) (gN 1) (bOf (eOp oGe (eVar 1) (eOp oPow (eC (.int 10)) (eC (.int 18))))) (eVar 1) [1]), (eC (.str "rest"), eC (.int 0)), (eC (.str "turn"), eC (.int 0)), (eC (.str "seed"), eOp oAdd (eC (.int 11)) (eCB oLen (aCons (eVar 0) (aNil)))), (eC (.str "cells"), eOp oAdd (eLc (iSeq (eVar 0)) (gN 1) (bYes) (eOp oMod (eCB oAbs (aCons (eVar 1) (aNil))) (eOp oPow (eC (.int 10)) (eC (.int 9)))) [1]) (eLst (aCons (eC (.int 5)) (aNil))))])
def gd_law_take : SM :=
  sSeq (sIf (bAnd (bOf (eOp oEq (eOp oIx (eVar 0) (eC (.str "rest"))) (eC (.int 0)))) (bOf (eOp oNe (eOp oIx (eVar 0) (eC (.str "great"))) (eLst (aNil))))) (sPut (eBM "list" oPopAt (eOp oIx (eVar 0) (eC (.str "great"))) (aCons (eC (.int 0)) (aNil))) (eVar 0) (eC (.str "rest"))) (sNil)) (sSeq (sIf (bOf (eOp oGt (eOp oIx (eVar 0) (eC (.str "rest"))) (eC (.int 0)))) (sSeq (sSet 2 (eOp oMod (eOp oIx (eVar 0) (eC (.str "rest"))) (eVar 1))) (sSeq (sPut (eOp oDiv (eOp oIx (eVar 0) (eC (.str "rest"))) (eVar 1)) (eVar 0) (eC (.str "rest"))) (sRet (eVar 2)))) (sNil)) (sSeq (sSet 3 (eOp oIx (eVar 0) (eC (.str "turn")))) (sSeq (sPut (eOp oAdd (eVar 3) (eC (.int 1))) (eVar 0) (eC (.str "turn"))) (sSeq (sSet 4 (eOp oIx (eOp oIx (eVar 0) (eC (.str "cells"))) (eOp oMod (eVar 3) (eCB oLen (aCons (eOp oIx (eVar 0) (eC (.str "cells"))) (aNil)))))) (sSeq (sSet 5 (eOp oAdd (eOp oMul (eOp oIx (eVar 0) (eC (.str "seed"))) (eC (.int 69621))) (eOp oMul (eVar 4) (eOp oAdd (eOp oMul (eC (.int 2)) (eVar 3)) (eC (.int 1)))))) (sSeq (sPut (eOp oMod (eOp oAdd (eOp oAdd (eVar 5) (eOp oPow (eVar 3) (eC (.int 3)))) (eC (.int 1))) (eC (.int 2147483647))) (eVar 0) (eC (.str "seed"))) (sRet (eOp oMod (eOp oMod (eOp oPow (eOp oIx (eVar 0) (eC (.str "seed"))) (eC (.int 3))) (eC (.int 2147483629))) (eVar 1)))))))))
def gd_law_pick (f_law_take : Fn) : SM :=
  sRet (eOp oIx (eVar 1) (eCall 2 f_law_take (aCons (eVar 0) (aCons (eCB oLen (aCons (eVar 1) (aNil))) (aNil)))))
def gd_law_names (f_law_take : Fn) : SM :=
  sSeq (sSet 2 (eBM "str" oSplit (eC (.str "width input set tell if else while turns below same unlike end")) (aCons (eC (.str " ")) (aNil)))) (sSeq (sSet 3 (eC (.str "abcdefghijklmnopqrstuvwxyz0123456789"))) (sSeq (sSet 4 (eLst (aNil))) (sSeq (sForI (iRange1 (aCons (eVar 1) (aNil))) (gN 5) (sSeq (sSet 6 (eOp oIx (eVar 3) (eCall 2 f_law_take (aCons (eVar 0) (aCons (eC (.int 26)) (aNil)))))) (sSeq (sForI (iRange1 (aCons (eCB oMin2 (aCons (eC (.int 5)) (aCons (eOp oAdd (eCall 2 f_law_take (aCons (eVar 0) (aCons (eC (.int 3)) (aNil)))) (eOp oDiv (eVar 5) (eC (.int 3)))) (aNil)))) (aNil))) (gN 7) (sSet 6 (eOp oAdd (eVar 6) (eOp oIx (eVar 3) (eCall 2 f_law_take (aCons (eVar 0) (aCons (eC (.int 36)) (aNil)))))))) (sSeq (sIf (bOr (bOf (eOp oIn (eVar 6) (eVar 2))) (bOf (eOp oIn (eVar 6) (eVar 4)))) (sSeq (sSet 8 (eLc (iSeq (eSl (eVar 3) none (some (eC (.int 26))))) (gN 9) (bYes) (eOp oAdd (eOp oAdd (eVar 9) (eCB oStrI (aCons (eVar 5) (aNil)))) (eC (.str "z"))) [9])) (sSet 6 (eOp oIx (eLc (iSeq (eVar 8)) (gN 10) (bOf (eOp oNotIn (eVar 10) (eVar 4))) (eVar 10) [10]) (eC (.int 0))))) (sNil)) (sExp (eBM "list" oAppend (eVar 4) (aCons (eVar 6) (aNil)))))))) (sRet (eVar 4)))))
def gd_law_spread (f_law_take : Fn) (f_law_pick : Fn) (f_law_size : Fn) : SM :=
  sSeq (sSet 3 (eDicT)) (sSeq (sForI (iRange1 (aCons (eCall 2 f_law_take (aCons (eVar 0) (aCons (eC (.int 4)) (aNil)))) (aNil))) (gN 4) (sSeq (sSet 5 (eCB oTuple (aCons (eCB oSortedA (aCons (eLc (iRange1 (aCons (eCall 2 f_law_take (aCons (eVar 0) (aCons (eC (.int 3)) (aNil)))) (aNil))) (gN 6) (bYes) (eCall 2 f_law_pick (aCons (eVar 0) (aCons (eVar 1) (aNil)))) [6]) (aNil))) (aNil)))) (sPutT (eOp oAdd (eC (.int 1)) (eCall 2 f_law_take (aCons (eVar 0) (aCons (eOp oSub (eCall 1 f_law_size (aCons (eVar 2) (aNil))) (eC (.int 1))) (aNil))))) (eVar 3) (eVar 5)))) (sRet (eCB oTuple (aCons (eLc (iSeq (eCB oSortedA (aCons (eVar 3) (aNil)))) (gN 5) (bYes) (eTup (aCons (eVar 5) (aCons (eOp oIxT (eVar 3) (eVar 5)) (aNil)))) [5]) (aNil)))))
/-! ### what is drawn from (the laws of spans and standings); B bounds how often was drawn -/
def stD (g c : Nat) (r t m : Int) : List (Key × D) := [(.inr "great", .loc g), (.inr "rest", .int r), (.inr "turn", .int t), (.inr "seed", .int m), (.inr "cells", .loc c)]
theorem e_gs : ¬ (("great" : Str) = "seed") := by decide +kernel
theorem e_rs : ¬ (("rest" : Str) = "seed") := by decide +kernel
theorem e_ts : ¬ (("turn" : Str) = "seed") := by decide +kernel
theorem e_cs : ¬ (("cells" : Str) = "seed") := by decide +kernel
section
variable {g c : Nat} {r t m : Int}
theorem ld_g : lookK (stD g c r t m) (.inr "great") = some (.loc g) := by simp [lookK, stD]
theorem ld_r : lookK (stD g c r t m) (.inr "rest") = some (.int r) := by simp [lookK, stD, e_gr]
theorem ld_t : lookK (stD g c r t m) (.inr "turn") = some (.int t) := by simp [lookK, stD, e_gt, e_rt]
theorem ld_m : lookK (stD g c r t m) (.inr "seed") = some (.int m) := by simp [lookK, stD, e_gs, e_rs, e_ts]
theorem ld_c : lookK (stD g c r t m) (.inr "cells") = some (.loc c) := by simp [lookK, stD, e_gc, e_rc, Ne.symm e_ct, Ne.symm e_cs]
theorem qd_r (r' : Int) : putD (stD g c r t m) (.inr "rest") (.int r') = stD g c r' t m := by
  have h1 := e_gr; have h2 := Ne.symm e_rt; have h3 := Ne.symm e_rs; have h4 := Ne.symm e_rc
  simp [putD, stD, h1, h2, h3, h4]
theorem qd_t (r' : Int) : putD (stD g c r t m) (.inr "turn") (.int r') = stD g c r r' m := by
  have h1 := e_gt; have h2 := e_rt; have h3 := Ne.symm e_ts; have h4 := e_ct
  simp [putD, stD, h1, h2, h3, h4]
theorem qd_m (r' : Int) : putD (stD g c r t m) (.inr "seed") (.int r') = stD g c r t r' := by
  have h1 := e_gs; have h2 := e_rs; have h3 := e_ts; have h4 := e_cs
  simp [putD, stD, h1, h2, h3, h4]
theorem mg_stD : mergeD [] (stD g c r t m) = stD g c r t m := by
  have h1 := e_gr; have h2 := e_gt; have h3 := e_gs; have h4 := e_gc
  have h5 := e_rt; have h6 := e_rs; have h7 := e_rc; have h8 := e_ts; have h9 := Ne.symm e_ct; have h10 := Ne.symm e_cs
  simp [mergeD, putD, stD, h1, h2, h3, h4, h5, h6, h7, h8, h9, h10]
end
structure DrD (s g c B : Nat) (st : Sto) : Prop where
  sg : s ≠ g
  sc : s ≠ c
  gc : g ≠ c
  ex : ∃ (r t m : Int) (gs cs : List Int), st[s]? = some (.dic (stD g c r t m)) ∧ st[g]? = some (.lst (gs.map D.int)) ∧ st[c]? = some (.lst (cs.map D.int)) ∧ 0 ≤ m ∧ m < 2 ^ 60 ∧ gs.length ≤ 63 ∧ 0 ≤ t ∧ t ≤ B ∧ 0 < cs.length ∧ ∀ x ∈ cs, 0 ≤ x ∧ x < 1073741824
theorem DrD.app {s g c B : Nat} {st t : Sto} (h : DrD s g c B st) : DrD s g c B (st ++ t) := by
  obtain ⟨h1, h2, h3, r, t', m, gs, cs, e1, e2, e3, e4⟩ := h
  exact ⟨h1, h2, h3, r, t', m, gs, cs, app_get e1, app_get e2, app_get e3, e4⟩
theorem DrD.mono {s g c B B' : Nat} {st : Sto} (h : DrD s g c B st) (k : B ≤ B') : DrD s g c B' st := by
  obtain ⟨h1, h2, h3, r, t', m, gs, cs, e1, e2, e3, e4, e5, e6, e7, e8, e9⟩ := h
  exact ⟨h1, h2, h3, r, t', m, gs, cs, e1, e2, e3, e4, e5, e6, e7, by omega, e9⟩
theorem DrD.lt {s g c B : Nat} {st : Sto} (h : DrD s g c B st) : s < st.length ∧ g < st.length ∧ c < st.length := by
  obtain ⟨h1, h2, h3, r, t', m, gs, cs, e1, e2, e3, e4⟩ := h
  exact ⟨(List.getElem?_eq_some_iff.mp e1).1, (List.getElem?_eq_some_iff.mp e2).1, (List.getElem?_eq_some_iff.mp e3).1⟩
theorem DrD.setO {s g c B : Nat} {st : Sto} {l : Nat} {o : O} (h : DrD s g c B st) (n1 : l ≠ s) (n2 : l ≠ g) (n3 : l ≠ c) : DrD s g c B (st.set l o) := by
  obtain ⟨h1, h2, h3, r, t', m, gs, cs, e1, e2, e3, e4⟩ := h
  exact ⟨h1, h2, h3, r, t', m, gs, cs, by rw [List.getElem?_set_ne n1]; exact e1, by rw [List.getElem?_set_ne n2]; exact e2, by rw [List.getElem?_set_ne n3]; exact e3, e4⟩
theorem DrD.ext {s g c B : Nat} {st st' : Sto} (h : DrD s g c B st) (k : Ext st st') : DrD s g c B st' := by
  obtain ⟨h1, h2, h3, r, t', m, gs, cs, e1, e2, e3, e4⟩ := h
  exact ⟨h1, h2, h3, r, t', m, gs, cs, k.get e1, k.get e2, k.get e3, e4⟩
theorem pow_i {i j : Int} {st : Sto} (h0 : 0 ≤ j) (h1 : j ≤ 1000000) (h2 : i.natAbs < 2 ^ 64) : oPow (.int i) (.int j) st = some (.int (i ^ j.toNat), st) := if_pos ⟨h0, h1, h2⟩
theorem takeD_ok {s g c B : Nat} {st : Sto} {many : Int} (hB : B ≤ 2 ^ 60) (hD : DrD s g c B st) (h0 : 0 < many) (h1 : many < 1073741824) :
    Ok (runDef 6 gd_law_take [.loc s, .int many] st) fun d st' => (∃ v : Int, d = .int v ∧ 0 ≤ v ∧ v < many) ∧ DrD s g c (B + 1) st' ∧ Gr s g st st' := by
  unfold Ok
  rw [k_run, st_6_2]
  unfold gd_law_take
  refine cut_seq (fun en' st' => en' = [some (.loc s), some (.int many), none, none, none, none] ∧ DrD s g c B st' ∧ Gr s g st st') ?_ (fun en1 st1 hI => ?_)
  · obtain ⟨n1, n2, n3, r, t, m, gs, cs, e1, e2, e3, e4, e5, e6, e7⟩ := id hD
    walk_at "go"
    rw [ix_dic e1 ld_r]
    walk_at "go"
    by_cases hr : r = 0
    · subst hr
      rw [show oEq (.int 0) (.int 0) st = some (.bl true, st) from rfl]
      walk_at "go"
      rw [ix_dic e1 ld_g]
      walk_at "go"
      rw [if_pos (Nat.zero_le _)]
      have a1 := app_get (t := [O.lst []]) e1
      have a2 := app_get (t := [O.lst []]) e2
      have a3 := app_get (t := [O.lst []]) e3
      rw [ne_ints (lst_at a2) (lst_at last_at)]
      walk_at "go"
      cases gs with
      | nil =>
        rw [if_neg (show ¬ (!([] : List Int).isEmpty) = true from by decide)]
        exact ⟨trivial, hD.app, Gr.app⟩
      | cons v gs =>
        rw [if_pos (show (!(v :: gs).isEmpty) = true from rfl)]
        rw [ix_dic a1 ld_g]
        walk_at "go"
        have hT : isTyD "list" (.loc g) (st ++ [O.lst []]) = true := by unfold isTyD; dsimp only; rw [a2]; rfl
        rw [if_pos hT]
        have hp : oPopAt (.loc g) [.int 0] (st ++ [O.lst []]) = some (.int v, (st ++ [O.lst []]).set g (.lst (gs.map D.int))) := by
          unfold oPopAt
          dsimp only
          rw [a2]
          dsimp only
          rw [show ixN ((v :: gs).map D.int).length 0 = some 0 from by unfold ixN; rw [if_pos (Int.le_refl 0), if_pos (by rw [List.length_map, List.length_cons]; omega)]; rfl]
          rfl
        rw [hp]
        walk_at "go"
        have b1 : ((st ++ [O.lst []]).set g (.lst (gs.map D.int)))[s]? = some (.dic (stD g c 0 t m)) := by rw [List.getElem?_set_ne (Ne.symm n1)]; exact a1
        have b2 : ((st ++ [O.lst []]).set g (.lst (gs.map D.int)))[g]? = some (.lst (gs.map D.int)) := List.getElem?_set_self (List.getElem?_eq_some_iff.mp a2).1
        have b3 : ((st ++ [O.lst []]).set g (.lst (gs.map D.int)))[c]? = some (.lst (cs.map D.int)) := by rw [List.getElem?_set_ne n3]; exact a3
        rw [set_dic (kvs' := stD g c v t m) b1 (by show 5 < sizeLine; decide) (qd_r v)]
        rw [List.length_cons] at e6
        refine ⟨trivial, ⟨n1, n2, n3, v, t, m, gs, cs, List.getElem?_set_self (List.getElem?_eq_some_iff.mp b1).1, ?_, ?_, e4, e5, by omega, e7⟩, (Gr.app.trans Gr.setG).trans Gr.setS⟩
        · rw [List.getElem?_set_ne n1]; exact b2
        · rw [List.getElem?_set_ne n2]; exact b3
    · have : oEq (.int r) (.int 0) st = some (.bl false, st) := by
        unfold oEq eqDat
        dsimp only
        rw [decide_eq_false hr]
      rw [this]
      walk_at "go"
      exact ⟨trivial, hD, Gr.refl⟩
  obtain ⟨rfl, hD1, hG1⟩ := hI
  refine cut_seq (fun en' st' => en' = [some (.loc s), some (.int many), none, none, none, none] ∧ DrD s g c B st' ∧ Gr s g st st') ?_ (fun en2 st2 hI => ?_)
  · obtain ⟨n1, n2, n3, r, t, m, gs, cs, e1, e2, e3, e4, e5, e6, e7⟩ := id hD1
    walk_at "go"
    rw [ix_dic e1 ld_r]
    walk_at "go"
    rw [show oGt (.int r) (.int 0) st1 = some (.bl (decide (0 < r)), st1) from rfl]
    walk_at "go"
    by_cases hr : 0 < r
    · rw [if_pos (decide_eq_true hr), ix_dic e1 ld_r]
      walk_at "go"
      rw [mod_i h0]
      walk_at "go"
      rw [ix_dic e1 ld_r]
      walk_at "go"
      rw [div_i h0 h1]
      walk_at "go"
      rw [set_dic (kvs' := stD g c (r / many) t m) e1 (by show 5 < sizeLine; decide) (qd_r _)]
      have hfin : DrD s g c B (st1.set s (.dic (stD g c (r / many) t m))) := by
        refine ⟨n1, n2, n3, r / many, t, m, gs, cs, List.getElem?_set_self (List.getElem?_eq_some_iff.mp e1).1, ?_, ?_, e4, e5, e6, e7⟩
        · rw [List.getElem?_set_ne n1]; exact e2
        · rw [List.getElem?_set_ne n2]; exact e3
      exact ⟨⟨_, rfl, Int.emod_nonneg _ (by omega), Int.emod_lt_of_pos _ h0⟩, hfin.mono (by omega), hG1.trans Gr.setS⟩
    · rw [if_neg (by rw [decide_eq_false hr]; exact Bool.false_ne_true)]
      exact ⟨trivial, hD1, hG1⟩
  obtain ⟨rfl, hD2, hG2⟩ := hI
  obtain ⟨n1, n2, n3, r, t, m, gs, cs, e1, e2, e3, e4, e5, e6, e7, e8, e9, e10⟩ := hD2
  walk_at "go"
  rw [ix_dic e1 ld_t]
  walk_at "go"
  rw [show oAdd (.int t) (.int 1) st2 = some (.int (t + 1), st2) from rfl]
  walk_at "go"
  rw [set_dic (kvs' := stD g c r (t + 1) m) e1 (by show 5 < sizeLine; decide) (qd_t _)]
  have b1 : (st2.set s (.dic (stD g c r (t + 1) m)))[s]? = some (.dic (stD g c r (t + 1) m)) := List.getElem?_set_self (List.getElem?_eq_some_iff.mp e1).1
  have b2 : (st2.set s (.dic (stD g c r (t + 1) m)))[g]? = some (.lst (gs.map D.int)) := by rw [List.getElem?_set_ne n1]; exact e2
  have b3 : (st2.set s (.dic (stD g c r (t + 1) m)))[c]? = some (.lst (cs.map D.int)) := by rw [List.getElem?_set_ne n2]; exact e3
  have hG3 : Gr s g st (st2.set s (.dic (stD g c r (t + 1) m))) := hG2.trans Gr.setS
  generalize st2.set s (.dic (stD g c r (t + 1) m)) = st3 at b1 b2 b3 hG3
  dsimp only
  rw [ix_dic b1 ld_c]
  walk_at "go"
  rw [ix_dic b1 ld_c]
  walk_at "go"
  rw [len_lst b3]
  walk_at "go"
  have hl : (0 : Int) < (cs.map D.int).length := by rw [List.length_map]; omega
  rw [mod_i hl]
  walk_at "go"
  have p0 := Int.emod_nonneg t (show ((cs.map D.int).length : Int) ≠ 0 by omega)
  have p1 := Int.emod_lt_of_pos t hl
  obtain ⟨x, hat, hx⟩ : ∃ x : Int, atI (cs.map D.int) (t % (cs.map D.int).length) = some (.int x) ∧ x ∈ cs := by
    rw [at_nat p0 p1, List.getElem?_map]
    have hlt : (t % (cs.map D.int).length).toNat < cs.length := by
      have : (cs.map D.int).length = cs.length := List.length_map ..
      omega
    rw [List.getElem?_eq_getElem hlt]
    exact ⟨_, rfl, List.getElem_mem hlt⟩
  rw [ix_lst (lst_at b3) hat]
  have hxb := e10 x hx
  walk_at "go"
  rw [ix_dic b1 ld_m]
  walk_at "go"
  rw [mul_r (i := m) (j := 69621) (st := st3) (by omega)]
  walk_at "go"
  rw [mul_l (i := 2) (j := t) (st := st3) (by omega)]
  walk_at "go"
  rw [show oAdd (.int (2 * t)) (.int 1) st3 = some (.int (2 * t + 1), st3) from rfl]
  walk_at "go"
  rw [mul_l (i := x) (j := 2 * t + 1) (st := st3) (by omega)]
  walk_at "go"
  rw [show oAdd (.int (m * 69621)) (.int (x * (2 * t + 1))) st3 = some (.int (m * 69621 + x * (2 * t + 1)), st3) from rfl]
  walk_at "go"
  rw [pow_i (i := t) (j := 3) (st := st3) (by omega) (by omega) (by omega)]
  walk_at "go"
  generalize hz : m * 69621 + x * (2 * t + 1) = z
  generalize t ^ (3 : Int).toNat = t3
  rw [show oAdd (.int z) (.int t3) st3 = some (.int (z + t3), st3) from rfl]
  walk_at "go"
  rw [show oAdd (.int (z + t3)) (.int 1) st3 = some (.int (z + t3 + 1), st3) from rfl]
  walk_at "go"
  rw [mod_i (i := z + t3 + 1) (j := 2147483647) (st := st3) (by omega)]
  walk_at "go"
  generalize hm : (z + t3 + 1) % 2147483647 = m'
  have hm1 : 0 ≤ m' := by omega
  have hm2 : m' < 2147483647 := by omega
  rw [set_dic (kvs' := stD g c r (t + 1) m') b1 (by show 5 < sizeLine; decide) (qd_m _)]
  have c1 : (st3.set s (.dic (stD g c r (t + 1) m')))[s]? = some (.dic (stD g c r (t + 1) m')) := List.getElem?_set_self (List.getElem?_eq_some_iff.mp b1).1
  have c2 : (st3.set s (.dic (stD g c r (t + 1) m')))[g]? = some (.lst (gs.map D.int)) := by rw [List.getElem?_set_ne n1]; exact b2
  have c3 : (st3.set s (.dic (stD g c r (t + 1) m')))[c]? = some (.lst (cs.map D.int)) := by rw [List.getElem?_set_ne n2]; exact b3
  have hG4 : Gr s g st (st3.set s (.dic (stD g c r (t + 1) m'))) := hG3.trans Gr.setS
  generalize st3.set s (.dic (stD g c r (t + 1) m')) = st4 at c1 c2 c3 hG4
  dsimp only
  rw [ix_dic c1 ld_m]
  walk_at "go"
  rw [pow_i (i := m') (j := 3) (st := st4) (by omega) (by omega) (by omega)]
  walk_at "go"
  rw [mod_i (i := m' ^ (3 : Int).toNat) (j := 2147483629) (st := st4) (by omega)]
  walk_at "go"
  rw [mod_i (j := many) (st := st4) h0]
  exact ⟨⟨_, rfl, Int.emod_nonneg _ (by omega), Int.emod_lt_of_pos _ h0⟩, ⟨n1, n2, n3, r, t + 1, m', gs, cs, c1, c2, c3, hm1, by omega, e6, by omega, by omega, e9, e10⟩, hG4⟩
/-- what draws, with a bound for how often -/
abbrev TakeD (s g c : Nat) (take : Fn) : Prop := ∀ ⦃B : Nat⦄ ⦃st : Sto⦄ ⦃many : Int⦄, B ≤ 2 ^ 60 → DrD s g c B st → 0 < many → many < 1073741824 → Ok (take [.loc s, .int many] st) fun d st' => (∃ v : Int, d = .int v ∧ 0 ≤ v ∧ v < many) ∧ DrD s g c (B + 1) st' ∧ Gr s g st st'
section
variable {s g c B : Nat} {take : Fn} {st : Sto}
theorem pickD_lst (hT : TakeD s g c take) (hB : B ≤ 2 ^ 60) {l : Nat} {ds : List D} (hD : DrD s g c B st) (hl : st[l]? = some (.lst ds)) (n1 : l ≠ s) (n2 : l ≠ g) (h0 : 0 < ds.length) (h1 : ds.length ≤ 1000000) :
    Ok (runDef 2 (gd_law_pick take) [.loc s, .loc l] st) fun d st' => d ∈ ds ∧ DrD s g c (B + 1) st' ∧ Gr s g st st' := by
  unfold Ok
  rw [k_run, st_2_2]
  unfold gd_law_pick
  walk_at "go"
  rw [len_lst hl]
  walk_at "go"
  refine Ok.imp (hT hB hD (many := (ds.length : Int)) (by omega) (by omega)) fun d st' ⟨⟨v, e, h2, h3⟩, hD', hG⟩ => ?_
  subst e
  have hv : v.toNat < ds.length := by omega
  rw [ix_lst (d := ds[v.toNat]) (lst_at (hG.keep l _ n1 n2 hl)) (by rw [at_nat h2 h3]; exact List.getElem?_eq_getElem hv)]
  exact ⟨List.getElem_mem hv, hD', hG⟩
end
theorem begunD_ok {ns : List Int} (hn : ns.length ≤ 63) : Ok (runDef 2 gd_law_begun [.loc 0] [.rol (ns.map D.int)]) fun d st' => d = .loc 1 ∧ DrD 1 2 5 0 st' ∧ st'[0]? = some (.rol (ns.map D.int)) := by
  unfold Ok
  rw [k_run, st_2_1]
  unfold gd_law_begun
  walk_at "go"
  have hl : lstAt [O.rol (ns.map D.int), .dic []] 0 = some (ns.map D.int) := rol_at rfl
  show match lstAt [O.rol (ns.map D.int), .dic []] 0 with | some ds => _ | none => False
  rw [hl]
  dsimp only
  refine Ok.imp (lc_pureAt (fun d => d) (fun d => match d with | .int i => decide ((10 : Int) ^ 18 ≤ i) | _ => false) ?_ hl ?_) (fun _ st' e => ?_)
  · rw [List.length_map]
    exact szl (by omega)
  · intro d hd
    obtain ⟨i, _, rfl⟩ := List.mem_map.mp hd
    exact ⟨_, rfl, fun acc => ⟨rfl, fun _ => rfl⟩⟩
  subst e
  have e1 : ((ns.map D.int).filter fun d => match d with | .int i => decide ((10 : Int) ^ 18 ≤ i) | _ => false).map (fun d => d) = (ns.filter fun i => decide ((10 : Int) ^ 18 ≤ i)).map D.int := by
    rw [List.map_id', List.filter_map]
    rfl
  rw [e1]
  obtain ⟨gs, hgs, hgl⟩ : ∃ gs, gs = ns.filter (fun i => decide ((10 : Int) ^ 18 ≤ i)) ∧ gs.length ≤ 63 := ⟨_, rfl, Nat.le_trans (List.length_filter_le ..) hn⟩
  rw [← hgs]
  have hl2 : lstAt [O.rol (ns.map D.int), .dic [], .lst (gs.map D.int)] 0 = some (ns.map D.int) := rol_at rfl
  rw [show ([O.rol (ns.map D.int)] ++ [O.dic []] ++ [O.lst (gs.map D.int)] : Sto) = [O.rol (ns.map D.int), .dic [], .lst (gs.map D.int)] from rfl, show ([O.rol (ns.map D.int)] ++ [O.dic []] : Sto).length = 2 from rfl]
  rw [len_rol (ds := ns.map D.int) rfl]
  walk_at "go"
  rw [show oAdd (.int 11) (.int ((ns.map D.int).length : Int)) [O.rol (ns.map D.int), .dic [], .lst (gs.map D.int)] = some (.int (11 + ((ns.map D.int).length : Int)), [O.rol (ns.map D.int), .dic [], .lst (gs.map D.int)]) from rfl]
  walk_at "go"
  rw [hl2]
  dsimp only
  refine Ok.imp (lc_pureAt (fun d => match d with | .int i => .int ((if i < 0 then -i else i) % 10 ^ 9) | d => d) (fun d => true) ?_ hl2 ?_) (fun _ st' e => ?_)
  · rw [List.length_map]
    exact szl (by omega)
  · intro d hd
    obtain ⟨i, _, rfl⟩ := List.mem_map.mp hd
    exact ⟨_, rfl, fun acc => ⟨rfl, fun _ => rfl⟩⟩
  subst e
  rw [List.filter_eq_self.mpr (fun _ _ => rfl), List.map_map]
  have e2 : (ns.map ((fun d => match d with | D.int i => D.int ((if i < 0 then -i else i) % 10 ^ 9) | d => d) ∘ D.int)) = (ns.map fun i => (if i < 0 then -i else i) % 10 ^ 9).map D.int := by
    rw [List.map_map]
    rfl
  rw [e2]
  obtain ⟨cs, hcs⟩ : ∃ cs, cs = ns.map (fun i => (if i < 0 then -i else i) % (10 : Int) ^ 9) := ⟨_, rfl⟩
  rw [← hcs]
  have hcl : cs.length ≤ 63 := by rw [hcs, List.length_map]; exact hn
  rw [if_pos (show 1 ≤ sizeLine by decide)]
  rw [add_l (xs := cs.map D.int) (ys := [D.int 5]) rfl rfl (by rw [List.length_map]; simp; omega)]
  walk_at "go"
  refine ⟨stD 2 5 0 0 (11 + ((ns.map D.int).length : Int)), rfl, rfl, by show 5 ≤ 15; omega, trivial, ?_, ?_⟩
  · rw [mg_stD]
    refine ⟨by decide, by decide, by decide, 0, 0, _, gs, cs ++ [5], rfl, rfl, ?_, by omega, ?_, hgl, by omega, by omega, by simp, fun x hx => ?_⟩
    · rw [List.map_append]; rfl
    · rw [List.length_map]; omega
    · rcases List.mem_append.mp hx with z | z
      · rw [hcs] at z
        obtain ⟨i, _, rfl⟩ := List.mem_map.mp z
        split <;> omega
      · rw [List.mem_singleton.mp z]; omega
  · rfl
/-! ### names, comprehensions and spreads that are drawn -/
theorem lc_drawsD {s g c B b : Nat} {el : EM} {tg : D → Ev → Option Ev} {enw : Ev} {ds : List D} {st : Sto} (Q : D → Prop) (hz : ds.length < sizeLine) (hI : DrD s g c B st)
    (h : ∀ (i : Nat) (d : D), ds[i]? = some d → ∃ en1, tg d enw = some en1 ∧ ∀ st1, DrD s g c (B + b * i) st1 → Gr s g st st1 → Ok (el en1 st1) fun y st2 => Q y ∧ DrD s g c (B + b * i + b) st2 ∧ Gr s g st1 st2) :
    Ok (lcLoop bYes el tg (srcIts ds) st.length enw ds.length 0 (st ++ [.lst []])) fun _ st' => ∃ ys : List D, ys.length = ds.length ∧ (∀ y ∈ ys, Q y) ∧ st'[st.length]? = some (.lst ys) ∧ DrD s g c (B + b * ds.length) st' ∧ Gr s g st st' := by
  have hlt := hI.lt
  refine lc_its (fun i st' => ∃ ys : List D, ys.length = i ∧ i ≤ ds.length ∧ (∀ y ∈ ys, Q y) ∧ st'[st.length]? = some (.lst ys) ∧ DrD s g c (B + b * i) st' ∧ Gr s g st st') ⟨[], rfl, Nat.zero_le _, fun _ h => (by cases h), last_at, by rw [Nat.mul_zero]; exact hI.app, Gr.app⟩ (fun i d st' e hJ => ?_) |>.imp fun _ st' ⟨ys, h1, _, h2⟩ => ⟨ys, h1, h2⟩
  obtain ⟨ys, hl, hle, hq, hL, hI', hG⟩ := hJ
  obtain ⟨en1, e1, h1⟩ := h i d e
  have hi : i < ds.length := (List.getElem?_eq_some_iff.mp e).1
  refine ⟨en1, e1, ?_⟩
  show OkX (bYes en1 st') _ _
  refine OkX.of_eq (a := true) (st := st') rfl ?_
  rw [if_pos rfl]
  refine Ok.imp (h1 st' hI' hG) fun y st2 ⟨hy, hI2, hG2⟩ => ?_
  have hL2 := hG2.keep _ _ (by omega) (by omega) hL
  refine ⟨ys, hL2, by omega, ys ++ [y], by rw [List.length_append, List.length_singleton]; omega, by omega, fun z hz => ?_, List.getElem?_set_self (lift_len hL2), (hI2.setO (by omega) (by omega) (by omega)).mono (by rw [Nat.mul_succ]; omega), (hG.trans hG2).setN (Nat.le_refl _)⟩
  rcases List.mem_append.mp hz with hz | hz
  · exact hq z hz
  · rw [List.mem_singleton.mp hz]; exact hy
theorem min_i {i j : Int} {st : Sto} : oMin2 [.int i, .int j] st = some (.int (if j < i then j else i), st) := rfl
section
variable {s g c B : Nat} {take : Fn} {st : Sto}
theorem namesD_sp (hT : TakeD s g c take) (hB : B ≤ 2 ^ 59) {many : Int} (h0 : 0 ≤ many) (h1 : many ≤ 12) (hI : DrD s g c B st) :
    Ok (runDef 11 (gd_law_names take) [.loc s, .int many] st) fun d st' => ∃ (L : Nat) (ws : List Str), d = .loc L ∧ st'[L]? = some (.lst (ws.map D.str)) ∧ (ws.length : Int) = many ∧ (∀ w ∈ ws, Name w) ∧ ws.Nodup ∧ st.length ≤ L ∧ DrD s g c (B + 84) st' ∧ Gr s g st st' := by
  unfold Ok
  rw [k_run, st_11_2]
  unfold gd_law_names
  have hlt := hI.lt
  refine cut_seq (fun en' st' => en' = [some (.loc s), some (.int many), some (.loc st.length), none, none, none, none, none, none, none, none] ∧ st' = st ++ [.lst (keptT.map D.str)]) ?_ (fun en1 st1 hJ => ?_)
  · walk_at "go"
    rw [if_pos (show isTyD "str" (D.str _) _ = true from rfl), split_keptO]
    exact ⟨rfl, rfl⟩
  obtain ⟨rfl, rfl⟩ := hJ
  refine cut_seq (fun en' st' => en' = [some (.loc s), some (.int many), some (.loc st.length), some (.str signsT), none, none, none, none, none, none, none] ∧ st' = st ++ [.lst (keptT.map D.str)]) ⟨rfl, rfl⟩ (fun en1 st1 hJ => ?_)
  obtain ⟨rfl, rfl⟩ := hJ
  refine cut_seq (fun en' st' => en' = [some (.loc s), some (.int many), some (.loc st.length), some (.str signsT), some (.loc (st.length + 1)), none, none, none, none, none, none] ∧ st'[st.length]? = some (.lst (keptT.map D.str)) ∧ st'[st.length + 1]? = some (.lst []) ∧ DrD s g c B st' ∧ Gr s g st st') ?_ (fun en1 st1 hJ => ?_)
  · walk_at "go"
    rw [if_pos (Nat.zero_le _)]
    rw [List.length_append, List.length_singleton]
    refine ⟨rfl, app_get last_at, ?_, hI.app.app, Gr.app.trans Gr.app⟩
    rw [List.getElem?_append_right (by simp)]
    simp
  obtain ⟨rfl, hK, hS, hI1, hG1⟩ := hJ
  refine cut_seq (fun en' st' => ∃ (ws : List Str) (y5 y6 y7 y8 y9 y10 : Option D), en' = [some (.loc s), some (.int many), some (.loc st.length), some (.str signsT), some (.loc (st.length + 1)), y5, y6, y7, y8, y9, y10] ∧ st'[st.length + 1]? = some (.lst (ws.map D.str)) ∧ (ws.length : Int) = many ∧ (∀ w ∈ ws, Name w) ∧ ws.Nodup ∧ DrD s g c (B + 84) st' ∧ Gr s g st st') ?_ (fun en1 st2 hJ => ?_)
  · walk_at "go"
    rw [if_pos (by omega)]
    have hm : many.toNat ≤ 12 := by omega
    have hm2 : (many.toNat : Int) = many := by omega
    generalize many.toNat = n at hm hm2
    refine for_rng (n := n) (fun i en' st' => ∃ (ws : List Str) (y5 y6 y7 y8 y9 y10 : Option D), en' = [some (.loc s), some (.int many), some (.loc st.length), some (.str signsT), some (.loc (st.length + 1)), y5, y6, y7, y8, y9, y10] ∧ st'[st.length]? = some (.lst (keptT.map D.str)) ∧ st'[st.length + 1]? = some (.lst (ws.map D.str)) ∧ ws.length = i ∧ (∀ w ∈ ws, Name w) ∧ ws.Nodup ∧ DrD s g c (B + 7 * i) st' ∧ Gr s g st st') ⟨[], _, _, _, _, _, _, rfl, hK, hS, rfl, fun _ h => (by cases h), List.nodup_nil, hI1, hG1⟩ ?_ ?_
    · intro i en st2 hi hJ
      obtain ⟨ws, y5, y6, y7, y8, y9, y10, rfl, hK2, hS2, hwl, hnm, hnd, hI2, hG2⟩ := hJ
      have hsl : st.length + 1 < st2.length := lift_len hS2
      refine ⟨_, rfl, ?_⟩
      refine cut_seq (fun en' st' => (∃ w : Str, en' = [some (.loc s), some (.int many), some (.loc st.length), some (.str signsT), some (.loc (st.length + 1)), some (.int (i : Int)), some (.str w), y7, y8, y9, y10] ∧ nmB w = true ∧ w.length = 1) ∧ DrD s g c (B + 7 * i + 1) st' ∧ Gr s g st2 st') ?_ (fun en1 st3 hJ => ?_)
      · walk_at "go"
        refine Ok.imp (hT (by omega) hI2 (by omega) (by omega)) fun d s1 ⟨⟨v1, e1, q1, q2⟩, hD1, hG4⟩ => ?_
        subst e1
        obtain ⟨x, hx, _, hx2⟩ := signs_at q1 (show v1 < 36 by omega)
        rw [ix_str (by decide +kernel) hx]
        exact ⟨⟨_, rfl, nmB_one (hx2 q2), len_one x⟩, hD1, hG4⟩
      obtain ⟨⟨w, rfl, hw, hw1⟩, hI3, hG3⟩ := hJ
      refine cut_seq (fun en' st' => (∃ (w : Str) (y7 : Option D), en' = [some (.loc s), some (.int many), some (.loc st.length), some (.str signsT), some (.loc (st.length + 1)), some (.int (i : Int)), some (.str w), y7, y8, y9, y10] ∧ nmB w = true) ∧ DrD s g c (B + 7 * i + 7) st' ∧ Gr s g st2 st') ?_ (fun en1 st4 hJ => ?_)
      · walk_at "go"
        refine Ok.imp (hT (by omega) hI3 (by omega) (by omega)) fun d s1 ⟨⟨v1, e1, q1, q2⟩, hD1, hG4⟩ => ?_
        subst e1
        rw [div_i (i := (i : Int)) (j := 3) (by omega) (by omega)]
        walk_at "go"
        rw [show ∀ a b : Int, oAdd (.int a) (.int b) s1 = some (.int (a + b), s1) from fun _ _ => rfl]
        walk_at "go"
        rw [min_i]
        walk_at "go"
        obtain ⟨u, hu, hu0, hu1⟩ : ∃ u : Int, u = (if v1 + (i : Int) / 3 < 5 then v1 + (i : Int) / 3 else 5) ∧ 0 ≤ u ∧ u ≤ 5 := ⟨_, rfl, by split <;> omega, by split <;> omega⟩
        rw [← hu]
        clear hu
        rw [if_pos (by omega)]
        have hu2 : u.toNat ≤ 5 := by omega
        generalize u.toNat = un at hu2
        refine for_rng (n := un) (fun j en' st' => (∃ (w : Str) (y7 : Option D), en' = [some (.loc s), some (.int many), some (.loc st.length), some (.str signsT), some (.loc (st.length + 1)), some (.int (i : Int)), some (.str w), y7, y8, y9, y10] ∧ nmB w = true ∧ w.length = 1 + j) ∧ DrD s g c (B + 7 * i + 2 + j) st' ∧ Gr s g st2 st') ⟨⟨w, _, rfl, hw, hw1⟩, hD1, hG3.trans hG4⟩ (fun j en s5 hj hJ => ?_) (fun en s5 hJ => ?_)
        · obtain ⟨⟨w, y7, rfl, hw, hwl⟩, hI5, hG5⟩ := hJ
          refine ⟨_, rfl, ?_⟩
          walk_at "go"
          refine Ok.imp (hT (by omega) hI5 (by omega) (by omega)) fun d s6 ⟨⟨v2, e1, q3, q4⟩, hD6, hG6⟩ => ?_
          subst e1
          obtain ⟨x, hx, hx2, _⟩ := signs_at q3 q4
          rw [ix_str (by decide +kernel) hx]
          walk_at "go"
          rw [add_s (by rw [len_one]; omega)]
          exact ⟨⟨w ++ oneS x, _, rfl, nmB_app hw hx2 (by omega), by rw [len_app, len_one]; omega⟩, hD6, hG5.trans hG6⟩
        · obtain ⟨⟨w, y7, rfl, hw, hwl⟩, hI5, hG5⟩ := hJ
          exact ⟨⟨w, y7, rfl, hw⟩, hI5.mono (by omega), hG5⟩
      obtain ⟨⟨w, y7, rfl, hw⟩, hI4, hG4⟩ := hJ
      have hK4 := hG4.keep _ _ (by omega) (by omega) hK2
      have hS4 := hG4.keep _ _ (by omega) (by omega) hS2
      refine cut_seq (fun en' st' => (∃ (w : Str) (y8 : Option D), en' = [some (.loc s), some (.int many), some (.loc st.length), some (.str signsT), some (.loc (st.length + 1)), some (.int (i : Int)), some (.str w), y7, y8, y9, y10] ∧ Name w ∧ ¬ w ∈ ws) ∧ DrD s g c (B + 7 * i + 7) st' ∧ Gr s g st2 st') ?_ (fun en1 st5 hJ => ?_)
      · rw [k_sif]
        refine OkX.imp (P := fun b st' => b = decide (w ∈ keptT ++ ws) ∧ st' = st4) (E := NoE) ?_ (fun b st' hb => ?_) (fun _ _ z => z.elim)
        · walk_at "go"
          rw [oIn_strs (ws := keptT) (lst_at hK4)]
          walk_at "go"
          by_cases hk : w ∈ keptT
          · rw [if_pos (decide_eq_true hk)]
            exact ⟨(decide_eq_true (List.mem_append_left _ hk)).symm, trivial⟩
          · rw [if_neg (by rw [decide_eq_false hk]; exact Bool.false_ne_true), oIn_strs (ws := ws) (lst_at hS4)]
            walk_at "go"
            refine ⟨?_, trivial⟩
            congr 1
            exact propext ⟨fun h => List.mem_append_right _ h, fun h => (List.mem_append.mp h).resolve_left hk⟩
        obtain ⟨rfl, rfl⟩ := hb
        by_cases hm2 : w ∈ keptT ++ ws
        · rw [if_pos (decide_eq_true hm2)]
          have hG5 := hG4
          have hI5 := hI4
          refine cut_seq (fun en' st' => (∃ M, en' = [some (.loc s), some (.int many), some (.loc st.length), some (.str signsT), some (.loc (st.length + 1)), some (.int (i : Int)), some (.str w), y7, some (.loc M), y9, y10] ∧ st'[M]? = some (.lst ((lettersT.cps.toList.map (othN i)).map D.str))) ∧ DrD s g c (B + 7 * i + 7) st' ∧ Gr s g st2 st') ?_ (fun en1 st6 hJ => ?_)
          · walk_at "go"
            rw [sl_txt (by decide +kernel), lettersC]
            walk_at "go"
            rw [signsD_letters]
            have hl := lc_pure (st0 := st') (cond := bYes) (el := eOp oAdd (eOp oAdd (eVar 9) (eCB oStrI (aCons (eVar 5) aNil))) (eC (.str "z"))) (tg := gN 9) (ds := lettersT.cps.toList.map fun x => D.str (oneS x)) (enw := wipeD [some (.loc s), some (.int many), some (.loc st.length), some (.str signsT), some (.loc (st.length + 1)), some (.int (i : Int)), some (.str w), y7, y8, y9, y10] [9]) (fun d => match d with | .str z => .str (z ++ Str.ofString (toString (i : Int)) ++ ("z" : Str)) | d => d) (fun _ => true) (by rw [List.length_map, letters_len]; decide) (fun d hd => ⟨_, rfl, fun acc => ⟨rfl, fun _ => by
                obtain ⟨x, hx, rfl⟩ := List.mem_map.mp hd
                have hnx := nmB_asc (othN_name (k := i) (by omega) hx).1
                have h6 : (othN i x).length ≤ 6 := hnx.2.2
                unfold othN at h6
                rw [len_app, len_app] at h6
                have key : Ok (eOp oAdd (eOp oAdd (eVar 9) (eCB oStrI (aCons (eVar 5) aNil))) (eC (.str "z")) [some (.loc s), some (.int many), some (.loc st.length), some (.str signsT), some (.loc (st.length + 1)), some (.int (i : Int)), some (.str w), y7, y8, some (.str (oneS x)), y10] (st' ++ [.lst acc])) fun y s7 => y = .str (oneS x ++ Str.ofString (toString (i : Int)) ++ ("z" : Str)) ∧ s7 = st' ++ [.lst acc] := by
                  unfold Ok
                  walk_at "go"
                  rw [strI_small (by omega)]
                  walk_at "go"
                  rw [add_s (by omega)]
                  walk_at "go"
                  rw [add_s (by rw [len_app]; omega)]
                  exact ⟨rfl, rfl⟩
                obtain ⟨y, s7, e7, e8, e9⟩ := Ok.out key
                subst e8 e9
                exact e7⟩⟩)
            rw [List.length_map, letters_len] at hl
            refine Ok.imp (show Ok (lcLoop bYes _ _ _ _ _ (Str.length lettersT) 0 _) _ from hl) fun _ s7 e7 => ?_
            subst e7
            refine ⟨⟨_, rfl, ?_⟩, hI5.app, hG5.trans Gr.app⟩
            rw [last_at, List.filter_eq_self.mpr (fun _ _ => rfl), List.map_map, List.map_map]
            rfl
          obtain ⟨⟨M, rfl, hM⟩, hI6, hG6⟩ := hJ
          have hS6 := hG6.keep _ _ (by omega) (by omega) hS2
          walk_at "go"
          rw [lst_at hM]
          dsimp only
          have hl := lc_pureAt (st0 := st6) (l := M) (cond := bOf (eOp oNotIn (eVar 10) (eVar 4))) (el := eVar 10) (tg := gN 10) (ds := (lettersT.cps.toList.map (othN i)).map D.str) (enw := wipeD [some (.loc s), some (.int many), some (.loc st.length), some (.str signsT), some (.loc (st.length + 1)), some (.int (i : Int)), some (.str w), y7, some (.loc M), y9, y10] [10]) (fun d => d) (fun d => match d with | .str z => !decide (z ∈ ws) | _ => false) (by rw [List.length_map, List.length_map, letters_len]; decide) (lst_at hM) (fun d hd => ⟨_, rfl, fun acc => ⟨by
              obtain ⟨x, hx, rfl⟩ := List.mem_map.mp hd
              have key : Ok (bOf (eOp oNotIn (eVar 10) (eVar 4)) [some (.loc s), some (.int many), some (.loc st.length), some (.str signsT), some (.loc (st.length + 1)), some (.int (i : Int)), some (.str w), y7, some (.loc M), y9, some (.str x)] (st6 ++ [.lst acc])) fun y s7 => y = (!decide (x ∈ ws)) ∧ s7 = st6 ++ [.lst acc] := by
                unfold Ok
                walk_at "go"
                rw [oNotIn_strs (lst_at (app_get hS6))]
                exact ⟨rfl, rfl⟩
              obtain ⟨y, s7, e7, e8, e9⟩ := Ok.out key
              subst e8 e9
              exact e7, fun _ => rfl⟩⟩)
          refine Ok.imp hl fun _ s7 e7 => ?_
          subst e7
          have e1 : (((lettersT.cps.toList.map (othN i)).map D.str).filter fun d => match d with | .str z => !decide (z ∈ ws) | _ => false).map (fun d => d) = (((lettersT.cps.toList.map (othN i)).filter fun z => !decide (z ∈ ws)).map D.str) := by
            rw [List.map_id', List.filter_map]
            rfl
          rw [e1]
          have hne : ((lettersT.cps.toList.map (othN i)).filter fun z => !decide (z ∈ ws)) ≠ [] := by
            intro e
            have h26 := nd_le (oth_nd (k := i) (by omega)) (m := ws) fun x hx => by
              have h2 : ¬ x ∈ ((lettersT.cps.toList.map (othN i)).filter fun z => !decide (z ∈ ws)) := by rw [e]; exact List.not_mem_nil
              by_cases h3 : x ∈ ws
              · exact h3
              · exact absurd (List.mem_filter.mpr ⟨hx, by simpa using h3⟩) h2
            rw [List.length_map, letters_len] at h26
            omega
          cases hc : ((lettersT.cps.toList.map (othN i)).filter fun z => !decide (z ∈ ws)) with
          | nil => exact absurd hc hne
          | cons z zs =>
            have hz : z ∈ ((lettersT.cps.toList.map (othN i)).filter fun z => !decide (z ∈ ws)) := by rw [hc]; exact List.mem_cons_self
            obtain ⟨hz1, hz2⟩ := List.mem_filter.mp hz
            obtain ⟨x, hx, rfl⟩ := List.mem_map.mp hz1
            rw [ix_lst (d := .str (othN i x)) (lst_at last_at) (by rw [List.map_cons, at_nat (by omega) (by rw [List.length_cons]; omega)]; rfl)]
            exact ⟨⟨_, _, rfl, othN_name (by omega) hx, by simpa using hz2⟩, hI6.app, hG6.trans Gr.app⟩
        · rw [if_neg (by rw [decide_eq_false hm2]; exact Bool.false_ne_true)]
          rw [List.mem_append, not_or] at hm2
          rw [k_snil]
          exact ⟨⟨w, _, rfl, ⟨hw, hm2.1⟩, hm2.2⟩, hI4, hG4⟩
      obtain ⟨⟨w, z8, rfl, hw, hnin⟩, hI5, hG5⟩ := hJ
      have hK5 := hG5.keep _ _ (by omega) (by omega) hK2
      have hS5 := hG5.keep _ _ (by omega) (by omega) hS2
      walk_at "go"
      rw [if_pos (isTy_lst hS5)]
      have hap : oAppend (.loc (st.length + 1)) [.str w] st5 = some (.non, st5.set (st.length + 1) (.lst ((ws ++ [w]).map D.str))) := by
        unfold oAppend
        dsimp only
        rw [hS5]
        dsimp only
        rw [if_pos (szl (by rw [List.length_map]; omega)), List.map_append]
        rfl
      rw [hap]
      refine ⟨ws ++ [w], _, _, _, _, _, _, rfl, ?_, List.getElem?_set_self (lift_len hS5), by rw [List.length_append, List.length_singleton]; omega, fun u hu => ?_, ?_, (hI5.setO (by omega) (by omega) (by omega)).mono (by omega), (hG2.trans hG5).setN (by omega)⟩
      · rw [List.getElem?_set_ne (by omega)]; exact hK5
      · rcases List.mem_append.mp hu with hu | hu
        · exact hnm u hu
        · rw [List.mem_singleton.mp hu]; exact hw
      · rw [List.nodup_append]
        refine ⟨hnd, by simp, fun a ha b hb e => ?_⟩
        rw [List.mem_singleton.mp hb] at e
        exact hnin (e ▸ ha)
    · intro en st2 hJ
      obtain ⟨ws, y5, y6, y7, y8, y9, y10, rfl, hK2, hS2, hwl, hnm, hnd, hI2, hG2⟩ := hJ
      exact ⟨ws, _, _, _, _, _, _, rfl, hS2, by omega, hnm, hnd, hI2.mono (by omega), hG2⟩
  obtain ⟨ws, y5, y6, y7, y8, y9, y10, rfl, hL, hlen, hnm, hnd, hI2, hG2⟩ := hJ
  walk_at "go"
  exact ⟨st.length + 1, ws, rfl, hL, hlen, hnm, hnd, by omega, hI2, hG2⟩
end
end Sh

set_option maxHeartbeats 1000000
namespace Sh
open PySem PySem.Spec PyProof.Rows L2
local macro_rules | `(tactic| walk_at "go") => `(tactic| simp only [k_bnd, k_ret, k_ok, k_bad, k_badM, k_exc, k_lft, k_ite, k_ite', o_some, o_none, o_ite, v_some, k_var, k_c, k_op, k_call, k_call0, k_cb, k_nil, k_cons, k_tup, k_lst, k_bOf, k_bAnd, k_bOr, k_bNot, k_and, k_or, k_not, k_if, k_chain, k_inC, k_neg, k_bm, k_get2, k_pnone, k_psome, k_sl, k_pnil, k_pcons, k_dic, k_gix, k_seq, k_nx, k_rt, k_sbad, k_snil, k_spass, k_set, k_sret, k_sretN, k_sexp, k_sif, k_asg, k_par2, k_par3, k_aug, k_put, k_seqI, k_range1, k_forI, k_lc, List.getElem?_cons_zero, List.getElem?_cons_succ, List.set_cons_zero, List.set_cons_succ, List.length_cons, List.length_nil, if_true, if_false, Bool.not_true, Bool.not_false, Bool.false_eq_true, ite_true, ite_false, reduceIte, Nat.reduceAdd, Nat.zero_add])
local macro_rules | `(tactic| walk_at "gg") => `(tactic| simp only [k_bnd, k_ret, k_ok, k_bad, k_badM, k_exc, k_lft, k_ite, k_ite', o_some, o_none, o_ite, v_some, k_var, k_c, k_op, k_call, k_call0, k_cb, k_nil, k_cons, k_tup, k_lst, k_bOf, k_bAnd, k_bOr, k_bNot, k_and, k_or, k_not, k_if, k_chain, k_inC, k_neg, k_bm, k_get2, k_pnone, k_psome, k_sl, k_pnil, k_pcons, k_dic, k_gix, k_seq, k_nx, k_rt, k_sbad, k_snil, k_spass, k_set, k_sret, k_sretN, k_sexp, k_sif, k_asg, k_par2, k_par3, k_aug, k_put, k_seqI, k_range1, k_forI, k_lc, List.getElem?_cons_zero, List.getElem?_cons_succ, List.set_cons_zero, List.set_cons_succ, List.length_cons, List.length_nil, if_true, if_false, Bool.not_true, Bool.not_false, Bool.false_eq_true, ite_true, ite_false, reduceIte, Nat.reduceAdd, Nat.zero_add, k_sortSet, k_range2, iadd_i, add_i, sub_i, eq_i, eq_s, ne_i, ne_s, ne_b, lt_i, le_i, gt_i, ge_i, ix_0, ix_1, ix_2, flat_str, flat_int, flat_non, sz_0, sz_1, sz_2, sz_3, sz_4, sz_5, sz_6, sz_7, sz_8, sz_9, decide_eq_true_eq, Bool.not_eq_eq_eq_not, decide_eq_false_iff_not, decide_true, decide_false, true_and, and_true, exists_eq_left, inC_strs, not_true_eq_false, not_false_eq_true])
abbrev roundsT : List Str := ["while", "turns"]
/-! words -/
theorem wd_set_tell : (("set" : Str) = "tell") = False := eq_false (by decide +kernel)
theorem wd_set_if : (("set" : Str) = "if") = False := eq_false (by decide +kernel)
theorem wd_set_while : (("set" : Str) = "while") = False := eq_false (by decide +kernel)
theorem wd_set_turns : (("set" : Str) = "turns") = False := eq_false (by decide +kernel)
theorem wr_set : (("set" : Str) ∈ roundsT) = False := eq_false (by decide +kernel)
theorem wd_tell_set : (("tell" : Str) = "set") = False := eq_false (by decide +kernel)
theorem wd_tell_if : (("tell" : Str) = "if") = False := eq_false (by decide +kernel)
theorem wd_tell_while : (("tell" : Str) = "while") = False := eq_false (by decide +kernel)
theorem wd_tell_turns : (("tell" : Str) = "turns") = False := eq_false (by decide +kernel)
theorem wr_tell : (("tell" : Str) ∈ roundsT) = False := eq_false (by decide +kernel)
theorem wd_if_set : (("if" : Str) = "set") = False := eq_false (by decide +kernel)
theorem wd_if_tell : (("if" : Str) = "tell") = False := eq_false (by decide +kernel)
theorem wd_if_while : (("if" : Str) = "while") = False := eq_false (by decide +kernel)
theorem wd_if_turns : (("if" : Str) = "turns") = False := eq_false (by decide +kernel)
theorem wr_if : (("if" : Str) ∈ roundsT) = False := eq_false (by decide +kernel)
theorem wd_while_set : (("while" : Str) = "set") = False := eq_false (by decide +kernel)
theorem wd_while_tell : (("while" : Str) = "tell") = False := eq_false (by decide +kernel)
theorem wd_while_if : (("while" : Str) = "if") = False := eq_false (by decide +kernel)
theorem wd_while_turns : (("while" : Str) = "turns") = False := eq_false (by decide +kernel)
theorem wr_while : (("while" : Str) ∈ roundsT) = True := eq_true (by decide +kernel)
theorem wd_turns_set : (("turns" : Str) = "set") = False := eq_false (by decide +kernel)
theorem wd_turns_tell : (("turns" : Str) = "tell") = False := eq_false (by decide +kernel)
theorem wd_turns_if : (("turns" : Str) = "if") = False := eq_false (by decide +kernel)
theorem wd_turns_while : (("turns" : Str) = "while") = False := eq_false (by decide +kernel)
theorem wr_turns : (("turns" : Str) ∈ roundsT) = True := eq_true (by decide +kernel)
theorem in_two {a b x : Str} {st : Sto} : oIn (.str x) (.tup [.str a, .str b]) st = some (.bl (decide (x = a ∨ x = b)), st) := by
  unfold oIn
  rw [show isIn (.str x) (.tup [.str a, .str b]) st = some (inD (.str x) ([a, b].map D.str)) from rfl, inC_str]
  have e : decide (x ∈ [a, b]) = decide (x = a ∨ x = b) := by simp
  rw [e]
theorem ix_m1_3 {a b c : D} {st : Sto} : oIx (.tup [a, b, c]) (.int (-1)) st = some (c, st) := ix_tup rfl
theorem ix_m1_2 {a b : D} {st : Sto} : oIx (.tup [a, b]) (.int (-1)) st = some (b, st) := ix_tup rfl
theorem ix_3 {d e f k : D} {ds : List D} {st : Sto} : oIx (.tup (d :: e :: f :: k :: ds)) (.int 3) st = some (k, st) := ix_tup (by rw [at_nat (by omega) (by rw [List.length_cons, List.length_cons, List.length_cons, List.length_cons]; omega)]; rfl)
theorem sl_1_3 {a b c : D} {st : Sto} : slD (.tup [a, b, c]) (some 1) none st = some (.tup [b, c], st) := rfl
local macro_rules | `(tactic| walk_at "gr") => `(tactic| simp only [k_bnd, k_ret, k_ok, k_bad, k_badM, k_exc, k_lft, k_ite, k_ite', o_some, o_none, o_ite, v_some, k_var, k_c, k_op, k_call, k_call0, k_cb, k_nil, k_cons, k_tup, k_lst, k_bOf, k_bAnd, k_bOr, k_bNot, k_and, k_or, k_not, k_if, k_chain, k_inC, k_neg, k_bm, k_get2, k_pnone, k_psome, k_sl, k_pnil, k_pcons, k_dic, k_gix, k_seq, k_nx, k_rt, k_sbad, k_snil, k_spass, k_set, k_sret, k_sretN, k_sexp, k_sif, k_asg, k_par2, k_par3, k_aug, k_put, k_seqI, k_range1, k_forI, k_lc, List.getElem?_cons_zero, List.getElem?_cons_succ, List.set_cons_zero, List.set_cons_succ, List.length_cons, List.length_nil, if_true, if_false, Bool.not_true, Bool.not_false, Bool.false_eq_true, ite_true, ite_false, reduceIte, Nat.reduceAdd, Nat.zero_add, k_sortSet, k_range2, iadd_i, add_i, sub_i, eq_i, eq_s, ne_i, ne_s, ne_b, lt_i, le_i, gt_i, ge_i, ix_0, ix_1, ix_2, flat_str, flat_int, flat_non, sz_0, sz_1, sz_2, sz_3, sz_4, sz_5, sz_6, sz_7, sz_8, sz_9, decide_eq_true_eq, Bool.not_eq_eq_eq_not, decide_eq_false_iff_not, decide_true, decide_false, true_and, and_true, exists_eq_left, inC_strs, not_true_eq_false, not_false_eq_true, wd_set_tell, wd_set_if, wd_set_while, wd_set_turns, wr_set, wd_tell_set, wd_tell_if, wd_tell_while, wd_tell_turns, wr_tell, wd_if_set, wd_if_tell, wd_if_while, wd_if_turns, wr_if, wd_while_set, wd_while_tell, wd_while_if, wd_while_turns, wr_while, wd_turns_set, wd_turns_tell, wd_turns_if, wd_turns_while, wr_turns, in_two, ix_m1_3, ix_m1_2, ix_3, sl_1_3, or_true, true_or, or_false, false_or, or_self])
/-! ### rows of programs as plain data -/
inductive Row where
  | set (x : Str) (t : Trm)
  | tell (t : Trm)
  | ifr (o : Str) (a b : Trm) (r s : List Row)
  | whl (o : Str) (a b : Trm) (r : List Row)
  | trn (t : Trm) (r : List Row)
mutual
def Row.d : Row → D
  | .set x t => .tup [.str "set", .str x, t.d]
  | .tell t => .tup [.str "tell", t.d]
  | .ifr o a b r s => .tup [.str "if", .tup [.str o, a.d, b.d], .tup (rowsD r), .tup (rowsD s)]
  | .whl o a b r => .tup [.str "while", .tup [.str o, a.d, b.d], .tup (rowsD r)]
  | .trn t r => .tup [.str "turns", t.d, .tup (rowsD r)]
def rowsD : List Row → List D
  | [] => []
  | r :: rs => r.d :: rowsD rs
end
mutual
def Row.all : Row → List Row
  | .set x t => [.set x t]
  | .tell t => [.tell t]
  | .ifr o a b r s => .ifr o a b r s :: (allL r ++ allL s)
  | .whl o a b r => .whl o a b r :: allL r
  | .trn t r => .trn t r :: allL r
def allL : List Row → List Row
  | [] => []
  | r :: rs => r.all ++ allL rs
end
def Row.blocks : Row → List (List Row)
  | .ifr _ _ _ r s => [r, s]
  | .whl _ _ _ r => [r]
  | .trn _ r => [r]
  | .set _ _ => []
  | .tell _ => []
theorem Row.all_eq (r : Row) : r.all = r :: r.blocks.flatMap allL := by cases r <;> simp [Row.all, Row.blocks]
mutual
def Row.dep : Row → Nat
  | .set _ _ => 1
  | .tell _ => 1
  | .ifr _ _ _ r s => 1 + max (rdep r) (rdep s)
  | .whl _ _ _ r => 1 + rdep r
  | .trn _ r => 1 + rdep r
def rdep : List Row → Nat
  | [] => 0
  | r :: rs => max r.dep (rdep rs)
end
/-- the terms that a row asks -/
def Row.asked : Row → List Trm
  | .set _ t => [t]
  | .tell t => [t]
  | .ifr _ a b _ _ => [a, b]
  | .whl _ a b _ => [a, b]
  | .trn t _ => [t]
def Row.own : Row → List Str
  | .set x _ => [x]
  | .tell _ => []
  | .ifr _ _ _ _ _ => []
  | .whl _ _ _ _ => []
  | .trn _ _ => []
abbrev testT : List Str := ["below", "same", "unlike"]
/-- a row by itself is in order: its terms of at most so many parts, its word -/
def Row.fine (z : Int) (ws : List Str) (r : Row) : Prop := (∀ t ∈ r.asked, t.ok z ws ∧ t.dep ≤ 60 ∧ t.lvs ≤ 200) ∧ (∀ x ∈ r.own, x ∈ ws) ∧ match r with
  | .ifr o _ _ _ _ => o ∈ testT
  | .whl o _ _ _ => o ∈ testT
  | .set _ _ => True
  | .tell _ => True
  | .trn _ _ => True
def Fine (z : Int) (ws : List Str) (rs : List Row) : Prop := ∀ r ∈ allL rs, r.fine z ws
/-! frames with exceptions -/
structure Gx (ex : List Nat) (st st' : Sto) : Prop where
  len : st.length ≤ st'.length
  keep : ∀ l o, l ∉ ex → st[l]? = some o → st'[l]? = some o
theorem Gx.refl {ex : List Nat} {st : Sto} : Gx ex st st := ⟨Nat.le_refl _, fun _ _ _ h => h⟩
theorem Gx.trans {ex : List Nat} {a b c : Sto} (h : Gx ex a b) (k : Gx ex b c) : Gx ex a c := ⟨Nat.le_trans h.len k.len, fun l o hl e => k.keep l o hl (h.keep l o hl e)⟩
theorem Gx.mono {ex fx : List Nat} {a b : Sto} (h : Gx ex a b) (k : ∀ x ∈ ex, x ∈ fx) : Gx fx a b := ⟨h.len, fun l o hl e => h.keep l o (fun z => hl (k l z)) e⟩
theorem Gx.gr {s g : Nat} {ex : List Nat} {a b : Sto} (h : Gr s g a b) (h1 : s ∈ ex) (h2 : g ∈ ex) : Gx ex a b := ⟨h.len, fun l o hl e => h.keep l o (fun z => hl (z ▸ h1)) (fun z => hl (z ▸ h2)) e⟩
theorem Gx.app {ex : List Nat} {a u : Sto} : Gx ex a (a ++ u) := ⟨by rw [List.length_append]; omega, fun l o _ e => app_get e⟩
theorem Gx.appR {ex : List Nat} {a b u : Sto} (h : Gx ex a b) : Gx ex a (b ++ u) := h.trans Gx.app
theorem Gx.setN {ex : List Nat} {a b : Sto} {l : Nat} {o : O} (h : Gx ex a b) (n : a.length ≤ l) : Gx ex a (b.set l o) := ⟨by rw [List.length_set]; exact h.len, fun j u hj e => by
  have := lift_len e
  rw [List.getElem?_set_ne (by omega)]
  exact h.keep j u hj e⟩
/-- exceptions that are new are none -/
theorem Gx.less {ex fx : List Nat} {a b : Sto} (h : Gx ex a b) (k : ∀ x ∈ ex, x ∈ fx ∨ a.length ≤ x) : Gx fx a b := ⟨h.len, fun l o hl e => h.keep l o (fun z => by
  rcases k l z with q | q
  · exact hl q
  · have := lift_len e
    omega) e⟩
/-! ### drawn rows -/
theorem oTuple_l {st : Sto} {l : Nat} {ds : List D} (h : st[l]? = some (.lst ds)) : oTuple [.loc l] st = some (.tup ds, st) := by
  unfold oTuple
  dsimp only
  rw [show itemsD (.loc l) st = some ds from lst_at h]
section
variable {s g c L F : Nat} {I : Sto → Prop} {take pick term few test row rows : Fn} {st : Sto} {y : Int} {z : Int} {ws : List Str}
end
section
variable {s g c L F : Nat} {I : Sto → Prop} {take pick term few test row rows number width names : Fn} {st : Sto} {y : Int} {z : Int} {ws : List Str}
end
/-! ### programs -/
structure Prg where
  w : Int
  ins : List (Str × Int × Int)
  rows : List Row
def insD (is : List (Str × Int × Int)) : List D := is.map fun p => D.tup [.str p.1, .int p.2.1, .int p.2.2]
def Prg.d (p : Prg) : D := .tup [.int p.w, .tup (insD p.ins), .tup (rowsD p.rows)]
/-- what is drawn as a program -/
structure Prg.ok (p : Prg) (w : Nat) (ws : List Str) : Prop where
  wd : p.w = (w : Int)
  w1 : 1 ≤ w ∧ w ≤ 24
  nm : ∀ x ∈ ws, Name x
  nd : ws.Nodup
  few : ws.length ≤ 20
  ins : ∀ i ∈ p.ins, i.1 ∈ ws ∧ 0 ≤ i.2.1 ∧ i.2.1 ≤ i.2.2 ∧ i.2.2 < 2 ^ w
  rise : (p.ins.map (·.1)).Pairwise fun a b => leS a b = true ∧ a ≠ b
  fine : Fine (2 ^ w) ws p.rows
  dep : rdep p.rows ≤ 6
theorem oSorted_l {st : Sto} {l : Nat} {ws : List Str} (h : st[l]? = some (.lst (ws.map D.str))) (hz : ws.length ≤ 100000) : oSorted [.loc l] st = some (.loc st.length, st ++ [.lst ((srtS ws).map D.str)]) := by
  unfold oSorted
  dsimp only
  rw [lst_at h]
  dsimp only
  rw [asStrs_map]
  dsimp only
  rw [if_pos (sz hz)]
section
variable {s g c : Nat} {I : Sto → Prop} {take pick rows number width names : Fn} {st : Sto}
end
/-! ### what the program tells of rows -/
section
variable {f fb : Fn} {st : Sto}
end
section
variable {f fb : Fn} {st : Sto}
/-- all names of a program, as the program gathers them -/
def Row.gath (r : Row) : List Str := r.own ++ r.asked.flatMap fun t => srtS (uniq t.nms)
def Prg.gath (p : Prg) : List Str := p.ins.map (·.1) ++ (allL p.rows).flatMap Row.gath
def Prg.nms (p : Prg) : List Str := srtS (uniq p.gath)
end
/-- a program whose parts are all in order -/
structure Prg.good (p : Prg) (z : Int) (ws : List Str) : Prop where
  ins : ∀ i ∈ p.ins, i.1 ∈ ws
  fine : Fine z ws p.rows
  few : ws.length ≤ 100
  fewI : p.ins.length ≤ 40
  fewR : (allL p.rows).length ≤ 120
/-- the same with wider bounds -/
structure Prg.gd (p : Prg) (z : Int) (ws : List Str) : Prop where
  ins : ∀ i ∈ p.ins, i.1 ∈ ws
  fine : Fine z ws p.rows
  few : (uniq p.gath).length ≤ 4000
  fewI : p.ins.length ≤ 1000
  fewR : (allL p.rows).length ≤ 120
theorem Row.gath_sub {z : Int} {ws : List Str} {r : Row} (h : r.fine z ws) : ∀ x ∈ r.gath, x ∈ ws := fun x hx => by
  unfold Row.gath at hx
  rcases List.mem_append.mp hx with hx | hx
  · exact h.2.1 x hx
  · obtain ⟨t, ht, hx⟩ := List.mem_flatMap.mp hx
    exact nms_sub (h.1 t ht).1 x ((mem_uniq _).mp (mem_srt.mp hx))
theorem Prg.gath_sub {p : Prg} {z : Int} {ws : List Str} (h : p.good z ws) : ∀ x ∈ p.gath, x ∈ ws := fun x hx => by
  unfold Prg.gath at hx
  rcases List.mem_append.mp hx with hx | hx
  · obtain ⟨i, hi, rfl⟩ := List.mem_map.mp hx
    exact h.ins i hi
  · obtain ⟨r, hr, hx⟩ := List.mem_flatMap.mp hx
    exact Row.gath_sub (h.fine r hr) x hx
theorem uniq_sub {l ws : List Str} (h : ∀ x ∈ l, x ∈ ws) : (uniq l).length ≤ ws.length := nd_le (nd_uniq l) fun x hx => h x ((mem_uniq l).mp hx)
theorem Prg.good.gd {p : Prg} {z : Int} {ws : List Str} (h : p.good z ws) : p.gd z ws := ⟨h.ins, h.fine, Nat.le_trans (uniq_sub (Prg.gath_sub h)) (Nat.le_trans h.few (by decide)), Nat.le_trans h.fewI (by decide), h.fewR⟩
theorem nms_le {p : Prg} {z : Int} {ws : List Str} (h : p.good z ws) : p.nms.length ≤ ws.length := by
  unfold Prg.nms
  rw [srt_len]
  exact uniq_sub (Prg.gath_sub h)
section
variable {f fr fa fn : Fn} {st : Sto} {z : Int} {ws : List Str}
end
section
variable {fn : Fn} {st : Sto}
end
end Sh

set_option maxHeartbeats 1000000
namespace Sh
open PySem PySem.Spec PyProof.Rows L2
local macro_rules | `(tactic| walk_at "go") => `(tactic| simp only [k_bnd, k_ret, k_ok, k_bad, k_badM, k_exc, k_lft, k_ite, k_ite', o_some, o_none, o_ite, v_some, k_var, k_c, k_op, k_call, k_call0, k_cb, k_nil, k_cons, k_tup, k_lst, k_bOf, k_bAnd, k_bOr, k_bNot, k_and, k_or, k_not, k_if, k_chain, k_inC, k_neg, k_bm, k_get2, k_pnone, k_psome, k_sl, k_pnil, k_pcons, k_dic, k_gix, k_seq, k_nx, k_rt, k_sbad, k_snil, k_spass, k_set, k_sret, k_sretN, k_sexp, k_sif, k_asg, k_par2, k_par3, k_aug, k_put, k_seqI, k_range1, k_forI, k_lc, List.getElem?_cons_zero, List.getElem?_cons_succ, List.set_cons_zero, List.set_cons_succ, List.length_cons, List.length_nil, if_true, if_false, Bool.not_true, Bool.not_false, Bool.false_eq_true, ite_true, ite_false, reduceIte, Nat.reduceAdd, Nat.zero_add])
local macro_rules | `(tactic| walk_at "gg") => `(tactic| simp only [k_bnd, k_ret, k_ok, k_bad, k_badM, k_exc, k_lft, k_ite, k_ite', o_some, o_none, o_ite, v_some, k_var, k_c, k_op, k_call, k_call0, k_cb, k_nil, k_cons, k_tup, k_lst, k_bOf, k_bAnd, k_bOr, k_bNot, k_and, k_or, k_not, k_if, k_chain, k_inC, k_neg, k_bm, k_get2, k_pnone, k_psome, k_sl, k_pnil, k_pcons, k_dic, k_gix, k_seq, k_nx, k_rt, k_sbad, k_snil, k_spass, k_set, k_sret, k_sretN, k_sexp, k_sif, k_asg, k_par2, k_par3, k_aug, k_put, k_seqI, k_range1, k_forI, k_lc, List.getElem?_cons_zero, List.getElem?_cons_succ, List.set_cons_zero, List.set_cons_succ, List.length_cons, List.length_nil, if_true, if_false, Bool.not_true, Bool.not_false, Bool.false_eq_true, ite_true, ite_false, reduceIte, Nat.reduceAdd, Nat.zero_add, k_sortSet, k_range2, iadd_i, add_i, sub_i, eq_i, eq_s, ne_i, ne_s, ne_b, lt_i, le_i, gt_i, ge_i, ix_0, ix_1, ix_2, flat_str, flat_int, flat_non, sz_0, sz_1, sz_2, sz_3, sz_4, sz_5, sz_6, sz_7, sz_8, sz_9, decide_eq_true_eq, Bool.not_eq_eq_eq_not, decide_eq_false_iff_not, decide_true, decide_false, true_and, and_true, exists_eq_left, inC_strs, not_true_eq_false, not_false_eq_true])
local macro_rules | `(tactic| walk_at "gr") => `(tactic| simp only [k_bnd, k_ret, k_ok, k_bad, k_badM, k_exc, k_lft, k_ite, k_ite', o_some, o_none, o_ite, v_some, k_var, k_c, k_op, k_call, k_call0, k_cb, k_nil, k_cons, k_tup, k_lst, k_bOf, k_bAnd, k_bOr, k_bNot, k_and, k_or, k_not, k_if, k_chain, k_inC, k_neg, k_bm, k_get2, k_pnone, k_psome, k_sl, k_pnil, k_pcons, k_dic, k_gix, k_seq, k_nx, k_rt, k_sbad, k_snil, k_spass, k_set, k_sret, k_sretN, k_sexp, k_sif, k_asg, k_par2, k_par3, k_aug, k_put, k_seqI, k_range1, k_forI, k_lc, List.getElem?_cons_zero, List.getElem?_cons_succ, List.set_cons_zero, List.set_cons_succ, List.length_cons, List.length_nil, if_true, if_false, Bool.not_true, Bool.not_false, Bool.false_eq_true, ite_true, ite_false, reduceIte, Nat.reduceAdd, Nat.zero_add, k_sortSet, k_range2, iadd_i, add_i, sub_i, eq_i, eq_s, ne_i, ne_s, ne_b, lt_i, le_i, gt_i, ge_i, ix_0, ix_1, ix_2, flat_str, flat_int, flat_non, sz_0, sz_1, sz_2, sz_3, sz_4, sz_5, sz_6, sz_7, sz_8, sz_9, decide_eq_true_eq, Bool.not_eq_eq_eq_not, decide_eq_false_iff_not, decide_true, decide_false, true_and, and_true, exists_eq_left, inC_strs, not_true_eq_false, not_false_eq_true, wd_set_tell, wd_set_if, wd_set_while, wd_set_turns, wr_set, wd_tell_set, wd_tell_if, wd_tell_while, wd_tell_turns, wr_tell, wd_if_set, wd_if_tell, wd_if_while, wd_if_turns, wr_if, wd_while_set, wd_while_tell, wd_while_if, wd_while_turns, wr_while, wd_turns_set, wd_turns_tell, wd_turns_if, wd_turns_while, wr_turns, in_two, ix_m1_3, ix_m1_2, ix_3, sl_1_3, or_true, true_or, or_false, false_or, or_self])
section
variable {f fb : Fn} {st : Sto}
end
section
variable {fa ft fp fr fn ff : Fn} {st : Sto} {z : Int} {ws : List Str}
end
section
variable {fa ft fp fr fn ff : Fn} {st : Sto} {z : Int} {ws : List Str}
end
theorem Trm.ok_mono {z : Int} {ws vs : List Str} (h : ∀ x ∈ ws, x ∈ vs) : ∀ {t : Trm}, t.ok z ws → t.ok z vs
  | .num _, q => q
  | .at _, q => h _ q
  | .op _ _ _, q => ⟨q.1, Trm.ok_mono h q.2.1, Trm.ok_mono h q.2.2⟩
/-- a program that the law asks about -/
def PG (p : Prg) : Prop := ∃ (z : Int) (ws : List Str), 0 ≤ z ∧ p.good z ws ∧ (∀ w ∈ ws, PyData.strOk w = true) ∧ ws.length ≤ 50 ∧ rdep p.rows ≤ 6
section
variable {s g c : Nat} {I : Sto → Prop} {take pick : Fn} {st : Sto}
end
end Sh

set_option maxHeartbeats 1000000
namespace Sh
open PySem PySem.Spec PyProof.Rows L2
local macro_rules | `(tactic| walk_at "go") => `(tactic| simp only [k_bnd, k_ret, k_ok, k_bad, k_badM, k_exc, k_lft, k_ite, k_ite', o_some, o_none, o_ite, v_some, k_var, k_c, k_op, k_call, k_call0, k_cb, k_nil, k_cons, k_tup, k_lst, k_bOf, k_bAnd, k_bOr, k_bNot, k_and, k_or, k_not, k_if, k_chain, k_inC, k_neg, k_bm, k_get2, k_pnone, k_psome, k_sl, k_pnil, k_pcons, k_dic, k_gix, k_seq, k_nx, k_rt, k_sbad, k_snil, k_spass, k_set, k_sret, k_sretN, k_sexp, k_sif, k_asg, k_par2, k_par3, k_aug, k_put, k_seqI, k_range1, k_forI, k_lc, List.getElem?_cons_zero, List.getElem?_cons_succ, List.set_cons_zero, List.set_cons_succ, List.length_cons, List.length_nil, if_true, if_false, Bool.not_true, Bool.not_false, Bool.false_eq_true, ite_true, ite_false, reduceIte, Nat.reduceAdd, Nat.zero_add])
local macro_rules | `(tactic| walk_at "gg") => `(tactic| simp only [k_bnd, k_ret, k_ok, k_bad, k_badM, k_exc, k_lft, k_ite, k_ite', o_some, o_none, o_ite, v_some, k_var, k_c, k_op, k_call, k_call0, k_cb, k_nil, k_cons, k_tup, k_lst, k_bOf, k_bAnd, k_bOr, k_bNot, k_and, k_or, k_not, k_if, k_chain, k_inC, k_neg, k_bm, k_get2, k_pnone, k_psome, k_sl, k_pnil, k_pcons, k_dic, k_gix, k_seq, k_nx, k_rt, k_sbad, k_snil, k_spass, k_set, k_sret, k_sretN, k_sexp, k_sif, k_asg, k_par2, k_par3, k_aug, k_put, k_seqI, k_range1, k_forI, k_lc, List.getElem?_cons_zero, List.getElem?_cons_succ, List.set_cons_zero, List.set_cons_succ, List.length_cons, List.length_nil, if_true, if_false, Bool.not_true, Bool.not_false, Bool.false_eq_true, ite_true, ite_false, reduceIte, Nat.reduceAdd, Nat.zero_add, k_sortSet, k_range2, iadd_i, add_i, sub_i, eq_i, eq_s, ne_i, ne_s, ne_b, lt_i, le_i, gt_i, ge_i, ix_0, ix_1, ix_2, flat_str, flat_int, flat_non, sz_0, sz_1, sz_2, sz_3, sz_4, sz_5, sz_6, sz_7, sz_8, sz_9, decide_eq_true_eq, Bool.not_eq_eq_eq_not, decide_eq_false_iff_not, decide_true, decide_false, true_and, and_true, exists_eq_left, inC_strs, not_true_eq_false, not_false_eq_true, Bool.true_eq_false, reduceCtorEq])
/-! ### what == with a text tells of any thing -/
section
variable {res res' : Nat → Option PyData}
mutual
theorem pyW_mono (h : ∀ l p, res l = some p → res' l = some p) : ∀ (d : D) (p : PyData), toPyW res d = some p → toPyW res' d = some p
  | .non, _, q => by unfold toPyW at q ⊢; exact q
  | .bl _, _, q => by unfold toPyW at q ⊢; exact q
  | .int _, _, q => by unfold toPyW at q ⊢; exact q
  | .str _, _, q => by unfold toPyW at q ⊢; exact q
  | .ty _, _, q => by unfold toPyW at q; cases q
  | .loc l, p, q => by unfold toPyW at q ⊢; exact h l p q
  | .tup ds, p, q => by
    unfold toPyW at q ⊢
    cases e : toPyWL res ds with
    | none => rw [e] at q; cases q
    | some ps => rw [e] at q; rw [pyWL_mono h ds ps e]; exact q
theorem pyWL_mono (h : ∀ l p, res l = some p → res' l = some p) : ∀ (ds : List D) (ps : List PyData), toPyWL res ds = some ps → toPyWL res' ds = some ps
  | [], _, q => by unfold toPyWL at q ⊢; exact q
  | d :: ds, p, q => by
    unfold toPyWL at q ⊢
    cases e : toPyW res d with
    | none => rw [e] at q; cases q
    | some a =>
      cases e2 : toPyWL res ds with
      | none => rw [e, e2] at q; cases q
      | some as => rw [e, e2] at q; rw [pyW_mono h d a e, pyWL_mono h ds as e2]; exact q
end
end
theorem lstAt_ext {st st' : Sto} (h : Ext st st') {l : Nat} {ds : List D} (e : lstAt st l = some ds) : lstAt st' l = some ds := by
  unfold lstAt at e ⊢
  cases q : st[l]? with
  | none => rw [q] at e; cases e
  | some o => rw [h.get q]; rw [q] at e; exact e
theorem py_ext {st st' : Sto} (h : Ext st st') : ∀ (n : Nat) {d : D} {p : PyData}, toPy st n d = some p → toPy st' n d = some p
  | 0, _, _, q => by unfold toPy at q ⊢; exact q
  | n + 1, d, p, q => by
    unfold toPy at q ⊢
    refine pyW_mono (fun l p e => ?_) d p q
    cases e2 : lstAt st l with
    | none => rw [e2] at e; cases e
    | some ds =>
      rw [e2] at e
      rw [lstAt_ext h e2]
      dsimp only at e ⊢
      cases e3 : toPyWL (fun m => toPy st n (.loc m)) ds with
      | none => rw [e3] at e; cases e
      | some ps =>
        rw [e3] at e
        rw [pyWL_mono (fun m p e => py_ext h n e) ds ps e3]
        exact e
/-- what stands at a tuple's head: == tells of it -/
def Cmp (st : Sto) (d : D) : Prop := ∃ p, toPy st 2 d = some p ∧ shX p = true
theorem Cmp.ext {st st' : Sto} (h : Ext st st') {d : D} : Cmp st d → Cmp st' d := fun ⟨p, e, q⟩ => ⟨p, py_ext h 2 e, q⟩
/-! ### things -/
inductive Fit (st : Sto) : D → Prop
  | non : Fit st .non
  | bl (b : Bool) : Fit st (.bl b)
  | int (i : Int) : Fit st (.int i)
  | str {z : Str} (h : ascS z) (hz : z.length ≤ 50000) : Fit st (.str z)
  | lst {l : Nat} {ds : List D} (h : st[l]? = some (.lst ds)) : Fit st (.loc l)
  | tup {ds : List D} (hz : ds.length ≤ 1000) (hc : ∀ h, ds[0]? = some h → Cmp st h) (hf : ∀ d ∈ ds, Fit st d) : Fit st (.tup ds)
theorem Fit.ext {st st' : Sto} (e : Ext st st') {d : D} (h : Fit st d) : Fit st' d := by
  induction h with
  | non => exact .non
  | bl b => exact .bl b
  | int i => exact .int i
  | str h hz => exact .str h hz
  | lst h => exact .lst (e.get h)
  | tup hz hc hf ih => exact .tup hz (fun h q => (hc h q).ext e) ih
section
variable {d : D} {st : Sto} {y : Int} {w : Nat} {size : Fn}
end
section
variable {d : D} {st : Sto} {y : Int} {w : Nat} {isn isname leaf rec size whole : Fn}
end
section
variable {d : D} {st : Sto} {y : Int} {w : Nat} {isname whole size rec : Fn}
end
end Sh

set_option maxHeartbeats 1000000
namespace Sh
open PySem PySem.Spec PyProof.Rows L2
local macro_rules | `(tactic| walk_at "go") => `(tactic| simp only [k_bnd, k_ret, k_ok, k_bad, k_badM, k_exc, k_lft, k_ite, k_ite', o_some, o_none, o_ite, v_some, k_var, k_c, k_op, k_call, k_call0, k_cb, k_nil, k_cons, k_tup, k_lst, k_bOf, k_bAnd, k_bOr, k_bNot, k_and, k_or, k_not, k_if, k_chain, k_inC, k_neg, k_bm, k_get2, k_pnone, k_psome, k_sl, k_pnil, k_pcons, k_dic, k_gix, k_seq, k_nx, k_rt, k_sbad, k_snil, k_spass, k_set, k_sret, k_sretN, k_sexp, k_sif, k_asg, k_par2, k_par3, k_aug, k_put, k_seqI, k_range1, k_forI, k_lc, List.getElem?_cons_zero, List.getElem?_cons_succ, List.set_cons_zero, List.set_cons_succ, List.length_cons, List.length_nil, if_true, if_false, Bool.not_true, Bool.not_false, Bool.false_eq_true, ite_true, ite_false, reduceIte, Nat.reduceAdd, Nat.zero_add])
local macro_rules | `(tactic| walk_at "gg") => `(tactic| simp only [k_bnd, k_ret, k_ok, k_bad, k_badM, k_exc, k_lft, k_ite, k_ite', o_some, o_none, o_ite, v_some, k_var, k_c, k_op, k_call, k_call0, k_cb, k_nil, k_cons, k_tup, k_lst, k_bOf, k_bAnd, k_bOr, k_bNot, k_and, k_or, k_not, k_if, k_chain, k_inC, k_neg, k_bm, k_get2, k_pnone, k_psome, k_sl, k_pnil, k_pcons, k_dic, k_gix, k_seq, k_nx, k_rt, k_sbad, k_snil, k_spass, k_set, k_sret, k_sretN, k_sexp, k_sif, k_asg, k_par2, k_par3, k_aug, k_put, k_seqI, k_range1, k_forI, k_lc, List.getElem?_cons_zero, List.getElem?_cons_succ, List.set_cons_zero, List.set_cons_succ, List.length_cons, List.length_nil, if_true, if_false, Bool.not_true, Bool.not_false, Bool.false_eq_true, ite_true, ite_false, reduceIte, Nat.reduceAdd, Nat.zero_add, k_sortSet, k_range2, iadd_i, add_i, sub_i, eq_i, eq_s, ne_i, ne_s, ne_b, lt_i, le_i, gt_i, ge_i, ix_0, ix_1, ix_2, flat_str, flat_int, flat_non, sz_0, sz_1, sz_2, sz_3, sz_4, sz_5, sz_6, sz_7, sz_8, sz_9, decide_eq_true_eq, Bool.not_eq_eq_eq_not, decide_eq_false_iff_not, decide_true, decide_false, true_and, and_true, exists_eq_left, inC_strs, not_true_eq_false, not_false_eq_true, Bool.true_eq_false, reduceCtorEq])
/-! ### drawn things: n lists, k tuples or lists within one another -/
inductive Th (s g : Nat) (st : Sto) : Nat → Nat → D → Prop
  | non {n k : Nat} : Th s g st n k .non
  | bl {n k : Nat} (b : Bool) : Th s g st n k (.bl b)
  | int {n k : Nat} {i : Int} (h : i.natAbs ≤ 100000000 * 3 ^ n) : Th s g st n k (.int i)
  | str {n k : Nat} {z : Str} (h : ascS z) (hz : z.length ≤ 100 * 3 ^ n) : Th s g st n k (.str z)
  | tup {n k : Nat} {ds : List D} (hz : ds.length ≤ 100 * 3 ^ n) (hf : ∀ d ∈ ds, Th s g st n k d) : Th s g st n (k + 1) (.tup ds)
  | lst {n k l : Nat} {ds : List D} (h : st[l]? = some (.lst ds)) (n1 : l ≠ s) (n2 : l ≠ g) (hf : ∀ d ∈ ds, Th s g st n k d) : Th s g st (n + 1) (k + 1) (.loc l)
theorem pow3s (n : Nat) : 3 ^ (n + 1) = 3 * 3 ^ n := by rw [Nat.pow_succ]; omega
section
variable {s g n k : Nat} {st : Sto} {d : D}
theorem Th.up (h : Th s g st n k d) : Th s g st (n + 1) k d := by
  induction h with
  | non => exact .non
  | bl b => exact .bl b
  | @int n k i h => have := pow3s n; exact .int (by omega)
  | @str n k z h hz => have := pow3s n; exact .str h (by omega)
  | @tup n k ds hz hf ih => have := pow3s n; exact .tup (by omega) ih
  | lst h n1 n2 hf ih => exact .lst h n1 n2 ih
theorem Th.dn (h : Th s g st n k d) : Th s g st n (k + 1) d := by
  induction h with
  | non => exact .non
  | bl b => exact .bl b
  | int h => exact .int h
  | str h hz => exact .str h hz
  | tup hz hf ih => exact .tup hz ih
  | lst h n1 n2 hf ih => exact .lst h n1 n2 ih
theorem Th.mono {n' k' : Nat} (hn : n ≤ n') (hk : k ≤ k') (h : Th s g st n k d) : Th s g st n' k' d := by
  have h1 : ∀ j, Th s g st (n + j) k d := fun j => by
    induction j with
    | zero => exact h
    | succ j ih => exact ih.up
  have h2 : ∀ j, Th s g st n' (k + j) d := fun j => by
    induction j with
    | zero => have := h1 (n' - n); rwa [show n + (n' - n) = n' by omega] at this
    | succ j ih => exact ih.dn
  have := h2 (k' - k)
  rwa [show k + (k' - k) = k' by omega] at this
theorem Th.gr {st' : Sto} (e : Gr s g st st') (h : Th s g st n k d) : Th s g st' n k d := by
  induction h with
  | non => exact .non
  | bl b => exact .bl b
  | int h => exact .int h
  | str h hz => exact .str h hz
  | tup hz hf ih => exact .tup hz ih
  | lst h n1 n2 hf ih => exact .lst (e.keep _ _ n1 n2 h) n1 n2 ih
theorem Th.ext {st' : Sto} (e : Ext st st') (h : Th s g st n k d) : Th s g st' n k d := h.gr e.gr
theorem pyWL_all {res : Nat → Option PyData} {P : PyData → Prop} : ∀ {ds : List D}, (∀ d ∈ ds, ∃ p, toPyW res d = some p ∧ P p) → ∃ ps, toPyWL res ds = some ps ∧ ∀ p ∈ ps, P p
  | [], _ => ⟨[], by unfold toPyWL; rfl, by simp⟩
  | d :: ds, h => by
    obtain ⟨p, e1, q1⟩ := h d List.mem_cons_self
    obtain ⟨ps, e2, q2⟩ := pyWL_all (ds := ds) fun x hx => h x (List.mem_cons_of_mem _ hx)
    refine ⟨p :: ps, ?_, fun x hx => ?_⟩
    · unfold toPyWL
      rw [e1, e2]
    · rcases List.mem_cons.mp hx with rfl | hx
      · exact q1
      · exact q2 x hx
theorem layAll {ps : List PyData} (h : ∀ p ∈ ps, p.canLay0 = true) : PyData.canLayAll0 ps = true := by
  induction ps with
  | nil => simp [PyData.canLayAll0]
  | cons p ps ih =>
    simp [PyData.canLayAll0, h p List.mem_cons_self, ih fun x hx => h x (List.mem_cons_of_mem _ hx)]
theorem depAll {ps : List PyData} {k : Nat} (h : ∀ p ∈ ps, p.depth ≤ k) : PyData.depthAll ps ≤ k := by
  induction ps with
  | nil => simp [PyData.depthAll]
  | cons p ps ih =>
    have h1 := h p List.mem_cons_self
    have h2 := ih fun x hx => h x (List.mem_cons_of_mem _ hx)
    simp only [PyData.depthAll]
    omega
theorem Th.py (h : Th s g st n k d) : ∀ N, n ≤ N → ∃ p, toPy st N d = some p ∧ p.canLay0 = true ∧ p.depth ≤ k := by
  induction h with
  | non => exact fun N _ => ⟨.none, by cases N <;> (unfold toPy; unfold toPyW; rfl), by simp [PyData.canLay0], by simp [PyData.depth]⟩
  | bl b => exact fun N _ => ⟨.bool b, by cases N <;> (unfold toPy; unfold toPyW; rfl), by simp [PyData.canLay0], by simp [PyData.depth]⟩
  | @int n k i h => exact fun N _ => ⟨.int i, by cases N <;> (unfold toPy; unfold toPyW; rfl), by simp [PyData.canLay0], by simp [PyData.depth]⟩
  | @str n k z h hz => exact fun N _ => ⟨.str z, by cases N <;> (unfold toPy; unfold toPyW; rfl), by simpa [PyData.canLay0] using asc_ok h, by simp [PyData.depth]⟩
  | @tup n k ds hz hf ih =>
    intro N hN
    have key : ∃ res, ∀ x, toPy st N x = toPyW res x := by cases N <;> (unfold toPy; exact ⟨_, fun _ => rfl⟩)
    obtain ⟨res, hr⟩ := key
    obtain ⟨ps, e1, q1⟩ := pyWL_all (res := res) (P := fun p => p.canLay0 = true ∧ p.depth ≤ k) fun x hx => by
      obtain ⟨p, e, q⟩ := ih x hx N hN
      exact ⟨p, by rw [← hr]; exact e, q⟩
    refine ⟨.tuple ps, ?_, ?_, ?_⟩
    · rw [hr]; unfold toPyW; rw [e1]; rfl
    · rw [PyData.canLay0]; exact layAll fun p hp => (q1 p hp).1
    · rw [PyData.depth]; exact Nat.succ_le_succ (depAll fun p hp => (q1 p hp).2)
  | @lst n k l ds h n1 n2 hf ih =>
    intro N hN
    obtain ⟨M, rfl⟩ : ∃ M, N = M + 1 := ⟨N - 1, by omega⟩
    obtain ⟨res, hr⟩ : ∃ res, ∀ x, toPy st M x = toPyW res x := by cases M <;> (unfold toPy; exact ⟨_, fun _ => rfl⟩)
    have hloc : (fun m => toPy st M (.loc m)) = res := by
      funext m
      rw [hr]
      unfold toPyW
      rfl
    obtain ⟨ps, e1, q1⟩ := pyWL_all (res := res) (P := fun p => p.canLay0 = true ∧ p.depth ≤ k) fun x hx => by
      obtain ⟨p, e, q⟩ := ih x hx M (by omega)
      exact ⟨p, by rw [← hr]; exact e, q⟩
    refine ⟨.list ps, ?_, ?_, ?_⟩
    · unfold toPy toPyW
      rw [lst_at h]
      dsimp only
      rw [hloc, e1]
      rfl
    · rw [PyData.canLay0]; exact layAll fun p hp => (q1 p hp).1
    · rw [PyData.depth]; exact Nat.succ_le_succ (depAll fun p hp => (q1 p hp).2)
theorem Th.cmp (h : Th s g st n k d) (hn : n ≤ 2) (hk : k ≤ 180) : Cmp st d := by
  obtain ⟨p, e, q1, q2⟩ := h.py 2 hn
  refine ⟨p, e, ?_⟩
  unfold shX
  rw [q1, decide_eq_true (Nat.le_trans q2 hk)]
  rfl
theorem Th.fit (h : Th s g st n k d) (hn : n ≤ 2) (hk : k ≤ 180) : Fit st d := by
  have h3 : 3 ^ n ≤ 9 := Nat.pow_le_pow_right (by omega) hn
  induction h with
  | non => exact .non
  | bl b => exact .bl b
  | int h => exact .int _
  | str h hz => exact .str h (by omega)
  | @tup n k ds hz hf ih => exact .tup (by omega) (fun x hx => (hf x (List.mem_of_getElem? hx)).cmp hn (by omega)) fun x hx => ih x hx hn (by omega) h3
  | lst h n1 n2 hf ih => exact .lst h
end
/-! ### ways into a thing -/
mutual
def waysD : D → List (List Nat)
  | .tup ds => [] :: waysL 0 ds
  | .non => [[]]
  | .bl _ => [[]]
  | .int _ => [[]]
  | .str _ => [[]]
  | .loc _ => [[]]
  | .ty _ => [[]]
def waysL : Nat → List D → List (List Nat)
  | _, [] => []
  | i, d :: ds => (waysD d).map (i :: ·) ++ waysL (i + 1) ds
end
def subD : D → List Nat → Option D
  | d, [] => some d
  | .tup ds, i :: w => match ds[i]? with
    | some x => subD x w
    | none => none
  | _, _ :: _ => none
def swapD : D → List Nat → D → D
  | _, [], e => e
  | .tup ds, i :: w, e => .tup (ds.take i ++ [swapD (ds[i]?.getD .non) w e] ++ ds.drop (i + 1))
  | d, _ :: _, _ => d
mutual
theorem ways_ok : ∀ (d : D) (w : List Nat), w ∈ waysD d → ∃ p, subD d w = some p
  | .tup ds, w, h => by
    unfold waysD at h
    rcases List.mem_cons.mp h with rfl | h
    · exact ⟨_, rfl⟩
    · obtain ⟨j, v, x, rfl, hj, hx⟩ := waysL_ok ds 0 w h
      simp only [Nat.zero_add] 
      obtain ⟨p, hp⟩ := hx
      exact ⟨p, by unfold subD; rw [hj]; exact hp⟩
  | .non, w, h => by unfold waysD at h; rw [List.mem_singleton.mp h]; exact ⟨_, rfl⟩
  | .bl _, w, h => by unfold waysD at h; rw [List.mem_singleton.mp h]; exact ⟨_, rfl⟩
  | .int _, w, h => by unfold waysD at h; rw [List.mem_singleton.mp h]; exact ⟨_, rfl⟩
  | .str _, w, h => by unfold waysD at h; rw [List.mem_singleton.mp h]; exact ⟨_, rfl⟩
  | .loc _, w, h => by unfold waysD at h; rw [List.mem_singleton.mp h]; exact ⟨_, rfl⟩
  | .ty _, w, h => by unfold waysD at h; rw [List.mem_singleton.mp h]; exact ⟨_, rfl⟩
theorem waysL_ok : ∀ (ds : List D) (i : Nat) (w : List Nat), w ∈ waysL i ds → ∃ (j : Nat) (v : List Nat) (x : D), w = (i + j) :: v ∧ ds[j]? = some x ∧ ∃ p, subD x v = some p
  | [], _, _, h => by unfold waysL at h; cases h
  | d :: ds, i, w, h => by
    unfold waysL at h
    rcases List.mem_append.mp h with h | h
    · obtain ⟨v, hv, rfl⟩ := List.mem_map.mp h
      exact ⟨0, v, d, rfl, rfl, ways_ok d v hv⟩
    · obtain ⟨j, v, x, rfl, hj, hx⟩ := waysL_ok ds (i + 1) w h
      exact ⟨j + 1, v, x, by rw [show i + 1 + j = i + (j + 1) by omega], hj, hx⟩
end
theorem Th.sub {s g n : Nat} {st : Sto} : ∀ {w : List Nat} {d p : D} {k : Nat}, Th s g st n k d → subD d w = some p → Th s g st n k p
  | [], d, p, k, h, e => by cases e; exact h
  | i :: w, d, p, k, h, e => by
    cases h with
    | @tup _ k ds hz hf =>
      unfold subD at e
      cases q : ds[i]? with
      | none => rw [q] at e; cases e
      | some x =>
        rw [q] at e
        exact ((hf x (List.mem_of_getElem? q)).sub e).dn
    | _ => cases e
theorem Th.put {s g n m j : Nat} {st : Sto} {e : D} (hm : n ≤ m) (he : Th s g st m j e) : ∀ {w : List Nat} {d p : D} {k : Nat}, Th s g st n k d → subD d w = some p → Th s g st m (k + j) (swapD d w e)
  | [], d, p, k, h, _ => he.mono (Nat.le_refl _) (by omega)
  | i :: w, d, p, k, h, q => by
    cases h with
    | @tup _ k ds hz hf =>
      unfold subD at q
      unfold swapD
      cases q2 : ds[i]? with
      | none => rw [q2] at q; cases q
      | some x =>
        rw [q2] at q
        have hi := (List.getElem?_eq_some_iff.mp q2).1
        have hp : 3 ^ n ≤ 3 ^ m := Nat.pow_le_pow_right (by omega) hm
        rw [show k + 1 + j = (k + j) + 1 by omega]
        refine .tup ?_ fun y hy => ?_
        · rw [List.length_append, List.length_append, List.length_take, List.length_drop, List.length_singleton]
          omega
        · rcases List.mem_append.mp hy with hy | hy
          · rcases List.mem_append.mp hy with hy | hy
            · exact (hf y (List.mem_of_mem_take hy)).mono hm (by omega)
            · rw [List.mem_singleton.mp hy]
              exact Th.put hm he (hf x (List.mem_of_getElem? q2)) q
          · exact (hf y (List.mem_of_mem_drop hy)).mono hm (by omega)
    | _ => cases q
/-! how many -/
mutual
def nodD : D → Nat
  | .tup ds => nodL ds + 1
  | .non => 1
  | .bl _ => 1
  | .int _ => 1
  | .str _ => 1
  | .loc _ => 1
  | .ty _ => 1
def nodL : List D → Nat
  | [] => 0
  | d :: ds => nodD d + nodL ds
end
mutual
theorem ways_len : ∀ d : D, (waysD d).length = nodD d
  | .tup ds => by unfold waysD nodD; rw [List.length_cons, waysL_len 0 ds]
  | .non => by unfold waysD nodD; rfl
  | .bl _ => by unfold waysD nodD; rfl
  | .int _ => by unfold waysD nodD; rfl
  | .str _ => by unfold waysD nodD; rfl
  | .loc _ => by unfold waysD nodD; rfl
  | .ty _ => by unfold waysD nodD; rfl
theorem waysL_len : ∀ (i : Nat) (ds : List D), (waysL i ds).length = nodL ds
  | _, [] => by unfold waysL nodL; rfl
  | i, d :: ds => by unfold waysL nodL; rw [List.length_append, List.length_map, ways_len d, waysL_len (i + 1) ds]
end
mutual
theorem way_len : ∀ (d : D) (w : List Nat), w ∈ waysD d → w.length ≤ nodD d
  | .tup ds, w, h => by
    unfold waysD at h
    unfold nodD
    rcases List.mem_cons.mp h with rfl | h
    · simp
    · exact wayL_len ds 0 w h
  | .non, w, h => by unfold waysD at h; rw [List.mem_singleton.mp h]; simp
  | .bl _, w, h => by unfold waysD at h; rw [List.mem_singleton.mp h]; simp
  | .int _, w, h => by unfold waysD at h; rw [List.mem_singleton.mp h]; simp
  | .str _, w, h => by unfold waysD at h; rw [List.mem_singleton.mp h]; simp
  | .loc _, w, h => by unfold waysD at h; rw [List.mem_singleton.mp h]; simp
  | .ty _, w, h => by unfold waysD at h; rw [List.mem_singleton.mp h]; simp
theorem wayL_len : ∀ (ds : List D) (i : Nat) (w : List Nat), w ∈ waysL i ds → w.length ≤ nodL ds + 1
  | [], _, _, h => by unfold waysL at h; cases h
  | d :: ds, i, w, h => by
    unfold waysL at h
    unfold nodL
    rcases List.mem_append.mp h with h | h
    · obtain ⟨v, hv, rfl⟩ := List.mem_map.mp h
      have := way_len d v hv
      rw [List.length_cons]
      omega
    · have := wayL_len ds (i + 1) w h
      omega
end
theorem asc_nat (k : Nat) : ascS (Str.ofString (toString (k : Int))) ∧ (∀ m, k < 10 ^ (m + 1) → (Str.ofString (toString (k : Int))).length ≤ m + 1) := by
  have e : (Str.ofString (toString (k : Int))).cps.toList = TL.numL k := TL.tl_num k
  refine ⟨fun c hc => ?_, fun m hm => ?_⟩
  · rw [e] at hc
    have := TL.numL_digits k c hc
    omega
  · rw [← len_toL, e]
    exact TL.numL_len (by omega) hm
section
variable {s g c n k : Nat} {I : Sto → Prop} {take pick : Fn} {st : Sto}
end
theorem neg_txt (k : Nat) : toString (Int.negSucc k) = "-" ++ toString ((k + 1 : Nat) : Int) := rfl
theorem int_txt (i : Int) (h : i.natAbs < 10 ^ 12) : ascS (Str.ofString (toString i)) ∧ (Str.ofString (toString i)).length ≤ 13 := by
  cases i with
  | ofNat k =>
    have := asc_nat k
    have h2 := this.2 11 h
    exact ⟨this.1, by show (Str.ofString (toString (k : Int))).length ≤ 13; omega⟩
  | negSucc k =>
    have := asc_nat (k + 1)
    have h2 := this.2 11 h
    have e : Str.ofString (toString (Int.negSucc k)) = ("-" : Str) ++ Str.ofString (toString ((k + 1 : Nat) : Int)) := by
      rw [neg_txt, Str.ofString_eq_toList ("-" ++ _), Str.ofString_eq_toList (toString ((k + 1 : Nat) : Int)), Str.ofString_eq_toList "-"]
      show _ = Str.mk (_ ++ _)
      rw [String.toList_append, List.map_append, List.append_toArray]
    rw [e]
    refine ⟨asc_app (asc_of (by decide +kernel)) this.1, ?_⟩
    have l := len_app ("-" : Str) (Str.ofString (toString ((k + 1 : Nat) : Int)))
    have l1 : ("-" : Str).length = 1 := rfl
    omega
section
variable {s g c n k : Nat} {I : Sto → Prop} {take pick bent : Fn} {st : Sto} {d : D}
end
section
variable {s g c n k : Nat} {I : Sto → Prop} {take : Fn} {st : Sto} {d : D}
end
/-! ### drawn terms are things -/
theorem name_asc {w : Str} (h : Name w) : ascS w ∧ w.length ≤ 6 := ⟨(nmB_asc h.1).1, by obtain ⟨_, _, _, _, _, q⟩ := nmB_out h.1; exact q⟩
theorem Th.dep {s g n k : Nat} {st : Sto} {d : D} (h : Th s g st n k d) : depD d ≤ k := by
  induction h with
  | tup hz hf ih => rw [depD]; exact Nat.succ_le_succ (depL_le.mpr ih)
  | _ => simp [depD]
end Sh

set_option maxHeartbeats 1000000
namespace Sh
open PySem PySem.Spec PyProof.Rows L2
local macro_rules | `(tactic| walk_at "go") => `(tactic| simp only [k_bnd, k_ret, k_ok, k_bad, k_badM, k_exc, k_lft, k_ite, k_ite', o_some, o_none, o_ite, v_some, k_var, k_c, k_op, k_call, k_call0, k_cb, k_nil, k_cons, k_tup, k_lst, k_bOf, k_bAnd, k_bOr, k_bNot, k_and, k_or, k_not, k_if, k_chain, k_inC, k_neg, k_bm, k_get2, k_pnone, k_psome, k_sl, k_pnil, k_pcons, k_dic, k_gix, k_seq, k_nx, k_rt, k_sbad, k_snil, k_spass, k_set, k_sret, k_sretN, k_sexp, k_sif, k_asg, k_par2, k_par3, k_aug, k_put, k_seqI, k_range1, k_forI, k_lc, List.getElem?_cons_zero, List.getElem?_cons_succ, List.set_cons_zero, List.set_cons_succ, List.length_cons, List.length_nil, if_true, if_false, Bool.not_true, Bool.not_false, Bool.false_eq_true, ite_true, ite_false, reduceIte, Nat.reduceAdd, Nat.zero_add])
local macro_rules | `(tactic| walk_at "gg") => `(tactic| simp only [k_bnd, k_ret, k_ok, k_bad, k_badM, k_exc, k_lft, k_ite, k_ite', o_some, o_none, o_ite, v_some, k_var, k_c, k_op, k_call, k_call0, k_cb, k_nil, k_cons, k_tup, k_lst, k_bOf, k_bAnd, k_bOr, k_bNot, k_and, k_or, k_not, k_if, k_chain, k_inC, k_neg, k_bm, k_get2, k_pnone, k_psome, k_sl, k_pnil, k_pcons, k_dic, k_gix, k_seq, k_nx, k_rt, k_sbad, k_snil, k_spass, k_set, k_sret, k_sretN, k_sexp, k_sif, k_asg, k_par2, k_par3, k_aug, k_put, k_seqI, k_range1, k_forI, k_lc, List.getElem?_cons_zero, List.getElem?_cons_succ, List.set_cons_zero, List.set_cons_succ, List.length_cons, List.length_nil, if_true, if_false, Bool.not_true, Bool.not_false, Bool.false_eq_true, ite_true, ite_false, reduceIte, Nat.reduceAdd, Nat.zero_add, k_sortSet, k_range2, iadd_i, add_i, sub_i, eq_i, eq_s, ne_i, ne_s, ne_b, lt_i, le_i, gt_i, ge_i, ix_0, ix_1, ix_2, flat_str, flat_int, flat_non, sz_0, sz_1, sz_2, sz_3, sz_4, sz_5, sz_6, sz_7, sz_8, sz_9, decide_eq_true_eq, Bool.not_eq_eq_eq_not, decide_eq_false_iff_not, decide_true, decide_false, true_and, and_true, exists_eq_left, inC_strs, not_true_eq_false, not_false_eq_true, Bool.true_eq_false, reduceCtorEq])
section
variable {st : Sto} {z : Str} {NW : Nat}
end
section
variable {st : Sto} {NW w : Nat} {y : Int}
end
/-! ### a term in a text -/
def sgC (o : Str) : Nat := if o = "sum" then 43 else if o = "less" then 45 else 42
inductive Sp : Trm → List Nat → Prop
  | num (n k : Nat) : Sp (.num (n : Int)) (List.replicate k 32 ++ TL.numL n)
  | at (w : Str) (k : Nat) : Sp (.at w) (List.replicate k 32 ++ w.cps.toList)
  | op {o : Str} {a b : Trm} {sa sb : List Nat} (k j i : Nat) (ha : Sp a sa) (hb : Sp b sb) :
    Sp (.op o a b) (List.replicate k 32 ++ 40 :: (sa ++ (List.replicate j 32 ++ sgC o :: (sb ++ (List.replicate i 32 ++ [41])))))
section
variable {st : Sto} {NW w : Nat} {y : Int} {blanks run leaf rec : Fn} {z : Str} {ws : List Str}
end
section
variable {NW w : Nat} {y deep : Int} {blanks run leaf rec : Fn} {z : Str} {ws : List Str}
end
theorem rep_len {x : Str} (h : ascS x) (hl : x.length ≤ 6) : (reprText x).length ≤ 62 := by
  have := PySem.StrLaws.reprText_len x (fun c hc => by have := h c hc; omega)
  omega
inductive Lz : List Str → List Nat → Prop
  | nil : Lz [] []
  | cons (p : Str) (k : Nat) {ps : List Str} {s : List Nat} (h : Lz ps s) : Lz (p :: ps) (p.cps.toList ++ (List.replicate k 32 ++ s))
theorem Lz.snoc {ps : List Str} {s : List Nat} (p : Str) (k : Nat) (h : Lz ps s) : Lz (ps ++ [p]) (s ++ (p.cps.toList ++ List.replicate k 32)) := by
  induction h with
  | nil => simpa using Lz.cons p k .nil
  | cons q j h ih => simpa using Lz.cons q j ih
theorem Lz.split {qs : List Str} : ∀ {ps : List Str} {s : List Nat}, Lz (ps ++ qs) s → ∃ s1 s2, s = s1 ++ s2 ∧ Lz ps s1 ∧ Lz qs s2
  | [], s, h => ⟨[], s, rfl, .nil, h⟩
  | p :: ps, _, .cons _ k h => by
    obtain ⟨s1, s2, e, h1, h2⟩ := Lz.split h
    exact ⟨_, s2, by rw [e, List.append_assoc, List.append_assoc], .cons p k h1, h2⟩
section
variable {f : Fn} {t : Trm} {st : Sto}
end
section
variable {s g c : Nat} {I : Sto → Prop} {take pieces : Fn} {st : Sto} {t : Trm}
end
end Sh

set_option maxHeartbeats 1000000
namespace Sh
open PySem PySem.Spec PyProof.Rows L2
local macro_rules | `(tactic| walk_at "go") => `(tactic| simp only [k_bnd, k_ret, k_ok, k_bad, k_badM, k_exc, k_lft, k_ite, k_ite', o_some, o_none, o_ite, v_some, k_var, k_c, k_op, k_call, k_call0, k_cb, k_nil, k_cons, k_tup, k_lst, k_bOf, k_bAnd, k_bOr, k_bNot, k_and, k_or, k_not, k_if, k_chain, k_inC, k_neg, k_bm, k_get2, k_pnone, k_psome, k_sl, k_pnil, k_pcons, k_dic, k_gix, k_seq, k_nx, k_rt, k_sbad, k_snil, k_spass, k_set, k_sret, k_sretN, k_sexp, k_sif, k_asg, k_par2, k_par3, k_aug, k_put, k_seqI, k_range1, k_forI, k_lc, List.getElem?_cons_zero, List.getElem?_cons_succ, List.set_cons_zero, List.set_cons_succ, List.length_cons, List.length_nil, if_true, if_false, Bool.not_true, Bool.not_false, Bool.false_eq_true, ite_true, ite_false, reduceIte, Nat.reduceAdd, Nat.zero_add])
section
variable {size worked worth : Fn} {st : Sto} {y : Int} {w K : Nat} {kvs : List (Key × D)} {ws : List Str}
end
theorem putD_len {kvs : List (Key × D)} {k : Key} {v : D} : (putD kvs k v).length ≤ kvs.length + 1 := by
  unfold putD
  split
  · rw [List.length_map]; omega
  · rw [List.length_append, List.length_singleton]; omega
end Sh

set_option maxHeartbeats 1000000
namespace Sh
open PySem PySem.Spec PyProof.Rows L2
local macro_rules | `(tactic| walk_at "go") => `(tactic| simp only [k_bnd, k_ret, k_ok, k_bad, k_badM, k_exc, k_lft, k_ite, k_ite', o_some, o_none, o_ite, v_some, k_var, k_c, k_op, k_call, k_call0, k_cb, k_nil, k_cons, k_tup, k_lst, k_bOf, k_bAnd, k_bOr, k_bNot, k_and, k_or, k_not, k_if, k_chain, k_inC, k_neg, k_bm, k_get2, k_pnone, k_psome, k_sl, k_pnil, k_pcons, k_dic, k_gix, k_seq, k_nx, k_rt, k_sbad, k_snil, k_spass, k_set, k_sret, k_sretN, k_sexp, k_sif, k_asg, k_par2, k_par3, k_aug, k_put, k_seqI, k_range1, k_forI, k_lc, List.getElem?_cons_zero, List.getElem?_cons_succ, List.set_cons_zero, List.set_cons_succ, List.length_cons, List.length_nil, if_true, if_false, Bool.not_true, Bool.not_false, Bool.false_eq_true, ite_true, ite_false, reduceIte, Nat.reduceAdd, Nat.zero_add])
local macro_rules | `(tactic| walk_at "gg") => `(tactic| simp only [k_bnd, k_ret, k_ok, k_bad, k_badM, k_exc, k_lft, k_ite, k_ite', o_some, o_none, o_ite, v_some, k_var, k_c, k_op, k_call, k_call0, k_cb, k_nil, k_cons, k_tup, k_lst, k_bOf, k_bAnd, k_bOr, k_bNot, k_and, k_or, k_not, k_if, k_chain, k_inC, k_neg, k_bm, k_get2, k_pnone, k_psome, k_sl, k_pnil, k_pcons, k_dic, k_gix, k_seq, k_nx, k_rt, k_sbad, k_snil, k_spass, k_set, k_sret, k_sretN, k_sexp, k_sif, k_asg, k_par2, k_par3, k_aug, k_put, k_seqI, k_range1, k_forI, k_lc, List.getElem?_cons_zero, List.getElem?_cons_succ, List.set_cons_zero, List.set_cons_succ, List.length_cons, List.length_nil, if_true, if_false, Bool.not_true, Bool.not_false, Bool.false_eq_true, ite_true, ite_false, reduceIte, Nat.reduceAdd, Nat.zero_add, k_sortSet, k_range2, iadd_i, add_i, sub_i, eq_i, eq_s, ne_i, ne_s, ne_b, lt_i, le_i, gt_i, ge_i, ix_0, ix_1, ix_2, flat_str, flat_int, flat_non, sz_0, sz_1, sz_2, sz_3, sz_4, sz_5, sz_6, sz_7, sz_8, sz_9, decide_eq_true_eq, Bool.not_eq_eq_eq_not, decide_eq_false_iff_not, decide_true, decide_false, true_and, and_true, exists_eq_left, inC_strs, not_true_eq_false, not_false_eq_true, Bool.true_eq_false, reduceCtorEq])
section
variable {st : Sto} {NW w K : Nat} {y : Int} {worth size : Fn} {kvs : List (Key × D)} {ws : List Str}
end
end Sh

set_option maxHeartbeats 1000000
namespace Sh
open PySem PySem.Spec PyProof.Rows L2
local macro_rules | `(tactic| walk_at "go") => `(tactic| simp only [k_bnd, k_ret, k_ok, k_bad, k_badM, k_exc, k_lft, k_ite, k_ite', o_some, o_none, o_ite, v_some, k_var, k_c, k_op, k_call, k_call0, k_cb, k_nil, k_cons, k_tup, k_lst, k_bOf, k_bAnd, k_bOr, k_bNot, k_and, k_or, k_not, k_if, k_chain, k_inC, k_neg, k_bm, k_get2, k_pnone, k_psome, k_sl, k_pnil, k_pcons, k_dic, k_gix, k_seq, k_nx, k_rt, k_sbad, k_snil, k_spass, k_set, k_sret, k_sretN, k_sexp, k_sif, k_asg, k_par2, k_par3, k_aug, k_put, k_seqI, k_range1, k_forI, k_lc, List.getElem?_cons_zero, List.getElem?_cons_succ, List.set_cons_zero, List.set_cons_succ, List.length_cons, List.length_nil, if_true, if_false, Bool.not_true, Bool.not_false, Bool.false_eq_true, ite_true, ite_false, reduceIte, Nat.reduceAdd, Nat.zero_add])
local macro_rules | `(tactic| walk_at "gg") => `(tactic| simp only [k_bnd, k_ret, k_ok, k_bad, k_badM, k_exc, k_lft, k_ite, k_ite', o_some, o_none, o_ite, v_some, k_var, k_c, k_op, k_call, k_call0, k_cb, k_nil, k_cons, k_tup, k_lst, k_bOf, k_bAnd, k_bOr, k_bNot, k_and, k_or, k_not, k_if, k_chain, k_inC, k_neg, k_bm, k_get2, k_pnone, k_psome, k_sl, k_pnil, k_pcons, k_dic, k_gix, k_seq, k_nx, k_rt, k_sbad, k_snil, k_spass, k_set, k_sret, k_sretN, k_sexp, k_sif, k_asg, k_par2, k_par3, k_aug, k_put, k_seqI, k_range1, k_forI, k_lc, List.getElem?_cons_zero, List.getElem?_cons_succ, List.set_cons_zero, List.set_cons_succ, List.length_cons, List.length_nil, if_true, if_false, Bool.not_true, Bool.not_false, Bool.false_eq_true, ite_true, ite_false, reduceIte, Nat.reduceAdd, Nat.zero_add, k_sortSet, k_range2, iadd_i, add_i, sub_i, eq_i, eq_s, ne_i, ne_s, ne_b, lt_i, le_i, gt_i, ge_i, ix_0, ix_1, ix_2, flat_str, flat_int, flat_non, sz_0, sz_1, sz_2, sz_3, sz_4, sz_5, sz_6, sz_7, sz_8, sz_9, decide_eq_true_eq, Bool.not_eq_eq_eq_not, decide_eq_false_iff_not, decide_true, decide_false, true_and, and_true, exists_eq_left, inC_strs, not_true_eq_false, not_false_eq_true])
local macro_rules | `(tactic| walk_at "gz") => `(tactic| simp only [k_bnd, k_ret, k_ok, k_bad, k_badM, k_exc, k_lft, k_ite, k_ite', o_some, o_none, o_ite, v_some, k_var, k_c, k_op, k_call, k_call0, k_cb, k_nil, k_cons, k_tup, k_lst, k_bOf, k_bAnd, k_bOr, k_bNot, k_and, k_or, k_not, k_if, k_chain, k_inC, k_neg, k_bm, k_get2, k_pnone, k_psome, k_sl, k_pnil, k_pcons, k_dic, k_gix, k_seq, k_nx, k_rt, k_sbad, k_snil, k_spass, k_set, k_sret, k_sretN, k_sexp, k_sif, k_asg, k_par2, k_par3, k_aug, k_put, k_seqI, k_range1, k_forI, k_lc, List.getElem?_cons_zero, List.getElem?_cons_succ, List.set_cons_zero, List.set_cons_succ, List.length_cons, List.length_nil, if_true, if_false, Bool.not_true, Bool.not_false, Bool.false_eq_true, ite_true, ite_false, reduceIte, Nat.reduceAdd, Nat.zero_add, k_sortSet, k_range2, iadd_i, add_i, sub_i, eq_i, eq_s, ne_i, ne_s, ne_b, lt_i, le_i, gt_i, ge_i, ix_0, ix_1, ix_2, flat_str, flat_int, flat_non, sz_0, sz_1, sz_2, sz_3, sz_4, sz_5, sz_6, sz_7, sz_8, sz_9, decide_eq_true_eq, Bool.not_eq_eq_eq_not, decide_eq_false_iff_not, decide_true, decide_false, true_and, and_true, exists_eq_left, inC_strs, not_true_eq_false, not_false_eq_true, k_isE, k_tryAs, k_tryO, k_raiseA, k_raise, Bool.true_eq_false, reduceCtorEq, ne_eq])
/-! ### things as == sees them, of any depth -/
def Lay (st : Sto) (d : D) : Prop := ∃ p, toPy st 2 d = some p ∧ p.canLay0 = true
theorem Lay.ext {st st' : Sto} (h : Ext st st') {d : D} : Lay st d → Lay st' d := fun ⟨p, e, q⟩ => ⟨p, py_ext h 2 e, q⟩
theorem lay_all : ∀ {ps : List PyData}, PyData.canLayAll0 ps = true → ∀ p ∈ ps, p.canLay0 = true
  | [], _, p, hp => by cases hp
  | q :: ps, h, p, hp => by
    rw [PyData.canLayAll0, Bool.and_eq_true] at h
    rcases List.mem_cons.mp hp with rfl | hp
    · exact h.1
    · exact lay_all h.2 p hp
theorem pyWL_at {res : Nat → Option PyData} : ∀ {ds : List D} {ps : List PyData}, toPyWL res ds = some ps → ds.length = ps.length ∧ ∀ d ∈ ds, ∃ p ∈ ps, toPyW res d = some p
  | [], ps, h => by
    unfold toPyWL at h
    cases h
    exact ⟨rfl, fun _ z => by cases z⟩
  | d :: ds, ps, h => by
    unfold toPyWL at h
    cases e1 : toPyW res d with
    | none => rw [e1] at h; cases h
    | some p =>
      cases e2 : toPyWL res ds with
      | none => rw [e1, e2] at h; cases h
      | some qs =>
        rw [e1, e2] at h
        cases h
        obtain ⟨h1, h2⟩ := pyWL_at e2
        refine ⟨by rw [List.length_cons, List.length_cons, h1], fun x hx => ?_⟩
        rcases List.mem_cons.mp hx with rfl | hx
        · exact ⟨p, List.mem_cons_self, e1⟩
        · obtain ⟨q, m, e⟩ := h2 x hx
          exact ⟨q, List.mem_cons_of_mem _ m, e⟩
theorem py_tup {st : Sto} {ds : List D} {p : PyData} (e : toPy st 2 (.tup ds) = some p) : ∃ ps, p = .tuple ps ∧ ds.length = ps.length ∧ ∀ d ∈ ds, ∃ q ∈ ps, toPy st 2 d = some q := by
  unfold toPy toPyW at e
  obtain ⟨ps, q, rfl⟩ := Option.map_eq_some_iff.mp e
  obtain ⟨h1, h2⟩ := pyWL_at q
  refine ⟨ps, rfl, h1, fun d hd => ?_⟩
  obtain ⟨r, m, e⟩ := h2 d hd
  exact ⟨r, m, by unfold toPy; exact e⟩
theorem Lay.el {st : Sto} {ds : List D} (h : Lay st (.tup ds)) : ∀ d ∈ ds, Lay st d := fun d hd => by
  obtain ⟨p, e, hl⟩ := h
  obtain ⟨ps, rfl, _, h2⟩ := py_tup e
  obtain ⟨q, m, e2⟩ := h2 d hd
  rw [PyData.canLay0] at hl
  exact ⟨q, e2, lay_all hl q m⟩
section
variable {d : D} {st : Sto} {y deep : Int} {w : Nat} {ist isn test rows : Fn} {z : Int}
end
def TrmV (z : Int) (t : Trm) : Prop := t.ok z t.nms ∧ ∀ x ∈ t.nms, Name x
theorem nms_op {o : Str} {a b : Trm} : (Trm.op o a b).nms = a.nms ++ b.nms := by
  unfold Trm.nms
  rw [show (Trm.op o a b).parts = .op o a b :: (a.parts ++ b.parts) from rfl, List.filterMap_cons, List.filterMap_append]
theorem TrmV.op {z : Int} {o : Str} {a b : Trm} (ho : o ∈ opsT) (ha : TrmV z a) (hb : TrmV z b) : TrmV z (.op o a b) := by
  refine ⟨⟨ho, Trm.ok_mono (fun x hx => ?_) ha.1, Trm.ok_mono (fun x hx => ?_) hb.1⟩, fun x hx => ?_⟩
  · rw [nms_op]; exact List.mem_append_left _ hx
  · rw [nms_op]; exact List.mem_append_right _ hx
  · rw [nms_op] at hx
    rcases List.mem_append.mp hx with hx | hx
    · exact ha.2 x hx
    · exact hb.2 x hx
theorem TrmV.of {z : Int} {ws : List Str} {t : Trm} (hw : ∀ x ∈ ws, Name x) (h : t.ok z ws) : TrmV z t := by
  have key : ∀ {t : Trm}, t.ok z ws → t.ok z t.nms := by
    intro t
    induction t with
    | num n => exact fun h => h
    | «at» v => exact fun _ => by show v ∈ _; simp [Trm.nms, Trm.parts]
    | op o a b iha ihb =>
      intro h
      refine ⟨h.1, Trm.ok_mono (fun x hx => ?_) (iha h.2.1), Trm.ok_mono (fun x hx => ?_) (ihb h.2.2)⟩
      · rw [nms_op]; exact List.mem_append_left _ hx
      · rw [nms_op]; exact List.mem_append_right _ hx
  exact ⟨key h, fun x hx => hw x (nms_sub h x hx)⟩
def TrmP (z : Int) (t : Trm) : Prop := TrmV z t ∧ t.dep ≤ 60 ∧ t.lvs ≤ 200
def RowV (z : Int) (r : Row) : Prop := (∀ t ∈ r.asked, TrmP z t) ∧ (∀ x ∈ r.own, Name x) ∧ match r with
  | .ifr o _ _ _ _ => o ∈ testT
  | .whl o _ _ _ => o ∈ testT
  | .set _ _ => True
  | .tell _ => True
  | .trn _ _ => True
def RowsV (z : Int) (rs : List Row) : Prop := ∀ r ∈ allL rs, RowV z r
def insP (z : Int) (is : List (Str × Int × Int)) : Prop := (∀ i ∈ is, Name i.1 ∧ 0 ≤ i.2.1 ∧ i.2.1 ≤ i.2.2 ∧ i.2.2 < z)
/-- rising, place by place -/
def risB : List Str → Bool
  | a :: b :: r => decide (a.cps.toList < b.cps.toList) && risB (b :: r)
  | _ => true
section
variable {d : D} {st : Sto} {y : Int} {w : Nat} {isn num inp : Fn} {z : Int}
theorem oAll_bls {l : Nat} {bs : List Bool} (h : st[l]? = some (.lst (bs.map D.bl))) : oAll [.loc l] st = some (.bl (bs.all id), st) := by
  unfold oAll
  dsimp only
  rw [lst_at h]
  dsimp only
  rw [asBls_map]
theorem oAll_f {α : Type} {l : Nat} {xs : List α} {f : α → Bool} (h : st[l]? = some (.lst (xs.map fun x => D.bl (f x)))) : oAll [.loc l] st = some (.bl (xs.all f), st) := by
  rw [oAll_bls (bs := xs.map f) (by rw [List.map_map]; exact h), List.all_map, show (id ∘ f) = f from rfl]
end
end Sh

set_option maxHeartbeats 1000000
namespace Sh
open PySem PySem.Spec PyProof.Rows L2
local macro_rules | `(tactic| walk_at "go") => `(tactic| simp only [k_bnd, k_ret, k_ok, k_bad, k_badM, k_exc, k_lft, k_ite, k_ite', o_some, o_none, o_ite, v_some, k_var, k_c, k_op, k_call, k_call0, k_cb, k_nil, k_cons, k_tup, k_lst, k_bOf, k_bAnd, k_bOr, k_bNot, k_and, k_or, k_not, k_if, k_chain, k_inC, k_neg, k_bm, k_get2, k_pnone, k_psome, k_sl, k_pnil, k_pcons, k_dic, k_gix, k_seq, k_nx, k_rt, k_sbad, k_snil, k_spass, k_set, k_sret, k_sretN, k_sexp, k_sif, k_asg, k_par2, k_par3, k_aug, k_put, k_seqI, k_range1, k_forI, k_lc, List.getElem?_cons_zero, List.getElem?_cons_succ, List.set_cons_zero, List.set_cons_succ, List.length_cons, List.length_nil, if_true, if_false, Bool.not_true, Bool.not_false, Bool.false_eq_true, ite_true, ite_false, reduceIte, Nat.reduceAdd, Nat.zero_add])
local macro_rules | `(tactic| walk_at "gg") => `(tactic| simp only [k_bnd, k_ret, k_ok, k_bad, k_badM, k_exc, k_lft, k_ite, k_ite', o_some, o_none, o_ite, v_some, k_var, k_c, k_op, k_call, k_call0, k_cb, k_nil, k_cons, k_tup, k_lst, k_bOf, k_bAnd, k_bOr, k_bNot, k_and, k_or, k_not, k_if, k_chain, k_inC, k_neg, k_bm, k_get2, k_pnone, k_psome, k_sl, k_pnil, k_pcons, k_dic, k_gix, k_seq, k_nx, k_rt, k_sbad, k_snil, k_spass, k_set, k_sret, k_sretN, k_sexp, k_sif, k_asg, k_par2, k_par3, k_aug, k_put, k_seqI, k_range1, k_forI, k_lc, List.getElem?_cons_zero, List.getElem?_cons_succ, List.set_cons_zero, List.set_cons_succ, List.length_cons, List.length_nil, if_true, if_false, Bool.not_true, Bool.not_false, Bool.false_eq_true, ite_true, ite_false, reduceIte, Nat.reduceAdd, Nat.zero_add, k_sortSet, k_range2, iadd_i, add_i, sub_i, eq_i, eq_s, ne_i, ne_s, ne_b, lt_i, le_i, gt_i, ge_i, ix_0, ix_1, ix_2, flat_str, flat_int, flat_non, sz_0, sz_1, sz_2, sz_3, sz_4, sz_5, sz_6, sz_7, sz_8, sz_9, decide_eq_true_eq, Bool.not_eq_eq_eq_not, decide_eq_false_iff_not, decide_true, decide_false, true_and, and_true, exists_eq_left, inC_strs, not_true_eq_false, not_false_eq_true])
local macro_rules | `(tactic| walk_at "g2") => `(tactic| simp only [k_bnd, k_ret, k_ok, k_bad, k_badM, k_exc, k_lft, k_ite, k_ite', o_some, o_none, o_ite, v_some, k_var, k_c, k_op, k_call, k_call0, k_cb, k_nil, k_cons, k_tup, k_lst, k_bOf, k_bAnd, k_bOr, k_bNot, k_and, k_or, k_not, k_if, k_chain, k_inC, k_neg, k_bm, k_get2, k_pnone, k_psome, k_sl, k_pnil, k_pcons, k_dic, k_gix, k_seq, k_nx, k_rt, k_sbad, k_snil, k_spass, k_set, k_sret, k_sretN, k_sexp, k_sif, k_asg, k_par2, k_par3, k_aug, k_put, k_seqI, k_range1, k_forI, k_lc, List.getElem?_cons_zero, List.getElem?_cons_succ, List.set_cons_zero, List.set_cons_succ, List.length_cons, List.length_nil, if_true, if_false, Bool.not_true, Bool.not_false, Bool.false_eq_true, ite_true, ite_false, reduceIte, Nat.reduceAdd, Nat.zero_add, k_sortSet, iadd_i, add_i, sub_i, eq_i, eq_s, ne_i, ne_s, ne_b, lt_i, le_i, gt_i, ge_i, ix_0, ix_1, ix_2, flat_str, flat_int, flat_non, sz_0, sz_1, sz_2, sz_3, sz_4, sz_5, sz_6, sz_7, sz_8, sz_9, decide_eq_true_eq, Bool.not_eq_eq_eq_not, decide_eq_false_iff_not, decide_true, decide_false, true_and, and_true, exists_eq_left, inC_strs, not_true_eq_false, not_false_eq_true, k_isE, k_tryAs, k_tryO, k_raiseA, k_raise, Bool.true_eq_false, reduceCtorEq, ne_eq])
local macro_rules | `(tactic| walk_at "g1") => `(tactic| simp only [k_bnd, k_ret, k_ok, k_bad, k_badM, k_exc, k_lft, k_ite, k_ite', o_some, o_none, o_ite, v_some, k_var, k_c, k_op, k_call, k_call0, k_cb, k_nil, k_cons, k_tup, k_lst, k_bOf, k_bAnd, k_bOr, k_bNot, k_and, k_or, k_not, k_if, k_chain, k_inC, k_neg, k_bm, k_get2, k_pnone, k_psome, k_sl, k_pnil, k_pcons, k_dic, k_gix, k_seq, k_nx, k_rt, k_sbad, k_snil, k_spass, k_set, k_sret, k_sretN, k_sexp, k_sif, k_asg, k_par2, k_par3, k_aug, k_put, k_seqI, k_forI, k_lc, List.getElem?_cons_zero, List.getElem?_cons_succ, List.set_cons_zero, List.set_cons_succ, List.length_cons, List.length_nil, if_true, if_false, Bool.not_true, Bool.not_false, Bool.false_eq_true, ite_true, ite_false, reduceIte, Nat.reduceAdd, Nat.zero_add, k_sortSet, iadd_i, add_i, sub_i, eq_i, eq_s, ne_i, ne_s, ne_b, lt_i, le_i, gt_i, ge_i, ix_0, ix_1, ix_2, flat_str, flat_int, flat_non, sz_0, sz_1, sz_2, sz_3, sz_4, sz_5, sz_6, sz_7, sz_8, sz_9, decide_eq_true_eq, Bool.not_eq_eq_eq_not, decide_eq_false_iff_not, decide_true, decide_false, true_and, and_true, exists_eq_left, inC_strs, not_true_eq_false, not_false_eq_true, k_isE, k_tryAs, k_tryO, k_raiseA, k_raise, Bool.true_eq_false, reduceCtorEq, ne_eq])
local macro_rules | `(tactic| walk_at "gz") => `(tactic| simp only [k_bnd, k_ret, k_ok, k_bad, k_badM, k_exc, k_lft, k_ite, k_ite', o_some, o_none, o_ite, v_some, k_var, k_c, k_op, k_call, k_call0, k_cb, k_nil, k_cons, k_tup, k_lst, k_bOf, k_bAnd, k_bOr, k_bNot, k_and, k_or, k_not, k_if, k_chain, k_inC, k_neg, k_bm, k_get2, k_pnone, k_psome, k_sl, k_pnil, k_pcons, k_dic, k_gix, k_seq, k_nx, k_rt, k_sbad, k_snil, k_spass, k_set, k_sret, k_sretN, k_sexp, k_sif, k_asg, k_par2, k_par3, k_aug, k_put, k_seqI, k_range1, k_forI, k_lc, List.getElem?_cons_zero, List.getElem?_cons_succ, List.set_cons_zero, List.set_cons_succ, List.length_cons, List.length_nil, if_true, if_false, Bool.not_true, Bool.not_false, Bool.false_eq_true, ite_true, ite_false, reduceIte, Nat.reduceAdd, Nat.zero_add, k_sortSet, k_range2, iadd_i, add_i, sub_i, eq_i, eq_s, ne_i, ne_s, ne_b, lt_i, le_i, gt_i, ge_i, ix_0, ix_1, ix_2, flat_str, flat_int, flat_non, sz_0, sz_1, sz_2, sz_3, sz_4, sz_5, sz_6, sz_7, sz_8, sz_9, decide_eq_true_eq, Bool.not_eq_eq_eq_not, decide_eq_false_iff_not, decide_true, decide_false, true_and, and_true, exists_eq_left, inC_strs, not_true_eq_false, not_false_eq_true, k_isE, k_tryAs, k_tryO, k_raiseA, k_raise, Bool.true_eq_false, reduceCtorEq, ne_eq])
theorem k_putT {st : Sto} {en : Ev} {p : Po} (mv mo mi : EM) : OkS (sPutT mv mo mi en st) p = OkX (mv en st) (fun v st1 => OkX (mo en st1) (fun o st2 => OkX (mi en st2) (fun i st3 => match setT o i v st3 with | some st4 => p.nx en st4 | none => False) (fun c st1 => p.ex c en st1)) (fun c st1 => p.ex c en st1)) (fun c st1 => p.ex c en st1) := by
  unfold sPutT
  rw [k_sB, k_bnd]
  congr 1
  funext v st1
  rw [k_bnd]
  congr 1
  funext o st2
  rw [k_bnd]
  congr 1
  funext i st3
  show OkX (match setT o i v st3 with | some st' => R.ok () st' | none => R.bad) _ _ = _
  cases setT o i v st3 <;> rfl
theorem k_dicT {P : D → Sto → Prop} {E : Str → Sto → Prop} {st : Sto} {en : Ev} : OkX (eDicT en st) P E = P (.loc st.length) (st ++ [.dit []]) := rfl
/-- a pure comprehension over what is told by xs -/
theorem lc_pE {α : Type} (enc : α → D) (xs : List α) (F : α → D) (q : α → Bool) {cond : BM} {el : EM} {tg : D → Ev → Option Ev} {enw : Ev} {src : Src} {st0 : Sto} (hz : xs.length < sizeLine) (hs : ∀ acc i, src (st0 ++ [.lst acc]) i = some (xs.map enc)[i]?)
    (h : ∀ x ∈ xs, ∃ en1, tg (enc x) enw = some en1 ∧ ∀ acc, Ok (cond en1 (st0 ++ [.lst acc])) (fun b s => b = q x ∧ s = st0 ++ [.lst acc]) ∧ (q x = true → Ok (el en1 (st0 ++ [.lst acc])) fun y s => y = F x ∧ s = st0 ++ [.lst acc])) :
    Ok (lcLoop cond el tg src st0.length enw xs.length 0 (st0 ++ [.lst []])) fun _ st' => st' = st0 ++ [.lst ((xs.filter q).map F)] := by
  have gen : ∀ (n i : Nat) (acc : List D), n + i = xs.length → acc = ((xs.take i).filter q).map F → Ok (lcLoop cond el tg src st0.length enw n i (st0 ++ [.lst acc])) fun _ st' => st' = st0 ++ [.lst ((xs.filter q).map F)] := by
    intro n
    induction n with
    | zero =>
      intro i acc hi ha
      unfold lcLoop
      rw [hs acc i, List.getElem?_eq_none_iff.mpr (by rw [List.length_map]; omega)]
      subst ha
      rw [List.take_of_length_le (by omega)]
      rfl
    | succ n ih =>
      intro i acc hi ha
      have hlt : i < xs.length := by omega
      have hd : (xs.map enc)[i]? = some (enc xs[i]) := by rw [List.getElem?_map, List.getElem?_eq_getElem hlt]; rfl
      have e2 : xs.take (i + 1) = xs.take i ++ [xs[i]] := by rw [List.take_add_one, List.getElem?_eq_getElem hlt]; rfl
      obtain ⟨en1, e1, h1⟩ := h xs[i] (List.getElem_mem hlt)
      obtain ⟨h2, h3⟩ := h1 acc
      refine lc_turn (d := enc xs[i]) (by rw [hs acc i, hd]) ⟨en1, e1, Ok.imp h2 fun b s ⟨eb, es⟩ => ?_⟩
      subst eb es
      by_cases hc : q xs[i] = true
      · rw [if_pos hc]
        refine Ok.imp (h3 hc) fun y s ⟨ey, es⟩ => ⟨acc, by rw [es]; exact last_at, ?_, ?_⟩
        · rw [ha, List.length_map]
          have := List.length_filter_le q (xs.take i)
          rw [List.length_take] at this
          omega
        · subst ey es
          rw [show (st0 ++ [O.lst acc]).set st0.length (.lst (acc ++ [F xs[i]])) = st0 ++ [.lst (acc ++ [F xs[i]])] from by
            rw [List.set_append_right _ _ (Nat.le_refl _), Nat.sub_self]
            rfl]
          refine ih (i + 1) _ (by omega) ?_
          rw [ha, e2, List.filter_append, List.map_append]
          simp [hc]
      · rw [if_neg hc]
        refine ih (i + 1) _ (by omega) ?_
        rw [ha, e2, List.filter_append, List.map_append]
        simp [hc]
  exact gen xs.length 0 [] (by omega) rfl
theorem src_its (ds : List D) (st : Sto) : ∀ acc i, (srcIts ds) (st ++ [.lst acc]) i = some ds[i]? := fun _ _ => rfl
theorem src_atA {l : Nat} {ds : List D} {st : Sto} (h : lstAt st l = some ds) : ∀ acc i, (srcAt l) (st ++ [.lst acc]) i = some ds[i]? := fun acc i => by
  have hlt : l < st.length := by
    unfold lstAt at h
    cases e : st[l]? with
    | none => rw [e] at h; cases h
    | some o => exact (List.getElem?_eq_some_iff.mp e).1
  have h2 : lstAt (st ++ [O.lst acc]) l = some ds := by
    unfold lstAt at h ⊢
    rw [List.getElem?_append_left hlt]
    exact h
  unfold srcAt
  rw [h2]
/-- a loop over what is told by xs -/
theorem for_xs {α : Type} (enc : α → D) (xs : List α) {b : SM} {tg : D → Ev → Option Ev} {src : Src} {en : Ev} {st : Sto} {p : Po} (I : Nat → Ev → Sto → Prop) (h0 : I 0 en st) (hsrc : ∀ i en st, I i en st → ∀ j, src st j = some (xs.map enc)[j]?)
    (hs : ∀ (i : Nat) (x : α) en st, xs[i]? = some x → I i en st → ∃ en1, tg (enc x) en = some en1 ∧ OkS (b en1 st) { p with nx := I (i + 1), ct := I (i + 1), bk := p.nx })
    (hd : ∀ en st, I xs.length en st → p.nx en st) : OkS (sFor b tg src xs.length 0 en st) p := by
  have gen : ∀ (n i : Nat) (en : Ev) (st : Sto), n + i = xs.length → I i en st → OkS (sFor b tg src n i en st) p := by
    intro n
    induction n with
    | zero =>
      intro i en st e hI
      have e' : (xs.map enc)[i]? = none := List.getElem?_eq_none_iff.mpr (by rw [List.length_map]; omega)
      unfold sFor
      rw [hsrc i en st hI i, e']
      have : i = xs.length := by omega
      subst this
      exact hd en st hI
    | succ n ih =>
      intro i en st e hI
      have hi : i < xs.length := by omega
      have e0 : xs[i]? = some xs[i] := List.getElem?_eq_getElem hi
      have e' : (xs.map enc)[i]? = some (enc xs[i]) := by rw [List.getElem?_map, e0]; rfl
      obtain ⟨en1, e1, h1⟩ := hs i _ en st e0 hI
      unfold sFor
      rw [hsrc i en st hI i, e']
      dsimp only
      rw [e1]
      dsimp only
      cases q : b en1 st with
      | nx en2 st2 => rw [q] at h1; exact ih (i + 1) en2 st2 (by omega) h1
      | ct en2 st2 => rw [q] at h1; exact ih (i + 1) en2 st2 (by omega) h1
      | bk en2 st2 => rw [q] at h1; exact h1
      | rt d st2 => rw [q] at h1; exact h1
      | exc c en2 st2 => rw [q] at h1; exact h1
      | bad => rw [q] at h1; exact h1
  exact gen xs.length 0 en st rfl h0
/-! ### dicts of sums as data -/
section
variable {κ κ' : Type} [DecidableEq κ] [DecidableEq κ']
def encA (ek : κ → κ') (acc : List (κ × Int)) : List (κ' × D) := acc.map fun e => (ek e.1, D.int e.2)
theorem lookK_enc (ek : κ → κ') {m : κ} : ∀ {acc : List (κ × Int)}, (∀ e ∈ acc, ek e.1 = ek m → e.1 = m) → lookK (encA ek acc) (ek m) = (getM acc m).map D.int
  | [], _ => rfl
  | e :: r, h => by
    have ih := lookK_enc ek (m := m) (acc := r) fun x hx => h x (List.mem_cons_of_mem _ hx)
    unfold lookK encA at ih ⊢
    unfold getM at ih ⊢
    rw [List.map_cons, List.find?_cons, List.find?_cons]
    by_cases q : e.1 = m
    · have : decide (ek e.1 = ek m) = true := decide_eq_true (by rw [q])
      rw [this, beq_iff_eq.mpr q]
      rfl
    · have h1 : decide (ek e.1 = ek m) = false := decide_eq_false fun z => q (h e List.mem_cons_self z)
      rw [h1, beq_eq_false_iff_ne.mpr q]
      exact ih
theorem putD_enc (ek : κ → κ') {m : κ} {f : Int} : ∀ {acc : List (κ × Int)}, (acc.map (·.1)).Nodup → (∀ e ∈ acc, ek e.1 = ek m → e.1 = m) → putD (encA ek acc) (ek m) (.int f) = encA ek (putM acc m f)
  | [], _, _ => rfl
  | e :: r, hn, h => by
    rw [List.map_cons, List.nodup_cons] at hn
    have ih := putD_enc ek (m := m) (f := f) (acc := r) hn.2 fun x hx => h x (List.mem_cons_of_mem _ hx)
    unfold putM
    unfold putD encA at ih ⊢
    by_cases q : e.1 = m
    · rw [if_pos q, List.map_cons, List.any_cons, decide_eq_true (by rw [q]), Bool.true_or, if_pos rfl, List.map_cons, List.map_cons, if_pos (by rw [q]), q]
      congr 1
      rw [List.map_map]
      refine List.map_congr_left fun x hx => ?_
      show (if ek x.1 = ek m then (ek x.1, D.int f) else (ek x.1, D.int x.2)) = _
      rw [if_neg fun z => hn.1 (List.mem_map.mpr ⟨x, hx, (h x (List.mem_cons_of_mem _ hx) z).trans q.symm⟩)]
    · rw [if_neg q, List.map_cons, List.any_cons, decide_eq_false fun z => q (h e List.mem_cons_self z), Bool.false_or, List.map_cons]
      by_cases q2 : ((List.map (fun e => (ek e.1, D.int e.2)) r).any fun kv => decide (kv.1 = ek m)) = true
      · rw [if_pos q2] at ih ⊢
        rw [List.map_cons, if_neg fun z => q (h e List.mem_cons_self z), ih]
      · rw [if_neg q2] at ih ⊢
        rw [List.map_cons, ← ih]
        rfl
end
def kyM (m : Mon) : List Key := m.map Sum.inr
theorem kyM_inj {a b : Mon} (h : kyM a = kyM b) : a = b := (List.map_inj_right fun _ _ e => by injection e).mp h
theorem keysOf_mon : ∀ m : Mon, keysOf (m.map D.str) = some (kyM m)
  | [] => rfl
  | w :: r => by
    rw [List.map_cons, keysOf, keysOf_mon r]
    rfl
theorem keyT_mon (m : Mon) : keyT (monD m) = some (kyM m) := keysOf_mon m
theorem keyD_mon (m : Mon) : keyD (kyM m) = monD m := by
  unfold keyD kyM monD
  rw [List.map_map]
  rfl
/-! ### what may be put together -/
structure WN (y N : Int) : Prop where
  ex : ∃ w : Nat, y = (w : Int) ∧ N = 2 ^ w ∧ 1 ≤ w ∧ w ≤ 24
theorem WN.le {y N : Int} (h : WN y N) : 2 ≤ N ∧ N ≤ 16777216 := by
  obtain ⟨w, _, hN, hw, hw2⟩ := h.ex
  refine ⟨?_, by rw [hN]; exact pow24 hw2⟩
  rw [hN]
  obtain ⟨k, rfl⟩ : ∃ k, w = k + 1 := ⟨w - 1, by omega⟩
  have := pow_pos' k
  rw [Int.pow_succ]
  omega
theorem WN.pos {y N : Int} (h : WN y N) : 0 < N := by have := h.le; omega
theorem WN.size {y N : Int} (h : WN y N) {f : Fn} (hf : SizeSp f) {st : Sto} : Ok (f [.int y] st) fun d st' => d = .int N ∧ st' = st := by
  obtain ⟨w, hy, hN, hw, hw2⟩ := h.ex
  rw [hN]
  exact hf st y w hy hw2
theorem nmB_ok {w : Str} (h : nmB w = true) : PyData.strOk w = true := asc_ok (nmB_asc h).1
theorem pureL_strs : ∀ {m : Mon}, (∀ w ∈ m, nmB w = true) → pureL (m.map D.str) = true
  | [], _ => rfl
  | w :: r, h => by
    rw [List.map_cons, pureL, pureL_strs fun x hx => h x (List.mem_cons_of_mem _ hx), pureD, nmB_ok (h w List.mem_cons_self)]
    rfl
theorem depL_strs : ∀ m : Mon, depL (m.map D.str) = 0
  | [] => rfl
  | w :: r => by rw [List.map_cons, depL, depL_strs r, depD]; rfl
theorem monD_pure {m : Mon} (h : ∀ w ∈ m, nmB w = true) : pureD (monD m) = true := pureL_strs h
theorem monD_dep (m : Mon) : depD (monD m) = 1 := by
  unfold monD
  rw [depD, depL_strs]
theorem pairD_pure {e : Mon × Int} (h : MOk e.1) : pureD (pairD e) = true := by
  unfold pairD
  rw [pureD, pureL, monD_pure h.nm, pureL, pureD, pureL]
  rfl
theorem pairD_dep (e : Mon × Int) : depD (pairD e) = 2 := by
  unfold pairD
  rw [depD, depL, monD_dep, depL, depD, depL]
  rfl
theorem tups_mon {ms : List Mon} (h : ∀ m ∈ ms, ∀ w ∈ m, nmB w = true) : tupsB (ms.map monD) = true := by
  unfold tupsB
  rw [Bool.and_eq_true, List.all_eq_true, List.all_eq_true]
  refine ⟨fun d hd => ?_, fun d hd => List.all_eq_true.mpr fun e he => ?_⟩
  · obtain ⟨m, hm, rfl⟩ := List.mem_map.mp hd
    rw [monD_pure (h m hm), monD_dep]
    rfl
  · obtain ⟨m, hm, rfl⟩ := List.mem_map.mp hd
    obtain ⟨m', hm', rfl⟩ := List.mem_map.mp he
    rw [toP_mon, toP_mon]
    exact alike_mon _ _
theorem tups_pairs {p : Pol} (h : POk p) : tupsB (p.map pairD) = true := by
  unfold tupsB
  rw [Bool.and_eq_true, List.all_eq_true, List.all_eq_true]
  refine ⟨fun d hd => ?_, fun d hd => List.all_eq_true.mpr fun e he => ?_⟩
  · obtain ⟨m, hm, rfl⟩ := List.mem_map.mp hd
    rw [pairD_pure (h m hm), pairD_dep]
    rfl
  · obtain ⟨m, hm, rfl⟩ := List.mem_map.mp hd
    obtain ⟨m', hm', rfl⟩ := List.mem_map.mp he
    rw [toP_pair, toP_pair]
    have := alike_mon m.1 m'.1
    simp [PySem.W.alike, PySem.W.alikeAll] at this ⊢
    exact this
/-! ### like pairs put together -/
def keepsL (st st' : Sto) : Prop := ∀ l ds, lstAt st l = some ds → lstAt st' l = some ds
theorem keepsL.refl {st : Sto} : keepsL st st := fun _ _ h => h
theorem Ext.keepsL {st st' : Sto} (h : Ext st st') : Sh.keepsL st st' := fun l ds e => by
  have hlt : l < st.length := by
    unfold lstAt at e
    cases q : st[l]? with
    | none => rw [q] at e; cases e
    | some o => exact lift_len q
  unfold lstAt at e ⊢
  rw [h.keep l hlt]
  exact e
theorem dit_at {st : Sto} {M : Nat} {kvs : List (List Key × D)} (h : st[M]? = some (.dit kvs)) (m : Mon) : rdAt st M (monD m) = some (lookK kvs (kyM m)) := by
  unfold rdAt
  rw [h]
  dsimp only
  rw [keyT_mon]
  rfl
theorem rdMon {st : Sto} {M : Nat} {acc : Pol} (h : st[M]? = some (.dit (encA kyM acc))) (m : Mon) : rdAt st M (monD m) = some ((getM acc m).map D.int) := by
  rw [dit_at h, lookK_enc kyM fun e _ q => kyM_inj q]
theorem encA_len {κ κ' : Type} (ek : κ → κ') (acc : List (κ × Int)) : (encA ek acc).length = acc.length := List.length_map ..
section
variable {size : Fn} {y N : Int} {ps : Pol} {d : D} {st : Sto}
end
/-! ### comprehensions and loops that only lay new things -/
theorem lc_xE {α : Type} (enc : α → D) (xs : List α) (F : α → D) (q : α → Bool) {cond : BM} {el : EM} {tg : D → Ev → Option Ev} {enw : Ev} {src : Src} {st0 : Sto} (hz : xs.length < sizeLine) (hs : ∀ st, Ext st0 st → ∀ i, src st i = some (xs.map enc)[i]?)
    (h : ∀ x ∈ xs, ∃ en1, tg (enc x) enw = some en1 ∧ ∀ st, Ext st0 st → Ok (cond en1 st) (fun b s => b = q x ∧ Ext st s) ∧ (q x = true → ∀ s, Ext st0 s → Ok (el en1 s) fun y s' => y = F x ∧ Ext s s')) :
    Ok (lcLoop cond el tg src st0.length enw xs.length 0 (st0 ++ [.lst []])) fun _ st' => st'[st0.length]? = some (.lst ((xs.filter q).map F)) ∧ Ext st0 st' := by
  have gen : ∀ (n i : Nat) (acc : List D) (st : Sto), n + i = xs.length → acc = ((xs.take i).filter q).map F → st[st0.length]? = some (.lst acc) → Ext st0 st → Ok (lcLoop cond el tg src st0.length enw n i st) fun _ st' => st'[st0.length]? = some (.lst ((xs.filter q).map F)) ∧ Ext st0 st' := by
    intro n
    induction n with
    | zero =>
      intro i acc st hi ha hL hE
      unfold lcLoop
      rw [hs st hE i, List.getElem?_eq_none_iff.mpr (by rw [List.length_map]; omega)]
      subst ha
      rw [List.take_of_length_le (by omega)] at hL
      exact ⟨hL, hE⟩
    | succ n ih =>
      intro i acc st hi ha hL hE
      have hlt : i < xs.length := by omega
      have hd : (xs.map enc)[i]? = some (enc xs[i]) := by rw [List.getElem?_map, List.getElem?_eq_getElem hlt]; rfl
      have e2 : xs.take (i + 1) = xs.take i ++ [xs[i]] := by rw [List.take_add_one, List.getElem?_eq_getElem hlt]; rfl
      obtain ⟨en1, e1, h1⟩ := h xs[i] (List.getElem_mem hlt)
      obtain ⟨h2, h3⟩ := h1 st hE
      refine lc_turn (d := enc xs[i]) (by rw [hs st hE i, hd]) ⟨en1, e1, Ok.imp h2 fun b s ⟨eb, es⟩ => ?_⟩
      subst eb
      have hL2 := es.get hL
      by_cases hc : q xs[i] = true
      · rw [if_pos hc]
        refine Ok.imp (h3 hc s (hE.trans es)) fun y s' ⟨ey, es'⟩ => ⟨acc, es'.get hL2, ?_, ?_⟩
        · rw [ha, List.length_map]
          have := List.length_filter_le q (xs.take i)
          rw [List.length_take] at this
          omega
        · subst ey
          refine ih (i + 1) _ _ (by omega) ?_ (List.getElem?_set_self (lift_len (es'.get hL2))) ((hE.trans es).trans es' |>.setR (Nat.le_refl _))
          rw [ha, e2, List.filter_append, List.map_append]
          simp [hc]
      · rw [if_neg hc]
        refine ih (i + 1) _ _ (by omega) ?_ hL2 (hE.trans es)
        rw [ha, e2, List.filter_append, List.map_append]
        simp [hc]
  exact gen xs.length 0 [] _ (by omega) rfl last_at Ext.app
theorem src_itsX (ds : List D) (st0 : Sto) : ∀ st, Ext st0 st → ∀ i, (srcIts ds) st i = some ds[i]? := fun _ _ _ => rfl
theorem seq_sp {P : Nat × Src → Sto → Prop} {E : Str → Sto → Prop} {en : Ev} {st st1 : Sto} {m : EM} {p : Pol} (hm : m en st = .ok (spD p) st1) (h : P (p.length, srcIts (p.map pairD)) st1) : OkX (iSeq m en st) P E := by
  rw [k_seqI, hm, k_ok]
  unfold spD
  dsimp only
  rw [List.length_map]
  exact h
/-! ### the bounds -/
def fitP (p : Pol) : Bool := decide (p.length ≤ 24) && p.all fun e => decide (e.1.length ≤ 6)
def bndP (p : Pol) : Option Pol := if fitP p = true then some p else none
def turnP (N : Int) (p : Pol) : Pol := p.map fun e => (e.1, N - e.2)
section
variable {summed bounded turned allT added taken timed number : Fn}
def subS (N : Int) (p q : Pol) : Option Pol := bndP (nrm N (p ++ turnP N q))
theorem POk.turn {N : Int} {p : Pol} (h : POk p) : POk (turnP N p) := fun e he => by
  obtain ⟨x, hx, rfl⟩ := List.mem_map.mp he
  exact h x hx
end
theorem fitP_iff {p : Pol} : fitP p = true ↔ p.length ≤ 24 ∧ ∀ e ∈ p, e.1.length ≤ 6 := by
  unfold fitP
  rw [Bool.and_eq_true, decide_eq_true_eq, List.all_eq_true]
  exact ⟨fun h => ⟨h.1, fun e he => of_decide_eq_true (h.2 e he)⟩, fun h => ⟨h.1, fun e he => decide_eq_true (h.2 e he)⟩⟩
/-- a spread within the bounds -/
structure SpB (N : Int) (p : Pol) : Prop extends Spr N p where
  fit : fitP p = true
theorem SpB.len {N : Int} {p : Pol} (h : SpB N p) : p.length ≤ 24 := (fitP_iff.mp h.fit).1
theorem SpB.nms {N : Int} {p : Pol} (h : SpB N p) : ∀ e ∈ p, e.1.length ≤ 6 := (fitP_iff.mp h.fit).2
theorem bndP_some {p q : Pol} (h : bndP p = some q) : q = p ∧ fitP p = true := by
  unfold bndP at h
  split at h
  · rename_i hf
    cases h
    exact ⟨rfl, hf⟩
  · cases h
section
variable {added taken timed number f : Fn} {y N : Int}
end
end Sh

set_option maxHeartbeats 1000000
namespace Sh
open PySem PySem.Spec PyProof.Rows L2
local macro_rules | `(tactic| walk_at "go") => `(tactic| simp only [k_bnd, k_ret, k_ok, k_bad, k_badM, k_exc, k_lft, k_ite, k_ite', o_some, o_none, o_ite, v_some, k_var, k_c, k_op, k_call, k_call0, k_cb, k_nil, k_cons, k_tup, k_lst, k_bOf, k_bAnd, k_bOr, k_bNot, k_and, k_or, k_not, k_if, k_chain, k_inC, k_neg, k_bm, k_get2, k_pnone, k_psome, k_sl, k_pnil, k_pcons, k_dic, k_gix, k_seq, k_nx, k_rt, k_sbad, k_snil, k_spass, k_set, k_sret, k_sretN, k_sexp, k_sif, k_asg, k_par2, k_par3, k_aug, k_put, k_seqI, k_range1, k_forI, k_lc, List.getElem?_cons_zero, List.getElem?_cons_succ, List.set_cons_zero, List.set_cons_succ, List.length_cons, List.length_nil, if_true, if_false, Bool.not_true, Bool.not_false, Bool.false_eq_true, ite_true, ite_false, reduceIte, Nat.reduceAdd, Nat.zero_add])
local macro_rules | `(tactic| walk_at "gg") => `(tactic| simp only [k_bnd, k_ret, k_ok, k_bad, k_badM, k_exc, k_lft, k_ite, k_ite', o_some, o_none, o_ite, v_some, k_var, k_c, k_op, k_call, k_call0, k_cb, k_nil, k_cons, k_tup, k_lst, k_bOf, k_bAnd, k_bOr, k_bNot, k_and, k_or, k_not, k_if, k_chain, k_inC, k_neg, k_bm, k_get2, k_pnone, k_psome, k_sl, k_pnil, k_pcons, k_dic, k_gix, k_seq, k_nx, k_rt, k_sbad, k_snil, k_spass, k_set, k_sret, k_sretN, k_sexp, k_sif, k_asg, k_par2, k_par3, k_aug, k_put, k_seqI, k_range1, k_forI, k_lc, List.getElem?_cons_zero, List.getElem?_cons_succ, List.set_cons_zero, List.set_cons_succ, List.length_cons, List.length_nil, if_true, if_false, Bool.not_true, Bool.not_false, Bool.false_eq_true, ite_true, ite_false, reduceIte, Nat.reduceAdd, Nat.zero_add, k_sortSet, k_range2, iadd_i, add_i, sub_i, eq_i, eq_s, ne_i, ne_s, ne_b, lt_i, le_i, gt_i, ge_i, ix_0, ix_1, ix_2, flat_str, flat_int, flat_non, sz_0, sz_1, sz_2, sz_3, sz_4, sz_5, sz_6, sz_7, sz_8, sz_9, decide_eq_true_eq, Bool.not_eq_eq_eq_not, decide_eq_false_iff_not, decide_true, decide_false, true_and, and_true, exists_eq_left, inC_strs, not_true_eq_false, not_false_eq_true])
local macro_rules | `(tactic| walk_at "g2") => `(tactic| simp only [k_bnd, k_ret, k_ok, k_bad, k_badM, k_exc, k_lft, k_ite, k_ite', o_some, o_none, o_ite, v_some, k_var, k_c, k_op, k_call, k_call0, k_cb, k_nil, k_cons, k_tup, k_lst, k_bOf, k_bAnd, k_bOr, k_bNot, k_and, k_or, k_not, k_if, k_chain, k_inC, k_neg, k_bm, k_get2, k_pnone, k_psome, k_sl, k_pnil, k_pcons, k_dic, k_gix, k_seq, k_nx, k_rt, k_sbad, k_snil, k_spass, k_set, k_sret, k_sretN, k_sexp, k_sif, k_asg, k_par2, k_par3, k_aug, k_put, k_seqI, k_range1, k_forI, k_lc, List.getElem?_cons_zero, List.getElem?_cons_succ, List.set_cons_zero, List.set_cons_succ, List.length_cons, List.length_nil, if_true, if_false, Bool.not_true, Bool.not_false, Bool.false_eq_true, ite_true, ite_false, reduceIte, Nat.reduceAdd, Nat.zero_add, k_sortSet, iadd_i, add_i, sub_i, eq_i, eq_s, ne_i, ne_s, ne_b, lt_i, le_i, gt_i, ge_i, ix_0, ix_1, ix_2, flat_str, flat_int, flat_non, sz_0, sz_1, sz_2, sz_3, sz_4, sz_5, sz_6, sz_7, sz_8, sz_9, decide_eq_true_eq, Bool.not_eq_eq_eq_not, decide_eq_false_iff_not, decide_true, decide_false, true_and, and_true, exists_eq_left, inC_strs, not_true_eq_false, not_false_eq_true, k_isE, k_tryAs, k_tryO, k_raiseA, k_raise, Bool.true_eq_false, reduceCtorEq, ne_eq])
local macro_rules | `(tactic| walk_at "g1") => `(tactic| simp only [k_bnd, k_ret, k_ok, k_bad, k_badM, k_exc, k_lft, k_ite, k_ite', o_some, o_none, o_ite, v_some, k_var, k_c, k_op, k_call, k_call0, k_cb, k_nil, k_cons, k_tup, k_lst, k_bOf, k_bAnd, k_bOr, k_bNot, k_and, k_or, k_not, k_if, k_chain, k_inC, k_neg, k_bm, k_get2, k_pnone, k_psome, k_sl, k_pnil, k_pcons, k_dic, k_gix, k_seq, k_nx, k_rt, k_sbad, k_snil, k_spass, k_set, k_sret, k_sretN, k_sexp, k_sif, k_asg, k_par2, k_par3, k_aug, k_put, k_seqI, k_forI, k_lc, List.getElem?_cons_zero, List.getElem?_cons_succ, List.set_cons_zero, List.set_cons_succ, List.length_cons, List.length_nil, if_true, if_false, Bool.not_true, Bool.not_false, Bool.false_eq_true, ite_true, ite_false, reduceIte, Nat.reduceAdd, Nat.zero_add, k_sortSet, iadd_i, add_i, sub_i, eq_i, eq_s, ne_i, ne_s, ne_b, lt_i, le_i, gt_i, ge_i, ix_0, ix_1, ix_2, flat_str, flat_int, flat_non, sz_0, sz_1, sz_2, sz_3, sz_4, sz_5, sz_6, sz_7, sz_8, sz_9, decide_eq_true_eq, Bool.not_eq_eq_eq_not, decide_eq_false_iff_not, decide_true, decide_false, true_and, and_true, exists_eq_left, inC_strs, not_true_eq_false, not_false_eq_true, k_isE, k_tryAs, k_tryO, k_raiseA, k_raise, Bool.true_eq_false, reduceCtorEq, ne_eq])
local macro_rules | `(tactic| walk_at "gz") => `(tactic| simp only [k_bnd, k_ret, k_ok, k_bad, k_badM, k_exc, k_lft, k_ite, k_ite', o_some, o_none, o_ite, v_some, k_var, k_c, k_op, k_call, k_call0, k_cb, k_nil, k_cons, k_tup, k_lst, k_bOf, k_bAnd, k_bOr, k_bNot, k_and, k_or, k_not, k_if, k_chain, k_inC, k_neg, k_bm, k_get2, k_pnone, k_psome, k_sl, k_pnil, k_pcons, k_dic, k_gix, k_seq, k_nx, k_rt, k_sbad, k_snil, k_spass, k_set, k_sret, k_sretN, k_sexp, k_sif, k_asg, k_par2, k_par3, k_aug, k_put, k_seqI, k_range1, k_forI, k_lc, List.getElem?_cons_zero, List.getElem?_cons_succ, List.set_cons_zero, List.set_cons_succ, List.length_cons, List.length_nil, if_true, if_false, Bool.not_true, Bool.not_false, Bool.false_eq_true, ite_true, ite_false, reduceIte, Nat.reduceAdd, Nat.zero_add, k_sortSet, k_range2, iadd_i, add_i, sub_i, eq_i, eq_s, ne_i, ne_s, ne_b, lt_i, le_i, gt_i, ge_i, ix_0, ix_1, ix_2, flat_str, flat_int, flat_non, sz_0, sz_1, sz_2, sz_3, sz_4, sz_5, sz_6, sz_7, sz_8, sz_9, decide_eq_true_eq, Bool.not_eq_eq_eq_not, decide_eq_false_iff_not, decide_true, decide_false, true_and, and_true, exists_eq_left, inC_strs, not_true_eq_false, not_false_eq_true, k_isE, k_tryAs, k_tryO, k_raiseA, k_raise, Bool.true_eq_false, reduceCtorEq, ne_eq])
/-- a store that has only grown but at one place -/
structure ExtB (l : Nat) (st st' : Sto) : Prop where
  len : st.length ≤ st'.length
  keep : ∀ j, j < st.length → j ≠ l → st'[j]? = st[j]?
theorem ExtB.ext {l : Nat} {st a b : Sto} (h : ExtB l st a) (k : Ext a b) : ExtB l st b := ⟨Nat.le_trans h.len k.len, fun j hj hn => (k.keep j (by have := h.len; omega)).trans (h.keep j hj hn)⟩
theorem ExtB.set {l : Nat} {st a : Sto} {j : Nat} {o : O} (h : ExtB l st a) (hj : st.length ≤ j ∨ j = l) : ExtB l st (a.set j o) := ⟨by rw [List.length_set]; exact h.len, fun k hk hn => by rw [List.getElem?_set_ne (by omega)]; exact h.keep k hk hn⟩
theorem ExtB.of {l : Nat} {st a : Sto} (h : Ext st a) : ExtB l st a := ⟨h.len, fun j hj _ => h.keep j hj⟩
/-! ### the law's dicts: keys are the names, blanks between -/
def tkM (m : Mon) : Key := .inr (jnM m)
theorem sortedA_lst {st : Sto} {l : Nat} {ds : List D} (h : st[l]? = some (.lst ds)) : oSortedA [.loc l] st = oSortedT [.loc l] st := by
  show oSortedK [.loc l] st = _
  unfold oSortedK
  dsimp only
  have : dtAt st l = none := by unfold dtAt; rw [h]
  rw [this]
theorem sortedA_pairs {st : Sto} {l : Nat} {p : Pol} (hp : POk p) (hn : (p.map (·.1)).Nodup) (hl : p.length ≤ 50000) (h : st[l]? = some (.lst (p.map pairD))) : oSortedA [.loc l] st = some (.loc st.length, st ++ [.lst ((srtP p).map pairD)]) := by
  rw [sortedA_lst h]
  unfold oSortedT
  dsimp only
  rw [lst_at h]
  dsimp only
  rw [if_pos (tups_pairs hp), if_pos (by rw [List.length_map]; exact sz (by omega)), srtT_pairs hn]
/-- a drawn spread: of at most so many pairs, of at most so many names each, all among ws -/
structure DSp (N : Int) (ws : List Str) (many most : Nat) (p : Pol) : Prop extends Spr N p where
  len : p.length ≤ many
  nms : ∀ e ∈ p, e.1.length ≤ most ∧ ∀ w ∈ e.1, w ∈ ws
theorem Spr.sub {N : Int} {p q : Pol} (h : Spr N p) (k : List.Sublist q p) : Spr N q := ⟨⟨(k.map _).nodup h.can.nd, fun e he => h.can.fa e (k.mem he)⟩, fun e he => h.ok e (k.mem he), h.up.sublist k⟩
theorem DSp.take {N : Int} {ws : List Str} {many most : Nat} {p : Pol} (h : DSp N ws many most p) (n : Nat) : DSp N ws n most (p.take n) := ⟨h.toSpr.sub (List.take_sublist _ _), by rw [List.length_take]; omega, fun e he => h.nms e (List.mem_of_mem_take he)⟩
section
variable {s g c : Nat} {I : Sto → Prop} {take pick factor pairs : Fn} {st : Sto}
end
end Sh

set_option maxHeartbeats 1000000
namespace Sh
open PySem PySem.Spec PyProof.Rows L2
local macro_rules | `(tactic| walk_at "go") => `(tactic| simp only [k_bnd, k_ret, k_ok, k_bad, k_badM, k_exc, k_lft, k_ite, k_ite', o_some, o_none, o_ite, v_some, k_var, k_c, k_op, k_call, k_call0, k_cb, k_nil, k_cons, k_tup, k_lst, k_bOf, k_bAnd, k_bOr, k_bNot, k_and, k_or, k_not, k_if, k_chain, k_inC, k_neg, k_bm, k_get2, k_pnone, k_psome, k_sl, k_pnil, k_pcons, k_dic, k_gix, k_seq, k_nx, k_rt, k_sbad, k_snil, k_spass, k_set, k_sret, k_sretN, k_sexp, k_sif, k_asg, k_par2, k_par3, k_aug, k_put, k_seqI, k_range1, k_forI, k_lc, List.getElem?_cons_zero, List.getElem?_cons_succ, List.set_cons_zero, List.set_cons_succ, List.length_cons, List.length_nil, if_true, if_false, Bool.not_true, Bool.not_false, Bool.false_eq_true, ite_true, ite_false, reduceIte, Nat.reduceAdd, Nat.zero_add])
local macro_rules | `(tactic| walk_at "gg") => `(tactic| simp only [k_bnd, k_ret, k_ok, k_bad, k_badM, k_exc, k_lft, k_ite, k_ite', o_some, o_none, o_ite, v_some, k_var, k_c, k_op, k_call, k_call0, k_cb, k_nil, k_cons, k_tup, k_lst, k_bOf, k_bAnd, k_bOr, k_bNot, k_and, k_or, k_not, k_if, k_chain, k_inC, k_neg, k_bm, k_get2, k_pnone, k_psome, k_sl, k_pnil, k_pcons, k_dic, k_gix, k_seq, k_nx, k_rt, k_sbad, k_snil, k_spass, k_set, k_sret, k_sretN, k_sexp, k_sif, k_asg, k_par2, k_par3, k_aug, k_put, k_seqI, k_range1, k_forI, k_lc, List.getElem?_cons_zero, List.getElem?_cons_succ, List.set_cons_zero, List.set_cons_succ, List.length_cons, List.length_nil, if_true, if_false, Bool.not_true, Bool.not_false, Bool.false_eq_true, ite_true, ite_false, reduceIte, Nat.reduceAdd, Nat.zero_add, k_sortSet, k_range2, iadd_i, add_i, sub_i, eq_i, eq_s, ne_i, ne_s, ne_b, lt_i, le_i, gt_i, ge_i, ix_0, ix_1, ix_2, flat_str, flat_int, flat_non, sz_0, sz_1, sz_2, sz_3, sz_4, sz_5, sz_6, sz_7, sz_8, sz_9, decide_eq_true_eq, Bool.not_eq_eq_eq_not, decide_eq_false_iff_not, decide_true, decide_false, true_and, and_true, exists_eq_left, inC_strs, not_true_eq_false, not_false_eq_true])
local macro_rules | `(tactic| walk_at "g2") => `(tactic| simp only [k_bnd, k_ret, k_ok, k_bad, k_badM, k_exc, k_lft, k_ite, k_ite', o_some, o_none, o_ite, v_some, k_var, k_c, k_op, k_call, k_call0, k_cb, k_nil, k_cons, k_tup, k_lst, k_bOf, k_bAnd, k_bOr, k_bNot, k_and, k_or, k_not, k_if, k_chain, k_inC, k_neg, k_bm, k_get2, k_pnone, k_psome, k_sl, k_pnil, k_pcons, k_dic, k_gix, k_seq, k_nx, k_rt, k_sbad, k_snil, k_spass, k_set, k_sret, k_sretN, k_sexp, k_sif, k_asg, k_par2, k_par3, k_aug, k_put, k_seqI, k_range1, k_forI, k_lc, List.getElem?_cons_zero, List.getElem?_cons_succ, List.set_cons_zero, List.set_cons_succ, List.length_cons, List.length_nil, if_true, if_false, Bool.not_true, Bool.not_false, Bool.false_eq_true, ite_true, ite_false, reduceIte, Nat.reduceAdd, Nat.zero_add, k_sortSet, iadd_i, add_i, sub_i, eq_i, eq_s, ne_i, ne_s, ne_b, lt_i, le_i, gt_i, ge_i, ix_0, ix_1, ix_2, flat_str, flat_int, flat_non, sz_0, sz_1, sz_2, sz_3, sz_4, sz_5, sz_6, sz_7, sz_8, sz_9, decide_eq_true_eq, Bool.not_eq_eq_eq_not, decide_eq_false_iff_not, decide_true, decide_false, true_and, and_true, exists_eq_left, inC_strs, not_true_eq_false, not_false_eq_true, k_isE, k_tryAs, k_tryO, k_raiseA, k_raise, Bool.true_eq_false, reduceCtorEq, ne_eq])
local macro_rules | `(tactic| walk_at "g1") => `(tactic| simp only [k_bnd, k_ret, k_ok, k_bad, k_badM, k_exc, k_lft, k_ite, k_ite', o_some, o_none, o_ite, v_some, k_var, k_c, k_op, k_call, k_call0, k_cb, k_nil, k_cons, k_tup, k_lst, k_bOf, k_bAnd, k_bOr, k_bNot, k_and, k_or, k_not, k_if, k_chain, k_inC, k_neg, k_bm, k_get2, k_pnone, k_psome, k_sl, k_pnil, k_pcons, k_dic, k_gix, k_seq, k_nx, k_rt, k_sbad, k_snil, k_spass, k_set, k_sret, k_sretN, k_sexp, k_sif, k_asg, k_par2, k_par3, k_aug, k_put, k_seqI, k_forI, k_lc, List.getElem?_cons_zero, List.getElem?_cons_succ, List.set_cons_zero, List.set_cons_succ, List.length_cons, List.length_nil, if_true, if_false, Bool.not_true, Bool.not_false, Bool.false_eq_true, ite_true, ite_false, reduceIte, Nat.reduceAdd, Nat.zero_add, k_sortSet, iadd_i, add_i, sub_i, eq_i, eq_s, ne_i, ne_s, ne_b, lt_i, le_i, gt_i, ge_i, ix_0, ix_1, ix_2, flat_str, flat_int, flat_non, sz_0, sz_1, sz_2, sz_3, sz_4, sz_5, sz_6, sz_7, sz_8, sz_9, decide_eq_true_eq, Bool.not_eq_eq_eq_not, decide_eq_false_iff_not, decide_true, decide_false, true_and, and_true, exists_eq_left, inC_strs, not_true_eq_false, not_false_eq_true, k_isE, k_tryAs, k_tryO, k_raiseA, k_raise, Bool.true_eq_false, reduceCtorEq, ne_eq])
local macro_rules | `(tactic| walk_at "gz") => `(tactic| simp only [k_bnd, k_ret, k_ok, k_bad, k_badM, k_exc, k_lft, k_ite, k_ite', o_some, o_none, o_ite, v_some, k_var, k_c, k_op, k_call, k_call0, k_cb, k_nil, k_cons, k_tup, k_lst, k_bOf, k_bAnd, k_bOr, k_bNot, k_and, k_or, k_not, k_if, k_chain, k_inC, k_neg, k_bm, k_get2, k_pnone, k_psome, k_sl, k_pnil, k_pcons, k_dic, k_gix, k_seq, k_nx, k_rt, k_sbad, k_snil, k_spass, k_set, k_sret, k_sretN, k_sexp, k_sif, k_asg, k_par2, k_par3, k_aug, k_put, k_seqI, k_range1, k_forI, k_lc, List.getElem?_cons_zero, List.getElem?_cons_succ, List.set_cons_zero, List.set_cons_succ, List.length_cons, List.length_nil, if_true, if_false, Bool.not_true, Bool.not_false, Bool.false_eq_true, ite_true, ite_false, reduceIte, Nat.reduceAdd, Nat.zero_add, k_sortSet, k_range2, iadd_i, add_i, sub_i, eq_i, eq_s, ne_i, ne_s, ne_b, lt_i, le_i, gt_i, ge_i, ix_0, ix_1, ix_2, flat_str, flat_int, flat_non, sz_0, sz_1, sz_2, sz_3, sz_4, sz_5, sz_6, sz_7, sz_8, sz_9, decide_eq_true_eq, Bool.not_eq_eq_eq_not, decide_eq_false_iff_not, decide_true, decide_false, true_and, and_true, exists_eq_left, inC_strs, not_true_eq_false, not_false_eq_true, k_isE, k_tryAs, k_tryO, k_raiseA, k_raise, Bool.true_eq_false, reduceCtorEq, ne_eq])
section
variable {d : D} {st : Sto} {y : Int} {w : Nat} {isn num inp : Fn} {z : Int}
end
/-! ### what a thing stands for is told by it -/
theorem Trm.dinj : ∀ {a b : Trm}, a.d = b.d → a = b
  | .num n, .num m, h => by simp [Trm.d] at h; rw [h]
  | .num n, .at w, h => by
    simp only [Trm.d, D.tup.injEq, List.cons.injEq, D.str.injEq] at h
    exact absurd h.1 (by decide +kernel)
  | .num n, .op o a b, h => by simp [Trm.d] at h
  | .at w, .num n, h => by
    simp only [Trm.d, D.tup.injEq, List.cons.injEq, D.str.injEq] at h
    exact absurd h.1 (by decide +kernel)
  | .at w, .at v, h => by simp [Trm.d] at h; rw [h]
  | .at w, .op o a b, h => by simp [Trm.d] at h
  | .op o a b, .num n, h => by simp [Trm.d] at h
  | .op o a b, .at w, h => by simp [Trm.d] at h
  | .op o a b, .op o' a' b', h => by
    simp only [Trm.d, D.tup.injEq, List.cons.injEq, D.str.injEq] at h
    rw [h.1, Trm.dinj h.2.1, Trm.dinj h.2.2.1]
mutual
theorem Row.d_inj : ∀ {r s : Row}, r.d = s.d → r = s
  | .set x t, .set x' t', h => by
    simp only [Row.d, D.tup.injEq, List.cons.injEq, D.str.injEq] at h
    rw [h.2.1, Trm.dinj h.2.2.1]
  | .set x t, .tell t', h => by simp [Row.d] at h
  | .set x t, .ifr .., h => by simp [Row.d] at h
  | .set x t, .whl .., h => by
    simp only [Row.d, D.tup.injEq, List.cons.injEq, D.str.injEq] at h
    exact absurd h.1 (by decide +kernel)
  | .set x t, .trn .., h => by
    simp only [Row.d, D.tup.injEq, List.cons.injEq, D.str.injEq] at h
    exact absurd h.1 (by decide +kernel)
  | .tell t, .set .., h => by simp [Row.d] at h
  | .tell t, .tell t', h => by
    simp only [Row.d, D.tup.injEq, List.cons.injEq, D.str.injEq] at h
    rw [Trm.dinj h.2.1]
  | .tell t, .ifr .., h => by simp [Row.d] at h
  | .tell t, .whl .., h => by simp [Row.d] at h
  | .tell t, .trn .., h => by simp [Row.d] at h
  | .ifr .., .set .., h => by simp [Row.d] at h
  | .ifr .., .tell .., h => by simp [Row.d] at h
  | .ifr o a b r s, .ifr o' a' b' r' s', h => by
    simp only [Row.d, D.tup.injEq, List.cons.injEq, D.str.injEq] at h
    rw [h.2.1.1, Trm.dinj h.2.1.2.1, Trm.dinj h.2.1.2.2.1, rowsD_inj h.2.2.1, rowsD_inj h.2.2.2.1]
  | .ifr .., .whl .., h => by simp [Row.d] at h
  | .ifr .., .trn .., h => by simp [Row.d] at h
  | .whl .., .set .., h => by
    simp only [Row.d, D.tup.injEq, List.cons.injEq, D.str.injEq] at h
    exact absurd h.1 (by decide +kernel)
  | .whl .., .tell .., h => by simp [Row.d] at h
  | .whl .., .ifr .., h => by simp [Row.d] at h
  | .whl o a b r, .whl o' a' b' r', h => by
    simp only [Row.d, D.tup.injEq, List.cons.injEq, D.str.injEq] at h
    rw [h.2.1.1, Trm.dinj h.2.1.2.1, Trm.dinj h.2.1.2.2.1, rowsD_inj h.2.2.1]
  | .whl .., .trn .., h => by
    simp only [Row.d, D.tup.injEq, List.cons.injEq, D.str.injEq] at h
    exact absurd h.1 (by decide +kernel)
  | .trn .., .set .., h => by
    simp only [Row.d, D.tup.injEq, List.cons.injEq, D.str.injEq] at h
    exact absurd h.1 (by decide +kernel)
  | .trn .., .tell .., h => by simp [Row.d] at h
  | .trn .., .ifr .., h => by simp [Row.d] at h
  | .trn .., .whl .., h => by
    simp only [Row.d, D.tup.injEq, List.cons.injEq, D.str.injEq] at h
    exact absurd h.1 (by decide +kernel)
  | .trn t r, .trn t' r', h => by
    simp only [Row.d, D.tup.injEq, List.cons.injEq, D.str.injEq] at h
    rw [Trm.dinj h.2.1, rowsD_inj h.2.2.1]
theorem rowsD_inj : ∀ {r s : List Row}, rowsD r = rowsD s → r = s
  | [], [], _ => rfl
  | [], _ :: _, h => by simp [rowsD] at h
  | _ :: _, [], h => by simp [rowsD] at h
  | r :: rs, s :: ss, h => by
    simp only [rowsD, List.cons.injEq] at h
    rw [Row.d_inj h.1, rowsD_inj h.2]
end
theorem insD_inj : ∀ {a b : List (Str × Int × Int)}, insD a = insD b → a = b
  | [], [], _ => rfl
  | [], _ :: _, h => by simp [insD] at h
  | _ :: _, [], h => by simp [insD] at h
  | (x, y, z) :: r, (x', y', z') :: s, h => by
    simp only [insD, List.map_cons, List.cons.injEq, D.tup.injEq, D.str.injEq, D.int.injEq] at h
    rw [h.1.1, h.1.2.1, h.1.2.2.1, insD_inj (a := r) (b := s) h.2]
theorem Prg.d_inj {p q : Prg} (h : p.d = q.d) : p = q := by
  obtain ⟨w, i, r⟩ := p
  obtain ⟨w', i', r'⟩ := q
  simp only [Prg.d, D.tup.injEq, List.cons.injEq, D.int.injEq] at h
  rw [h.1, insD_inj h.2.1, rowsD_inj h.2.2.1]
/-! ### whether a thing is a program -/
structure Prg.V (p : Prg) (w : Nat) : Prop where
  wd : p.w = (w : Int)
  w1 : 1 ≤ w ∧ w ≤ 24
  ins : insP (2 ^ w) p.ins
  ris : risB (p.ins.map (·.1)) = true
  rows : RowsV (2 ^ w) p.rows
  dep : rdep p.rows ≤ 6
  fewR : (allL p.rows).length ≤ 120
  fewN : p.nms.length ≤ 40
theorem RowV.fine {z : Int} {ws : List Str} {r : Row} (h : RowV z r) (hs : ∀ x ∈ r.gath, x ∈ ws) : r.fine z ws := by
  obtain ⟨h1, h2, h3⟩ := h
  refine ⟨fun t ht => ⟨Trm.ok_mono (fun x hx => hs x ?_) (h1 t ht).1.1, (h1 t ht).2⟩, fun x hx => hs x ?_, h3⟩
  · unfold Row.gath
    exact List.mem_append_right _ (List.mem_flatMap.mpr ⟨t, ht, mem_srt.mpr ((mem_uniq _).mpr hx)⟩)
  · unfold Row.gath
    exact List.mem_append_left _ hx
theorem RowsV.fine {z : Int} {rs : List Row} (h : RowsV z rs) {ws : List Str} (hs : ∀ x ∈ (allL rs).flatMap Row.gath, x ∈ ws) : Fine z ws rs := fun r hr => (h r hr).fine fun x hx => hs x (List.mem_flatMap.mpr ⟨r, hr, hx⟩)
theorem RowsV.of {z : Int} {ws : List Str} {rs : List Row} (hw : ∀ x ∈ ws, Name x) (h : Fine z ws rs) : RowsV z rs := fun r hr => by
  obtain ⟨h1, h2, h3⟩ := h r hr
  exact ⟨fun t ht => ⟨TrmV.of hw (h1 t ht).1, (h1 t ht).2⟩, fun x hx => hw x (h2 x hx), h3⟩
section
variable {d : D} {st : Sto} {wid inps rows ri no : Fn}
end
end Sh

set_option maxHeartbeats 1000000
namespace Sh
open PySem PySem.Spec PyProof.Rows L2
local macro_rules | `(tactic| walk_at "go") => `(tactic| simp only [k_bnd, k_ret, k_ok, k_bad, k_badM, k_exc, k_lft, k_ite, k_ite', o_some, o_none, o_ite, v_some, k_var, k_c, k_op, k_call, k_call0, k_cb, k_nil, k_cons, k_tup, k_lst, k_bOf, k_bAnd, k_bOr, k_bNot, k_and, k_or, k_not, k_if, k_chain, k_inC, k_neg, k_bm, k_get2, k_pnone, k_psome, k_sl, k_pnil, k_pcons, k_dic, k_gix, k_seq, k_nx, k_rt, k_sbad, k_snil, k_spass, k_set, k_sret, k_sretN, k_sexp, k_sif, k_asg, k_par2, k_par3, k_aug, k_put, k_seqI, k_range1, k_forI, k_lc, List.getElem?_cons_zero, List.getElem?_cons_succ, List.set_cons_zero, List.set_cons_succ, List.length_cons, List.length_nil, if_true, if_false, Bool.not_true, Bool.not_false, Bool.false_eq_true, ite_true, ite_false, reduceIte, Nat.reduceAdd, Nat.zero_add])
local macro_rules | `(tactic| walk_at "gg") => `(tactic| simp only [k_bnd, k_ret, k_ok, k_bad, k_badM, k_exc, k_lft, k_ite, k_ite', o_some, o_none, o_ite, v_some, k_var, k_c, k_op, k_call, k_call0, k_cb, k_nil, k_cons, k_tup, k_lst, k_bOf, k_bAnd, k_bOr, k_bNot, k_and, k_or, k_not, k_if, k_chain, k_inC, k_neg, k_bm, k_get2, k_pnone, k_psome, k_sl, k_pnil, k_pcons, k_dic, k_gix, k_seq, k_nx, k_rt, k_sbad, k_snil, k_spass, k_set, k_sret, k_sretN, k_sexp, k_sif, k_asg, k_par2, k_par3, k_aug, k_put, k_seqI, k_range1, k_forI, k_lc, List.getElem?_cons_zero, List.getElem?_cons_succ, List.set_cons_zero, List.set_cons_succ, List.length_cons, List.length_nil, if_true, if_false, Bool.not_true, Bool.not_false, Bool.false_eq_true, ite_true, ite_false, reduceIte, Nat.reduceAdd, Nat.zero_add, k_sortSet, k_range2, iadd_i, add_i, sub_i, eq_i, eq_s, ne_i, ne_s, ne_b, lt_i, le_i, gt_i, ge_i, ix_0, ix_1, ix_2, flat_str, flat_int, flat_non, sz_0, sz_1, sz_2, sz_3, sz_4, sz_5, sz_6, sz_7, sz_8, sz_9, decide_eq_true_eq, Bool.not_eq_eq_eq_not, decide_eq_false_iff_not, decide_true, decide_false, true_and, and_true, exists_eq_left, inC_strs, not_true_eq_false, not_false_eq_true])
local macro_rules | `(tactic| walk_at "g2") => `(tactic| simp only [k_bnd, k_ret, k_ok, k_bad, k_badM, k_exc, k_lft, k_ite, k_ite', o_some, o_none, o_ite, v_some, k_var, k_c, k_op, k_call, k_call0, k_cb, k_nil, k_cons, k_tup, k_lst, k_bOf, k_bAnd, k_bOr, k_bNot, k_and, k_or, k_not, k_if, k_chain, k_inC, k_neg, k_bm, k_get2, k_pnone, k_psome, k_sl, k_pnil, k_pcons, k_dic, k_gix, k_seq, k_nx, k_rt, k_sbad, k_snil, k_spass, k_set, k_sret, k_sretN, k_sexp, k_sif, k_asg, k_par2, k_par3, k_aug, k_put, k_seqI, k_range1, k_forI, k_lc, List.getElem?_cons_zero, List.getElem?_cons_succ, List.set_cons_zero, List.set_cons_succ, List.length_cons, List.length_nil, if_true, if_false, Bool.not_true, Bool.not_false, Bool.false_eq_true, ite_true, ite_false, reduceIte, Nat.reduceAdd, Nat.zero_add, k_sortSet, iadd_i, add_i, sub_i, eq_i, eq_s, ne_i, ne_s, ne_b, lt_i, le_i, gt_i, ge_i, ix_0, ix_1, ix_2, flat_str, flat_int, flat_non, sz_0, sz_1, sz_2, sz_3, sz_4, sz_5, sz_6, sz_7, sz_8, sz_9, decide_eq_true_eq, Bool.not_eq_eq_eq_not, decide_eq_false_iff_not, decide_true, decide_false, true_and, and_true, exists_eq_left, inC_strs, not_true_eq_false, not_false_eq_true, k_isE, k_tryAs, k_tryO, k_raiseA, k_raise, Bool.true_eq_false, reduceCtorEq, ne_eq])
local macro_rules | `(tactic| walk_at "gz") => `(tactic| simp only [k_bnd, k_ret, k_ok, k_bad, k_badM, k_exc, k_lft, k_ite, k_ite', o_some, o_none, o_ite, v_some, k_var, k_c, k_op, k_call, k_call0, k_cb, k_nil, k_cons, k_tup, k_lst, k_bOf, k_bAnd, k_bOr, k_bNot, k_and, k_or, k_not, k_if, k_chain, k_inC, k_neg, k_bm, k_get2, k_pnone, k_psome, k_sl, k_pnil, k_pcons, k_dic, k_gix, k_seq, k_nx, k_rt, k_sbad, k_snil, k_spass, k_set, k_sret, k_sretN, k_sexp, k_sif, k_asg, k_par2, k_par3, k_aug, k_put, k_seqI, k_range1, k_forI, k_lc, List.getElem?_cons_zero, List.getElem?_cons_succ, List.set_cons_zero, List.set_cons_succ, List.length_cons, List.length_nil, if_true, if_false, Bool.not_true, Bool.not_false, Bool.false_eq_true, ite_true, ite_false, reduceIte, Nat.reduceAdd, Nat.zero_add, k_sortSet, k_range2, iadd_i, add_i, sub_i, eq_i, eq_s, ne_i, ne_s, ne_b, lt_i, le_i, gt_i, ge_i, ix_0, ix_1, ix_2, flat_str, flat_int, flat_non, sz_0, sz_1, sz_2, sz_3, sz_4, sz_5, sz_6, sz_7, sz_8, sz_9, decide_eq_true_eq, Bool.not_eq_eq_eq_not, decide_eq_false_iff_not, decide_true, decide_false, true_and, and_true, exists_eq_left, inC_strs, not_true_eq_false, not_false_eq_true, k_isE, k_tryAs, k_tryO, k_raiseA, k_raise, Bool.true_eq_false, reduceCtorEq, ne_eq])
section
variable (h : Row → D → D)
mutual
def Row.rab (ab : D) (n : Nat) : Row → List D
  | .set x t => [h (.set x t) ab]
  | .tell t => [h (.tell t) ab]
  | .ifr o a b r s => h (.ifr o a b r s) ab :: (rabL ab (n + 1) r ++ rabL ab (n + 1 + (allL r).length) s)
  | .whl o a b r => h (.whl o a b r) ab :: rabL (.int (n : Int)) (n + 1) r
  | .trn t r => h (.trn t r) ab :: rabL (.int (n : Int)) (n + 1) r
def rabL (ab : D) (n : Nat) : List Row → List D
  | [] => []
  | r :: rs => r.rab ab n ++ rabL ab (n + r.all.length) rs
end
end
section
variable {h : Row → D → D}
mutual
theorem rab_len : ∀ (r : Row) (ab : D) (n : Nat), (r.rab h ab n).length = r.all.length
  | .set x t, ab, n => by simp [Row.rab, Row.all]
  | .tell t, ab, n => by simp [Row.rab, Row.all]
  | .ifr o a b r s, ab, n => by simp [Row.rab, Row.all, rabL_len r, rabL_len s]
  | .whl o a b r, ab, n => by simp [Row.rab, Row.all, rabL_len r]
  | .trn t r, ab, n => by simp [Row.rab, Row.all, rabL_len r]
theorem rabL_len : ∀ (rs : List Row) (ab : D) (n : Nat), (rabL h ab n rs).length = (allL rs).length
  | [], ab, n => by simp [rabL, allL]
  | r :: rs, ab, n => by simp [rabL, allL, rab_len r, rabL_len rs]
end
end
def hAb : Row → D → D := fun _ a => a
section
variable {f fb : Fn} {st : Sto} {ab : D} {y : Int} {n : Nat}
end
section
variable {f fb : Fn} {st : Sto} {ab : D} {y : Int} {n : Nat}
theorem okO_imp {o : Option (D × Sto)} {P Q : D → Sto → Prop} (h : OkO o P) (k : ∀ d s, P d s → Q d s) : OkO o Q := by
  cases o with
  | none => exact h
  | some p => exact k _ _ h
end
section
variable {f fb fr isp ri : Fn} {st : Sto} {ab : D} {y : Int} {n : Nat} {p : Prg}
end
/-! ### both tellings of the rounds -/
section
variable {h : Row → D → D}
mutual
theorem rab_zip : ∀ (r : Row) (ab : D) (n : Nat), r.rab h ab n = List.zipWith h r.all (r.rab hAb ab n)
  | .set x t, ab, n => by simp [Row.rab, Row.all, hAb]
  | .tell t, ab, n => by simp [Row.rab, Row.all, hAb]
  | .ifr o a b r s, ab, n => by
    rw [Row.rab, Row.rab, Row.all, List.zipWith_cons_cons, List.zipWith_append (by rw [rabL_len]), ← rabL_zip r, ← rabL_zip s]
    rfl
  | .whl o a b r, ab, n => by
    rw [Row.rab, Row.rab, Row.all, List.zipWith_cons_cons, ← rabL_zip r]
    rfl
  | .trn t r, ab, n => by
    rw [Row.rab, Row.rab, Row.all, List.zipWith_cons_cons, ← rabL_zip r]
    rfl
theorem rabL_zip : ∀ (rs : List Row) (ab : D) (n : Nat), rabL h ab n rs = List.zipWith h (allL rs) (rabL hAb ab n rs)
  | [], ab, n => by simp [rabL, allL]
  | r :: rs, ab, n => by rw [rabL, rabL, allL, List.zipWith_append (by rw [rab_len]), ← rab_zip r, ← rabL_zip rs]
end
end
section
variable {f fb fr : Fn} {st : Sto}
end
end Sh

set_option maxHeartbeats 1000000
namespace Sh
open PySem PySem.Spec PyProof.Rows L2
local macro_rules | `(tactic| walk_at "go") => `(tactic| simp only [k_bnd, k_ret, k_ok, k_bad, k_badM, k_exc, k_lft, k_ite, k_ite', o_some, o_none, o_ite, v_some, k_var, k_c, k_op, k_call, k_call0, k_cb, k_nil, k_cons, k_tup, k_lst, k_bOf, k_bAnd, k_bOr, k_bNot, k_and, k_or, k_not, k_if, k_chain, k_inC, k_neg, k_bm, k_get2, k_pnone, k_psome, k_sl, k_pnil, k_pcons, k_dic, k_gix, k_seq, k_nx, k_rt, k_sbad, k_snil, k_spass, k_set, k_sret, k_sretN, k_sexp, k_sif, k_asg, k_par2, k_par3, k_aug, k_put, k_seqI, k_range1, k_forI, k_lc, List.getElem?_cons_zero, List.getElem?_cons_succ, List.set_cons_zero, List.set_cons_succ, List.length_cons, List.length_nil, if_true, if_false, Bool.not_true, Bool.not_false, Bool.false_eq_true, ite_true, ite_false, reduceIte, Nat.reduceAdd, Nat.zero_add])
local macro_rules | `(tactic| walk_at "gg") => `(tactic| simp only [k_bnd, k_ret, k_ok, k_bad, k_badM, k_exc, k_lft, k_ite, k_ite', o_some, o_none, o_ite, v_some, k_var, k_c, k_op, k_call, k_call0, k_cb, k_nil, k_cons, k_tup, k_lst, k_bOf, k_bAnd, k_bOr, k_bNot, k_and, k_or, k_not, k_if, k_chain, k_inC, k_neg, k_bm, k_get2, k_pnone, k_psome, k_sl, k_pnil, k_pcons, k_dic, k_gix, k_seq, k_nx, k_rt, k_sbad, k_snil, k_spass, k_set, k_sret, k_sretN, k_sexp, k_sif, k_asg, k_par2, k_par3, k_aug, k_put, k_seqI, k_range1, k_forI, k_lc, List.getElem?_cons_zero, List.getElem?_cons_succ, List.set_cons_zero, List.set_cons_succ, List.length_cons, List.length_nil, if_true, if_false, Bool.not_true, Bool.not_false, Bool.false_eq_true, ite_true, ite_false, reduceIte, Nat.reduceAdd, Nat.zero_add, k_sortSet, k_range2, iadd_i, add_i, sub_i, eq_i, eq_s, ne_i, ne_s, ne_b, lt_i, le_i, gt_i, ge_i, ix_0, ix_1, ix_2, flat_str, flat_int, flat_non, sz_0, sz_1, sz_2, sz_3, sz_4, sz_5, sz_6, sz_7, sz_8, sz_9, decide_eq_true_eq, Bool.not_eq_eq_eq_not, decide_eq_false_iff_not, decide_true, decide_false, true_and, and_true, exists_eq_left, inC_strs, not_true_eq_false, not_false_eq_true])
local macro_rules | `(tactic| walk_at "g2") => `(tactic| simp only [k_bnd, k_ret, k_ok, k_bad, k_badM, k_exc, k_lft, k_ite, k_ite', o_some, o_none, o_ite, v_some, k_var, k_c, k_op, k_call, k_call0, k_cb, k_nil, k_cons, k_tup, k_lst, k_bOf, k_bAnd, k_bOr, k_bNot, k_and, k_or, k_not, k_if, k_chain, k_inC, k_neg, k_bm, k_get2, k_pnone, k_psome, k_sl, k_pnil, k_pcons, k_dic, k_gix, k_seq, k_nx, k_rt, k_sbad, k_snil, k_spass, k_set, k_sret, k_sretN, k_sexp, k_sif, k_asg, k_par2, k_par3, k_aug, k_put, k_seqI, k_range1, k_forI, k_lc, List.getElem?_cons_zero, List.getElem?_cons_succ, List.set_cons_zero, List.set_cons_succ, List.length_cons, List.length_nil, if_true, if_false, Bool.not_true, Bool.not_false, Bool.false_eq_true, ite_true, ite_false, reduceIte, Nat.reduceAdd, Nat.zero_add, k_sortSet, iadd_i, add_i, sub_i, eq_i, eq_s, ne_i, ne_s, ne_b, lt_i, le_i, gt_i, ge_i, ix_0, ix_1, ix_2, flat_str, flat_int, flat_non, sz_0, sz_1, sz_2, sz_3, sz_4, sz_5, sz_6, sz_7, sz_8, sz_9, decide_eq_true_eq, Bool.not_eq_eq_eq_not, decide_eq_false_iff_not, decide_true, decide_false, true_and, and_true, exists_eq_left, inC_strs, not_true_eq_false, not_false_eq_true, k_isE, k_tryAs, k_tryO, k_raiseA, k_raise, Bool.true_eq_false, reduceCtorEq, ne_eq])
local macro_rules | `(tactic| walk_at "g1") => `(tactic| simp only [k_bnd, k_ret, k_ok, k_bad, k_badM, k_exc, k_lft, k_ite, k_ite', o_some, o_none, o_ite, v_some, k_var, k_c, k_op, k_call, k_call0, k_cb, k_nil, k_cons, k_tup, k_lst, k_bOf, k_bAnd, k_bOr, k_bNot, k_and, k_or, k_not, k_if, k_chain, k_inC, k_neg, k_bm, k_get2, k_pnone, k_psome, k_sl, k_pnil, k_pcons, k_dic, k_gix, k_seq, k_nx, k_rt, k_sbad, k_snil, k_spass, k_set, k_sret, k_sretN, k_sexp, k_sif, k_asg, k_par2, k_par3, k_aug, k_put, k_seqI, k_forI, k_lc, List.getElem?_cons_zero, List.getElem?_cons_succ, List.set_cons_zero, List.set_cons_succ, List.length_cons, List.length_nil, if_true, if_false, Bool.not_true, Bool.not_false, Bool.false_eq_true, ite_true, ite_false, reduceIte, Nat.reduceAdd, Nat.zero_add, k_sortSet, iadd_i, add_i, sub_i, eq_i, eq_s, ne_i, ne_s, ne_b, lt_i, le_i, gt_i, ge_i, ix_0, ix_1, ix_2, flat_str, flat_int, flat_non, sz_0, sz_1, sz_2, sz_3, sz_4, sz_5, sz_6, sz_7, sz_8, sz_9, decide_eq_true_eq, Bool.not_eq_eq_eq_not, decide_eq_false_iff_not, decide_true, decide_false, true_and, and_true, exists_eq_left, inC_strs, not_true_eq_false, not_false_eq_true, k_isE, k_tryAs, k_tryO, k_raiseA, k_raise, Bool.true_eq_false, reduceCtorEq, ne_eq])
local macro_rules | `(tactic| walk_at "gz") => `(tactic| simp only [k_bnd, k_ret, k_ok, k_bad, k_badM, k_exc, k_lft, k_ite, k_ite', o_some, o_none, o_ite, v_some, k_var, k_c, k_op, k_call, k_call0, k_cb, k_nil, k_cons, k_tup, k_lst, k_bOf, k_bAnd, k_bOr, k_bNot, k_and, k_or, k_not, k_if, k_chain, k_inC, k_neg, k_bm, k_get2, k_pnone, k_psome, k_sl, k_pnil, k_pcons, k_dic, k_gix, k_seq, k_nx, k_rt, k_sbad, k_snil, k_spass, k_set, k_sret, k_sretN, k_sexp, k_sif, k_asg, k_par2, k_par3, k_aug, k_put, k_seqI, k_range1, k_forI, k_lc, List.getElem?_cons_zero, List.getElem?_cons_succ, List.set_cons_zero, List.set_cons_succ, List.length_cons, List.length_nil, if_true, if_false, Bool.not_true, Bool.not_false, Bool.false_eq_true, ite_true, ite_false, reduceIte, Nat.reduceAdd, Nat.zero_add, k_sortSet, k_range2, iadd_i, add_i, sub_i, eq_i, eq_s, ne_i, ne_s, ne_b, lt_i, le_i, gt_i, ge_i, ix_0, ix_1, ix_2, flat_str, flat_int, flat_non, sz_0, sz_1, sz_2, sz_3, sz_4, sz_5, sz_6, sz_7, sz_8, sz_9, decide_eq_true_eq, Bool.not_eq_eq_eq_not, decide_eq_false_iff_not, decide_true, decide_false, true_and, and_true, exists_eq_left, inC_strs, not_true_eq_false, not_false_eq_true, k_isE, k_tryAs, k_tryO, k_raiseA, k_raise, Bool.true_eq_false, reduceCtorEq, ne_eq])
/-! ### how long the repr of plain data may be -/
structure Wt (k n : Nat) (d : D) : Prop where
  pu : pureD d = true
  dp : depD d ≤ k
  sh : (toP d).showable = true
  ln : (toP d).shown.length ≤ n
theorem Wt.mono {k n k' n' : Nat} {d : D} (h : Wt k n d) (a : k ≤ k') (b : n ≤ n') : Wt k' n' d := ⟨h.pu, Nat.le_trans h.dp a, h.sh, Nat.le_trans h.ln b⟩
theorem wt_all {k n : Nat} : ∀ {ds : List D}, (∀ d ∈ ds, Wt k n d) → pureL ds = true ∧ depL ds ≤ k ∧ PyData.showableAll (toPL ds) = true ∧ ((PyData.shownAll (toPL ds)).map (·.length)).sum ≤ n * ds.length ∧ (PyData.shownAll (toPL ds)).length = ds.length
  | [], _ => ⟨rfl, by simp [depL], by simp [toPL, PyData.showableAll], by simp [toPL, PyData.shownAll], by simp [toPL, PyData.shownAll]⟩
  | d :: ds, h => by
    obtain ⟨a, b, c, e, f⟩ := wt_all (ds := ds) fun x hx => h x (List.mem_cons_of_mem _ hx)
    have hd := h d List.mem_cons_self
    refine ⟨by unfold pureL; rw [hd.pu, a]; rfl, by unfold depL; have := hd.dp; omega, by unfold toPL; unfold PyData.showableAll; rw [hd.sh, c]; rfl, ?_, ?_⟩
    · unfold toPL
      simp only [PyData.shownAll, List.map_cons, List.sum_cons, List.length_cons]
      have := hd.ln
      rw [Nat.mul_add]
      omega
    · unfold toPL
      simp only [PyData.shownAll, List.length_cons, f]
theorem wt_tup {k n : Nat} {ds : List D} (h : ∀ d ∈ ds, Wt k n d) : Wt (k + 1) ((n + 2) * ds.length + 3) (.tup ds) := by
  obtain ⟨a, b, c, e, f⟩ := wt_all h
  have hl := tupleText_len_le (PyData.shownAll (toPL ds))
  refine ⟨by unfold pureD; exact a, by unfold depD; omega, by unfold toP; unfold PyData.showable; exact c, ?_⟩
  unfold toP
  unfold PyData.shown
  rw [f] at hl
  rw [Nat.add_mul]
  omega
theorem wt_int {i : Int} (h : i.natAbs < 10 ^ 12) : Wt 0 13 (.int i) := by
  refine ⟨rfl, by simp [depD], ?_, ?_⟩
  · have l2 : i.natAbs.log2 < 1920 := by
      have h3 : i.natAbs < 2 ^ 1920 := Nat.lt_of_lt_of_le (show i.natAbs < 2 ^ 64 by omega) (Nat.pow_le_pow_right (by omega) (by omega))
      rcases Nat.eq_zero_or_pos i.natAbs with e | e
      · rw [e]; decide
      · exact (Nat.log2_lt (by omega)).mpr h3
    simp [toP, PyData.showable, l2]
  · simp only [toP, PyData.shown]
    exact (int_txt i h).2
theorem wt_name {x : Str} (h : Name x) : Wt 0 62 (.str x) := by
  have hv := name_asc h
  refine ⟨by simp [pureD, asc_ok hv.1], by simp [depD], by simp [toP, PyData.showable], ?_⟩
  simp only [toP, PyData.shown]
  exact rep_len hv.1 hv.2
/-! ### programs as things -/
structure PF (n : Nat) (d : D) : Prop where
  pu : pureD d = true
  dp : depD d ≤ n
  ft : ∀ st, Fit st d
theorem PF.mono {n m : Nat} {d : D} (h : PF n d) (k : n ≤ m) : PF m d := ⟨h.pu, Nat.le_trans h.dp k, h.ft⟩
theorem PF.cmp {n : Nat} {d : D} (h : PF n d) (hn : n ≤ 180) (st : Sto) : Cmp st d := ⟨_, pl_py ⟨h.pu, Nat.le_trans h.dp hn⟩ st 2, pl_sh ⟨h.pu, Nat.le_trans h.dp hn⟩⟩
theorem ris_of : ∀ {l : List Str}, (l.Pairwise fun a b => leS a b = true ∧ a ≠ b) → risB l = true
  | [], _ => by simp [risB]
  | [a], _ => by simp [risB]
  | a :: b :: r, h => by
    rw [List.pairwise_cons] at h
    unfold risB
    rw [ris_of h.2, Bool.and_true]
    obtain ⟨h1, h2⟩ := h.1 b List.mem_cons_self
    refine decide_eq_true (Classical.byContradiction fun q => h2 (leS_anti h1 ?_))
    exact leS_iff.mpr q
theorem Prg.ok.insL {p : Prg} {w : Nat} {ws : List Str} (h : p.ok w ws) : p.ins.length ≤ 20 := by
  have h1 : (p.ins.map (·.1)).Nodup := h.rise.imp fun q => q.2
  have := nd_le h1 (m := ws) fun x hx => by
    obtain ⟨i, hi, rfl⟩ := List.mem_map.mp hx
    exact (h.ins i hi).1
  rw [List.length_map] at this
  have := h.few
  omega
theorem Prg.ok.good {p : Prg} {w : Nat} {ws : List Str} (h : p.ok w ws) (h30 : (allL p.rows).length ≤ 30) : p.good (2 ^ w) ws :=
  ⟨fun i hi => (h.ins i hi).1, h.fine, by have := h.few; omega, by have := h.insL; omega, by omega⟩
theorem Prg.ok.V {p : Prg} {w : Nat} {ws : List Str} (h : p.ok w ws) (h30 : (allL p.rows).length ≤ 30) : p.V w :=
  ⟨h.wd, h.w1, fun i hi => ⟨h.nm _ (h.ins i hi).1, (h.ins i hi).2⟩, ris_of h.rise, RowsV.of h.nm h.fine, h.dep, by omega, by have := nms_le (h.good h30); have := h.few; omega⟩
/-! ### things that are no program, seen at their first place -/
section
variable {d : D} {st : Sto} {wid inps rows ri no : Fn}
end
/-! ### the rounds told are small numbers -/
mutual
theorem rab_ab : ∀ (r : Row) (ab : D) (n : Nat), ∀ d ∈ r.rab hAb ab n, d = ab ∨ ∃ j : Nat, d = .int (j : Int) ∧ j < n + r.all.length
  | .set x t, ab, n, d, h => by simp [Row.rab, hAb] at h; exact .inl h
  | .tell t, ab, n, d, h => by simp [Row.rab, hAb] at h; exact .inl h
  | .ifr o a b r s, ab, n, d, h => by
    have e : (Row.ifr o a b r s).all.length = 1 + (allL r).length + (allL s).length := by simp [Row.all]; omega
    rw [Row.rab, List.mem_cons, List.mem_append] at h
    rcases h with h | h | h
    · exact .inl h
    · rcases rabL_ab r ab (n + 1) d h with h | ⟨j, h, hj⟩
      · exact .inl h
      · exact .inr ⟨j, h, by omega⟩
    · rcases rabL_ab s ab (n + 1 + (allL r).length) d h with h | ⟨j, h, hj⟩
      · exact .inl h
      · exact .inr ⟨j, h, by omega⟩
  | .whl o a b r, ab, n, d, h => by
    have e : (Row.whl o a b r).all.length = 1 + (allL r).length := by simp [Row.all]; omega
    rw [Row.rab, List.mem_cons] at h
    rcases h with h | h
    · exact .inl h
    · rcases rabL_ab r (.int (n : Int)) (n + 1) d h with h | ⟨j, h, hj⟩
      · exact .inr ⟨n, h, by omega⟩
      · exact .inr ⟨j, h, by omega⟩
  | .trn t r, ab, n, d, h => by
    have e : (Row.trn t r).all.length = 1 + (allL r).length := by simp [Row.all]; omega
    rw [Row.rab, List.mem_cons] at h
    rcases h with h | h
    · exact .inl h
    · rcases rabL_ab r (.int (n : Int)) (n + 1) d h with h | ⟨j, h, hj⟩
      · exact .inr ⟨n, h, by omega⟩
      · exact .inr ⟨j, h, by omega⟩
theorem rabL_ab : ∀ (rs : List Row) (ab : D) (n : Nat), ∀ d ∈ rabL hAb ab n rs, d = ab ∨ ∃ j : Nat, d = .int (j : Int) ∧ j < n + (allL rs).length
  | [], ab, n, d, h => by simp [rabL] at h
  | r :: rs, ab, n, d, h => by
    have e : (allL (r :: rs)).length = r.all.length + (allL rs).length := by simp [allL]
    rw [rabL, List.mem_append] at h
    rcases h with h | h
    · rcases rab_ab r ab n d h with h | ⟨j, h, hj⟩
      · exact .inl h
      · exact .inr ⟨j, h, by omega⟩
    · rcases rabL_ab rs ab (n + r.all.length) d h with h | ⟨j, h, hj⟩
      · exact .inl h
      · exact .inr ⟨j, h, by omega⟩
end
end Sh

set_option maxHeartbeats 1000000
namespace Sh
open PySem PySem.Spec PyProof.Rows L2
local macro_rules | `(tactic| walk_at "go") => `(tactic| simp only [k_bnd, k_ret, k_ok, k_bad, k_badM, k_exc, k_lft, k_ite, k_ite', o_some, o_none, o_ite, v_some, k_var, k_c, k_op, k_call, k_call0, k_cb, k_nil, k_cons, k_tup, k_lst, k_bOf, k_bAnd, k_bOr, k_bNot, k_and, k_or, k_not, k_if, k_chain, k_inC, k_neg, k_bm, k_get2, k_pnone, k_psome, k_sl, k_pnil, k_pcons, k_dic, k_gix, k_seq, k_nx, k_rt, k_sbad, k_snil, k_spass, k_set, k_sret, k_sretN, k_sexp, k_sif, k_asg, k_par2, k_par3, k_aug, k_put, k_seqI, k_range1, k_forI, k_lc, List.getElem?_cons_zero, List.getElem?_cons_succ, List.set_cons_zero, List.set_cons_succ, List.length_cons, List.length_nil, if_true, if_false, Bool.not_true, Bool.not_false, Bool.false_eq_true, ite_true, ite_false, reduceIte, Nat.reduceAdd, Nat.zero_add])
local macro_rules | `(tactic| walk_at "gg") => `(tactic| simp only [k_bnd, k_ret, k_ok, k_bad, k_badM, k_exc, k_lft, k_ite, k_ite', o_some, o_none, o_ite, v_some, k_var, k_c, k_op, k_call, k_call0, k_cb, k_nil, k_cons, k_tup, k_lst, k_bOf, k_bAnd, k_bOr, k_bNot, k_and, k_or, k_not, k_if, k_chain, k_inC, k_neg, k_bm, k_get2, k_pnone, k_psome, k_sl, k_pnil, k_pcons, k_dic, k_gix, k_seq, k_nx, k_rt, k_sbad, k_snil, k_spass, k_set, k_sret, k_sretN, k_sexp, k_sif, k_asg, k_par2, k_par3, k_aug, k_put, k_seqI, k_range1, k_forI, k_lc, List.getElem?_cons_zero, List.getElem?_cons_succ, List.set_cons_zero, List.set_cons_succ, List.length_cons, List.length_nil, if_true, if_false, Bool.not_true, Bool.not_false, Bool.false_eq_true, ite_true, ite_false, reduceIte, Nat.reduceAdd, Nat.zero_add, k_sortSet, k_range2, iadd_i, add_i, sub_i, eq_i, eq_s, ne_i, ne_s, ne_b, lt_i, le_i, gt_i, ge_i, ix_0, ix_1, ix_2, flat_str, flat_int, flat_non, sz_0, sz_1, sz_2, sz_3, sz_4, sz_5, sz_6, sz_7, sz_8, sz_9, decide_eq_true_eq, Bool.not_eq_eq_eq_not, decide_eq_false_iff_not, decide_true, decide_false, true_and, and_true, exists_eq_left, inC_strs, not_true_eq_false, not_false_eq_true])
local macro_rules | `(tactic| walk_at "g2") => `(tactic| simp only [k_bnd, k_ret, k_ok, k_bad, k_badM, k_exc, k_lft, k_ite, k_ite', o_some, o_none, o_ite, v_some, k_var, k_c, k_op, k_call, k_call0, k_cb, k_nil, k_cons, k_tup, k_lst, k_bOf, k_bAnd, k_bOr, k_bNot, k_and, k_or, k_not, k_if, k_chain, k_inC, k_neg, k_bm, k_get2, k_pnone, k_psome, k_sl, k_pnil, k_pcons, k_dic, k_gix, k_seq, k_nx, k_rt, k_sbad, k_snil, k_spass, k_set, k_sret, k_sretN, k_sexp, k_sif, k_asg, k_par2, k_par3, k_aug, k_put, k_seqI, k_range1, k_forI, k_lc, List.getElem?_cons_zero, List.getElem?_cons_succ, List.set_cons_zero, List.set_cons_succ, List.length_cons, List.length_nil, if_true, if_false, Bool.not_true, Bool.not_false, Bool.false_eq_true, ite_true, ite_false, reduceIte, Nat.reduceAdd, Nat.zero_add, k_sortSet, iadd_i, add_i, sub_i, eq_i, eq_s, ne_i, ne_s, ne_b, lt_i, le_i, gt_i, ge_i, ix_0, ix_1, ix_2, flat_str, flat_int, flat_non, sz_0, sz_1, sz_2, sz_3, sz_4, sz_5, sz_6, sz_7, sz_8, sz_9, decide_eq_true_eq, Bool.not_eq_eq_eq_not, decide_eq_false_iff_not, decide_true, decide_false, true_and, and_true, exists_eq_left, inC_strs, not_true_eq_false, not_false_eq_true, k_isE, k_tryAs, k_tryO, k_raiseA, k_raise, Bool.true_eq_false, reduceCtorEq, ne_eq])
local macro_rules | `(tactic| walk_at "g1") => `(tactic| simp only [k_bnd, k_ret, k_ok, k_bad, k_badM, k_exc, k_lft, k_ite, k_ite', o_some, o_none, o_ite, v_some, k_var, k_c, k_op, k_call, k_call0, k_cb, k_nil, k_cons, k_tup, k_lst, k_bOf, k_bAnd, k_bOr, k_bNot, k_and, k_or, k_not, k_if, k_chain, k_inC, k_neg, k_bm, k_get2, k_pnone, k_psome, k_sl, k_pnil, k_pcons, k_dic, k_gix, k_seq, k_nx, k_rt, k_sbad, k_snil, k_spass, k_set, k_sret, k_sretN, k_sexp, k_sif, k_asg, k_par2, k_par3, k_aug, k_put, k_seqI, k_forI, k_lc, List.getElem?_cons_zero, List.getElem?_cons_succ, List.set_cons_zero, List.set_cons_succ, List.length_cons, List.length_nil, if_true, if_false, Bool.not_true, Bool.not_false, Bool.false_eq_true, ite_true, ite_false, reduceIte, Nat.reduceAdd, Nat.zero_add, k_sortSet, iadd_i, add_i, sub_i, eq_i, eq_s, ne_i, ne_s, ne_b, lt_i, le_i, gt_i, ge_i, ix_0, ix_1, ix_2, flat_str, flat_int, flat_non, sz_0, sz_1, sz_2, sz_3, sz_4, sz_5, sz_6, sz_7, sz_8, sz_9, decide_eq_true_eq, Bool.not_eq_eq_eq_not, decide_eq_false_iff_not, decide_true, decide_false, true_and, and_true, exists_eq_left, inC_strs, not_true_eq_false, not_false_eq_true, k_isE, k_tryAs, k_tryO, k_raiseA, k_raise, Bool.true_eq_false, reduceCtorEq, ne_eq])
local macro_rules | `(tactic| walk_at "gz") => `(tactic| simp only [k_bnd, k_ret, k_ok, k_bad, k_badM, k_exc, k_lft, k_ite, k_ite', o_some, o_none, o_ite, v_some, k_var, k_c, k_op, k_call, k_call0, k_cb, k_nil, k_cons, k_tup, k_lst, k_bOf, k_bAnd, k_bOr, k_bNot, k_and, k_or, k_not, k_if, k_chain, k_inC, k_neg, k_bm, k_get2, k_pnone, k_psome, k_sl, k_pnil, k_pcons, k_dic, k_gix, k_seq, k_nx, k_rt, k_sbad, k_snil, k_spass, k_set, k_sret, k_sretN, k_sexp, k_sif, k_asg, k_par2, k_par3, k_aug, k_put, k_seqI, k_range1, k_forI, k_lc, List.getElem?_cons_zero, List.getElem?_cons_succ, List.set_cons_zero, List.set_cons_succ, List.length_cons, List.length_nil, if_true, if_false, Bool.not_true, Bool.not_false, Bool.false_eq_true, ite_true, ite_false, reduceIte, Nat.reduceAdd, Nat.zero_add, k_sortSet, k_range2, iadd_i, add_i, sub_i, eq_i, eq_s, ne_i, ne_s, ne_b, lt_i, le_i, gt_i, ge_i, ix_0, ix_1, ix_2, flat_str, flat_int, flat_non, sz_0, sz_1, sz_2, sz_3, sz_4, sz_5, sz_6, sz_7, sz_8, sz_9, decide_eq_true_eq, Bool.not_eq_eq_eq_not, decide_eq_false_iff_not, decide_true, decide_false, true_and, and_true, exists_eq_left, inC_strs, not_true_eq_false, not_false_eq_true, k_isE, k_tryAs, k_tryO, k_raiseA, k_raise, Bool.true_eq_false, reduceCtorEq, ne_eq])
/-! ### the repr of a whole program -/
theorem wt_allM {α : Type} {k : Nat} {g : α → D} {f : α → Nat} : ∀ {as : List α}, (∀ a ∈ as, Wt k (f a) (g a)) → pureL (as.map g) = true ∧ depL (as.map g) ≤ k ∧ PyData.showableAll (toPL (as.map g)) = true ∧ ((PyData.shownAll (toPL (as.map g))).map (·.length)).sum ≤ (as.map f).sum ∧ (PyData.shownAll (toPL (as.map g))).length = as.length
  | [], _ => ⟨rfl, by simp [depL], by simp [toPL, PyData.showableAll], by simp [toPL, PyData.shownAll], by simp [toPL, PyData.shownAll]⟩
  | d :: ds, h => by
    obtain ⟨a, b, c, e, f'⟩ := wt_allM (as := ds) fun x hx => h x (List.mem_cons_of_mem _ hx)
    have hd := h d List.mem_cons_self
    rw [List.map_cons]
    refine ⟨by unfold pureL; rw [hd.pu, a]; rfl, by unfold depL; have := hd.dp; omega, by unfold toPL; unfold PyData.showableAll; rw [hd.sh, c]; rfl, ?_, ?_⟩
    · unfold toPL
      simp only [PyData.shownAll, List.map_cons, List.sum_cons]
      have := hd.ln
      omega
    · unfold toPL
      simp only [PyData.shownAll, List.length_cons, f']
theorem wt_tupM {α : Type} {k : Nat} {g : α → D} {f : α → Nat} {as : List α} (h : ∀ a ∈ as, Wt k (f a) (g a)) : Wt (k + 1) ((as.map f).sum + 2 * as.length + 3) (.tup (as.map g)) := by
  obtain ⟨a, b, c, e, f'⟩ := wt_allM h
  have hl := tupleText_len_le (PyData.shownAll (toPL (as.map g)))
  refine ⟨by unfold pureD; exact a, by unfold depD; omega, by unfold toP; unfold PyData.showable; exact c, ?_⟩
  unfold toP
  unfold PyData.shown
  rw [f'] at hl
  omega
theorem wt_two {k m n : Nat} {a b : D} (ha : Wt k m a) (hb : Wt k n b) : Wt (k + 1) (m + n + 7) (.tup [a, b]) := by
  have := wt_tupM (k := k) (g := fun q : D × Nat => q.1) (f := fun q => q.2) (as := [(a, m), (b, n)]) (fun q hq => by
    simp only [List.mem_cons, List.not_mem_nil, or_false] at hq
    rcases hq with rfl | rfl
    · exact ha
    · exact hb)
  refine this.mono (Nat.le_refl _) ?_
  simp only [List.map_cons, List.map_nil, List.sum_cons, List.sum_nil, List.length_cons, List.length_nil]
  omega
theorem wt_three {k m n o : Nat} {a b c : D} (ha : Wt k m a) (hb : Wt k n b) (hc : Wt k o c) : Wt (k + 1) (m + n + o + 9) (.tup [a, b, c]) := by
  have := wt_tupM (k := k) (g := fun q : D × Nat => q.1) (f := fun q => q.2) (as := [(a, m), (b, n), (c, o)]) (fun q hq => by
    simp only [List.mem_cons, List.not_mem_nil, or_false] at hq
    rcases hq with rfl | rfl | rfl
    · exact ha
    · exact hb
    · exact hc)
  refine this.mono (Nat.le_refl _) ?_
  simp only [List.map_cons, List.map_nil, List.sum_cons, List.sum_nil, List.length_cons, List.length_nil]
  omega
end Sh

set_option maxHeartbeats 1000000
namespace Sh
open PySem PySem.Spec PyProof.Rows L2
local macro_rules | `(tactic| walk_at "go") => `(tactic| simp only [k_bnd, k_ret, k_ok, k_bad, k_badM, k_exc, k_lft, k_ite, k_ite', o_some, o_none, o_ite, v_some, k_var, k_c, k_op, k_call, k_call0, k_cb, k_nil, k_cons, k_tup, k_lst, k_bOf, k_bAnd, k_bOr, k_bNot, k_and, k_or, k_not, k_if, k_chain, k_inC, k_neg, k_bm, k_get2, k_pnone, k_psome, k_sl, k_pnil, k_pcons, k_dic, k_gix, k_seq, k_nx, k_rt, k_sbad, k_snil, k_spass, k_set, k_sret, k_sretN, k_sexp, k_sif, k_asg, k_par2, k_par3, k_aug, k_put, k_seqI, k_range1, k_forI, k_lc, List.getElem?_cons_zero, List.getElem?_cons_succ, List.set_cons_zero, List.set_cons_succ, List.length_cons, List.length_nil, if_true, if_false, Bool.not_true, Bool.not_false, Bool.false_eq_true, ite_true, ite_false, reduceIte, Nat.reduceAdd, Nat.zero_add])
local macro_rules | `(tactic| walk_at "gg") => `(tactic| simp only [k_bnd, k_ret, k_ok, k_bad, k_badM, k_exc, k_lft, k_ite, k_ite', o_some, o_none, o_ite, v_some, k_var, k_c, k_op, k_call, k_call0, k_cb, k_nil, k_cons, k_tup, k_lst, k_bOf, k_bAnd, k_bOr, k_bNot, k_and, k_or, k_not, k_if, k_chain, k_inC, k_neg, k_bm, k_get2, k_pnone, k_psome, k_sl, k_pnil, k_pcons, k_dic, k_gix, k_seq, k_nx, k_rt, k_sbad, k_snil, k_spass, k_set, k_sret, k_sretN, k_sexp, k_sif, k_asg, k_par2, k_par3, k_aug, k_put, k_seqI, k_range1, k_forI, k_lc, List.getElem?_cons_zero, List.getElem?_cons_succ, List.set_cons_zero, List.set_cons_succ, List.length_cons, List.length_nil, if_true, if_false, Bool.not_true, Bool.not_false, Bool.false_eq_true, ite_true, ite_false, reduceIte, Nat.reduceAdd, Nat.zero_add, k_sortSet, k_range2, iadd_i, add_i, sub_i, eq_i, eq_s, ne_i, ne_s, ne_b, lt_i, le_i, gt_i, ge_i, ix_0, ix_1, ix_2, flat_str, flat_int, flat_non, sz_0, sz_1, sz_2, sz_3, sz_4, sz_5, sz_6, sz_7, sz_8, sz_9, decide_eq_true_eq, Bool.not_eq_eq_eq_not, decide_eq_false_iff_not, decide_true, decide_false, true_and, and_true, exists_eq_left, inC_strs, not_true_eq_false, not_false_eq_true])
local macro_rules | `(tactic| walk_at "g2") => `(tactic| simp only [k_bnd, k_ret, k_ok, k_bad, k_badM, k_exc, k_lft, k_ite, k_ite', o_some, o_none, o_ite, v_some, k_var, k_c, k_op, k_call, k_call0, k_cb, k_nil, k_cons, k_tup, k_lst, k_bOf, k_bAnd, k_bOr, k_bNot, k_and, k_or, k_not, k_if, k_chain, k_inC, k_neg, k_bm, k_get2, k_pnone, k_psome, k_sl, k_pnil, k_pcons, k_dic, k_gix, k_seq, k_nx, k_rt, k_sbad, k_snil, k_spass, k_set, k_sret, k_sretN, k_sexp, k_sif, k_asg, k_par2, k_par3, k_aug, k_put, k_seqI, k_range1, k_forI, k_lc, List.getElem?_cons_zero, List.getElem?_cons_succ, List.set_cons_zero, List.set_cons_succ, List.length_cons, List.length_nil, if_true, if_false, Bool.not_true, Bool.not_false, Bool.false_eq_true, ite_true, ite_false, reduceIte, Nat.reduceAdd, Nat.zero_add, k_sortSet, iadd_i, add_i, sub_i, eq_i, eq_s, ne_i, ne_s, ne_b, lt_i, le_i, gt_i, ge_i, ix_0, ix_1, ix_2, flat_str, flat_int, flat_non, sz_0, sz_1, sz_2, sz_3, sz_4, sz_5, sz_6, sz_7, sz_8, sz_9, decide_eq_true_eq, Bool.not_eq_eq_eq_not, decide_eq_false_iff_not, decide_true, decide_false, true_and, and_true, exists_eq_left, inC_strs, not_true_eq_false, not_false_eq_true, k_isE, k_tryAs, k_tryO, k_raiseA, k_raise, Bool.true_eq_false, reduceCtorEq, ne_eq])
local macro_rules | `(tactic| walk_at "g1") => `(tactic| simp only [k_bnd, k_ret, k_ok, k_bad, k_badM, k_exc, k_lft, k_ite, k_ite', o_some, o_none, o_ite, v_some, k_var, k_c, k_op, k_call, k_call0, k_cb, k_nil, k_cons, k_tup, k_lst, k_bOf, k_bAnd, k_bOr, k_bNot, k_and, k_or, k_not, k_if, k_chain, k_inC, k_neg, k_bm, k_get2, k_pnone, k_psome, k_sl, k_pnil, k_pcons, k_dic, k_gix, k_seq, k_nx, k_rt, k_sbad, k_snil, k_spass, k_set, k_sret, k_sretN, k_sexp, k_sif, k_asg, k_par2, k_par3, k_aug, k_put, k_seqI, k_forI, k_lc, List.getElem?_cons_zero, List.getElem?_cons_succ, List.set_cons_zero, List.set_cons_succ, List.length_cons, List.length_nil, if_true, if_false, Bool.not_true, Bool.not_false, Bool.false_eq_true, ite_true, ite_false, reduceIte, Nat.reduceAdd, Nat.zero_add, k_sortSet, iadd_i, add_i, sub_i, eq_i, eq_s, ne_i, ne_s, ne_b, lt_i, le_i, gt_i, ge_i, ix_0, ix_1, ix_2, flat_str, flat_int, flat_non, sz_0, sz_1, sz_2, sz_3, sz_4, sz_5, sz_6, sz_7, sz_8, sz_9, decide_eq_true_eq, Bool.not_eq_eq_eq_not, decide_eq_false_iff_not, decide_true, decide_false, true_and, and_true, exists_eq_left, inC_strs, not_true_eq_false, not_false_eq_true, k_isE, k_tryAs, k_tryO, k_raiseA, k_raise, Bool.true_eq_false, reduceCtorEq, ne_eq])
local macro_rules | `(tactic| walk_at "gz") => `(tactic| simp only [k_bnd, k_ret, k_ok, k_bad, k_badM, k_exc, k_lft, k_ite, k_ite', o_some, o_none, o_ite, v_some, k_var, k_c, k_op, k_call, k_call0, k_cb, k_nil, k_cons, k_tup, k_lst, k_bOf, k_bAnd, k_bOr, k_bNot, k_and, k_or, k_not, k_if, k_chain, k_inC, k_neg, k_bm, k_get2, k_pnone, k_psome, k_sl, k_pnil, k_pcons, k_dic, k_gix, k_seq, k_nx, k_rt, k_sbad, k_snil, k_spass, k_set, k_sret, k_sretN, k_sexp, k_sif, k_asg, k_par2, k_par3, k_aug, k_put, k_seqI, k_range1, k_forI, k_lc, List.getElem?_cons_zero, List.getElem?_cons_succ, List.set_cons_zero, List.set_cons_succ, List.length_cons, List.length_nil, if_true, if_false, Bool.not_true, Bool.not_false, Bool.false_eq_true, ite_true, ite_false, reduceIte, Nat.reduceAdd, Nat.zero_add, k_sortSet, k_range2, iadd_i, add_i, sub_i, eq_i, eq_s, ne_i, ne_s, ne_b, lt_i, le_i, gt_i, ge_i, ix_0, ix_1, ix_2, flat_str, flat_int, flat_non, sz_0, sz_1, sz_2, sz_3, sz_4, sz_5, sz_6, sz_7, sz_8, sz_9, decide_eq_true_eq, Bool.not_eq_eq_eq_not, decide_eq_false_iff_not, decide_true, decide_false, true_and, and_true, exists_eq_left, inC_strs, not_true_eq_false, not_false_eq_true, k_isE, k_tryAs, k_tryO, k_raiseA, k_raise, Bool.true_eq_false, reduceCtorEq, ne_eq])
theorem bnd_fit {p : Pol} (h : fitP p = true) : bndP p = some p := by unfold bndP; rw [if_pos h]
theorem SpB.sub {N : Int} {p q : Pol} (h : SpB N p) (k : List.Sublist q p) : SpB N q := ⟨h.toSpr.sub k, fitP_iff.mpr ⟨Nat.le_trans k.length_le h.len, fun e he => h.nms e (k.mem he)⟩⟩
/-! how long the repr of a spread is -/
theorem wt_nm {x : Str} (h : nmB x = true) : Wt 0 62 (.str x) := by
  have hv := nmB_asc h
  refine ⟨by simp [pureD, asc_ok hv.1], by simp [depD], by simp [toP, PyData.showable], ?_⟩
  simp only [toP, PyData.shown]
  exact rep_len hv.1 hv.2.2
theorem wt_mon {m : Mon} (h : ∀ w ∈ m, nmB w = true) {n : Nat} (hl : m.length ≤ n) : Wt 1 (64 * n + 3) (monD m) := by
  refine (wt_tup (k := 0) (n := 62) (ds := m.map D.str) fun d hd => ?_).mono (by omega) ?_
  · obtain ⟨w, hw, rfl⟩ := List.mem_map.mp hd
    exact wt_nm (h w hw)
  · rw [List.length_map]
    omega
theorem wt_sp {p : Pol} (h : POk p) (hf : ∀ e ∈ p, e.1.length ≤ 20 ∧ -1000000000 < e.2 ∧ e.2 < 1000000000) {n : Nat} (hl : p.length ≤ n) : Wt 3 (2700 * n + 3) (spD p) := by
  refine (wt_tup (k := 2) (n := 2600) (ds := p.map pairD) fun d hd => ?_).mono (by omega) ?_
  · obtain ⟨e, he, rfl⟩ := List.mem_map.mp hd
    obtain ⟨h1, h2, h3⟩ := hf e he
    refine (wt_tup (k := 1) (n := 1283) (ds := [monD e.1, .int e.2]) fun d hd => ?_).mono (by omega) ?_
    · rcases List.mem_cons.mp hd with rfl | hd
      · exact (wt_mon (h e he).nm h1).mono (by omega) (by omega)
      · rw [List.mem_singleton.mp hd]
        exact (wt_int (by omega)).mono (by omega) (by omega)
    · simp
  · rw [List.length_map]
    omega
end Sh

set_option maxHeartbeats 1000000
namespace Sh
open PySem PySem.Spec PyProof.Rows L2
local macro_rules | `(tactic| walk_at "go") => `(tactic| simp only [k_bnd, k_ret, k_ok, k_bad, k_badM, k_exc, k_lft, k_ite, k_ite', o_some, o_none, o_ite, v_some, k_var, k_c, k_op, k_call, k_call0, k_cb, k_nil, k_cons, k_tup, k_lst, k_bOf, k_bAnd, k_bOr, k_bNot, k_and, k_or, k_not, k_if, k_chain, k_inC, k_neg, k_bm, k_get2, k_pnone, k_psome, k_sl, k_pnil, k_pcons, k_dic, k_gix, k_seq, k_nx, k_rt, k_sbad, k_snil, k_spass, k_set, k_sret, k_sretN, k_sexp, k_sif, k_asg, k_par2, k_par3, k_aug, k_put, k_seqI, k_range1, k_forI, k_lc, List.getElem?_cons_zero, List.getElem?_cons_succ, List.set_cons_zero, List.set_cons_succ, List.length_cons, List.length_nil, if_true, if_false, Bool.not_true, Bool.not_false, Bool.false_eq_true, ite_true, ite_false, reduceIte, Nat.reduceAdd, Nat.zero_add])
local macro_rules | `(tactic| walk_at "gg") => `(tactic| simp only [k_bnd, k_ret, k_ok, k_bad, k_badM, k_exc, k_lft, k_ite, k_ite', o_some, o_none, o_ite, v_some, k_var, k_c, k_op, k_call, k_call0, k_cb, k_nil, k_cons, k_tup, k_lst, k_bOf, k_bAnd, k_bOr, k_bNot, k_and, k_or, k_not, k_if, k_chain, k_inC, k_neg, k_bm, k_get2, k_pnone, k_psome, k_sl, k_pnil, k_pcons, k_dic, k_gix, k_seq, k_nx, k_rt, k_sbad, k_snil, k_spass, k_set, k_sret, k_sretN, k_sexp, k_sif, k_asg, k_par2, k_par3, k_aug, k_put, k_seqI, k_range1, k_forI, k_lc, List.getElem?_cons_zero, List.getElem?_cons_succ, List.set_cons_zero, List.set_cons_succ, List.length_cons, List.length_nil, if_true, if_false, Bool.not_true, Bool.not_false, Bool.false_eq_true, ite_true, ite_false, reduceIte, Nat.reduceAdd, Nat.zero_add, k_sortSet, k_range2, iadd_i, add_i, sub_i, eq_i, eq_s, ne_i, ne_s, ne_b, lt_i, le_i, gt_i, ge_i, ix_0, ix_1, ix_2, flat_str, flat_int, flat_non, sz_0, sz_1, sz_2, sz_3, sz_4, sz_5, sz_6, sz_7, sz_8, sz_9, decide_eq_true_eq, Bool.not_eq_eq_eq_not, decide_eq_false_iff_not, decide_true, decide_false, true_and, and_true, exists_eq_left, inC_strs, not_true_eq_false, not_false_eq_true])
local macro_rules | `(tactic| walk_at "g2") => `(tactic| simp only [k_bnd, k_ret, k_ok, k_bad, k_badM, k_exc, k_lft, k_ite, k_ite', o_some, o_none, o_ite, v_some, k_var, k_c, k_op, k_call, k_call0, k_cb, k_nil, k_cons, k_tup, k_lst, k_bOf, k_bAnd, k_bOr, k_bNot, k_and, k_or, k_not, k_if, k_chain, k_inC, k_neg, k_bm, k_get2, k_pnone, k_psome, k_sl, k_pnil, k_pcons, k_dic, k_gix, k_seq, k_nx, k_rt, k_sbad, k_snil, k_spass, k_set, k_sret, k_sretN, k_sexp, k_sif, k_asg, k_par2, k_par3, k_aug, k_put, k_seqI, k_range1, k_forI, k_lc, List.getElem?_cons_zero, List.getElem?_cons_succ, List.set_cons_zero, List.set_cons_succ, List.length_cons, List.length_nil, if_true, if_false, Bool.not_true, Bool.not_false, Bool.false_eq_true, ite_true, ite_false, reduceIte, Nat.reduceAdd, Nat.zero_add, k_sortSet, iadd_i, add_i, sub_i, eq_i, eq_s, ne_i, ne_s, ne_b, lt_i, le_i, gt_i, ge_i, ix_0, ix_1, ix_2, flat_str, flat_int, flat_non, sz_0, sz_1, sz_2, sz_3, sz_4, sz_5, sz_6, sz_7, sz_8, sz_9, decide_eq_true_eq, Bool.not_eq_eq_eq_not, decide_eq_false_iff_not, decide_true, decide_false, true_and, and_true, exists_eq_left, inC_strs, not_true_eq_false, not_false_eq_true, k_isE, k_tryAs, k_tryO, k_raiseA, k_raise, Bool.true_eq_false, reduceCtorEq, ne_eq])
local macro_rules | `(tactic| walk_at "g1") => `(tactic| simp only [k_bnd, k_ret, k_ok, k_bad, k_badM, k_exc, k_lft, k_ite, k_ite', o_some, o_none, o_ite, v_some, k_var, k_c, k_op, k_call, k_call0, k_cb, k_nil, k_cons, k_tup, k_lst, k_bOf, k_bAnd, k_bOr, k_bNot, k_and, k_or, k_not, k_if, k_chain, k_inC, k_neg, k_bm, k_get2, k_pnone, k_psome, k_sl, k_pnil, k_pcons, k_dic, k_gix, k_seq, k_nx, k_rt, k_sbad, k_snil, k_spass, k_set, k_sret, k_sretN, k_sexp, k_sif, k_asg, k_par2, k_par3, k_aug, k_put, k_seqI, k_forI, k_lc, List.getElem?_cons_zero, List.getElem?_cons_succ, List.set_cons_zero, List.set_cons_succ, List.length_cons, List.length_nil, if_true, if_false, Bool.not_true, Bool.not_false, Bool.false_eq_true, ite_true, ite_false, reduceIte, Nat.reduceAdd, Nat.zero_add, k_sortSet, iadd_i, add_i, sub_i, eq_i, eq_s, ne_i, ne_s, ne_b, lt_i, le_i, gt_i, ge_i, ix_0, ix_1, ix_2, flat_str, flat_int, flat_non, sz_0, sz_1, sz_2, sz_3, sz_4, sz_5, sz_6, sz_7, sz_8, sz_9, decide_eq_true_eq, Bool.not_eq_eq_eq_not, decide_eq_false_iff_not, decide_true, decide_false, true_and, and_true, exists_eq_left, inC_strs, not_true_eq_false, not_false_eq_true, k_isE, k_tryAs, k_tryO, k_raiseA, k_raise, Bool.true_eq_false, reduceCtorEq, ne_eq])
local macro_rules | `(tactic| walk_at "gz") => `(tactic| simp only [k_bnd, k_ret, k_ok, k_bad, k_badM, k_exc, k_lft, k_ite, k_ite', o_some, o_none, o_ite, v_some, k_var, k_c, k_op, k_call, k_call0, k_cb, k_nil, k_cons, k_tup, k_lst, k_bOf, k_bAnd, k_bOr, k_bNot, k_and, k_or, k_not, k_if, k_chain, k_inC, k_neg, k_bm, k_get2, k_pnone, k_psome, k_sl, k_pnil, k_pcons, k_dic, k_gix, k_seq, k_nx, k_rt, k_sbad, k_snil, k_spass, k_set, k_sret, k_sretN, k_sexp, k_sif, k_asg, k_par2, k_par3, k_aug, k_put, k_seqI, k_range1, k_forI, k_lc, List.getElem?_cons_zero, List.getElem?_cons_succ, List.set_cons_zero, List.set_cons_succ, List.length_cons, List.length_nil, if_true, if_false, Bool.not_true, Bool.not_false, Bool.false_eq_true, ite_true, ite_false, reduceIte, Nat.reduceAdd, Nat.zero_add, k_sortSet, k_range2, iadd_i, add_i, sub_i, eq_i, eq_s, ne_i, ne_s, ne_b, lt_i, le_i, gt_i, ge_i, ix_0, ix_1, ix_2, flat_str, flat_int, flat_non, sz_0, sz_1, sz_2, sz_3, sz_4, sz_5, sz_6, sz_7, sz_8, sz_9, decide_eq_true_eq, Bool.not_eq_eq_eq_not, decide_eq_false_iff_not, decide_true, decide_false, true_and, and_true, exists_eq_left, inC_strs, not_true_eq_false, not_false_eq_true, k_isE, k_tryAs, k_tryO, k_raiseA, k_raise, Bool.true_eq_false, reduceCtorEq, ne_eq])
/-! ### the law's dicts put together -/
theorem mergeD_app (ps : List (Key × D)) : ∀ (acc : List (Key × D)), (acc.map (·.1) ++ ps.map (·.1)).Nodup → ps.foldl (fun acc kv => putD acc kv.1 kv.2) acc = acc ++ ps := by
  induction ps with
  | nil => intro acc _; rw [List.append_nil]; rfl
  | cons p r ih =>
    intro acc h
    rw [List.foldl_cons]
    have hn : (acc.any fun kv => decide (kv.1 = p.1)) = false := by
      rw [List.any_eq_false]
      intro kv hkv
      rw [decide_eq_true_eq]
      intro e
      have := (List.nodup_append.mp h).2.2 kv.1 (List.mem_map.mpr ⟨kv, hkv, rfl⟩) p.1 (by simp)
      exact this e
    have e : putD acc p.1 p.2 = acc ++ [p] := by
      unfold putD
      rw [hn, if_neg Bool.false_ne_true]
    rw [e, ih (acc ++ [p]) (by rw [List.map_append, List.map_cons, List.map_nil, List.append_assoc]; exact h), List.append_assoc]
    rfl
theorem mergeD_nd {ps : List (Key × D)} (h : (ps.map (·.1)).Nodup) : mergeD [] ps = ps := by
  unfold mergeD
  have := mergeD_app ps [] (by simpa using h)
  rw [this]
  rfl
theorem dict_cp {st : Sto} {l : Nat} {kvs : List (Key × D)} (h : st[l]? = some (.dic kvs)) : oDict [.loc l] st = some (.loc st.length, st ++ [.dic kvs]) := by
  unfold oDict
  dsimp only
  have h1 : lstAt st l = none := by unfold lstAt; rw [h]
  have h2 : dkAt st l = some kvs := by unfold dkAt; rw [h]
  rw [h1]
  dsimp only
  rw [h2]
/-- a law's dict -/
structure Dc (N : Int) (A : Pol) (l : Nat) (st : Sto) : Prop where
  at_ : st[l]? = some (.dic (encA tkM A))
  can : Can N A
  ok : POk A
theorem Dc.ext {N : Int} {A : Pol} {l : Nat} {st st' : Sto} (h : Dc N A l st) (k : Ext st st') : Dc N A l st' := ⟨k.get h.at_, h.can, h.ok⟩
section
variable {N : Int}
theorem Acc.ok {A p : Pol} {m : Mon} {f : Int} (hA : POk A) (hm : MOk m) : POk (putM A m f) := putM_vals (P := fun e => MOk e.1) hm hA
end
section
variable {N : Int}
end
theorem turn_eq {N : Int} (q : Pol) : EqP N (turnP N q) (sclP (-1) q) := fun h => by
  rw [wsum_scl]
  have : wsum h (turnP N q) = N * (q.map fun e => h e.1).sum + -1 * wsum h q := by
    unfold turnP
    induction q with
    | nil => simp [wsum]
    | cons e r ih =>
      rw [List.map_cons, wsum, ih, List.map_cons, List.sum_cons, wsum]
      simp only [Int.sub_mul, Int.mul_add]
      omega
  rw [this, Int.add_emod, Int.mul_emod_right, Int.zero_add, Int.emod_emod_of_dvd _ (Int.dvd_refl N)]
theorem neg_self {N : Int} (p : Pol) : EqP N (p ++ sclP (-1) p) [] := fun h => by
  rw [wsum_app, wsum_scl]
  congr 1
  show _ = 0
  omega
theorem nil_spb {N : Int} : SpB N [] := ⟨⟨Can.nil, fun e h => (by cases h), List.Pairwise.nil⟩, rfl⟩
theorem nrm_bnd {N : Int} (hN : 0 < N) {p q : Pol} (hp : SpB N p) (h : EqP N p q) : bndP (nrm N q) = some p := by
  rw [nrm_unique hN hp.can hp.up h, bnd_fit hp.fit]
theorem sub_self {N : Int} (hN : 0 < N) {p : Pol} : subS N p p = some [] := by
  refine nrm_bnd hN nil_spb ?_
  exact ((EqP.app EqP.refl (turn_eq p)).trans (neg_self p)).symm
end Sh

set_option maxHeartbeats 1000000
/-! ShGp: the plain law of goings: ways, values at turns, differences of differences, products, ends. -/
namespace Sh
end Sh

/-! ShWs: what terms and spreads are worth; spreads put to spreads. -/
namespace Sh
open PySem
/-! ### put to spreads -/
def subM (σ : Str → Pol) : Mon → Pol
  | [] => [([], 1)]
  | w :: r => mulP mmM (σ w) (subM σ r)
def subP (σ : Str → Pol) (p : Pol) : Pol := p.flatMap fun e => sclP e.2 (subM σ e.1)
theorem wsum_sub (h : Mon → Int) (σ : Str → Pol) : ∀ p : Pol, wsum h (subP σ p) = wsum (fun m => wsum h (subM σ m)) p
  | [] => rfl
  | e :: r => by
    have := wsum_sub h σ r
    unfold subP at this ⊢
    rw [List.flatMap_cons, wsum_app, wsum_scl, this]
    rfl
theorem EqP.sub {N : Int} {p q : Pol} (h : EqP N p q) (σ : Str → Pol) : EqP N (subP σ p) (subP σ q) := fun g => by
  rw [wsum_sub, wsum_sub]
  exact h _
theorem subM_ok {σ : Str → Pol} (hσ : ∀ w, POk (σ w)) : ∀ m, POk (subM σ m)
  | [] => fun e he => by rw [List.mem_singleton.mp he]; exact MOk.nil
  | w :: r => (hσ w).mul (subM_ok hσ r)
theorem unit_mul {N : Int} {p : Pol} (h : POk p) : EqP N (mulP mmM [([], 1)] p) p := fun g => by
  rw [wsum_mul]
  congr 1
  rw [wsum, wsum, Int.one_mul, Int.add_zero]
  exact wsum_congr fun e he => by rw [mmM_nil (h e he).up]
theorem subM_app {N : Int} {σ : Str → Pol} (hσ : ∀ w, POk (σ w)) (b : Mon) : ∀ a, EqP N (subM σ (a ++ b)) (mulP mmM (subM σ a) (subM σ b))
  | [] => (unit_mul (subM_ok hσ b)).symm
  | w :: r => (EqP.mul EqP.refl (subM_app hσ b r)).trans (mul_assoc_eq mmM_assoc _ _ _).symm
theorem subM_perm {N : Int} {σ : Str → Pol} {a b : Mon} (h : a.Perm b) : EqP N (subM σ a) (subM σ b) := by
  induction h with
  | nil => exact EqP.refl
  | cons x _ ih => exact EqP.mul EqP.refl ih
  | swap x y l => exact (mul_assoc_eq mmM_assoc _ _ _).symm.trans ((EqP.mul (mul_comm_eq mmM_comm _ _) EqP.refl).trans (mul_assoc_eq mmM_assoc _ _ _))
  | trans _ _ a b => exact a.trans b
theorem subM_mm {N : Int} {σ : Str → Pol} (hσ : ∀ w, POk (σ w)) (a b : Mon) : EqP N (subM σ (mmM a b)) (mulP mmM (subM σ a) (subM σ b)) :=
  (subM_perm (srt_perm _)).trans (subM_app hσ b a)
theorem wsum_mod {κ : Type} {N : Int} {h g : κ → Int} (p : List (κ × Int)) (e : ∀ x, h x % N = g x % N) : wsum h p % N = wsum g p % N := by
  induction p with
  | nil => rfl
  | cons x r ih => rw [wsum, wsum, Int.add_emod, Int.mul_emod, e, ih, ← Int.mul_emod, ← Int.add_emod]
theorem sub_mul {N : Int} {σ : Str → Pol} (hσ : ∀ w, POk (σ w)) (p q : Pol) : EqP N (subP σ (mulP mmM p q)) (mulP mmM (subP σ p) (subP σ q)) := fun h => by
  rw [wsum_sub, wsum_mul, wsum_mul, wsum_sub]
  refine wsum_mod _ fun a => ?_
  have e : wsum (fun k => wsum (fun l => h (mmM k l)) (subP σ q)) (subM σ a) = wsum (fun b => wsum h (mulP mmM (subM σ a) (subM σ b))) q := by
    have e1 : (fun k => wsum (fun l => h (mmM k l)) (subP σ q)) = fun k => wsum (fun b => wsum (fun l => h (mmM k l)) (subM σ b)) q := by
      funext k
      rw [wsum_sub]
    rw [e1, wsum_swap]
    congr 1
    funext b
    rw [wsum_mul]
  rw [e]
  exact wsum_mod _ fun b => subM_mm hσ a b h
/-! ### a term in which another one stands for a name -/
def Trm.put : Trm → Str → Trm → Trm
  | .num n, _, _ => .num n
  | .at w, x, u => if w = x then u else .at w
  | .op o a b, x, u => .op o (a.put x u) (b.put x u)
/-! ### the names of a spread -/
def PIn (ws : List Str) (p : Pol) : Prop := ∀ e ∈ p, ∀ w ∈ e.1, w ∈ ws
theorem PIn.nrm {N : Int} {ws : List Str} {p : Pol} (h : PIn ws p) : PIn ws (nrm N p) := fun e he => by
  obtain ⟨x, hx, q⟩ := clct_keys ((srtP_perm _).mem_iff.mp he)
  rw [← q]
  exact h x hx
theorem PIn.bnd {N : Int} {ws : List Str} {p q : Pol} (h : PIn ws p) (k : bndP (Sh.nrm N p) = some q) : PIn ws q := by
  obtain ⟨rfl, _⟩ := bndP_some k
  exact h.nrm
end Sh

set_option maxHeartbeats 1000000
namespace Sh
open PySem PySem.Spec PyProof.Rows L2
local macro_rules | `(tactic| walk_at "go") => `(tactic| simp only [k_bnd, k_ret, k_ok, k_bad, k_badM, k_exc, k_lft, k_ite, k_ite', o_some, o_none, o_ite, v_some, k_var, k_c, k_op, k_call, k_call0, k_cb, k_nil, k_cons, k_tup, k_lst, k_bOf, k_bAnd, k_bOr, k_bNot, k_and, k_or, k_not, k_if, k_chain, k_inC, k_neg, k_bm, k_get2, k_pnone, k_psome, k_sl, k_pnil, k_pcons, k_dic, k_gix, k_seq, k_nx, k_rt, k_sbad, k_snil, k_spass, k_set, k_sret, k_sretN, k_sexp, k_sif, k_asg, k_par2, k_par3, k_aug, k_put, k_seqI, k_range1, k_forI, k_lc, List.getElem?_cons_zero, List.getElem?_cons_succ, List.set_cons_zero, List.set_cons_succ, List.length_cons, List.length_nil, if_true, if_false, Bool.not_true, Bool.not_false, Bool.false_eq_true, ite_true, ite_false, reduceIte, Nat.reduceAdd, Nat.zero_add])
local macro_rules | `(tactic| walk_at "gg") => `(tactic| simp only [k_bnd, k_ret, k_ok, k_bad, k_badM, k_exc, k_lft, k_ite, k_ite', o_some, o_none, o_ite, v_some, k_var, k_c, k_op, k_call, k_call0, k_cb, k_nil, k_cons, k_tup, k_lst, k_bOf, k_bAnd, k_bOr, k_bNot, k_and, k_or, k_not, k_if, k_chain, k_inC, k_neg, k_bm, k_get2, k_pnone, k_psome, k_sl, k_pnil, k_pcons, k_dic, k_gix, k_seq, k_nx, k_rt, k_sbad, k_snil, k_spass, k_set, k_sret, k_sretN, k_sexp, k_sif, k_asg, k_par2, k_par3, k_aug, k_put, k_seqI, k_range1, k_forI, k_lc, List.getElem?_cons_zero, List.getElem?_cons_succ, List.set_cons_zero, List.set_cons_succ, List.length_cons, List.length_nil, if_true, if_false, Bool.not_true, Bool.not_false, Bool.false_eq_true, ite_true, ite_false, reduceIte, Nat.reduceAdd, Nat.zero_add, k_sortSet, k_range2, iadd_i, add_i, sub_i, eq_i, eq_s, ne_i, ne_s, ne_b, lt_i, le_i, gt_i, ge_i, ix_0, ix_1, ix_2, flat_str, flat_int, flat_non, sz_0, sz_1, sz_2, sz_3, sz_4, sz_5, sz_6, sz_7, sz_8, sz_9, decide_eq_true_eq, Bool.not_eq_eq_eq_not, decide_eq_false_iff_not, decide_true, decide_false, true_and, and_true, exists_eq_left, inC_strs, not_true_eq_false, not_false_eq_true])
local macro_rules | `(tactic| walk_at "g2") => `(tactic| simp only [k_bnd, k_ret, k_ok, k_bad, k_badM, k_exc, k_lft, k_ite, k_ite', o_some, o_none, o_ite, v_some, k_var, k_c, k_op, k_call, k_call0, k_cb, k_nil, k_cons, k_tup, k_lst, k_bOf, k_bAnd, k_bOr, k_bNot, k_and, k_or, k_not, k_if, k_chain, k_inC, k_neg, k_bm, k_get2, k_pnone, k_psome, k_sl, k_pnil, k_pcons, k_dic, k_gix, k_seq, k_nx, k_rt, k_sbad, k_snil, k_spass, k_set, k_sret, k_sretN, k_sexp, k_sif, k_asg, k_par2, k_par3, k_aug, k_put, k_seqI, k_range1, k_forI, k_lc, List.getElem?_cons_zero, List.getElem?_cons_succ, List.set_cons_zero, List.set_cons_succ, List.length_cons, List.length_nil, if_true, if_false, Bool.not_true, Bool.not_false, Bool.false_eq_true, ite_true, ite_false, reduceIte, Nat.reduceAdd, Nat.zero_add, k_sortSet, iadd_i, add_i, sub_i, eq_i, eq_s, ne_i, ne_s, ne_b, lt_i, le_i, gt_i, ge_i, ix_0, ix_1, ix_2, flat_str, flat_int, flat_non, sz_0, sz_1, sz_2, sz_3, sz_4, sz_5, sz_6, sz_7, sz_8, sz_9, decide_eq_true_eq, Bool.not_eq_eq_eq_not, decide_eq_false_iff_not, decide_true, decide_false, true_and, and_true, exists_eq_left, inC_strs, not_true_eq_false, not_false_eq_true, k_isE, k_tryAs, k_tryO, k_raiseA, k_raise, Bool.true_eq_false, reduceCtorEq, ne_eq])
local macro_rules | `(tactic| walk_at "g1") => `(tactic| simp only [k_bnd, k_ret, k_ok, k_bad, k_badM, k_exc, k_lft, k_ite, k_ite', o_some, o_none, o_ite, v_some, k_var, k_c, k_op, k_call, k_call0, k_cb, k_nil, k_cons, k_tup, k_lst, k_bOf, k_bAnd, k_bOr, k_bNot, k_and, k_or, k_not, k_if, k_chain, k_inC, k_neg, k_bm, k_get2, k_pnone, k_psome, k_sl, k_pnil, k_pcons, k_dic, k_gix, k_seq, k_nx, k_rt, k_sbad, k_snil, k_spass, k_set, k_sret, k_sretN, k_sexp, k_sif, k_asg, k_par2, k_par3, k_aug, k_put, k_seqI, k_forI, k_lc, List.getElem?_cons_zero, List.getElem?_cons_succ, List.set_cons_zero, List.set_cons_succ, List.length_cons, List.length_nil, if_true, if_false, Bool.not_true, Bool.not_false, Bool.false_eq_true, ite_true, ite_false, reduceIte, Nat.reduceAdd, Nat.zero_add, k_sortSet, iadd_i, add_i, sub_i, eq_i, eq_s, ne_i, ne_s, ne_b, lt_i, le_i, gt_i, ge_i, ix_0, ix_1, ix_2, flat_str, flat_int, flat_non, sz_0, sz_1, sz_2, sz_3, sz_4, sz_5, sz_6, sz_7, sz_8, sz_9, decide_eq_true_eq, Bool.not_eq_eq_eq_not, decide_eq_false_iff_not, decide_true, decide_false, true_and, and_true, exists_eq_left, inC_strs, not_true_eq_false, not_false_eq_true, k_isE, k_tryAs, k_tryO, k_raiseA, k_raise, Bool.true_eq_false, reduceCtorEq, ne_eq])
local macro_rules | `(tactic| walk_at "gz") => `(tactic| simp only [k_bnd, k_ret, k_ok, k_bad, k_badM, k_exc, k_lft, k_ite, k_ite', o_some, o_none, o_ite, v_some, k_var, k_c, k_op, k_call, k_call0, k_cb, k_nil, k_cons, k_tup, k_lst, k_bOf, k_bAnd, k_bOr, k_bNot, k_and, k_or, k_not, k_if, k_chain, k_inC, k_neg, k_bm, k_get2, k_pnone, k_psome, k_sl, k_pnil, k_pcons, k_dic, k_gix, k_seq, k_nx, k_rt, k_sbad, k_snil, k_spass, k_set, k_sret, k_sretN, k_sexp, k_sif, k_asg, k_par2, k_par3, k_aug, k_put, k_seqI, k_range1, k_forI, k_lc, List.getElem?_cons_zero, List.getElem?_cons_succ, List.set_cons_zero, List.set_cons_succ, List.length_cons, List.length_nil, if_true, if_false, Bool.not_true, Bool.not_false, Bool.false_eq_true, ite_true, ite_false, reduceIte, Nat.reduceAdd, Nat.zero_add, k_sortSet, k_range2, iadd_i, add_i, sub_i, eq_i, eq_s, ne_i, ne_s, ne_b, lt_i, le_i, gt_i, ge_i, ix_0, ix_1, ix_2, flat_str, flat_int, flat_non, sz_0, sz_1, sz_2, sz_3, sz_4, sz_5, sz_6, sz_7, sz_8, sz_9, decide_eq_true_eq, Bool.not_eq_eq_eq_not, decide_eq_false_iff_not, decide_true, decide_false, true_and, and_true, exists_eq_left, inC_strs, not_true_eq_false, not_false_eq_true, k_isE, k_tryAs, k_tryO, k_raiseA, k_raise, Bool.true_eq_false, reduceCtorEq, ne_eq])
/-! ### spreads put to spreads: the walks -/
/-- a dict from names to spreads -/
structure Stg (N : Int) (kvs : List (Key × D)) (ks : Str → Bool) (σ : Str → Pol) : Prop where
  yes : ∀ w, ks w = true → lookK kvs (.inr w) = some (spD (σ w))
  no : ∀ w, ks w = false → lookK kvs (.inr w) = none
  ok : ∀ w, SpB N (σ w)
section
variable {number timed added names pair : Fn} {y N : Int}
end
end Sh

set_option maxHeartbeats 1000000
/-! ShLt: < on tuples of plain data. -/
namespace Sh
open PySem PySem.Spec PyProof.Rows L2 PySem.W PySem.SeqAt PySem.Calls
end Sh

set_option maxHeartbeats 1000000
namespace Sh
open PySem PySem.Spec PyProof.Rows L2
local macro_rules | `(tactic| walk_at "go") => `(tactic| simp only [k_bnd, k_ret, k_ok, k_bad, k_badM, k_exc, k_lft, k_ite, k_ite', o_some, o_none, o_ite, v_some, k_var, k_c, k_op, k_call, k_call0, k_cb, k_nil, k_cons, k_tup, k_lst, k_bOf, k_bAnd, k_bOr, k_bNot, k_and, k_or, k_not, k_if, k_chain, k_inC, k_neg, k_bm, k_get2, k_pnone, k_psome, k_sl, k_pnil, k_pcons, k_dic, k_gix, k_seq, k_nx, k_rt, k_sbad, k_snil, k_spass, k_set, k_sret, k_sretN, k_sexp, k_sif, k_asg, k_par2, k_par3, k_aug, k_put, k_seqI, k_range1, k_forI, k_lc, List.getElem?_cons_zero, List.getElem?_cons_succ, List.set_cons_zero, List.set_cons_succ, List.length_cons, List.length_nil, if_true, if_false, Bool.not_true, Bool.not_false, Bool.false_eq_true, ite_true, ite_false, reduceIte, Nat.reduceAdd, Nat.zero_add])
local macro_rules | `(tactic| walk_at "gg") => `(tactic| simp only [k_bnd, k_ret, k_ok, k_bad, k_badM, k_exc, k_lft, k_ite, k_ite', o_some, o_none, o_ite, v_some, k_var, k_c, k_op, k_call, k_call0, k_cb, k_nil, k_cons, k_tup, k_lst, k_bOf, k_bAnd, k_bOr, k_bNot, k_and, k_or, k_not, k_if, k_chain, k_inC, k_neg, k_bm, k_get2, k_pnone, k_psome, k_sl, k_pnil, k_pcons, k_dic, k_gix, k_seq, k_nx, k_rt, k_sbad, k_snil, k_spass, k_set, k_sret, k_sretN, k_sexp, k_sif, k_asg, k_par2, k_par3, k_aug, k_put, k_seqI, k_range1, k_forI, k_lc, List.getElem?_cons_zero, List.getElem?_cons_succ, List.set_cons_zero, List.set_cons_succ, List.length_cons, List.length_nil, if_true, if_false, Bool.not_true, Bool.not_false, Bool.false_eq_true, ite_true, ite_false, reduceIte, Nat.reduceAdd, Nat.zero_add, k_sortSet, k_range2, iadd_i, add_i, sub_i, eq_i, eq_s, ne_i, ne_s, ne_b, lt_i, le_i, gt_i, ge_i, ix_0, ix_1, ix_2, flat_str, flat_int, flat_non, sz_0, sz_1, sz_2, sz_3, sz_4, sz_5, sz_6, sz_7, sz_8, sz_9, decide_eq_true_eq, Bool.not_eq_eq_eq_not, decide_eq_false_iff_not, decide_true, decide_false, true_and, and_true, exists_eq_left, inC_strs, not_true_eq_false, not_false_eq_true])
local macro_rules | `(tactic| walk_at "g2") => `(tactic| simp only [k_bnd, k_ret, k_ok, k_bad, k_badM, k_exc, k_lft, k_ite, k_ite', o_some, o_none, o_ite, v_some, k_var, k_c, k_op, k_call, k_call0, k_cb, k_nil, k_cons, k_tup, k_lst, k_bOf, k_bAnd, k_bOr, k_bNot, k_and, k_or, k_not, k_if, k_chain, k_inC, k_neg, k_bm, k_get2, k_pnone, k_psome, k_sl, k_pnil, k_pcons, k_dic, k_gix, k_seq, k_nx, k_rt, k_sbad, k_snil, k_spass, k_set, k_sret, k_sretN, k_sexp, k_sif, k_asg, k_par2, k_par3, k_aug, k_put, k_seqI, k_range1, k_forI, k_lc, List.getElem?_cons_zero, List.getElem?_cons_succ, List.set_cons_zero, List.set_cons_succ, List.length_cons, List.length_nil, if_true, if_false, Bool.not_true, Bool.not_false, Bool.false_eq_true, ite_true, ite_false, reduceIte, Nat.reduceAdd, Nat.zero_add, k_sortSet, iadd_i, add_i, sub_i, eq_i, eq_s, ne_i, ne_s, ne_b, lt_i, le_i, gt_i, ge_i, ix_0, ix_1, ix_2, flat_str, flat_int, flat_non, sz_0, sz_1, sz_2, sz_3, sz_4, sz_5, sz_6, sz_7, sz_8, sz_9, decide_eq_true_eq, Bool.not_eq_eq_eq_not, decide_eq_false_iff_not, decide_true, decide_false, true_and, and_true, exists_eq_left, inC_strs, not_true_eq_false, not_false_eq_true, k_isE, k_tryAs, k_tryO, k_raiseA, k_raise, Bool.true_eq_false, reduceCtorEq, ne_eq])
local macro_rules | `(tactic| walk_at "g1") => `(tactic| simp only [k_bnd, k_ret, k_ok, k_bad, k_badM, k_exc, k_lft, k_ite, k_ite', o_some, o_none, o_ite, v_some, k_var, k_c, k_op, k_call, k_call0, k_cb, k_nil, k_cons, k_tup, k_lst, k_bOf, k_bAnd, k_bOr, k_bNot, k_and, k_or, k_not, k_if, k_chain, k_inC, k_neg, k_bm, k_get2, k_pnone, k_psome, k_sl, k_pnil, k_pcons, k_dic, k_gix, k_seq, k_nx, k_rt, k_sbad, k_snil, k_spass, k_set, k_sret, k_sretN, k_sexp, k_sif, k_asg, k_par2, k_par3, k_aug, k_put, k_seqI, k_forI, k_lc, List.getElem?_cons_zero, List.getElem?_cons_succ, List.set_cons_zero, List.set_cons_succ, List.length_cons, List.length_nil, if_true, if_false, Bool.not_true, Bool.not_false, Bool.false_eq_true, ite_true, ite_false, reduceIte, Nat.reduceAdd, Nat.zero_add, k_sortSet, iadd_i, add_i, sub_i, eq_i, eq_s, ne_i, ne_s, ne_b, lt_i, le_i, gt_i, ge_i, ix_0, ix_1, ix_2, flat_str, flat_int, flat_non, sz_0, sz_1, sz_2, sz_3, sz_4, sz_5, sz_6, sz_7, sz_8, sz_9, decide_eq_true_eq, Bool.not_eq_eq_eq_not, decide_eq_false_iff_not, decide_true, decide_false, true_and, and_true, exists_eq_left, inC_strs, not_true_eq_false, not_false_eq_true, k_isE, k_tryAs, k_tryO, k_raiseA, k_raise, Bool.true_eq_false, reduceCtorEq, ne_eq])
local macro_rules | `(tactic| walk_at "gz") => `(tactic| simp only [k_bnd, k_ret, k_ok, k_bad, k_badM, k_exc, k_lft, k_ite, k_ite', o_some, o_none, o_ite, v_some, k_var, k_c, k_op, k_call, k_call0, k_cb, k_nil, k_cons, k_tup, k_lst, k_bOf, k_bAnd, k_bOr, k_bNot, k_and, k_or, k_not, k_if, k_chain, k_inC, k_neg, k_bm, k_get2, k_pnone, k_psome, k_sl, k_pnil, k_pcons, k_dic, k_gix, k_seq, k_nx, k_rt, k_sbad, k_snil, k_spass, k_set, k_sret, k_sretN, k_sexp, k_sif, k_asg, k_par2, k_par3, k_aug, k_put, k_seqI, k_range1, k_forI, k_lc, List.getElem?_cons_zero, List.getElem?_cons_succ, List.set_cons_zero, List.set_cons_succ, List.length_cons, List.length_nil, if_true, if_false, Bool.not_true, Bool.not_false, Bool.false_eq_true, ite_true, ite_false, reduceIte, Nat.reduceAdd, Nat.zero_add, k_sortSet, k_range2, iadd_i, add_i, sub_i, eq_i, eq_s, ne_i, ne_s, ne_b, lt_i, le_i, gt_i, ge_i, ix_0, ix_1, ix_2, flat_str, flat_int, flat_non, sz_0, sz_1, sz_2, sz_3, sz_4, sz_5, sz_6, sz_7, sz_8, sz_9, decide_eq_true_eq, Bool.not_eq_eq_eq_not, decide_eq_false_iff_not, decide_true, decide_false, true_and, and_true, exists_eq_left, inC_strs, not_true_eq_false, not_false_eq_true, k_isE, k_tryAs, k_tryO, k_raiseA, k_raise, Bool.true_eq_false, reduceCtorEq, ne_eq])
/-- what is told of a thing that is one, or not -/
def Says (P : Prop) (st : Sto) (d : D) (st' : Sto) : Prop := ((d = .bl true ∧ P) ∨ (d = .bl false ∧ ¬ P)) ∧ Ext st st'
section
variable {size isn nms fac pr : Fn} {y N : Int} {st : Sto} {d : D}
open Classical in
noncomputable def tell (P : Prop) : Bool := decide P
open Classical in
theorem tell_yes {P : Prop} (h : P) : tell P = true := by unfold tell; exact decide_eq_true h
open Classical in
theorem tell_no {P : Prop} (h : ¬ P) : tell P = false := by unfold tell; exact decide_eq_false h
open Classical in
theorem Says.tell {P : Prop} {st st' : Sto} {d : D} (h : Says P st d st') : d = .bl (Sh.tell P) ∧ Ext st st' := by
  obtain ⟨h, e⟩ := h
  rcases h with ⟨rfl, h⟩ | ⟨rfl, h⟩
  · exact ⟨by rw [tell_yes h], e⟩
  · exact ⟨by rw [tell_no h], e⟩
end
section
variable {isn : Fn} {N : Int} {st : Sto} {d : D}
end
end Sh

set_option maxHeartbeats 1000000
namespace Sh
open PySem PySem.Spec PyProof.Rows L2
local macro_rules | `(tactic| walk_at "go") => `(tactic| simp only [k_bnd, k_ret, k_ok, k_bad, k_badM, k_exc, k_lft, k_ite, k_ite', o_some, o_none, o_ite, v_some, k_var, k_c, k_op, k_call, k_call0, k_cb, k_nil, k_cons, k_tup, k_lst, k_bOf, k_bAnd, k_bOr, k_bNot, k_and, k_or, k_not, k_if, k_chain, k_inC, k_neg, k_bm, k_get2, k_pnone, k_psome, k_sl, k_pnil, k_pcons, k_dic, k_gix, k_seq, k_nx, k_rt, k_sbad, k_snil, k_spass, k_set, k_sret, k_sretN, k_sexp, k_sif, k_asg, k_par2, k_par3, k_aug, k_put, k_seqI, k_range1, k_forI, k_lc, List.getElem?_cons_zero, List.getElem?_cons_succ, List.set_cons_zero, List.set_cons_succ, List.length_cons, List.length_nil, if_true, if_false, Bool.not_true, Bool.not_false, Bool.false_eq_true, ite_true, ite_false, reduceIte, Nat.reduceAdd, Nat.zero_add])
local macro_rules | `(tactic| walk_at "gg") => `(tactic| simp only [k_bnd, k_ret, k_ok, k_bad, k_badM, k_exc, k_lft, k_ite, k_ite', o_some, o_none, o_ite, v_some, k_var, k_c, k_op, k_call, k_call0, k_cb, k_nil, k_cons, k_tup, k_lst, k_bOf, k_bAnd, k_bOr, k_bNot, k_and, k_or, k_not, k_if, k_chain, k_inC, k_neg, k_bm, k_get2, k_pnone, k_psome, k_sl, k_pnil, k_pcons, k_dic, k_gix, k_seq, k_nx, k_rt, k_sbad, k_snil, k_spass, k_set, k_sret, k_sretN, k_sexp, k_sif, k_asg, k_par2, k_par3, k_aug, k_put, k_seqI, k_range1, k_forI, k_lc, List.getElem?_cons_zero, List.getElem?_cons_succ, List.set_cons_zero, List.set_cons_succ, List.length_cons, List.length_nil, if_true, if_false, Bool.not_true, Bool.not_false, Bool.false_eq_true, ite_true, ite_false, reduceIte, Nat.reduceAdd, Nat.zero_add, k_sortSet, k_range2, iadd_i, add_i, sub_i, eq_i, eq_s, ne_i, ne_s, ne_b, lt_i, le_i, gt_i, ge_i, ix_0, ix_1, ix_2, flat_str, flat_int, flat_non, sz_0, sz_1, sz_2, sz_3, sz_4, sz_5, sz_6, sz_7, sz_8, sz_9, decide_eq_true_eq, Bool.not_eq_eq_eq_not, decide_eq_false_iff_not, decide_true, decide_false, true_and, and_true, exists_eq_left, inC_strs, not_true_eq_false, not_false_eq_true])
local macro_rules | `(tactic| walk_at "g2") => `(tactic| simp only [k_bnd, k_ret, k_ok, k_bad, k_badM, k_exc, k_lft, k_ite, k_ite', o_some, o_none, o_ite, v_some, k_var, k_c, k_op, k_call, k_call0, k_cb, k_nil, k_cons, k_tup, k_lst, k_bOf, k_bAnd, k_bOr, k_bNot, k_and, k_or, k_not, k_if, k_chain, k_inC, k_neg, k_bm, k_get2, k_pnone, k_psome, k_sl, k_pnil, k_pcons, k_dic, k_gix, k_seq, k_nx, k_rt, k_sbad, k_snil, k_spass, k_set, k_sret, k_sretN, k_sexp, k_sif, k_asg, k_par2, k_par3, k_aug, k_put, k_seqI, k_range1, k_forI, k_lc, List.getElem?_cons_zero, List.getElem?_cons_succ, List.set_cons_zero, List.set_cons_succ, List.length_cons, List.length_nil, if_true, if_false, Bool.not_true, Bool.not_false, Bool.false_eq_true, ite_true, ite_false, reduceIte, Nat.reduceAdd, Nat.zero_add, k_sortSet, iadd_i, add_i, sub_i, eq_i, eq_s, ne_i, ne_s, ne_b, lt_i, le_i, gt_i, ge_i, ix_0, ix_1, ix_2, flat_str, flat_int, flat_non, sz_0, sz_1, sz_2, sz_3, sz_4, sz_5, sz_6, sz_7, sz_8, sz_9, decide_eq_true_eq, Bool.not_eq_eq_eq_not, decide_eq_false_iff_not, decide_true, decide_false, true_and, and_true, exists_eq_left, inC_strs, not_true_eq_false, not_false_eq_true, k_isE, k_tryAs, k_tryO, k_raiseA, k_raise, Bool.true_eq_false, reduceCtorEq, ne_eq])
local macro_rules | `(tactic| walk_at "g1") => `(tactic| simp only [k_bnd, k_ret, k_ok, k_bad, k_badM, k_exc, k_lft, k_ite, k_ite', o_some, o_none, o_ite, v_some, k_var, k_c, k_op, k_call, k_call0, k_cb, k_nil, k_cons, k_tup, k_lst, k_bOf, k_bAnd, k_bOr, k_bNot, k_and, k_or, k_not, k_if, k_chain, k_inC, k_neg, k_bm, k_get2, k_pnone, k_psome, k_sl, k_pnil, k_pcons, k_dic, k_gix, k_seq, k_nx, k_rt, k_sbad, k_snil, k_spass, k_set, k_sret, k_sretN, k_sexp, k_sif, k_asg, k_par2, k_par3, k_aug, k_put, k_seqI, k_forI, k_lc, List.getElem?_cons_zero, List.getElem?_cons_succ, List.set_cons_zero, List.set_cons_succ, List.length_cons, List.length_nil, if_true, if_false, Bool.not_true, Bool.not_false, Bool.false_eq_true, ite_true, ite_false, reduceIte, Nat.reduceAdd, Nat.zero_add, k_sortSet, iadd_i, add_i, sub_i, eq_i, eq_s, ne_i, ne_s, ne_b, lt_i, le_i, gt_i, ge_i, ix_0, ix_1, ix_2, flat_str, flat_int, flat_non, sz_0, sz_1, sz_2, sz_3, sz_4, sz_5, sz_6, sz_7, sz_8, sz_9, decide_eq_true_eq, Bool.not_eq_eq_eq_not, decide_eq_false_iff_not, decide_true, decide_false, true_and, and_true, exists_eq_left, inC_strs, not_true_eq_false, not_false_eq_true, k_isE, k_tryAs, k_tryO, k_raiseA, k_raise, Bool.true_eq_false, reduceCtorEq, ne_eq])
local macro_rules | `(tactic| walk_at "gz") => `(tactic| simp only [k_bnd, k_ret, k_ok, k_bad, k_badM, k_exc, k_lft, k_ite, k_ite', o_some, o_none, o_ite, v_some, k_var, k_c, k_op, k_call, k_call0, k_cb, k_nil, k_cons, k_tup, k_lst, k_bOf, k_bAnd, k_bOr, k_bNot, k_and, k_or, k_not, k_if, k_chain, k_inC, k_neg, k_bm, k_get2, k_pnone, k_psome, k_sl, k_pnil, k_pcons, k_dic, k_gix, k_seq, k_nx, k_rt, k_sbad, k_snil, k_spass, k_set, k_sret, k_sretN, k_sexp, k_sif, k_asg, k_par2, k_par3, k_aug, k_put, k_seqI, k_range1, k_forI, k_lc, List.getElem?_cons_zero, List.getElem?_cons_succ, List.set_cons_zero, List.set_cons_succ, List.length_cons, List.length_nil, if_true, if_false, Bool.not_true, Bool.not_false, Bool.false_eq_true, ite_true, ite_false, reduceIte, Nat.reduceAdd, Nat.zero_add, k_sortSet, k_range2, iadd_i, add_i, sub_i, eq_i, eq_s, ne_i, ne_s, ne_b, lt_i, le_i, gt_i, ge_i, ix_0, ix_1, ix_2, flat_str, flat_int, flat_non, sz_0, sz_1, sz_2, sz_3, sz_4, sz_5, sz_6, sz_7, sz_8, sz_9, decide_eq_true_eq, Bool.not_eq_eq_eq_not, decide_eq_false_iff_not, decide_true, decide_false, true_and, and_true, exists_eq_left, inC_strs, not_true_eq_false, not_false_eq_true, k_isE, k_tryAs, k_tryO, k_raiseA, k_raise, Bool.true_eq_false, reduceCtorEq, ne_eq])
/-! ### how long the repr of a bent thing may be -/
def Wx (st : Sto) (w : Nat) (d : D) : Prop := ∃ q : PyData, (∀ N, 1 ≤ N → toPy st N d = some q) ∧ q.showable = true ∧ q.shown.length ≤ w
theorem Wx.mono {st : Sto} {w w' : Nat} {d : D} (h : Wx st w d) (k : w ≤ w') : Wx st w' d := by
  obtain ⟨q, a, b, c⟩ := h
  exact ⟨q, a, b, Nat.le_trans c k⟩
theorem Wx.ext {st st' : Sto} {w : Nat} {d : D} (h : Wx st w d) (k : Ext st st') : Wx st' w d := by
  obtain ⟨q, a, b, c⟩ := h
  exact ⟨q, fun N hN => py_ext k N (a N hN), b, c⟩
/-! ### a part otherwise by a step -/
/-- what is told of a bent thing -/
def Bx (s g : Nat) (st : Sto) (k w : Nat) (d : D) : Prop := Th s g st 1 k d ∧ Wx st w d
theorem Bx.mono {s g : Nat} {st : Sto} {k w k' w' : Nat} {d : D} (h : Bx s g st k w d) (a : k ≤ k') (b : w ≤ w') : Bx s g st k' w' d := ⟨h.1.mono (Nat.le_refl _) a, h.2.mono b⟩
/-- plain data, small -/
structure Sm (k w : Nat) (d : D) : Prop where
  th : ∀ (s g : Nat) (st : Sto), Th s g st 0 k d
  wt : Wt k w d
theorem Sm.mono {k w k' w' : Nat} {d : D} (h : Sm k w d) (a : k ≤ k') (b : w ≤ w') : Sm k' w' d := ⟨fun s g st => (h.th s g st).mono (Nat.le_refl _) a, h.wt.mono a b⟩
section
variable {s g c : Nat} {I : Sto → Prop} {take pick : Fn} {st : Sto} {N : Int}
end
section
variable {s g c : Nat} {I : Sto → Prop} {take pick : Fn} {st : Sto} {N : Int}
end
/-! ### a tuple with one thing otherwise -/
section
variable {s g c : Nat} {I : Sto → Prop} {take pick bent part : Fn} {st : Sto} {N : Int}
end
end Sh

set_option maxHeartbeats 1000000
namespace Sh
open PySem PySem.Spec PyProof.Rows L2
local macro_rules | `(tactic| walk_at "go") => `(tactic| simp only [k_bnd, k_ret, k_ok, k_bad, k_badM, k_exc, k_lft, k_ite, k_ite', o_some, o_none, o_ite, v_some, k_var, k_c, k_op, k_call, k_call0, k_cb, k_nil, k_cons, k_tup, k_lst, k_bOf, k_bAnd, k_bOr, k_bNot, k_and, k_or, k_not, k_if, k_chain, k_inC, k_neg, k_bm, k_get2, k_pnone, k_psome, k_sl, k_pnil, k_pcons, k_dic, k_gix, k_seq, k_nx, k_rt, k_sbad, k_snil, k_spass, k_set, k_sret, k_sretN, k_sexp, k_sif, k_asg, k_par2, k_par3, k_aug, k_put, k_seqI, k_range1, k_forI, k_lc, List.getElem?_cons_zero, List.getElem?_cons_succ, List.set_cons_zero, List.set_cons_succ, List.length_cons, List.length_nil, if_true, if_false, Bool.not_true, Bool.not_false, Bool.false_eq_true, ite_true, ite_false, reduceIte, Nat.reduceAdd, Nat.zero_add])
local macro_rules | `(tactic| walk_at "gg") => `(tactic| simp only [k_bnd, k_ret, k_ok, k_bad, k_badM, k_exc, k_lft, k_ite, k_ite', o_some, o_none, o_ite, v_some, k_var, k_c, k_op, k_call, k_call0, k_cb, k_nil, k_cons, k_tup, k_lst, k_bOf, k_bAnd, k_bOr, k_bNot, k_and, k_or, k_not, k_if, k_chain, k_inC, k_neg, k_bm, k_get2, k_pnone, k_psome, k_sl, k_pnil, k_pcons, k_dic, k_gix, k_seq, k_nx, k_rt, k_sbad, k_snil, k_spass, k_set, k_sret, k_sretN, k_sexp, k_sif, k_asg, k_par2, k_par3, k_aug, k_put, k_seqI, k_range1, k_forI, k_lc, List.getElem?_cons_zero, List.getElem?_cons_succ, List.set_cons_zero, List.set_cons_succ, List.length_cons, List.length_nil, if_true, if_false, Bool.not_true, Bool.not_false, Bool.false_eq_true, ite_true, ite_false, reduceIte, Nat.reduceAdd, Nat.zero_add, k_sortSet, k_range2, iadd_i, add_i, sub_i, eq_i, eq_s, ne_i, ne_s, ne_b, lt_i, le_i, gt_i, ge_i, ix_0, ix_1, ix_2, flat_str, flat_int, flat_non, sz_0, sz_1, sz_2, sz_3, sz_4, sz_5, sz_6, sz_7, sz_8, sz_9, decide_eq_true_eq, Bool.not_eq_eq_eq_not, decide_eq_false_iff_not, decide_true, decide_false, true_and, and_true, exists_eq_left, inC_strs, not_true_eq_false, not_false_eq_true])
local macro_rules | `(tactic| walk_at "g2") => `(tactic| simp only [k_bnd, k_ret, k_ok, k_bad, k_badM, k_exc, k_lft, k_ite, k_ite', o_some, o_none, o_ite, v_some, k_var, k_c, k_op, k_call, k_call0, k_cb, k_nil, k_cons, k_tup, k_lst, k_bOf, k_bAnd, k_bOr, k_bNot, k_and, k_or, k_not, k_if, k_chain, k_inC, k_neg, k_bm, k_get2, k_pnone, k_psome, k_sl, k_pnil, k_pcons, k_dic, k_gix, k_seq, k_nx, k_rt, k_sbad, k_snil, k_spass, k_set, k_sret, k_sretN, k_sexp, k_sif, k_asg, k_par2, k_par3, k_aug, k_put, k_seqI, k_range1, k_forI, k_lc, List.getElem?_cons_zero, List.getElem?_cons_succ, List.set_cons_zero, List.set_cons_succ, List.length_cons, List.length_nil, if_true, if_false, Bool.not_true, Bool.not_false, Bool.false_eq_true, ite_true, ite_false, reduceIte, Nat.reduceAdd, Nat.zero_add, k_sortSet, iadd_i, add_i, sub_i, eq_i, eq_s, ne_i, ne_s, ne_b, lt_i, le_i, gt_i, ge_i, ix_0, ix_1, ix_2, flat_str, flat_int, flat_non, sz_0, sz_1, sz_2, sz_3, sz_4, sz_5, sz_6, sz_7, sz_8, sz_9, decide_eq_true_eq, Bool.not_eq_eq_eq_not, decide_eq_false_iff_not, decide_true, decide_false, true_and, and_true, exists_eq_left, inC_strs, not_true_eq_false, not_false_eq_true, k_isE, k_tryAs, k_tryO, k_raiseA, k_raise, Bool.true_eq_false, reduceCtorEq, ne_eq])
local macro_rules | `(tactic| walk_at "g1") => `(tactic| simp only [k_bnd, k_ret, k_ok, k_bad, k_badM, k_exc, k_lft, k_ite, k_ite', o_some, o_none, o_ite, v_some, k_var, k_c, k_op, k_call, k_call0, k_cb, k_nil, k_cons, k_tup, k_lst, k_bOf, k_bAnd, k_bOr, k_bNot, k_and, k_or, k_not, k_if, k_chain, k_inC, k_neg, k_bm, k_get2, k_pnone, k_psome, k_sl, k_pnil, k_pcons, k_dic, k_gix, k_seq, k_nx, k_rt, k_sbad, k_snil, k_spass, k_set, k_sret, k_sretN, k_sexp, k_sif, k_asg, k_par2, k_par3, k_aug, k_put, k_seqI, k_forI, k_lc, List.getElem?_cons_zero, List.getElem?_cons_succ, List.set_cons_zero, List.set_cons_succ, List.length_cons, List.length_nil, if_true, if_false, Bool.not_true, Bool.not_false, Bool.false_eq_true, ite_true, ite_false, reduceIte, Nat.reduceAdd, Nat.zero_add, k_sortSet, iadd_i, add_i, sub_i, eq_i, eq_s, ne_i, ne_s, ne_b, lt_i, le_i, gt_i, ge_i, ix_0, ix_1, ix_2, flat_str, flat_int, flat_non, sz_0, sz_1, sz_2, sz_3, sz_4, sz_5, sz_6, sz_7, sz_8, sz_9, decide_eq_true_eq, Bool.not_eq_eq_eq_not, decide_eq_false_iff_not, decide_true, decide_false, true_and, and_true, exists_eq_left, inC_strs, not_true_eq_false, not_false_eq_true, k_isE, k_tryAs, k_tryO, k_raiseA, k_raise, Bool.true_eq_false, reduceCtorEq, ne_eq])
local macro_rules | `(tactic| walk_at "gz") => `(tactic| simp only [k_bnd, k_ret, k_ok, k_bad, k_badM, k_exc, k_lft, k_ite, k_ite', o_some, o_none, o_ite, v_some, k_var, k_c, k_op, k_call, k_call0, k_cb, k_nil, k_cons, k_tup, k_lst, k_bOf, k_bAnd, k_bOr, k_bNot, k_and, k_or, k_not, k_if, k_chain, k_inC, k_neg, k_bm, k_get2, k_pnone, k_psome, k_sl, k_pnil, k_pcons, k_dic, k_gix, k_seq, k_nx, k_rt, k_sbad, k_snil, k_spass, k_set, k_sret, k_sretN, k_sexp, k_sif, k_asg, k_par2, k_par3, k_aug, k_put, k_seqI, k_range1, k_forI, k_lc, List.getElem?_cons_zero, List.getElem?_cons_succ, List.set_cons_zero, List.set_cons_succ, List.length_cons, List.length_nil, if_true, if_false, Bool.not_true, Bool.not_false, Bool.false_eq_true, ite_true, ite_false, reduceIte, Nat.reduceAdd, Nat.zero_add, k_sortSet, k_range2, iadd_i, add_i, sub_i, eq_i, eq_s, ne_i, ne_s, ne_b, lt_i, le_i, gt_i, ge_i, ix_0, ix_1, ix_2, flat_str, flat_int, flat_non, sz_0, sz_1, sz_2, sz_3, sz_4, sz_5, sz_6, sz_7, sz_8, sz_9, decide_eq_true_eq, Bool.not_eq_eq_eq_not, decide_eq_false_iff_not, decide_true, decide_false, true_and, and_true, exists_eq_left, inC_strs, not_true_eq_false, not_false_eq_true, k_isE, k_tryAs, k_tryO, k_raiseA, k_raise, Bool.true_eq_false, reduceCtorEq, ne_eq])
section
variable {s g c : Nat} {I : Sto → Prop} {take pick bent part : Fn} {st : Sto} {N : Int}
end
end Sh

set_option maxHeartbeats 1000000
namespace Sh
open PySem PySem.Spec PyProof.Rows L2
local macro_rules | `(tactic| walk_at "go") => `(tactic| simp only [k_bnd, k_ret, k_ok, k_bad, k_badM, k_exc, k_lft, k_ite, k_ite', o_some, o_none, o_ite, v_some, k_var, k_c, k_op, k_call, k_call0, k_cb, k_nil, k_cons, k_tup, k_lst, k_bOf, k_bAnd, k_bOr, k_bNot, k_and, k_or, k_not, k_if, k_chain, k_inC, k_neg, k_bm, k_get2, k_pnone, k_psome, k_sl, k_pnil, k_pcons, k_dic, k_gix, k_seq, k_nx, k_rt, k_sbad, k_snil, k_spass, k_set, k_sret, k_sretN, k_sexp, k_sif, k_asg, k_par2, k_par3, k_aug, k_put, k_seqI, k_range1, k_forI, k_lc, List.getElem?_cons_zero, List.getElem?_cons_succ, List.set_cons_zero, List.set_cons_succ, List.length_cons, List.length_nil, if_true, if_false, Bool.not_true, Bool.not_false, Bool.false_eq_true, ite_true, ite_false, reduceIte, Nat.reduceAdd, Nat.zero_add])
local macro_rules | `(tactic| walk_at "gg") => `(tactic| simp only [k_bnd, k_ret, k_ok, k_bad, k_badM, k_exc, k_lft, k_ite, k_ite', o_some, o_none, o_ite, v_some, k_var, k_c, k_op, k_call, k_call0, k_cb, k_nil, k_cons, k_tup, k_lst, k_bOf, k_bAnd, k_bOr, k_bNot, k_and, k_or, k_not, k_if, k_chain, k_inC, k_neg, k_bm, k_get2, k_pnone, k_psome, k_sl, k_pnil, k_pcons, k_dic, k_gix, k_seq, k_nx, k_rt, k_sbad, k_snil, k_spass, k_set, k_sret, k_sretN, k_sexp, k_sif, k_asg, k_par2, k_par3, k_aug, k_put, k_seqI, k_range1, k_forI, k_lc, List.getElem?_cons_zero, List.getElem?_cons_succ, List.set_cons_zero, List.set_cons_succ, List.length_cons, List.length_nil, if_true, if_false, Bool.not_true, Bool.not_false, Bool.false_eq_true, ite_true, ite_false, reduceIte, Nat.reduceAdd, Nat.zero_add, k_sortSet, k_range2, iadd_i, add_i, sub_i, eq_i, eq_s, ne_i, ne_s, ne_b, lt_i, le_i, gt_i, ge_i, ix_0, ix_1, ix_2, flat_str, flat_int, flat_non, sz_0, sz_1, sz_2, sz_3, sz_4, sz_5, sz_6, sz_7, sz_8, sz_9, decide_eq_true_eq, Bool.not_eq_eq_eq_not, decide_eq_false_iff_not, decide_true, decide_false, true_and, and_true, exists_eq_left, inC_strs, not_true_eq_false, not_false_eq_true])
local macro_rules | `(tactic| walk_at "g2") => `(tactic| simp only [k_bnd, k_ret, k_ok, k_bad, k_badM, k_exc, k_lft, k_ite, k_ite', o_some, o_none, o_ite, v_some, k_var, k_c, k_op, k_call, k_call0, k_cb, k_nil, k_cons, k_tup, k_lst, k_bOf, k_bAnd, k_bOr, k_bNot, k_and, k_or, k_not, k_if, k_chain, k_inC, k_neg, k_bm, k_get2, k_pnone, k_psome, k_sl, k_pnil, k_pcons, k_dic, k_gix, k_seq, k_nx, k_rt, k_sbad, k_snil, k_spass, k_set, k_sret, k_sretN, k_sexp, k_sif, k_asg, k_par2, k_par3, k_aug, k_put, k_seqI, k_range1, k_forI, k_lc, List.getElem?_cons_zero, List.getElem?_cons_succ, List.set_cons_zero, List.set_cons_succ, List.length_cons, List.length_nil, if_true, if_false, Bool.not_true, Bool.not_false, Bool.false_eq_true, ite_true, ite_false, reduceIte, Nat.reduceAdd, Nat.zero_add, k_sortSet, iadd_i, add_i, sub_i, eq_i, eq_s, ne_i, ne_s, ne_b, lt_i, le_i, gt_i, ge_i, ix_0, ix_1, ix_2, flat_str, flat_int, flat_non, sz_0, sz_1, sz_2, sz_3, sz_4, sz_5, sz_6, sz_7, sz_8, sz_9, decide_eq_true_eq, Bool.not_eq_eq_eq_not, decide_eq_false_iff_not, decide_true, decide_false, true_and, and_true, exists_eq_left, inC_strs, not_true_eq_false, not_false_eq_true, k_isE, k_tryAs, k_tryO, k_raiseA, k_raise, Bool.true_eq_false, reduceCtorEq, ne_eq])
local macro_rules | `(tactic| walk_at "g1") => `(tactic| simp only [k_bnd, k_ret, k_ok, k_bad, k_badM, k_exc, k_lft, k_ite, k_ite', o_some, o_none, o_ite, v_some, k_var, k_c, k_op, k_call, k_call0, k_cb, k_nil, k_cons, k_tup, k_lst, k_bOf, k_bAnd, k_bOr, k_bNot, k_and, k_or, k_not, k_if, k_chain, k_inC, k_neg, k_bm, k_get2, k_pnone, k_psome, k_sl, k_pnil, k_pcons, k_dic, k_gix, k_seq, k_nx, k_rt, k_sbad, k_snil, k_spass, k_set, k_sret, k_sretN, k_sexp, k_sif, k_asg, k_par2, k_par3, k_aug, k_put, k_seqI, k_forI, k_lc, List.getElem?_cons_zero, List.getElem?_cons_succ, List.set_cons_zero, List.set_cons_succ, List.length_cons, List.length_nil, if_true, if_false, Bool.not_true, Bool.not_false, Bool.false_eq_true, ite_true, ite_false, reduceIte, Nat.reduceAdd, Nat.zero_add, k_sortSet, iadd_i, add_i, sub_i, eq_i, eq_s, ne_i, ne_s, ne_b, lt_i, le_i, gt_i, ge_i, ix_0, ix_1, ix_2, flat_str, flat_int, flat_non, sz_0, sz_1, sz_2, sz_3, sz_4, sz_5, sz_6, sz_7, sz_8, sz_9, decide_eq_true_eq, Bool.not_eq_eq_eq_not, decide_eq_false_iff_not, decide_true, decide_false, true_and, and_true, exists_eq_left, inC_strs, not_true_eq_false, not_false_eq_true, k_isE, k_tryAs, k_tryO, k_raiseA, k_raise, Bool.true_eq_false, reduceCtorEq, ne_eq])
local macro_rules | `(tactic| walk_at "gz") => `(tactic| simp only [k_bnd, k_ret, k_ok, k_bad, k_badM, k_exc, k_lft, k_ite, k_ite', o_some, o_none, o_ite, v_some, k_var, k_c, k_op, k_call, k_call0, k_cb, k_nil, k_cons, k_tup, k_lst, k_bOf, k_bAnd, k_bOr, k_bNot, k_and, k_or, k_not, k_if, k_chain, k_inC, k_neg, k_bm, k_get2, k_pnone, k_psome, k_sl, k_pnil, k_pcons, k_dic, k_gix, k_seq, k_nx, k_rt, k_sbad, k_snil, k_spass, k_set, k_sret, k_sretN, k_sexp, k_sif, k_asg, k_par2, k_par3, k_aug, k_put, k_seqI, k_range1, k_forI, k_lc, List.getElem?_cons_zero, List.getElem?_cons_succ, List.set_cons_zero, List.set_cons_succ, List.length_cons, List.length_nil, if_true, if_false, Bool.not_true, Bool.not_false, Bool.false_eq_true, ite_true, ite_false, reduceIte, Nat.reduceAdd, Nat.zero_add, k_sortSet, k_range2, iadd_i, add_i, sub_i, eq_i, eq_s, ne_i, ne_s, ne_b, lt_i, le_i, gt_i, ge_i, ix_0, ix_1, ix_2, flat_str, flat_int, flat_non, sz_0, sz_1, sz_2, sz_3, sz_4, sz_5, sz_6, sz_7, sz_8, sz_9, decide_eq_true_eq, Bool.not_eq_eq_eq_not, decide_eq_false_iff_not, decide_true, decide_false, true_and, and_true, exists_eq_left, inC_strs, not_true_eq_false, not_false_eq_true, k_isE, k_tryAs, k_tryO, k_raiseA, k_raise, Bool.true_eq_false, reduceCtorEq, ne_eq])
/-- of one to four spreads, the last one not nought but where it is the first -/
structure GoB (N : Int) (g : List Pol) : Prop where
  pos : 0 < g.length
  len : g.length ≤ 4
  sp : ∀ p ∈ g, SpB N p
  last : g.length = 1 ∨ g.getLast? ≠ some []
section
variable {spf : Fn} {y N : Int} {st : Sto} {d : D}
end
end Sh

set_option maxHeartbeats 4000000
/-! ShLx: [elt for target in iter] whose element calls a def that may raise. -/
namespace Sh
open PySem PySem.Spec PyProof.Rows L2
section
variable {X : Cx} {E : XK} {elt tg iter : Expr} {scope : Scope} {own : List (Str × Nat)} {pos : Pos} {m : Ev → M (Nat × Src)} {is : List Nat} {t : D → Ev → Option Ev} {el : EM}
end
end Sh

set_option maxHeartbeats 1000000
/-! ShIa: += of a tuple on a tuple. -/
namespace Sh
open PySem PySem.Spec PyProof.Rows L2
section
variable {prog : Program} {w : World} {A : Around} {E : Value → Shared → Prop} {s : Shared}
end
end Sh

set_option maxHeartbeats 1000000
namespace Sh
open PySem PySem.Spec PyProof.Rows L2
local macro_rules | `(tactic| walk_at "go") => `(tactic| simp only [k_bnd, k_ret, k_ok, k_bad, k_badM, k_exc, k_lft, k_ite, k_ite', o_some, o_none, o_ite, v_some, k_var, k_c, k_op, k_call, k_call0, k_cb, k_nil, k_cons, k_tup, k_lst, k_bOf, k_bAnd, k_bOr, k_bNot, k_and, k_or, k_not, k_if, k_chain, k_inC, k_neg, k_bm, k_get2, k_pnone, k_psome, k_sl, k_pnil, k_pcons, k_dic, k_gix, k_seq, k_nx, k_rt, k_sbad, k_snil, k_spass, k_set, k_sret, k_sretN, k_sexp, k_sif, k_asg, k_par2, k_par3, k_aug, k_put, k_seqI, k_range1, k_forI, k_lc, List.getElem?_cons_zero, List.getElem?_cons_succ, List.set_cons_zero, List.set_cons_succ, List.length_cons, List.length_nil, if_true, if_false, Bool.not_true, Bool.not_false, Bool.false_eq_true, ite_true, ite_false, reduceIte, Nat.reduceAdd, Nat.zero_add])
local macro_rules | `(tactic| walk_at "gg") => `(tactic| simp only [k_bnd, k_ret, k_ok, k_bad, k_badM, k_exc, k_lft, k_ite, k_ite', o_some, o_none, o_ite, v_some, k_var, k_c, k_op, k_call, k_call0, k_cb, k_nil, k_cons, k_tup, k_lst, k_bOf, k_bAnd, k_bOr, k_bNot, k_and, k_or, k_not, k_if, k_chain, k_inC, k_neg, k_bm, k_get2, k_pnone, k_psome, k_sl, k_pnil, k_pcons, k_dic, k_gix, k_seq, k_nx, k_rt, k_sbad, k_snil, k_spass, k_set, k_sret, k_sretN, k_sexp, k_sif, k_asg, k_par2, k_par3, k_aug, k_put, k_seqI, k_range1, k_forI, k_lc, List.getElem?_cons_zero, List.getElem?_cons_succ, List.set_cons_zero, List.set_cons_succ, List.length_cons, List.length_nil, if_true, if_false, Bool.not_true, Bool.not_false, Bool.false_eq_true, ite_true, ite_false, reduceIte, Nat.reduceAdd, Nat.zero_add, k_sortSet, k_range2, iadd_i, add_i, sub_i, eq_i, eq_s, ne_i, ne_s, ne_b, lt_i, le_i, gt_i, ge_i, ix_0, ix_1, ix_2, flat_str, flat_int, flat_non, sz_0, sz_1, sz_2, sz_3, sz_4, sz_5, sz_6, sz_7, sz_8, sz_9, decide_eq_true_eq, Bool.not_eq_eq_eq_not, decide_eq_false_iff_not, decide_true, decide_false, true_and, and_true, exists_eq_left, inC_strs, not_true_eq_false, not_false_eq_true])
local macro_rules | `(tactic| walk_at "g2") => `(tactic| simp only [k_bnd, k_ret, k_ok, k_bad, k_badM, k_exc, k_lft, k_ite, k_ite', o_some, o_none, o_ite, v_some, k_var, k_c, k_op, k_call, k_call0, k_cb, k_nil, k_cons, k_tup, k_lst, k_bOf, k_bAnd, k_bOr, k_bNot, k_and, k_or, k_not, k_if, k_chain, k_inC, k_neg, k_bm, k_get2, k_pnone, k_psome, k_sl, k_pnil, k_pcons, k_dic, k_gix, k_seq, k_nx, k_rt, k_sbad, k_snil, k_spass, k_set, k_sret, k_sretN, k_sexp, k_sif, k_asg, k_par2, k_par3, k_aug, k_put, k_seqI, k_range1, k_forI, k_lc, List.getElem?_cons_zero, List.getElem?_cons_succ, List.set_cons_zero, List.set_cons_succ, List.length_cons, List.length_nil, if_true, if_false, Bool.not_true, Bool.not_false, Bool.false_eq_true, ite_true, ite_false, reduceIte, Nat.reduceAdd, Nat.zero_add, k_sortSet, iadd_i, add_i, sub_i, eq_i, eq_s, ne_i, ne_s, ne_b, lt_i, le_i, gt_i, ge_i, ix_0, ix_1, ix_2, flat_str, flat_int, flat_non, sz_0, sz_1, sz_2, sz_3, sz_4, sz_5, sz_6, sz_7, sz_8, sz_9, decide_eq_true_eq, Bool.not_eq_eq_eq_not, decide_eq_false_iff_not, decide_true, decide_false, true_and, and_true, exists_eq_left, inC_strs, not_true_eq_false, not_false_eq_true, k_isE, k_tryAs, k_tryO, k_raiseA, k_raise, Bool.true_eq_false, reduceCtorEq, ne_eq])
local macro_rules | `(tactic| walk_at "g1") => `(tactic| simp only [k_bnd, k_ret, k_ok, k_bad, k_badM, k_exc, k_lft, k_ite, k_ite', o_some, o_none, o_ite, v_some, k_var, k_c, k_op, k_call, k_call0, k_cb, k_nil, k_cons, k_tup, k_lst, k_bOf, k_bAnd, k_bOr, k_bNot, k_and, k_or, k_not, k_if, k_chain, k_inC, k_neg, k_bm, k_get2, k_pnone, k_psome, k_sl, k_pnil, k_pcons, k_dic, k_gix, k_seq, k_nx, k_rt, k_sbad, k_snil, k_spass, k_set, k_sret, k_sretN, k_sexp, k_sif, k_asg, k_par2, k_par3, k_aug, k_put, k_seqI, k_forI, k_lc, List.getElem?_cons_zero, List.getElem?_cons_succ, List.set_cons_zero, List.set_cons_succ, List.length_cons, List.length_nil, if_true, if_false, Bool.not_true, Bool.not_false, Bool.false_eq_true, ite_true, ite_false, reduceIte, Nat.reduceAdd, Nat.zero_add, k_sortSet, iadd_i, add_i, sub_i, eq_i, eq_s, ne_i, ne_s, ne_b, lt_i, le_i, gt_i, ge_i, ix_0, ix_1, ix_2, flat_str, flat_int, flat_non, sz_0, sz_1, sz_2, sz_3, sz_4, sz_5, sz_6, sz_7, sz_8, sz_9, decide_eq_true_eq, Bool.not_eq_eq_eq_not, decide_eq_false_iff_not, decide_true, decide_false, true_and, and_true, exists_eq_left, inC_strs, not_true_eq_false, not_false_eq_true, k_isE, k_tryAs, k_tryO, k_raiseA, k_raise, Bool.true_eq_false, reduceCtorEq, ne_eq])
local macro_rules | `(tactic| walk_at "gz") => `(tactic| simp only [k_bnd, k_ret, k_ok, k_bad, k_badM, k_exc, k_lft, k_ite, k_ite', o_some, o_none, o_ite, v_some, k_var, k_c, k_op, k_call, k_call0, k_cb, k_nil, k_cons, k_tup, k_lst, k_bOf, k_bAnd, k_bOr, k_bNot, k_and, k_or, k_not, k_if, k_chain, k_inC, k_neg, k_bm, k_get2, k_pnone, k_psome, k_sl, k_pnil, k_pcons, k_dic, k_gix, k_seq, k_nx, k_rt, k_sbad, k_snil, k_spass, k_set, k_sret, k_sretN, k_sexp, k_sif, k_asg, k_par2, k_par3, k_aug, k_put, k_seqI, k_range1, k_forI, k_lc, List.getElem?_cons_zero, List.getElem?_cons_succ, List.set_cons_zero, List.set_cons_succ, List.length_cons, List.length_nil, if_true, if_false, Bool.not_true, Bool.not_false, Bool.false_eq_true, ite_true, ite_false, reduceIte, Nat.reduceAdd, Nat.zero_add, k_sortSet, k_range2, iadd_i, add_i, sub_i, eq_i, eq_s, ne_i, ne_s, ne_b, lt_i, le_i, gt_i, ge_i, ix_0, ix_1, ix_2, flat_str, flat_int, flat_non, sz_0, sz_1, sz_2, sz_3, sz_4, sz_5, sz_6, sz_7, sz_8, sz_9, decide_eq_true_eq, Bool.not_eq_eq_eq_not, decide_eq_false_iff_not, decide_true, decide_false, true_and, and_true, exists_eq_left, inC_strs, not_true_eq_false, not_false_eq_true, k_isE, k_tryAs, k_tryO, k_raiseA, k_raise, Bool.true_eq_false, reduceCtorEq, ne_eq])
theorem getD_memP {s : List Pol} {k : Nat} (h : k < s.length) : s.getD k [] ∈ s := by
  rw [List.getD_eq_getElem?_getD, List.getElem?_eq_getElem h]
  exact List.getElem_mem h
/-- steps as the tools take them -/
structure GOk (g : List Pol) : Prop where
  ne : g ≠ []
  len : g.length ≤ 8
  ok : ∀ p ∈ g, POk p
  ln : ∀ p ∈ g, p.length ≤ 1000
  nm : ∀ p ∈ g, ∀ e ∈ p, e.1.length ≤ 20
  fa : ∀ p ∈ g, ∀ e ∈ p, 0 ≤ e.2 ∧ e.2 < 2 ^ 64
section
variable {allT number over bounded summed step ended turned both shared : Fn} {y N : Int} {g g' : List Pol}
end
end Sh

set_option maxHeartbeats 1000000
namespace Sh
open PySem PySem.Spec PyProof.Rows L2
local macro_rules | `(tactic| walk_at "go") => `(tactic| simp only [k_bnd, k_ret, k_ok, k_bad, k_badM, k_exc, k_lft, k_ite, k_ite', o_some, o_none, o_ite, v_some, k_var, k_c, k_op, k_call, k_call0, k_cb, k_nil, k_cons, k_tup, k_lst, k_bOf, k_bAnd, k_bOr, k_bNot, k_and, k_or, k_not, k_if, k_chain, k_inC, k_neg, k_bm, k_get2, k_pnone, k_psome, k_sl, k_pnil, k_pcons, k_dic, k_gix, k_seq, k_nx, k_rt, k_sbad, k_snil, k_spass, k_set, k_sret, k_sretN, k_sexp, k_sif, k_asg, k_par2, k_par3, k_aug, k_put, k_seqI, k_range1, k_forI, k_lc, List.getElem?_cons_zero, List.getElem?_cons_succ, List.set_cons_zero, List.set_cons_succ, List.length_cons, List.length_nil, if_true, if_false, Bool.not_true, Bool.not_false, Bool.false_eq_true, ite_true, ite_false, reduceIte, Nat.reduceAdd, Nat.zero_add])
local macro_rules | `(tactic| walk_at "gg") => `(tactic| simp only [k_bnd, k_ret, k_ok, k_bad, k_badM, k_exc, k_lft, k_ite, k_ite', o_some, o_none, o_ite, v_some, k_var, k_c, k_op, k_call, k_call0, k_cb, k_nil, k_cons, k_tup, k_lst, k_bOf, k_bAnd, k_bOr, k_bNot, k_and, k_or, k_not, k_if, k_chain, k_inC, k_neg, k_bm, k_get2, k_pnone, k_psome, k_sl, k_pnil, k_pcons, k_dic, k_gix, k_seq, k_nx, k_rt, k_sbad, k_snil, k_spass, k_set, k_sret, k_sretN, k_sexp, k_sif, k_asg, k_par2, k_par3, k_aug, k_put, k_seqI, k_range1, k_forI, k_lc, List.getElem?_cons_zero, List.getElem?_cons_succ, List.set_cons_zero, List.set_cons_succ, List.length_cons, List.length_nil, if_true, if_false, Bool.not_true, Bool.not_false, Bool.false_eq_true, ite_true, ite_false, reduceIte, Nat.reduceAdd, Nat.zero_add, k_sortSet, k_range2, iadd_i, add_i, sub_i, eq_i, eq_s, ne_i, ne_s, ne_b, lt_i, le_i, gt_i, ge_i, ix_0, ix_1, ix_2, flat_str, flat_int, flat_non, sz_0, sz_1, sz_2, sz_3, sz_4, sz_5, sz_6, sz_7, sz_8, sz_9, decide_eq_true_eq, Bool.not_eq_eq_eq_not, decide_eq_false_iff_not, decide_true, decide_false, true_and, and_true, exists_eq_left, inC_strs, not_true_eq_false, not_false_eq_true])
local macro_rules | `(tactic| walk_at "g2") => `(tactic| simp only [k_bnd, k_ret, k_ok, k_bad, k_badM, k_exc, k_lft, k_ite, k_ite', o_some, o_none, o_ite, v_some, k_var, k_c, k_op, k_call, k_call0, k_cb, k_nil, k_cons, k_tup, k_lst, k_bOf, k_bAnd, k_bOr, k_bNot, k_and, k_or, k_not, k_if, k_chain, k_inC, k_neg, k_bm, k_get2, k_pnone, k_psome, k_sl, k_pnil, k_pcons, k_dic, k_gix, k_seq, k_nx, k_rt, k_sbad, k_snil, k_spass, k_set, k_sret, k_sretN, k_sexp, k_sif, k_asg, k_par2, k_par3, k_aug, k_put, k_seqI, k_range1, k_forI, k_lc, List.getElem?_cons_zero, List.getElem?_cons_succ, List.set_cons_zero, List.set_cons_succ, List.length_cons, List.length_nil, if_true, if_false, Bool.not_true, Bool.not_false, Bool.false_eq_true, ite_true, ite_false, reduceIte, Nat.reduceAdd, Nat.zero_add, k_sortSet, iadd_i, add_i, sub_i, eq_i, eq_s, ne_i, ne_s, ne_b, lt_i, le_i, gt_i, ge_i, ix_0, ix_1, ix_2, flat_str, flat_int, flat_non, sz_0, sz_1, sz_2, sz_3, sz_4, sz_5, sz_6, sz_7, sz_8, sz_9, decide_eq_true_eq, Bool.not_eq_eq_eq_not, decide_eq_false_iff_not, decide_true, decide_false, true_and, and_true, exists_eq_left, inC_strs, not_true_eq_false, not_false_eq_true, k_isE, k_tryAs, k_tryO, k_raiseA, k_raise, Bool.true_eq_false, reduceCtorEq, ne_eq])
local macro_rules | `(tactic| walk_at "g1") => `(tactic| simp only [k_bnd, k_ret, k_ok, k_bad, k_badM, k_exc, k_lft, k_ite, k_ite', o_some, o_none, o_ite, v_some, k_var, k_c, k_op, k_call, k_call0, k_cb, k_nil, k_cons, k_tup, k_lst, k_bOf, k_bAnd, k_bOr, k_bNot, k_and, k_or, k_not, k_if, k_chain, k_inC, k_neg, k_bm, k_get2, k_pnone, k_psome, k_sl, k_pnil, k_pcons, k_dic, k_gix, k_seq, k_nx, k_rt, k_sbad, k_snil, k_spass, k_set, k_sret, k_sretN, k_sexp, k_sif, k_asg, k_par2, k_par3, k_aug, k_put, k_seqI, k_forI, k_lc, List.getElem?_cons_zero, List.getElem?_cons_succ, List.set_cons_zero, List.set_cons_succ, List.length_cons, List.length_nil, if_true, if_false, Bool.not_true, Bool.not_false, Bool.false_eq_true, ite_true, ite_false, reduceIte, Nat.reduceAdd, Nat.zero_add, k_sortSet, iadd_i, add_i, sub_i, eq_i, eq_s, ne_i, ne_s, ne_b, lt_i, le_i, gt_i, ge_i, ix_0, ix_1, ix_2, flat_str, flat_int, flat_non, sz_0, sz_1, sz_2, sz_3, sz_4, sz_5, sz_6, sz_7, sz_8, sz_9, decide_eq_true_eq, Bool.not_eq_eq_eq_not, decide_eq_false_iff_not, decide_true, decide_false, true_and, and_true, exists_eq_left, inC_strs, not_true_eq_false, not_false_eq_true, k_isE, k_tryAs, k_tryO, k_raiseA, k_raise, Bool.true_eq_false, reduceCtorEq, ne_eq])
local macro_rules | `(tactic| walk_at "gz") => `(tactic| simp only [k_bnd, k_ret, k_ok, k_bad, k_badM, k_exc, k_lft, k_ite, k_ite', o_some, o_none, o_ite, v_some, k_var, k_c, k_op, k_call, k_call0, k_cb, k_nil, k_cons, k_tup, k_lst, k_bOf, k_bAnd, k_bOr, k_bNot, k_and, k_or, k_not, k_if, k_chain, k_inC, k_neg, k_bm, k_get2, k_pnone, k_psome, k_sl, k_pnil, k_pcons, k_dic, k_gix, k_seq, k_nx, k_rt, k_sbad, k_snil, k_spass, k_set, k_sret, k_sretN, k_sexp, k_sif, k_asg, k_par2, k_par3, k_aug, k_put, k_seqI, k_range1, k_forI, k_lc, List.getElem?_cons_zero, List.getElem?_cons_succ, List.set_cons_zero, List.set_cons_succ, List.length_cons, List.length_nil, if_true, if_false, Bool.not_true, Bool.not_false, Bool.false_eq_true, ite_true, ite_false, reduceIte, Nat.reduceAdd, Nat.zero_add, k_sortSet, k_range2, iadd_i, add_i, sub_i, eq_i, eq_s, ne_i, ne_s, ne_b, lt_i, le_i, gt_i, ge_i, ix_0, ix_1, ix_2, flat_str, flat_int, flat_non, sz_0, sz_1, sz_2, sz_3, sz_4, sz_5, sz_6, sz_7, sz_8, sz_9, decide_eq_true_eq, Bool.not_eq_eq_eq_not, decide_eq_false_iff_not, decide_true, decide_false, true_and, and_true, exists_eq_left, inC_strs, not_true_eq_false, not_false_eq_true, k_isE, k_tryAs, k_tryO, k_raiseA, k_raise, Bool.true_eq_false, reduceCtorEq, ne_eq])
section
variable {allT number over bounded summed step ended turned both shared : Fn} {y N : Int} {g g' : List Pol}
end
end Sh

set_option maxHeartbeats 1000000
/-! ShNe: d != {} of dicts. -/
namespace Sh
open PySem PySem.Spec PyProof.Rows L2
end Sh

set_option maxHeartbeats 1000000
namespace Sh
open PySem PySem.Spec PyProof.Rows L2
local macro_rules | `(tactic| walk_at "go") => `(tactic| simp only [k_bnd, k_ret, k_ok, k_bad, k_badM, k_exc, k_lft, k_ite, k_ite', o_some, o_none, o_ite, v_some, k_var, k_c, k_op, k_call, k_call0, k_cb, k_nil, k_cons, k_tup, k_lst, k_bOf, k_bAnd, k_bOr, k_bNot, k_and, k_or, k_not, k_if, k_chain, k_inC, k_neg, k_bm, k_get2, k_pnone, k_psome, k_sl, k_pnil, k_pcons, k_dic, k_gix, k_seq, k_nx, k_rt, k_sbad, k_snil, k_spass, k_set, k_sret, k_sretN, k_sexp, k_sif, k_asg, k_par2, k_par3, k_aug, k_put, k_seqI, k_range1, k_forI, k_lc, List.getElem?_cons_zero, List.getElem?_cons_succ, List.set_cons_zero, List.set_cons_succ, List.length_cons, List.length_nil, if_true, if_false, Bool.not_true, Bool.not_false, Bool.false_eq_true, ite_true, ite_false, reduceIte, Nat.reduceAdd, Nat.zero_add])
local macro_rules | `(tactic| walk_at "gg") => `(tactic| simp only [k_bnd, k_ret, k_ok, k_bad, k_badM, k_exc, k_lft, k_ite, k_ite', o_some, o_none, o_ite, v_some, k_var, k_c, k_op, k_call, k_call0, k_cb, k_nil, k_cons, k_tup, k_lst, k_bOf, k_bAnd, k_bOr, k_bNot, k_and, k_or, k_not, k_if, k_chain, k_inC, k_neg, k_bm, k_get2, k_pnone, k_psome, k_sl, k_pnil, k_pcons, k_dic, k_gix, k_seq, k_nx, k_rt, k_sbad, k_snil, k_spass, k_set, k_sret, k_sretN, k_sexp, k_sif, k_asg, k_par2, k_par3, k_aug, k_put, k_seqI, k_range1, k_forI, k_lc, List.getElem?_cons_zero, List.getElem?_cons_succ, List.set_cons_zero, List.set_cons_succ, List.length_cons, List.length_nil, if_true, if_false, Bool.not_true, Bool.not_false, Bool.false_eq_true, ite_true, ite_false, reduceIte, Nat.reduceAdd, Nat.zero_add, k_sortSet, k_range2, iadd_i, add_i, sub_i, eq_i, eq_s, ne_i, ne_s, ne_b, lt_i, le_i, gt_i, ge_i, ix_0, ix_1, ix_2, flat_str, flat_int, flat_non, sz_0, sz_1, sz_2, sz_3, sz_4, sz_5, sz_6, sz_7, sz_8, sz_9, decide_eq_true_eq, Bool.not_eq_eq_eq_not, decide_eq_false_iff_not, decide_true, decide_false, true_and, and_true, exists_eq_left, inC_strs, not_true_eq_false, not_false_eq_true])
local macro_rules | `(tactic| walk_at "g2") => `(tactic| simp only [k_bnd, k_ret, k_ok, k_bad, k_badM, k_exc, k_lft, k_ite, k_ite', o_some, o_none, o_ite, v_some, k_var, k_c, k_op, k_call, k_call0, k_cb, k_nil, k_cons, k_tup, k_lst, k_bOf, k_bAnd, k_bOr, k_bNot, k_and, k_or, k_not, k_if, k_chain, k_inC, k_neg, k_bm, k_get2, k_pnone, k_psome, k_sl, k_pnil, k_pcons, k_dic, k_gix, k_seq, k_nx, k_rt, k_sbad, k_snil, k_spass, k_set, k_sret, k_sretN, k_sexp, k_sif, k_asg, k_par2, k_par3, k_aug, k_put, k_seqI, k_range1, k_forI, k_lc, List.getElem?_cons_zero, List.getElem?_cons_succ, List.set_cons_zero, List.set_cons_succ, List.length_cons, List.length_nil, if_true, if_false, Bool.not_true, Bool.not_false, Bool.false_eq_true, ite_true, ite_false, reduceIte, Nat.reduceAdd, Nat.zero_add, k_sortSet, iadd_i, add_i, sub_i, eq_i, eq_s, ne_i, ne_s, ne_b, lt_i, le_i, gt_i, ge_i, ix_0, ix_1, ix_2, flat_str, flat_int, flat_non, sz_0, sz_1, sz_2, sz_3, sz_4, sz_5, sz_6, sz_7, sz_8, sz_9, decide_eq_true_eq, Bool.not_eq_eq_eq_not, decide_eq_false_iff_not, decide_true, decide_false, true_and, and_true, exists_eq_left, inC_strs, not_true_eq_false, not_false_eq_true, k_isE, k_tryAs, k_tryO, k_raiseA, k_raise, Bool.true_eq_false, reduceCtorEq, ne_eq])
local macro_rules | `(tactic| walk_at "g1") => `(tactic| simp only [k_bnd, k_ret, k_ok, k_bad, k_badM, k_exc, k_lft, k_ite, k_ite', o_some, o_none, o_ite, v_some, k_var, k_c, k_op, k_call, k_call0, k_cb, k_nil, k_cons, k_tup, k_lst, k_bOf, k_bAnd, k_bOr, k_bNot, k_and, k_or, k_not, k_if, k_chain, k_inC, k_neg, k_bm, k_get2, k_pnone, k_psome, k_sl, k_pnil, k_pcons, k_dic, k_gix, k_seq, k_nx, k_rt, k_sbad, k_snil, k_spass, k_set, k_sret, k_sretN, k_sexp, k_sif, k_asg, k_par2, k_par3, k_aug, k_put, k_seqI, k_forI, k_lc, List.getElem?_cons_zero, List.getElem?_cons_succ, List.set_cons_zero, List.set_cons_succ, List.length_cons, List.length_nil, if_true, if_false, Bool.not_true, Bool.not_false, Bool.false_eq_true, ite_true, ite_false, reduceIte, Nat.reduceAdd, Nat.zero_add, k_sortSet, iadd_i, add_i, sub_i, eq_i, eq_s, ne_i, ne_s, ne_b, lt_i, le_i, gt_i, ge_i, ix_0, ix_1, ix_2, flat_str, flat_int, flat_non, sz_0, sz_1, sz_2, sz_3, sz_4, sz_5, sz_6, sz_7, sz_8, sz_9, decide_eq_true_eq, Bool.not_eq_eq_eq_not, decide_eq_false_iff_not, decide_true, decide_false, true_and, and_true, exists_eq_left, inC_strs, not_true_eq_false, not_false_eq_true, k_isE, k_tryAs, k_tryO, k_raiseA, k_raise, Bool.true_eq_false, reduceCtorEq, ne_eq])
local macro_rules | `(tactic| walk_at "gz") => `(tactic| simp only [k_bnd, k_ret, k_ok, k_bad, k_badM, k_exc, k_lft, k_ite, k_ite', o_some, o_none, o_ite, v_some, k_var, k_c, k_op, k_call, k_call0, k_cb, k_nil, k_cons, k_tup, k_lst, k_bOf, k_bAnd, k_bOr, k_bNot, k_and, k_or, k_not, k_if, k_chain, k_inC, k_neg, k_bm, k_get2, k_pnone, k_psome, k_sl, k_pnil, k_pcons, k_dic, k_gix, k_seq, k_nx, k_rt, k_sbad, k_snil, k_spass, k_set, k_sret, k_sretN, k_sexp, k_sif, k_asg, k_par2, k_par3, k_aug, k_put, k_seqI, k_range1, k_forI, k_lc, List.getElem?_cons_zero, List.getElem?_cons_succ, List.set_cons_zero, List.set_cons_succ, List.length_cons, List.length_nil, if_true, if_false, Bool.not_true, Bool.not_false, Bool.false_eq_true, ite_true, ite_false, reduceIte, Nat.reduceAdd, Nat.zero_add, k_sortSet, k_range2, iadd_i, add_i, sub_i, eq_i, eq_s, ne_i, ne_s, ne_b, lt_i, le_i, gt_i, ge_i, ix_0, ix_1, ix_2, flat_str, flat_int, flat_non, sz_0, sz_1, sz_2, sz_3, sz_4, sz_5, sz_6, sz_7, sz_8, sz_9, decide_eq_true_eq, Bool.not_eq_eq_eq_not, decide_eq_false_iff_not, decide_true, decide_false, true_and, and_true, exists_eq_left, inC_strs, not_true_eq_false, not_false_eq_true, k_isE, k_tryAs, k_tryO, k_raiseA, k_raise, Bool.true_eq_false, reduceCtorEq, ne_eq])
/-! ### the law's rows of dicts -/
structure Ps (N : Int) (K : List Mon) (As : List Pol) (ls : List Nat) (st : Sto) : Prop where
  len : ls.length = As.length
  at_ : ∀ (k : Nat) (A : Pol) (l : Nat), As[k]? = some A → ls[k]? = some l → Dc N A l st
  key : ∀ A ∈ As, ∀ e ∈ A, e.1 ∈ K
theorem Ps.ext {N : Int} {K : List Mon} {As : List Pol} {ls : List Nat} {st st' : Sto} (h : Ps N K As ls st) (k : Ext st st') : Ps N K As ls st' := ⟨h.len, fun i A l a b => (h.at_ i A l a b).ext k, h.key⟩
theorem Ps.nil {N : Int} {K : List Mon} {st : Sto} : Ps N K [] [] st := ⟨rfl, fun k A l h => by simp at h, fun A h => by cases h⟩
theorem Ps.snoc {N : Int} {K : List Mon} {As : List Pol} {ls : List Nat} {A : Pol} {l : Nat} {st : Sto} (h : Ps N K As ls st) (hA : Dc N A l st) (hk : ∀ e ∈ A, e.1 ∈ K) : Ps N K (As ++ [A]) (ls ++ [l]) st := by
  refine ⟨by rw [List.length_append, List.length_append, h.len]; rfl, fun k B m a b => ?_, fun B hB => ?_⟩
  · by_cases hlt : k < As.length
    · rw [List.getElem?_append_left hlt] at a
      rw [List.getElem?_append_left (by rw [h.len]; exact hlt)] at b
      exact h.at_ k B m a b
    · rw [List.getElem?_append_right (by omega)] at a
      rw [List.getElem?_append_right (by rw [h.len]; omega), h.len] at b
      cases hq : k - As.length with
      | zero =>
        rw [hq] at a b
        cases a
        cases b
        exact hA
      | succ q => rw [hq] at a; simp at a
  · rcases List.mem_append.mp hB with hB | hB
    · exact h.key B hB
    · rw [List.mem_singleton.mp hB]; exact hk
theorem Ps.get {N : Int} {K : List Mon} {As : List Pol} {ls : List Nat} {st : Sto} (h : Ps N K As ls st) {k : Nat} (hk : k < As.length) : ∃ l, ls[k]? = some l ∧ Dc N (As.getD k []) l st ∧ ∀ e ∈ As.getD k [], e.1 ∈ K := by
  have h1 : k < ls.length := by rw [h.len]; exact hk
  refine ⟨ls[k], List.getElem?_eq_getElem h1, h.at_ k _ _ ?_ (List.getElem?_eq_getElem h1), h.key _ (getD_memP hk)⟩
  rw [List.getD_eq_getElem?_getD, List.getElem?_eq_getElem hk]
  rfl
section
variable {plus over fits pairs poly take pick drawn : Fn} {N : Int} {K : List Mon} {As : List Pol} {ls : List Nat}
end
theorem Ps.take {N : Int} {K : List Mon} {As : List Pol} {ls : List Nat} {st : Sto} (h : Ps N K As ls st) (n : Nat) : Ps N K (As.take n) (ls.take n) st := by
  refine ⟨by rw [List.length_take, List.length_take, h.len], fun k A l a b => ?_, fun A hA => h.key A (List.mem_of_mem_take hA)⟩
  rw [List.getElem?_take] at a b
  split at a
  · rename_i hk
    rw [if_pos hk] at b
    exact h.at_ k A l a b
  · cases a
section
variable {plus over fits pairs poly take pick drawn : Fn} {N : Int} {K : List Mon} {As : List Pol} {ls : List Nat}
end
end Sh

set_option maxHeartbeats 1000000
namespace Sh
open PySem PySem.Spec PyProof.Rows L2
local macro_rules | `(tactic| walk_at "go") => `(tactic| simp only [k_bnd, k_ret, k_ok, k_bad, k_badM, k_exc, k_lft, k_ite, k_ite', o_some, o_none, o_ite, v_some, k_var, k_c, k_op, k_call, k_call0, k_cb, k_nil, k_cons, k_tup, k_lst, k_bOf, k_bAnd, k_bOr, k_bNot, k_and, k_or, k_not, k_if, k_chain, k_inC, k_neg, k_bm, k_get2, k_pnone, k_psome, k_sl, k_pnil, k_pcons, k_dic, k_gix, k_seq, k_nx, k_rt, k_sbad, k_snil, k_spass, k_set, k_sret, k_sretN, k_sexp, k_sif, k_asg, k_par2, k_par3, k_aug, k_put, k_seqI, k_range1, k_forI, k_lc, List.getElem?_cons_zero, List.getElem?_cons_succ, List.set_cons_zero, List.set_cons_succ, List.length_cons, List.length_nil, if_true, if_false, Bool.not_true, Bool.not_false, Bool.false_eq_true, ite_true, ite_false, reduceIte, Nat.reduceAdd, Nat.zero_add])
local macro_rules | `(tactic| walk_at "gg") => `(tactic| simp only [k_bnd, k_ret, k_ok, k_bad, k_badM, k_exc, k_lft, k_ite, k_ite', o_some, o_none, o_ite, v_some, k_var, k_c, k_op, k_call, k_call0, k_cb, k_nil, k_cons, k_tup, k_lst, k_bOf, k_bAnd, k_bOr, k_bNot, k_and, k_or, k_not, k_if, k_chain, k_inC, k_neg, k_bm, k_get2, k_pnone, k_psome, k_sl, k_pnil, k_pcons, k_dic, k_gix, k_seq, k_nx, k_rt, k_sbad, k_snil, k_spass, k_set, k_sret, k_sretN, k_sexp, k_sif, k_asg, k_par2, k_par3, k_aug, k_put, k_seqI, k_range1, k_forI, k_lc, List.getElem?_cons_zero, List.getElem?_cons_succ, List.set_cons_zero, List.set_cons_succ, List.length_cons, List.length_nil, if_true, if_false, Bool.not_true, Bool.not_false, Bool.false_eq_true, ite_true, ite_false, reduceIte, Nat.reduceAdd, Nat.zero_add, k_sortSet, k_range2, iadd_i, add_i, sub_i, eq_i, eq_s, ne_i, ne_s, ne_b, lt_i, le_i, gt_i, ge_i, ix_0, ix_1, ix_2, flat_str, flat_int, flat_non, sz_0, sz_1, sz_2, sz_3, sz_4, sz_5, sz_6, sz_7, sz_8, sz_9, decide_eq_true_eq, Bool.not_eq_eq_eq_not, decide_eq_false_iff_not, decide_true, decide_false, true_and, and_true, exists_eq_left, inC_strs, not_true_eq_false, not_false_eq_true])
local macro_rules | `(tactic| walk_at "g2") => `(tactic| simp only [k_bnd, k_ret, k_ok, k_bad, k_badM, k_exc, k_lft, k_ite, k_ite', o_some, o_none, o_ite, v_some, k_var, k_c, k_op, k_call, k_call0, k_cb, k_nil, k_cons, k_tup, k_lst, k_bOf, k_bAnd, k_bOr, k_bNot, k_and, k_or, k_not, k_if, k_chain, k_inC, k_neg, k_bm, k_get2, k_pnone, k_psome, k_sl, k_pnil, k_pcons, k_dic, k_gix, k_seq, k_nx, k_rt, k_sbad, k_snil, k_spass, k_set, k_sret, k_sretN, k_sexp, k_sif, k_asg, k_par2, k_par3, k_aug, k_put, k_seqI, k_range1, k_forI, k_lc, List.getElem?_cons_zero, List.getElem?_cons_succ, List.set_cons_zero, List.set_cons_succ, List.length_cons, List.length_nil, if_true, if_false, Bool.not_true, Bool.not_false, Bool.false_eq_true, ite_true, ite_false, reduceIte, Nat.reduceAdd, Nat.zero_add, k_sortSet, iadd_i, add_i, sub_i, eq_i, eq_s, ne_i, ne_s, ne_b, lt_i, le_i, gt_i, ge_i, ix_0, ix_1, ix_2, flat_str, flat_int, flat_non, sz_0, sz_1, sz_2, sz_3, sz_4, sz_5, sz_6, sz_7, sz_8, sz_9, decide_eq_true_eq, Bool.not_eq_eq_eq_not, decide_eq_false_iff_not, decide_true, decide_false, true_and, and_true, exists_eq_left, inC_strs, not_true_eq_false, not_false_eq_true, k_isE, k_tryAs, k_tryO, k_raiseA, k_raise, Bool.true_eq_false, reduceCtorEq, ne_eq])
local macro_rules | `(tactic| walk_at "g1") => `(tactic| simp only [k_bnd, k_ret, k_ok, k_bad, k_badM, k_exc, k_lft, k_ite, k_ite', o_some, o_none, o_ite, v_some, k_var, k_c, k_op, k_call, k_call0, k_cb, k_nil, k_cons, k_tup, k_lst, k_bOf, k_bAnd, k_bOr, k_bNot, k_and, k_or, k_not, k_if, k_chain, k_inC, k_neg, k_bm, k_get2, k_pnone, k_psome, k_sl, k_pnil, k_pcons, k_dic, k_gix, k_seq, k_nx, k_rt, k_sbad, k_snil, k_spass, k_set, k_sret, k_sretN, k_sexp, k_sif, k_asg, k_par2, k_par3, k_aug, k_put, k_seqI, k_forI, k_lc, List.getElem?_cons_zero, List.getElem?_cons_succ, List.set_cons_zero, List.set_cons_succ, List.length_cons, List.length_nil, if_true, if_false, Bool.not_true, Bool.not_false, Bool.false_eq_true, ite_true, ite_false, reduceIte, Nat.reduceAdd, Nat.zero_add, k_sortSet, iadd_i, add_i, sub_i, eq_i, eq_s, ne_i, ne_s, ne_b, lt_i, le_i, gt_i, ge_i, ix_0, ix_1, ix_2, flat_str, flat_int, flat_non, sz_0, sz_1, sz_2, sz_3, sz_4, sz_5, sz_6, sz_7, sz_8, sz_9, decide_eq_true_eq, Bool.not_eq_eq_eq_not, decide_eq_false_iff_not, decide_true, decide_false, true_and, and_true, exists_eq_left, inC_strs, not_true_eq_false, not_false_eq_true, k_isE, k_tryAs, k_tryO, k_raiseA, k_raise, Bool.true_eq_false, reduceCtorEq, ne_eq])
local macro_rules | `(tactic| walk_at "gz") => `(tactic| simp only [k_bnd, k_ret, k_ok, k_bad, k_badM, k_exc, k_lft, k_ite, k_ite', o_some, o_none, o_ite, v_some, k_var, k_c, k_op, k_call, k_call0, k_cb, k_nil, k_cons, k_tup, k_lst, k_bOf, k_bAnd, k_bOr, k_bNot, k_and, k_or, k_not, k_if, k_chain, k_inC, k_neg, k_bm, k_get2, k_pnone, k_psome, k_sl, k_pnil, k_pcons, k_dic, k_gix, k_seq, k_nx, k_rt, k_sbad, k_snil, k_spass, k_set, k_sret, k_sretN, k_sexp, k_sif, k_asg, k_par2, k_par3, k_aug, k_put, k_seqI, k_range1, k_forI, k_lc, List.getElem?_cons_zero, List.getElem?_cons_succ, List.set_cons_zero, List.set_cons_succ, List.length_cons, List.length_nil, if_true, if_false, Bool.not_true, Bool.not_false, Bool.false_eq_true, ite_true, ite_false, reduceIte, Nat.reduceAdd, Nat.zero_add, k_sortSet, k_range2, iadd_i, add_i, sub_i, eq_i, eq_s, ne_i, ne_s, ne_b, lt_i, le_i, gt_i, ge_i, ix_0, ix_1, ix_2, flat_str, flat_int, flat_non, sz_0, sz_1, sz_2, sz_3, sz_4, sz_5, sz_6, sz_7, sz_8, sz_9, decide_eq_true_eq, Bool.not_eq_eq_eq_not, decide_eq_false_iff_not, decide_true, decide_false, true_and, and_true, exists_eq_left, inC_strs, not_true_eq_false, not_false_eq_true, k_isE, k_tryAs, k_tryO, k_raiseA, k_raise, Bool.true_eq_false, reduceCtorEq, ne_eq])
/-! ### drawn goings -/
structure SDr (N : Int) (ws : List Str) (many : Nat) (p : Pol) : Prop extends Spr N p where
  len : p.length ≤ many ∨ p.length ≤ 2
  nms : ∀ e ∈ p, e.1.length ≤ 2 ∧ ∀ w ∈ e.1, w ∈ ws
theorem SDr.nil {N : Int} {ws : List Str} {many : Nat} : SDr N ws many [] := ⟨⟨Can.nil, fun e h => (by cases h), List.Pairwise.nil⟩, .inr (by simp), fun e h => by cases h⟩
section
variable {take pick drawn : Fn} {N : Int} {s g c : Nat} {I : Sto → Prop} {st : Sto}
theorem pick4I {xs : List Int} {i : Int} {st : Sto} {l : Nat} (h0 : 0 ≤ i) (h1 : i < xs.length) (h : st[l]? = some (.lst (xs.map D.int))) : ∃ v : Int, oIx (.loc l) (.int i) st = some (.int v, st) ∧ v ∈ xs := by
  have hi : i.toNat < xs.length := by omega
  exact ⟨xs[i.toNat], ix_lst (lst_at h) (by rw [at_nat h0 (by rw [List.length_map]; exact h1), List.getElem?_map, List.getElem?_eq_getElem hi]; rfl), List.getElem_mem hi⟩
end
end Sh

set_option maxHeartbeats 1000000
namespace Sh
open PySem PySem.Spec PyProof.Rows L2
local macro_rules | `(tactic| walk_at "go") => `(tactic| simp only [k_bnd, k_ret, k_ok, k_bad, k_badM, k_exc, k_lft, k_ite, k_ite', o_some, o_none, o_ite, v_some, k_var, k_c, k_op, k_call, k_call0, k_cb, k_nil, k_cons, k_tup, k_lst, k_bOf, k_bAnd, k_bOr, k_bNot, k_and, k_or, k_not, k_if, k_chain, k_inC, k_neg, k_bm, k_get2, k_pnone, k_psome, k_sl, k_pnil, k_pcons, k_dic, k_gix, k_seq, k_nx, k_rt, k_sbad, k_snil, k_spass, k_set, k_sret, k_sretN, k_sexp, k_sif, k_asg, k_par2, k_par3, k_aug, k_put, k_seqI, k_range1, k_forI, k_lc, List.getElem?_cons_zero, List.getElem?_cons_succ, List.set_cons_zero, List.set_cons_succ, List.length_cons, List.length_nil, if_true, if_false, Bool.not_true, Bool.not_false, Bool.false_eq_true, ite_true, ite_false, reduceIte, Nat.reduceAdd, Nat.zero_add])
local macro_rules | `(tactic| walk_at "gg") => `(tactic| simp only [k_bnd, k_ret, k_ok, k_bad, k_badM, k_exc, k_lft, k_ite, k_ite', o_some, o_none, o_ite, v_some, k_var, k_c, k_op, k_call, k_call0, k_cb, k_nil, k_cons, k_tup, k_lst, k_bOf, k_bAnd, k_bOr, k_bNot, k_and, k_or, k_not, k_if, k_chain, k_inC, k_neg, k_bm, k_get2, k_pnone, k_psome, k_sl, k_pnil, k_pcons, k_dic, k_gix, k_seq, k_nx, k_rt, k_sbad, k_snil, k_spass, k_set, k_sret, k_sretN, k_sexp, k_sif, k_asg, k_par2, k_par3, k_aug, k_put, k_seqI, k_range1, k_forI, k_lc, List.getElem?_cons_zero, List.getElem?_cons_succ, List.set_cons_zero, List.set_cons_succ, List.length_cons, List.length_nil, if_true, if_false, Bool.not_true, Bool.not_false, Bool.false_eq_true, ite_true, ite_false, reduceIte, Nat.reduceAdd, Nat.zero_add, k_sortSet, k_range2, iadd_i, add_i, sub_i, eq_i, eq_s, ne_i, ne_s, ne_b, lt_i, le_i, gt_i, ge_i, ix_0, ix_1, ix_2, flat_str, flat_int, flat_non, sz_0, sz_1, sz_2, sz_3, sz_4, sz_5, sz_6, sz_7, sz_8, sz_9, decide_eq_true_eq, Bool.not_eq_eq_eq_not, decide_eq_false_iff_not, decide_true, decide_false, true_and, and_true, exists_eq_left, inC_strs, not_true_eq_false, not_false_eq_true])
local macro_rules | `(tactic| walk_at "g2") => `(tactic| simp only [k_bnd, k_ret, k_ok, k_bad, k_badM, k_exc, k_lft, k_ite, k_ite', o_some, o_none, o_ite, v_some, k_var, k_c, k_op, k_call, k_call0, k_cb, k_nil, k_cons, k_tup, k_lst, k_bOf, k_bAnd, k_bOr, k_bNot, k_and, k_or, k_not, k_if, k_chain, k_inC, k_neg, k_bm, k_get2, k_pnone, k_psome, k_sl, k_pnil, k_pcons, k_dic, k_gix, k_seq, k_nx, k_rt, k_sbad, k_snil, k_spass, k_set, k_sret, k_sretN, k_sexp, k_sif, k_asg, k_par2, k_par3, k_aug, k_put, k_seqI, k_range1, k_forI, k_lc, List.getElem?_cons_zero, List.getElem?_cons_succ, List.set_cons_zero, List.set_cons_succ, List.length_cons, List.length_nil, if_true, if_false, Bool.not_true, Bool.not_false, Bool.false_eq_true, ite_true, ite_false, reduceIte, Nat.reduceAdd, Nat.zero_add, k_sortSet, iadd_i, add_i, sub_i, eq_i, eq_s, ne_i, ne_s, ne_b, lt_i, le_i, gt_i, ge_i, ix_0, ix_1, ix_2, flat_str, flat_int, flat_non, sz_0, sz_1, sz_2, sz_3, sz_4, sz_5, sz_6, sz_7, sz_8, sz_9, decide_eq_true_eq, Bool.not_eq_eq_eq_not, decide_eq_false_iff_not, decide_true, decide_false, true_and, and_true, exists_eq_left, inC_strs, not_true_eq_false, not_false_eq_true, k_isE, k_tryAs, k_tryO, k_raiseA, k_raise, Bool.true_eq_false, reduceCtorEq, ne_eq])
local macro_rules | `(tactic| walk_at "g1") => `(tactic| simp only [k_bnd, k_ret, k_ok, k_bad, k_badM, k_exc, k_lft, k_ite, k_ite', o_some, o_none, o_ite, v_some, k_var, k_c, k_op, k_call, k_call0, k_cb, k_nil, k_cons, k_tup, k_lst, k_bOf, k_bAnd, k_bOr, k_bNot, k_and, k_or, k_not, k_if, k_chain, k_inC, k_neg, k_bm, k_get2, k_pnone, k_psome, k_sl, k_pnil, k_pcons, k_dic, k_gix, k_seq, k_nx, k_rt, k_sbad, k_snil, k_spass, k_set, k_sret, k_sretN, k_sexp, k_sif, k_asg, k_par2, k_par3, k_aug, k_put, k_seqI, k_forI, k_lc, List.getElem?_cons_zero, List.getElem?_cons_succ, List.set_cons_zero, List.set_cons_succ, List.length_cons, List.length_nil, if_true, if_false, Bool.not_true, Bool.not_false, Bool.false_eq_true, ite_true, ite_false, reduceIte, Nat.reduceAdd, Nat.zero_add, k_sortSet, iadd_i, add_i, sub_i, eq_i, eq_s, ne_i, ne_s, ne_b, lt_i, le_i, gt_i, ge_i, ix_0, ix_1, ix_2, flat_str, flat_int, flat_non, sz_0, sz_1, sz_2, sz_3, sz_4, sz_5, sz_6, sz_7, sz_8, sz_9, decide_eq_true_eq, Bool.not_eq_eq_eq_not, decide_eq_false_iff_not, decide_true, decide_false, true_and, and_true, exists_eq_left, inC_strs, not_true_eq_false, not_false_eq_true, k_isE, k_tryAs, k_tryO, k_raiseA, k_raise, Bool.true_eq_false, reduceCtorEq, ne_eq])
local macro_rules | `(tactic| walk_at "gz") => `(tactic| simp only [k_bnd, k_ret, k_ok, k_bad, k_badM, k_exc, k_lft, k_ite, k_ite', o_some, o_none, o_ite, v_some, k_var, k_c, k_op, k_call, k_call0, k_cb, k_nil, k_cons, k_tup, k_lst, k_bOf, k_bAnd, k_bOr, k_bNot, k_and, k_or, k_not, k_if, k_chain, k_inC, k_neg, k_bm, k_get2, k_pnone, k_psome, k_sl, k_pnil, k_pcons, k_dic, k_gix, k_seq, k_nx, k_rt, k_sbad, k_snil, k_spass, k_set, k_sret, k_sretN, k_sexp, k_sif, k_asg, k_par2, k_par3, k_aug, k_put, k_seqI, k_range1, k_forI, k_lc, List.getElem?_cons_zero, List.getElem?_cons_succ, List.set_cons_zero, List.set_cons_succ, List.length_cons, List.length_nil, if_true, if_false, Bool.not_true, Bool.not_false, Bool.false_eq_true, ite_true, ite_false, reduceIte, Nat.reduceAdd, Nat.zero_add, k_sortSet, k_range2, iadd_i, add_i, sub_i, eq_i, eq_s, ne_i, ne_s, ne_b, lt_i, le_i, gt_i, ge_i, ix_0, ix_1, ix_2, flat_str, flat_int, flat_non, sz_0, sz_1, sz_2, sz_3, sz_4, sz_5, sz_6, sz_7, sz_8, sz_9, decide_eq_true_eq, Bool.not_eq_eq_eq_not, decide_eq_false_iff_not, decide_true, decide_false, true_and, and_true, exists_eq_left, inC_strs, not_true_eq_false, not_false_eq_true, k_isE, k_tryAs, k_tryO, k_raiseA, k_raise, Bool.true_eq_false, reduceCtorEq, ne_eq])
/-! ### lists of dicts by a comprehension -/
theorem Dc.set {N : Int} {A : Pol} {l L : Nat} {ds : List D} {o : O} {st : Sto} (h : Dc N A l st) (hL : st[L]? = some (.lst ds)) : Dc N A l (st.set L o) := by
  refine ⟨?_, h.can, h.ok⟩
  have hne : L ≠ l := fun e => by
    have h1 := h.at_
    rw [← e, hL] at h1
    cases h1
  rw [List.getElem?_set_ne hne]
  exact h.at_
theorem Ps.set {N : Int} {K : List Mon} {As : List Pol} {ls : List Nat} {L : Nat} {ds : List D} {o : O} {st : Sto} (h : Ps N K As ls st) (hL : st[L]? = some (.lst ds)) : Ps N K As ls (st.set L o) := ⟨h.len, fun k A l a b => (h.at_ k A l a b).set hL, h.key⟩
section
variable {N : Int} {K : List Mon} {plus at_ by_ over : Fn}
end
theorem repr_wt {k n : Nat} {d : D} (h : Wt k n d) (hk : k ≤ 179) (hn : n ≤ 16777216) (st : Sto) : oRepr [d] st = some (.str (toP d).shown, st) := by
  unfold oRepr
  dsimp only
  unfold reprD
  have e1 : toPy st 3 d = some (toP d) := by unfold toPy; exact pure_py _ _ h.pu
  rw [e1]
  dsimp only
  have hdp := h.dp
  have s1 : shX (toP d) = true := by
    unfold shX
    rw [Bool.and_eq_true]
    exact ⟨pure_lay _ h.pu, decide_eq_true (by rw [pure_dep]; omega)⟩
  rw [s1, h.sh, decide_eq_true (show (toP d).shown.length ≤ sizeLine from Nat.le_trans h.ln (Nat.le_trans hn (by decide)))]
  rfl
end Sh

set_option maxHeartbeats 1000000
namespace Sh
open PySem PySem.Spec PyProof.Rows L2
local macro_rules | `(tactic| walk_at "go") => `(tactic| simp only [k_bnd, k_ret, k_ok, k_bad, k_badM, k_exc, k_lft, k_ite, k_ite', o_some, o_none, o_ite, v_some, k_var, k_c, k_op, k_call, k_call0, k_cb, k_nil, k_cons, k_tup, k_lst, k_bOf, k_bAnd, k_bOr, k_bNot, k_and, k_or, k_not, k_if, k_chain, k_inC, k_neg, k_bm, k_get2, k_pnone, k_psome, k_sl, k_pnil, k_pcons, k_dic, k_gix, k_seq, k_nx, k_rt, k_sbad, k_snil, k_spass, k_set, k_sret, k_sretN, k_sexp, k_sif, k_asg, k_par2, k_par3, k_aug, k_put, k_seqI, k_range1, k_forI, k_lc, List.getElem?_cons_zero, List.getElem?_cons_succ, List.set_cons_zero, List.set_cons_succ, List.length_cons, List.length_nil, if_true, if_false, Bool.not_true, Bool.not_false, Bool.false_eq_true, ite_true, ite_false, reduceIte, Nat.reduceAdd, Nat.zero_add])
local macro_rules | `(tactic| walk_at "gg") => `(tactic| simp only [k_bnd, k_ret, k_ok, k_bad, k_badM, k_exc, k_lft, k_ite, k_ite', o_some, o_none, o_ite, v_some, k_var, k_c, k_op, k_call, k_call0, k_cb, k_nil, k_cons, k_tup, k_lst, k_bOf, k_bAnd, k_bOr, k_bNot, k_and, k_or, k_not, k_if, k_chain, k_inC, k_neg, k_bm, k_get2, k_pnone, k_psome, k_sl, k_pnil, k_pcons, k_dic, k_gix, k_seq, k_nx, k_rt, k_sbad, k_snil, k_spass, k_set, k_sret, k_sretN, k_sexp, k_sif, k_asg, k_par2, k_par3, k_aug, k_put, k_seqI, k_range1, k_forI, k_lc, List.getElem?_cons_zero, List.getElem?_cons_succ, List.set_cons_zero, List.set_cons_succ, List.length_cons, List.length_nil, if_true, if_false, Bool.not_true, Bool.not_false, Bool.false_eq_true, ite_true, ite_false, reduceIte, Nat.reduceAdd, Nat.zero_add, k_sortSet, k_range2, iadd_i, add_i, sub_i, eq_i, eq_s, ne_i, ne_s, ne_b, lt_i, le_i, gt_i, ge_i, ix_0, ix_1, ix_2, flat_str, flat_int, flat_non, sz_0, sz_1, sz_2, sz_3, sz_4, sz_5, sz_6, sz_7, sz_8, sz_9, decide_eq_true_eq, Bool.not_eq_eq_eq_not, decide_eq_false_iff_not, decide_true, decide_false, true_and, and_true, exists_eq_left, inC_strs, not_true_eq_false, not_false_eq_true])
local macro_rules | `(tactic| walk_at "g2") => `(tactic| simp only [k_bnd, k_ret, k_ok, k_bad, k_badM, k_exc, k_lft, k_ite, k_ite', o_some, o_none, o_ite, v_some, k_var, k_c, k_op, k_call, k_call0, k_cb, k_nil, k_cons, k_tup, k_lst, k_bOf, k_bAnd, k_bOr, k_bNot, k_and, k_or, k_not, k_if, k_chain, k_inC, k_neg, k_bm, k_get2, k_pnone, k_psome, k_sl, k_pnil, k_pcons, k_dic, k_gix, k_seq, k_nx, k_rt, k_sbad, k_snil, k_spass, k_set, k_sret, k_sretN, k_sexp, k_sif, k_asg, k_par2, k_par3, k_aug, k_put, k_seqI, k_range1, k_forI, k_lc, List.getElem?_cons_zero, List.getElem?_cons_succ, List.set_cons_zero, List.set_cons_succ, List.length_cons, List.length_nil, if_true, if_false, Bool.not_true, Bool.not_false, Bool.false_eq_true, ite_true, ite_false, reduceIte, Nat.reduceAdd, Nat.zero_add, k_sortSet, iadd_i, add_i, sub_i, eq_i, eq_s, ne_i, ne_s, ne_b, lt_i, le_i, gt_i, ge_i, ix_0, ix_1, ix_2, flat_str, flat_int, flat_non, sz_0, sz_1, sz_2, sz_3, sz_4, sz_5, sz_6, sz_7, sz_8, sz_9, decide_eq_true_eq, Bool.not_eq_eq_eq_not, decide_eq_false_iff_not, decide_true, decide_false, true_and, and_true, exists_eq_left, inC_strs, not_true_eq_false, not_false_eq_true, k_isE, k_tryAs, k_tryO, k_raiseA, k_raise, Bool.true_eq_false, reduceCtorEq, ne_eq])
local macro_rules | `(tactic| walk_at "g1") => `(tactic| simp only [k_bnd, k_ret, k_ok, k_bad, k_badM, k_exc, k_lft, k_ite, k_ite', o_some, o_none, o_ite, v_some, k_var, k_c, k_op, k_call, k_call0, k_cb, k_nil, k_cons, k_tup, k_lst, k_bOf, k_bAnd, k_bOr, k_bNot, k_and, k_or, k_not, k_if, k_chain, k_inC, k_neg, k_bm, k_get2, k_pnone, k_psome, k_sl, k_pnil, k_pcons, k_dic, k_gix, k_seq, k_nx, k_rt, k_sbad, k_snil, k_spass, k_set, k_sret, k_sretN, k_sexp, k_sif, k_asg, k_par2, k_par3, k_aug, k_put, k_seqI, k_forI, k_lc, List.getElem?_cons_zero, List.getElem?_cons_succ, List.set_cons_zero, List.set_cons_succ, List.length_cons, List.length_nil, if_true, if_false, Bool.not_true, Bool.not_false, Bool.false_eq_true, ite_true, ite_false, reduceIte, Nat.reduceAdd, Nat.zero_add, k_sortSet, iadd_i, add_i, sub_i, eq_i, eq_s, ne_i, ne_s, ne_b, lt_i, le_i, gt_i, ge_i, ix_0, ix_1, ix_2, flat_str, flat_int, flat_non, sz_0, sz_1, sz_2, sz_3, sz_4, sz_5, sz_6, sz_7, sz_8, sz_9, decide_eq_true_eq, Bool.not_eq_eq_eq_not, decide_eq_false_iff_not, decide_true, decide_false, true_and, and_true, exists_eq_left, inC_strs, not_true_eq_false, not_false_eq_true, k_isE, k_tryAs, k_tryO, k_raiseA, k_raise, Bool.true_eq_false, reduceCtorEq, ne_eq])
local macro_rules | `(tactic| walk_at "gz") => `(tactic| simp only [k_bnd, k_ret, k_ok, k_bad, k_badM, k_exc, k_lft, k_ite, k_ite', o_some, o_none, o_ite, v_some, k_var, k_c, k_op, k_call, k_call0, k_cb, k_nil, k_cons, k_tup, k_lst, k_bOf, k_bAnd, k_bOr, k_bNot, k_and, k_or, k_not, k_if, k_chain, k_inC, k_neg, k_bm, k_get2, k_pnone, k_psome, k_sl, k_pnil, k_pcons, k_dic, k_gix, k_seq, k_nx, k_rt, k_sbad, k_snil, k_spass, k_set, k_sret, k_sretN, k_sexp, k_sif, k_asg, k_par2, k_par3, k_aug, k_put, k_seqI, k_range1, k_forI, k_lc, List.getElem?_cons_zero, List.getElem?_cons_succ, List.set_cons_zero, List.set_cons_succ, List.length_cons, List.length_nil, if_true, if_false, Bool.not_true, Bool.not_false, Bool.false_eq_true, ite_true, ite_false, reduceIte, Nat.reduceAdd, Nat.zero_add, k_sortSet, k_range2, iadd_i, add_i, sub_i, eq_i, eq_s, ne_i, ne_s, ne_b, lt_i, le_i, gt_i, ge_i, ix_0, ix_1, ix_2, flat_str, flat_int, flat_non, sz_0, sz_1, sz_2, sz_3, sz_4, sz_5, sz_6, sz_7, sz_8, sz_9, decide_eq_true_eq, Bool.not_eq_eq_eq_not, decide_eq_false_iff_not, decide_true, decide_false, true_and, and_true, exists_eq_left, inC_strs, not_true_eq_false, not_false_eq_true, k_isE, k_tryAs, k_tryO, k_raiseA, k_raise, Bool.true_eq_false, reduceCtorEq, ne_eq])
section
variable {N : Int} {a b : List Pol}
end
section
variable {allT number over shared summed ended : Fn} {y N : Int} {a b : List Pol}
end
section
variable {N : Int} {a b : List Pol}
end
end Sh

set_option maxHeartbeats 1000000
namespace Sh
open PySem PySem.Spec PyProof.Rows L2
local macro_rules | `(tactic| walk_at "go") => `(tactic| simp only [k_bnd, k_ret, k_ok, k_bad, k_badM, k_exc, k_lft, k_ite, k_ite', o_some, o_none, o_ite, v_some, k_var, k_c, k_op, k_call, k_call0, k_cb, k_nil, k_cons, k_tup, k_lst, k_bOf, k_bAnd, k_bOr, k_bNot, k_and, k_or, k_not, k_if, k_chain, k_inC, k_neg, k_bm, k_get2, k_pnone, k_psome, k_sl, k_pnil, k_pcons, k_dic, k_gix, k_seq, k_nx, k_rt, k_sbad, k_snil, k_spass, k_set, k_sret, k_sretN, k_sexp, k_sif, k_asg, k_par2, k_par3, k_aug, k_put, k_seqI, k_range1, k_forI, k_lc, List.getElem?_cons_zero, List.getElem?_cons_succ, List.set_cons_zero, List.set_cons_succ, List.length_cons, List.length_nil, if_true, if_false, Bool.not_true, Bool.not_false, Bool.false_eq_true, ite_true, ite_false, reduceIte, Nat.reduceAdd, Nat.zero_add])
local macro_rules | `(tactic| walk_at "gg") => `(tactic| simp only [k_bnd, k_ret, k_ok, k_bad, k_badM, k_exc, k_lft, k_ite, k_ite', o_some, o_none, o_ite, v_some, k_var, k_c, k_op, k_call, k_call0, k_cb, k_nil, k_cons, k_tup, k_lst, k_bOf, k_bAnd, k_bOr, k_bNot, k_and, k_or, k_not, k_if, k_chain, k_inC, k_neg, k_bm, k_get2, k_pnone, k_psome, k_sl, k_pnil, k_pcons, k_dic, k_gix, k_seq, k_nx, k_rt, k_sbad, k_snil, k_spass, k_set, k_sret, k_sretN, k_sexp, k_sif, k_asg, k_par2, k_par3, k_aug, k_put, k_seqI, k_range1, k_forI, k_lc, List.getElem?_cons_zero, List.getElem?_cons_succ, List.set_cons_zero, List.set_cons_succ, List.length_cons, List.length_nil, if_true, if_false, Bool.not_true, Bool.not_false, Bool.false_eq_true, ite_true, ite_false, reduceIte, Nat.reduceAdd, Nat.zero_add, k_sortSet, k_range2, iadd_i, add_i, sub_i, eq_i, eq_s, ne_i, ne_s, ne_b, lt_i, le_i, gt_i, ge_i, ix_0, ix_1, ix_2, flat_str, flat_int, flat_non, sz_0, sz_1, sz_2, sz_3, sz_4, sz_5, sz_6, sz_7, sz_8, sz_9, decide_eq_true_eq, Bool.not_eq_eq_eq_not, decide_eq_false_iff_not, decide_true, decide_false, true_and, and_true, exists_eq_left, inC_strs, not_true_eq_false, not_false_eq_true])
local macro_rules | `(tactic| walk_at "g2") => `(tactic| simp only [k_bnd, k_ret, k_ok, k_bad, k_badM, k_exc, k_lft, k_ite, k_ite', o_some, o_none, o_ite, v_some, k_var, k_c, k_op, k_call, k_call0, k_cb, k_nil, k_cons, k_tup, k_lst, k_bOf, k_bAnd, k_bOr, k_bNot, k_and, k_or, k_not, k_if, k_chain, k_inC, k_neg, k_bm, k_get2, k_pnone, k_psome, k_sl, k_pnil, k_pcons, k_dic, k_gix, k_seq, k_nx, k_rt, k_sbad, k_snil, k_spass, k_set, k_sret, k_sretN, k_sexp, k_sif, k_asg, k_par2, k_par3, k_aug, k_put, k_seqI, k_range1, k_forI, k_lc, List.getElem?_cons_zero, List.getElem?_cons_succ, List.set_cons_zero, List.set_cons_succ, List.length_cons, List.length_nil, if_true, if_false, Bool.not_true, Bool.not_false, Bool.false_eq_true, ite_true, ite_false, reduceIte, Nat.reduceAdd, Nat.zero_add, k_sortSet, iadd_i, add_i, sub_i, eq_i, eq_s, ne_i, ne_s, ne_b, lt_i, le_i, gt_i, ge_i, ix_0, ix_1, ix_2, flat_str, flat_int, flat_non, sz_0, sz_1, sz_2, sz_3, sz_4, sz_5, sz_6, sz_7, sz_8, sz_9, decide_eq_true_eq, Bool.not_eq_eq_eq_not, decide_eq_false_iff_not, decide_true, decide_false, true_and, and_true, exists_eq_left, inC_strs, not_true_eq_false, not_false_eq_true, k_isE, k_tryAs, k_tryO, k_raiseA, k_raise, Bool.true_eq_false, reduceCtorEq, ne_eq])
local macro_rules | `(tactic| walk_at "g1") => `(tactic| simp only [k_bnd, k_ret, k_ok, k_bad, k_badM, k_exc, k_lft, k_ite, k_ite', o_some, o_none, o_ite, v_some, k_var, k_c, k_op, k_call, k_call0, k_cb, k_nil, k_cons, k_tup, k_lst, k_bOf, k_bAnd, k_bOr, k_bNot, k_and, k_or, k_not, k_if, k_chain, k_inC, k_neg, k_bm, k_get2, k_pnone, k_psome, k_sl, k_pnil, k_pcons, k_dic, k_gix, k_seq, k_nx, k_rt, k_sbad, k_snil, k_spass, k_set, k_sret, k_sretN, k_sexp, k_sif, k_asg, k_par2, k_par3, k_aug, k_put, k_seqI, k_forI, k_lc, List.getElem?_cons_zero, List.getElem?_cons_succ, List.set_cons_zero, List.set_cons_succ, List.length_cons, List.length_nil, if_true, if_false, Bool.not_true, Bool.not_false, Bool.false_eq_true, ite_true, ite_false, reduceIte, Nat.reduceAdd, Nat.zero_add, k_sortSet, iadd_i, add_i, sub_i, eq_i, eq_s, ne_i, ne_s, ne_b, lt_i, le_i, gt_i, ge_i, ix_0, ix_1, ix_2, flat_str, flat_int, flat_non, sz_0, sz_1, sz_2, sz_3, sz_4, sz_5, sz_6, sz_7, sz_8, sz_9, decide_eq_true_eq, Bool.not_eq_eq_eq_not, decide_eq_false_iff_not, decide_true, decide_false, true_and, and_true, exists_eq_left, inC_strs, not_true_eq_false, not_false_eq_true, k_isE, k_tryAs, k_tryO, k_raiseA, k_raise, Bool.true_eq_false, reduceCtorEq, ne_eq])
local macro_rules | `(tactic| walk_at "gz") => `(tactic| simp only [k_bnd, k_ret, k_ok, k_bad, k_badM, k_exc, k_lft, k_ite, k_ite', o_some, o_none, o_ite, v_some, k_var, k_c, k_op, k_call, k_call0, k_cb, k_nil, k_cons, k_tup, k_lst, k_bOf, k_bAnd, k_bOr, k_bNot, k_and, k_or, k_not, k_if, k_chain, k_inC, k_neg, k_bm, k_get2, k_pnone, k_psome, k_sl, k_pnil, k_pcons, k_dic, k_gix, k_seq, k_nx, k_rt, k_sbad, k_snil, k_spass, k_set, k_sret, k_sretN, k_sexp, k_sif, k_asg, k_par2, k_par3, k_aug, k_put, k_seqI, k_range1, k_forI, k_lc, List.getElem?_cons_zero, List.getElem?_cons_succ, List.set_cons_zero, List.set_cons_succ, List.length_cons, List.length_nil, if_true, if_false, Bool.not_true, Bool.not_false, Bool.false_eq_true, ite_true, ite_false, reduceIte, Nat.reduceAdd, Nat.zero_add, k_sortSet, k_range2, iadd_i, add_i, sub_i, eq_i, eq_s, ne_i, ne_s, ne_b, lt_i, le_i, gt_i, ge_i, ix_0, ix_1, ix_2, flat_str, flat_int, flat_non, sz_0, sz_1, sz_2, sz_3, sz_4, sz_5, sz_6, sz_7, sz_8, sz_9, decide_eq_true_eq, Bool.not_eq_eq_eq_not, decide_eq_false_iff_not, decide_true, decide_false, true_and, and_true, exists_eq_left, inC_strs, not_true_eq_false, not_false_eq_true, k_isE, k_tryAs, k_tryO, k_raiseA, k_raise, Bool.true_eq_false, reduceCtorEq, ne_eq])
theorem src_at {l : Nat} {ds : List D} {st : Sto} (h : st[l]? = some (.lst ds)) (i : Nat) : srcAt l st i = some ds[i]? := by
  unfold srcAt
  rw [lst_at h]
structure HidN (n : Nat → Str) : Prop where
  nm : ∀ k < 8, nmB (n k) = true
  inj : ∀ i < 8, ∀ j < 8, n i = n j → i = j
section
variable {n : Nat → Str} (H : HidN n)
include H
theorem HidN.pr {i j k l : Nat} (hi : i < 8) (hj : j < 8) (hk : k < 8) (hl : l < 8) (e : mmM [n i] [n j] = mmM [n k] [n l]) : (i = k ∧ j = l) ∨ (i = l ∧ j = k) := by
  have p : [n i, n j].Perm [n k, n l] := by
    have p1 : (mmM [n i] [n j]).Perm [n i, n j] := srt_perm _
    have p2 : (mmM [n k] [n l]).Perm [n k, n l] := srt_perm _
    exact p1.symm.trans (e ▸ p2)
  have hm := p.mem_iff (a := n i)
  simp only [List.mem_cons, List.not_mem_nil, or_false, true_or, true_iff] at hm
  rcases hm with hm | hm
  · rw [hm] at p
    have p2 := List.perm_singleton.mp ((List.perm_cons (n k)).mp p)
    injection p2 with p2
    exact .inl ⟨H.inj i hi k hk hm, H.inj j hj l hl p2⟩
  · rw [hm] at p
    have p2 := List.perm_singleton.mp ((List.perm_cons (n l)).mp (p.trans (List.Perm.swap _ _ _)))
    injection p2 with p2
    exact .inr ⟨H.inj i hi l hl hm, H.inj j hj k hk p2⟩
omit H
include H
omit H
theorem srt_spb {N : Int} {A : Pol} (hc : Can N A) (ho : POk A) (hf : fitP A = true) : SpB N (srtP A) :=
  ⟨⟨hc.of_perm (srtP_perm _).symm, ho.perm (srtP_perm _).symm, srtP_of_nd hc.nd⟩, fitP_iff.mpr ⟨by rw [(srtP_perm A).length_eq]; exact (fitP_iff.mp hf).1, fun e he => (fitP_iff.mp hf).2 e ((srtP_perm A).mem_iff.mp he)⟩⟩
include H
omit H
end
end Sh

set_option maxHeartbeats 1000000
namespace Sh
open PySem PySem.Spec PyProof.Rows L2
local macro_rules | `(tactic| walk_at "go") => `(tactic| simp only [k_bnd, k_ret, k_ok, k_bad, k_badM, k_exc, k_lft, k_ite, k_ite', o_some, o_none, o_ite, v_some, k_var, k_c, k_op, k_call, k_call0, k_cb, k_nil, k_cons, k_tup, k_lst, k_bOf, k_bAnd, k_bOr, k_bNot, k_and, k_or, k_not, k_if, k_chain, k_inC, k_neg, k_bm, k_get2, k_pnone, k_psome, k_sl, k_pnil, k_pcons, k_dic, k_gix, k_seq, k_nx, k_rt, k_sbad, k_snil, k_spass, k_set, k_sret, k_sretN, k_sexp, k_sif, k_asg, k_par2, k_par3, k_aug, k_put, k_seqI, k_range1, k_forI, k_lc, List.getElem?_cons_zero, List.getElem?_cons_succ, List.set_cons_zero, List.set_cons_succ, List.length_cons, List.length_nil, if_true, if_false, Bool.not_true, Bool.not_false, Bool.false_eq_true, ite_true, ite_false, reduceIte, Nat.reduceAdd, Nat.zero_add])
local macro_rules | `(tactic| walk_at "gg") => `(tactic| simp only [k_bnd, k_ret, k_ok, k_bad, k_badM, k_exc, k_lft, k_ite, k_ite', o_some, o_none, o_ite, v_some, k_var, k_c, k_op, k_call, k_call0, k_cb, k_nil, k_cons, k_tup, k_lst, k_bOf, k_bAnd, k_bOr, k_bNot, k_and, k_or, k_not, k_if, k_chain, k_inC, k_neg, k_bm, k_get2, k_pnone, k_psome, k_sl, k_pnil, k_pcons, k_dic, k_gix, k_seq, k_nx, k_rt, k_sbad, k_snil, k_spass, k_set, k_sret, k_sretN, k_sexp, k_sif, k_asg, k_par2, k_par3, k_aug, k_put, k_seqI, k_range1, k_forI, k_lc, List.getElem?_cons_zero, List.getElem?_cons_succ, List.set_cons_zero, List.set_cons_succ, List.length_cons, List.length_nil, if_true, if_false, Bool.not_true, Bool.not_false, Bool.false_eq_true, ite_true, ite_false, reduceIte, Nat.reduceAdd, Nat.zero_add, k_sortSet, k_range2, iadd_i, add_i, sub_i, eq_i, eq_s, ne_i, ne_s, ne_b, lt_i, le_i, gt_i, ge_i, ix_0, ix_1, ix_2, flat_str, flat_int, flat_non, sz_0, sz_1, sz_2, sz_3, sz_4, sz_5, sz_6, sz_7, sz_8, sz_9, decide_eq_true_eq, Bool.not_eq_eq_eq_not, decide_eq_false_iff_not, decide_true, decide_false, true_and, and_true, exists_eq_left, inC_strs, not_true_eq_false, not_false_eq_true])
local macro_rules | `(tactic| walk_at "g2") => `(tactic| simp only [k_bnd, k_ret, k_ok, k_bad, k_badM, k_exc, k_lft, k_ite, k_ite', o_some, o_none, o_ite, v_some, k_var, k_c, k_op, k_call, k_call0, k_cb, k_nil, k_cons, k_tup, k_lst, k_bOf, k_bAnd, k_bOr, k_bNot, k_and, k_or, k_not, k_if, k_chain, k_inC, k_neg, k_bm, k_get2, k_pnone, k_psome, k_sl, k_pnil, k_pcons, k_dic, k_gix, k_seq, k_nx, k_rt, k_sbad, k_snil, k_spass, k_set, k_sret, k_sretN, k_sexp, k_sif, k_asg, k_par2, k_par3, k_aug, k_put, k_seqI, k_range1, k_forI, k_lc, List.getElem?_cons_zero, List.getElem?_cons_succ, List.set_cons_zero, List.set_cons_succ, List.length_cons, List.length_nil, if_true, if_false, Bool.not_true, Bool.not_false, Bool.false_eq_true, ite_true, ite_false, reduceIte, Nat.reduceAdd, Nat.zero_add, k_sortSet, iadd_i, add_i, sub_i, eq_i, eq_s, ne_i, ne_s, ne_b, lt_i, le_i, gt_i, ge_i, ix_0, ix_1, ix_2, flat_str, flat_int, flat_non, sz_0, sz_1, sz_2, sz_3, sz_4, sz_5, sz_6, sz_7, sz_8, sz_9, decide_eq_true_eq, Bool.not_eq_eq_eq_not, decide_eq_false_iff_not, decide_true, decide_false, true_and, and_true, exists_eq_left, inC_strs, not_true_eq_false, not_false_eq_true, k_isE, k_tryAs, k_tryO, k_raiseA, k_raise, Bool.true_eq_false, reduceCtorEq, ne_eq])
local macro_rules | `(tactic| walk_at "g1") => `(tactic| simp only [k_bnd, k_ret, k_ok, k_bad, k_badM, k_exc, k_lft, k_ite, k_ite', o_some, o_none, o_ite, v_some, k_var, k_c, k_op, k_call, k_call0, k_cb, k_nil, k_cons, k_tup, k_lst, k_bOf, k_bAnd, k_bOr, k_bNot, k_and, k_or, k_not, k_if, k_chain, k_inC, k_neg, k_bm, k_get2, k_pnone, k_psome, k_sl, k_pnil, k_pcons, k_dic, k_gix, k_seq, k_nx, k_rt, k_sbad, k_snil, k_spass, k_set, k_sret, k_sretN, k_sexp, k_sif, k_asg, k_par2, k_par3, k_aug, k_put, k_seqI, k_forI, k_lc, List.getElem?_cons_zero, List.getElem?_cons_succ, List.set_cons_zero, List.set_cons_succ, List.length_cons, List.length_nil, if_true, if_false, Bool.not_true, Bool.not_false, Bool.false_eq_true, ite_true, ite_false, reduceIte, Nat.reduceAdd, Nat.zero_add, k_sortSet, iadd_i, add_i, sub_i, eq_i, eq_s, ne_i, ne_s, ne_b, lt_i, le_i, gt_i, ge_i, ix_0, ix_1, ix_2, flat_str, flat_int, flat_non, sz_0, sz_1, sz_2, sz_3, sz_4, sz_5, sz_6, sz_7, sz_8, sz_9, decide_eq_true_eq, Bool.not_eq_eq_eq_not, decide_eq_false_iff_not, decide_true, decide_false, true_and, and_true, exists_eq_left, inC_strs, not_true_eq_false, not_false_eq_true, k_isE, k_tryAs, k_tryO, k_raiseA, k_raise, Bool.true_eq_false, reduceCtorEq, ne_eq])
local macro_rules | `(tactic| walk_at "gz") => `(tactic| simp only [k_bnd, k_ret, k_ok, k_bad, k_badM, k_exc, k_lft, k_ite, k_ite', o_some, o_none, o_ite, v_some, k_var, k_c, k_op, k_call, k_call0, k_cb, k_nil, k_cons, k_tup, k_lst, k_bOf, k_bAnd, k_bOr, k_bNot, k_and, k_or, k_not, k_if, k_chain, k_inC, k_neg, k_bm, k_get2, k_pnone, k_psome, k_sl, k_pnil, k_pcons, k_dic, k_gix, k_seq, k_nx, k_rt, k_sbad, k_snil, k_spass, k_set, k_sret, k_sretN, k_sexp, k_sif, k_asg, k_par2, k_par3, k_aug, k_put, k_seqI, k_range1, k_forI, k_lc, List.getElem?_cons_zero, List.getElem?_cons_succ, List.set_cons_zero, List.set_cons_succ, List.length_cons, List.length_nil, if_true, if_false, Bool.not_true, Bool.not_false, Bool.false_eq_true, ite_true, ite_false, reduceIte, Nat.reduceAdd, Nat.zero_add, k_sortSet, k_range2, iadd_i, add_i, sub_i, eq_i, eq_s, ne_i, ne_s, ne_b, lt_i, le_i, gt_i, ge_i, ix_0, ix_1, ix_2, flat_str, flat_int, flat_non, sz_0, sz_1, sz_2, sz_3, sz_4, sz_5, sz_6, sz_7, sz_8, sz_9, decide_eq_true_eq, Bool.not_eq_eq_eq_not, decide_eq_false_iff_not, decide_true, decide_false, true_and, and_true, exists_eq_left, inC_strs, not_true_eq_false, not_false_eq_true, k_isE, k_tryAs, k_tryO, k_raiseA, k_raise, Bool.true_eq_false, reduceCtorEq, ne_eq])
/-! ### spreads that are drawn -/
theorem srtM_map {acc : Pol} (hn : (acc.map (·.1)).Nodup) : (srtM (acc.map (·.1))).map (fun m => (m, (getM acc m).getD 0)) = srtP acc := by
  refine srtP_unique ?_ (srtP_of_nd hn) (List.Perm.trans ?_ (srtP_perm acc).symm)
  · unfold SrtP
    rw [List.pairwise_map]
    exact (srtM_of_nd hn).imp fun h => h
  · refine ((srtM_perm _).map _).trans (List.Perm.of_eq ?_)
    rw [List.map_map]
    conv => rhs; rw [← List.map_id acc]
    refine List.map_congr_left fun e he => ?_
    show (e.1, (getM acc e.1).getD 0) = e
    rw [getM_coef hn, coef_mem hn he]
theorem sortedA_s {st : Sto} {l : Nat} {m : List Str} (h : st[l]? = some (.lst (m.map D.str))) (hz : m.length ≤ 100000) : oSortedA [.loc l] st = some (.loc st.length, st ++ [.lst ((srtS m).map D.str)]) := by
  have hd : dtAt st l = none := by unfold dtAt; rw [h]
  unfold oSortedA
  dsimp only
  unfold oSortedK
  dsimp only
  rw [hd]
  dsimp only
  unfold oSortedT
  dsimp only
  rw [lst_at h]
  dsimp only
  cases m with
  | nil =>
    rw [if_pos (show tupsB (List.map D.str []) = true from rfl), if_pos (show (List.map D.str ([] : List Str)).length ≤ sizeLine from by show 0 ≤ sizeLine; decide)]
    have e1 : srtS [] = [] := (srt_perm []).eq_nil
    have e2 : srtT (List.map D.str []) = [] := (List.mergeSort_perm _ _).eq_nil
    rw [e1, e2]
    rfl
  | cons w r =>
    have ht : tupsB ((w :: r).map D.str) = false := by simp [tupsB, isTup]
    rw [ht, if_neg Bool.false_ne_true]
    exact oSorted_l h hz
section
variable {s g c B : Nat} {take pick size : Fn} {st : Sto} {ws : List Str} {y N : Int}
theorem strs_out {ys : List D} {ws : List Str} (h : ∀ d ∈ ys, ∃ w, d = .str w ∧ w ∈ ws) : ∃ zs : List Str, ys = zs.map D.str ∧ ∀ w ∈ zs, w ∈ ws := by
  induction ys with
  | nil => exact ⟨[], rfl, fun _ h => by cases h⟩
  | cons a r ih =>
    obtain ⟨zs, rfl, hz⟩ := ih fun y hy => h y (List.mem_cons_of_mem _ hy)
    obtain ⟨w, rfl, hw⟩ := h a List.mem_cons_self
    exact ⟨w :: zs, rfl, fun v hv => (List.mem_cons.mp hv).elim (fun e => e ▸ hw) (hz v)⟩
def PickD (s g c : Nat) (pick : Fn) : Prop := ∀ ⦃B l : Nat⦄ ⦃ds : List D⦄ ⦃st : Sto⦄, B ≤ 2 ^ 60 → DrD s g c B st → st[l]? = some (.lst ds) → l ≠ s → l ≠ g → 0 < ds.length → ds.length ≤ 1000000 → Ok (pick [.loc s, .loc l] st) fun d st' => d ∈ ds ∧ DrD s g c (B + 1) st' ∧ Gr s g st st'
theorem spreadD_sp (hT : TakeD s g c take) (hP : PickD s g c pick) (hs : SizeSp size) (hw : WN y N) (hB : B ≤ 2 ^ 59) {L : Nat} (hI : DrD s g c B st) (hL : st[L]? = some (.lst (ws.map D.str))) (n1 : L ≠ s) (n2 : L ≠ g) (hw0 : 0 < ws.length) (hw1 : ws.length ≤ 1000) (hnm : ∀ w ∈ ws, nmB w = true) :
    Ok (runDef 7 (gd_law_spread take pick size) [.loc s, .loc L, .int y] st) fun d st' => (∃ p : Pol, d = spD p ∧ SpB N p ∧ p.length ≤ 3 ∧ ∀ e ∈ p, e.1.length ≤ 2 ∧ ∀ w ∈ e.1, w ∈ ws) ∧ DrD s g c (B + 16) st' ∧ Gr s g st st' := by
  have hN := hw.le
  have hN0 := hw.pos
  have hlt := hI.lt
  unfold Ok
  rw [k_run, st_7_3]
  unfold gd_law_spread
  refine cut_seq (fun en' st' => en' = [some (.loc s), some (.loc L), some (.int y), some (.loc st.length), none, none, none] ∧ st' = st ++ [.dit []]) ?_ (fun en1 st1 hJ => ?_)
  · rw [k_set, k_dicT]
    exact ⟨rfl, rfl⟩
  obtain ⟨rfl, rfl⟩ := hJ
  refine cut_seq (fun en' st' => ∃ (acc : Pol) (y4 y5 y6 : Option D), en' = [some (.loc s), some (.loc L), some (.int y), some (.loc st.length), y4, y5, y6] ∧ st'[st.length]? = some (.dit (encA kyM acc)) ∧ acc.length ≤ 3 ∧ (acc.map (·.1)).Nodup ∧ (∀ e ∈ acc, MOk e.1 ∧ 0 < e.2 ∧ e.2 < N ∧ e.1.length ≤ 2 ∧ ∀ w ∈ e.1, w ∈ ws) ∧ DrD s g c (B + 16) st' ∧ Gr s g st st') ?_ (fun en1 st1 hJ => ?_)
  · walk_at "go"
    refine Ok.imp (hT (by omega) hI.app (by omega) (by omega)) fun d s1 ⟨⟨v1, e1, q1, q2⟩, hD1, hG1⟩ => ?_
    subst e1
    dsimp only
    rw [if_pos (by omega)]
    have hv : v1.toNat ≤ 3 := by omega
    generalize v1.toNat = vn at hv
    refine for_rng (n := vn) (fun i en' st' => ∃ (acc : Pol) (y4 y5 y6 : Option D), en' = [some (.loc s), some (.loc L), some (.int y), some (.loc st.length), y4, y5, y6] ∧ st'[st.length]? = some (.dit (encA kyM acc)) ∧ acc.length ≤ i ∧ (acc.map (·.1)).Nodup ∧ (∀ e ∈ acc, MOk e.1 ∧ 0 < e.2 ∧ e.2 < N ∧ e.1.length ≤ 2 ∧ ∀ w ∈ e.1, w ∈ ws) ∧ DrD s g c (B + 1 + 4 * i) st' ∧ Gr s g st st') ⟨[], _, _, _, rfl, hG1.keep _ _ (by omega) (by omega) last_at, Nat.le_refl _, List.nodup_nil, fun _ h => (by cases h), hD1, Gr.app.trans hG1⟩ (fun i en st2 hi hJ => ?_) (fun en st2 hJ => ?_)
    · obtain ⟨acc, y4, y5, y6, rfl, hM, hal, hnd, hac, hI2, hG2⟩ := hJ
      refine ⟨_, rfl, ?_⟩
      refine cut_seq (fun en' st' => (∃ m : Mon, en' = [some (.loc s), some (.loc L), some (.int y), some (.loc st.length), some (.int (i : Int)), some (monD m), y6] ∧ MOk m ∧ m.length ≤ 2 ∧ ∀ w ∈ m, w ∈ ws) ∧ DrD s g c (B + 1 + 4 * i + 3) st' ∧ Gr s g st2 st') ?_ (fun en1 st3 hJ => ?_)
      · walk_at "go"
        refine Ok.imp (hT (by omega) hI2 (by omega) (by omega)) fun d s1 ⟨⟨v2, e1, q3, q4⟩, hD1, hG4⟩ => ?_
        subst e1
        dsimp only
        rw [if_pos (by omega)]
        have hv2 : v2.toNat ≤ 2 := by omega
        generalize v2.toNat = v3 at hv2
        have hl := lc_drawsD (s := s) (g := g) (c := c) (B := B + 1 + 4 * i + 1) (b := 1) (st := s1) (el := eCall 2 pick (aCons (eVar 0) (aCons (eVar 1) aNil))) (tg := gN 6) (ds := (List.range v3).map fun (k : Nat) => D.int (k : Int)) (enw := wipeD [some (.loc s), some (.loc L), some (.int y), some (.loc st.length), some (.int (i : Int)), y5, y6] [6]) (fun d => ∃ w, d = .str w ∧ w ∈ ws) (by rw [List.length_map, List.length_range]; exact szl (by omega)) hD1 (fun j d hd => ⟨_, rfl, fun s5 hI5 hG5 => by
          have hj : j < v3 := by
            have := (List.getElem?_eq_some_iff.mp hd).1
            rwa [List.length_map, List.length_range] at this
          unfold Ok
          show OkX (eCall 2 pick _ (some (.loc s) :: some (.loc L) :: _) s5) _ _
          walk_at "go"
          have hL5 := (((Gr.app (t := [O.dit []])).trans hG1).trans (Gr.refl)).keep _ _ n1 n2 hL
          refine Ok.imp (hP (l := L) (ds := ws.map D.str) (by omega) hI5 (hG5.keep _ _ n1 n2 (hG4.keep _ _ n1 n2 (hG2.keep _ _ n1 n2 hL))) n1 n2 (by rw [List.length_map]; exact hw0) (by rw [List.length_map]; omega)) fun d s6 ⟨h1, h2, h3⟩ => ?_
          obtain ⟨w, hw, rfl⟩ := List.mem_map.mp h1
          exact ⟨⟨w, rfl, hw⟩, h2.mono (by omega), h3⟩⟩)
        rw [List.length_map, List.length_range] at hl
        refine Ok.imp hl fun _ s6 ⟨ys, hyl, hq, hL6, hI6, hG6⟩ => ?_
        obtain ⟨zs, rfl, hzs⟩ := strs_out hq
        rw [List.length_map] at hyl
        rw [sortedA_s hL6 (by omega)]
        walk_at "go"
        rw [oTuple_l last_at]
        walk_at "go"
        refine ⟨⟨srtS zs, rfl, MOk.srt fun w hw => hnm w (hzs w hw), by rw [(srt_perm zs).length_eq]; omega, fun w hw => hzs w (mem_srt.mp hw)⟩, (hI6.app).mono (by omega), (hG4.trans hG6).trans Gr.app⟩
      obtain ⟨⟨m, rfl, hm1, hm2, hm3⟩, hI3, hG3⟩ := hJ
      rw [k_putT]
      walk_at "go"
      refine Ok.imp (hw.size hs) fun _ s1 ⟨e1, e2⟩ => ?_
      subst e1 e2
      rw [show oSub (.int N) (.int 1) s1 = some (.int (N - 1), s1) from rfl]
      walk_at "go"
      refine Ok.imp (hT (by omega) hI3 (by omega) (by omega)) fun d s4 ⟨⟨v2, e1, q3, q4⟩, hD4, hG4⟩ => ?_
      subst e1
      rw [show oAdd (.int 1) (.int v2) s4 = some (.int (1 + v2), s4) from rfl]
      walk_at "go"
      have hM4 := (hG3.trans hG4).keep _ _ (by omega) (by omega) hM
      have hst : setT (.loc st.length) (monD m) (.int (1 + v2)) s4 = some (s4.set st.length (.dit (encA kyM (putM acc m (1 + v2))))) := by
        unfold setT
        dsimp only
        rw [hM4]
        dsimp only
        rw [keyT_mon]
        dsimp only
        rw [if_pos (by rw [encA_len]; exact szl (by omega)), putD_enc kyM hnd fun e _ q => kyM_inj q]
      rw [hst]
      refine ⟨putM acc m (1 + v2), _, _, _, rfl, List.getElem?_set_self (lift_len hM4), Nat.le_trans putM_len (by omega), putM_nd hnd, putM_vals (P := fun e => MOk e.1 ∧ 0 < e.2 ∧ e.2 < N ∧ e.1.length ≤ 2 ∧ ∀ w ∈ e.1, w ∈ ws) ⟨hm1, by show 0 < 1 + v2; omega, by show 1 + v2 < N; omega, hm2, hm3⟩ hac, (hD4.setO (by omega) (by omega) (by omega)).mono (by omega), ((hG2.trans hG3).trans hG4).setN (Nat.le_refl _)⟩
    · obtain ⟨acc, y4, y5, y6, rfl, hM, hal, hnd, hac, hI2, hG2⟩ := hJ
      exact ⟨acc, _, _, _, rfl, hM, by omega, hnd, hac, hI2.mono (by omega), hG2⟩
  obtain ⟨acc, y4, y5, y6, rfl, hM, hal, hnd, hac, hI1, hG1⟩ := hJ
  have hso : oSortedA [.loc st.length] st1 = some (.loc st1.length, st1 ++ [.lst ((srtM (acc.map (·.1))).map monD)]) := by
    have hky : (encA kyM acc).map (fun kv => keyD kv.1) = (acc.map (·.1)).map monD := by
      unfold encA
      rw [List.map_map, List.map_map]
      refine List.map_congr_left fun e _ => ?_
      exact keyD_mon e.1
    show oSortedK [.loc st.length] st1 = _
    unfold oSortedK
    dsimp only
    have : dtAt st1 st.length = some (encA kyM acc) := by unfold dtAt; rw [hM]
    rw [this]
    dsimp only
    rw [hky, if_pos (tups_mon fun m hm => by
      obtain ⟨e, he, rfl⟩ := List.mem_map.mp hm
      exact (hac e he).1.nm), if_pos (by rw [encA_len]; exact sz (by omega)), srtT_mon]
  walk_at "go"
  rw [hso]
  walk_at "go"
  rw [lst_at last_at]
  dsimp only
  generalize hs2 : st1 ++ [O.lst ((srtM (acc.map (·.1))).map monD)] = s2
  have hM2 : s2[st.length]? = some (.dit (encA kyM acc)) := by rw [← hs2]; exact app_get hM
  have hL2 : lstAt s2 st1.length = some ((srtM (acc.map (·.1))).map monD) := by rw [← hs2]; exact lst_at last_at
  have hI2 : DrD s g c (B + 16) s2 := by rw [← hs2]; exact hI1.app
  have hG2 : Gr s g st s2 := by rw [← hs2]; exact hG1.trans Gr.app
  clear hs2
  rw [List.length_map]
  have hix : ∀ m ∈ srtM (acc.map (·.1)), ∀ a, oIxT (.loc st.length) (monD m) (s2 ++ [O.lst a]) = some (.int ((getM acc m).getD 0), s2 ++ [O.lst a]) := fun m hm a => by
    obtain ⟨v, hv⟩ := getM_mem ((srtM_perm _).mem_iff.mp hm)
    unfold oIxT
    dsimp only
    rw [rdMon (app_get hM2), hv]
    rfl
  refine Ok.imp (lc_pE (cond := bYes) monD (srtM (acc.map (·.1))) (fun m => pairD (m, (getM acc m).getD 0)) (fun _ => true) (by rw [(srtM_perm _).length_eq, List.length_map]; exact szl (by omega)) (src_atA hL2) (fun m hm => ⟨_, rfl, fun a => ⟨OkX.of_eq (a := true) rfl ⟨rfl, rfl⟩, fun _ => ?_⟩⟩)) fun _ s3 e3 => ?_
  · unfold Ok
    show OkX (eTup _ [some (.loc s), some (.loc L), some (.int y), some (.loc st.length), y4, some (monD m), y6] _) _ _
    walk_at "go"
    rw [hix m hm]
    walk_at "go"
    first | exact ⟨rfl, rfl⟩ | exact ⟨rfl, by trivial⟩
  subst e3
  rw [List.filter_eq_self.mpr (fun _ _ => rfl)]
  rw [oTuple_l last_at]
  refine ⟨⟨srtP acc, ?_, srt_spb ⟨hnd, fun e he => ⟨(hac e he).2.1, (hac e he).2.2.1⟩⟩ (fun e he => (hac e he).1) (fitP_iff.mpr ⟨by omega, fun e he => by have := (hac e he).2.2.2.1; omega⟩), by rw [(srtP_perm acc).length_eq]; exact hal, fun e he => (hac e ((srtP_perm acc).mem_iff.mp he)).2.2.2⟩, hI2.app, hG2.trans Gr.app⟩
  rw [← srtM_map hnd]
  unfold spD
  rw [List.map_map]
  rfl
end
end Sh

set_option maxHeartbeats 1000000
namespace Sh
open PySem PySem.Spec PyProof.Rows L2
local macro_rules | `(tactic| walk_at "go") => `(tactic| simp only [k_bnd, k_ret, k_ok, k_bad, k_badM, k_exc, k_lft, k_ite, k_ite', o_some, o_none, o_ite, v_some, k_var, k_c, k_op, k_call, k_call0, k_cb, k_nil, k_cons, k_tup, k_lst, k_bOf, k_bAnd, k_bOr, k_bNot, k_and, k_or, k_not, k_if, k_chain, k_inC, k_neg, k_bm, k_get2, k_pnone, k_psome, k_sl, k_pnil, k_pcons, k_dic, k_gix, k_seq, k_nx, k_rt, k_sbad, k_snil, k_spass, k_set, k_sret, k_sretN, k_sexp, k_sif, k_asg, k_par2, k_par3, k_aug, k_put, k_seqI, k_range1, k_forI, k_lc, List.getElem?_cons_zero, List.getElem?_cons_succ, List.set_cons_zero, List.set_cons_succ, List.length_cons, List.length_nil, if_true, if_false, Bool.not_true, Bool.not_false, Bool.false_eq_true, ite_true, ite_false, reduceIte, Nat.reduceAdd, Nat.zero_add])
local macro_rules | `(tactic| walk_at "gg") => `(tactic| simp only [k_bnd, k_ret, k_ok, k_bad, k_badM, k_exc, k_lft, k_ite, k_ite', o_some, o_none, o_ite, v_some, k_var, k_c, k_op, k_call, k_call0, k_cb, k_nil, k_cons, k_tup, k_lst, k_bOf, k_bAnd, k_bOr, k_bNot, k_and, k_or, k_not, k_if, k_chain, k_inC, k_neg, k_bm, k_get2, k_pnone, k_psome, k_sl, k_pnil, k_pcons, k_dic, k_gix, k_seq, k_nx, k_rt, k_sbad, k_snil, k_spass, k_set, k_sret, k_sretN, k_sexp, k_sif, k_asg, k_par2, k_par3, k_aug, k_put, k_seqI, k_range1, k_forI, k_lc, List.getElem?_cons_zero, List.getElem?_cons_succ, List.set_cons_zero, List.set_cons_succ, List.length_cons, List.length_nil, if_true, if_false, Bool.not_true, Bool.not_false, Bool.false_eq_true, ite_true, ite_false, reduceIte, Nat.reduceAdd, Nat.zero_add, k_sortSet, k_range2, iadd_i, add_i, sub_i, eq_i, eq_s, ne_i, ne_s, ne_b, lt_i, le_i, gt_i, ge_i, ix_0, ix_1, ix_2, flat_str, flat_int, flat_non, sz_0, sz_1, sz_2, sz_3, sz_4, sz_5, sz_6, sz_7, sz_8, sz_9, decide_eq_true_eq, Bool.not_eq_eq_eq_not, decide_eq_false_iff_not, decide_true, decide_false, true_and, and_true, exists_eq_left, inC_strs, not_true_eq_false, not_false_eq_true])
local macro_rules | `(tactic| walk_at "g2") => `(tactic| simp only [k_bnd, k_ret, k_ok, k_bad, k_badM, k_exc, k_lft, k_ite, k_ite', o_some, o_none, o_ite, v_some, k_var, k_c, k_op, k_call, k_call0, k_cb, k_nil, k_cons, k_tup, k_lst, k_bOf, k_bAnd, k_bOr, k_bNot, k_and, k_or, k_not, k_if, k_chain, k_inC, k_neg, k_bm, k_get2, k_pnone, k_psome, k_sl, k_pnil, k_pcons, k_dic, k_gix, k_seq, k_nx, k_rt, k_sbad, k_snil, k_spass, k_set, k_sret, k_sretN, k_sexp, k_sif, k_asg, k_par2, k_par3, k_aug, k_put, k_seqI, k_range1, k_forI, k_lc, List.getElem?_cons_zero, List.getElem?_cons_succ, List.set_cons_zero, List.set_cons_succ, List.length_cons, List.length_nil, if_true, if_false, Bool.not_true, Bool.not_false, Bool.false_eq_true, ite_true, ite_false, reduceIte, Nat.reduceAdd, Nat.zero_add, k_sortSet, iadd_i, add_i, sub_i, eq_i, eq_s, ne_i, ne_s, ne_b, lt_i, le_i, gt_i, ge_i, ix_0, ix_1, ix_2, flat_str, flat_int, flat_non, sz_0, sz_1, sz_2, sz_3, sz_4, sz_5, sz_6, sz_7, sz_8, sz_9, decide_eq_true_eq, Bool.not_eq_eq_eq_not, decide_eq_false_iff_not, decide_true, decide_false, true_and, and_true, exists_eq_left, inC_strs, not_true_eq_false, not_false_eq_true, k_isE, k_tryAs, k_tryO, k_raiseA, k_raise, Bool.true_eq_false, reduceCtorEq, ne_eq])
local macro_rules | `(tactic| walk_at "g1") => `(tactic| simp only [k_bnd, k_ret, k_ok, k_bad, k_badM, k_exc, k_lft, k_ite, k_ite', o_some, o_none, o_ite, v_some, k_var, k_c, k_op, k_call, k_call0, k_cb, k_nil, k_cons, k_tup, k_lst, k_bOf, k_bAnd, k_bOr, k_bNot, k_and, k_or, k_not, k_if, k_chain, k_inC, k_neg, k_bm, k_get2, k_pnone, k_psome, k_sl, k_pnil, k_pcons, k_dic, k_gix, k_seq, k_nx, k_rt, k_sbad, k_snil, k_spass, k_set, k_sret, k_sretN, k_sexp, k_sif, k_asg, k_par2, k_par3, k_aug, k_put, k_seqI, k_forI, k_lc, List.getElem?_cons_zero, List.getElem?_cons_succ, List.set_cons_zero, List.set_cons_succ, List.length_cons, List.length_nil, if_true, if_false, Bool.not_true, Bool.not_false, Bool.false_eq_true, ite_true, ite_false, reduceIte, Nat.reduceAdd, Nat.zero_add, k_sortSet, iadd_i, add_i, sub_i, eq_i, eq_s, ne_i, ne_s, ne_b, lt_i, le_i, gt_i, ge_i, ix_0, ix_1, ix_2, flat_str, flat_int, flat_non, sz_0, sz_1, sz_2, sz_3, sz_4, sz_5, sz_6, sz_7, sz_8, sz_9, decide_eq_true_eq, Bool.not_eq_eq_eq_not, decide_eq_false_iff_not, decide_true, decide_false, true_and, and_true, exists_eq_left, inC_strs, not_true_eq_false, not_false_eq_true, k_isE, k_tryAs, k_tryO, k_raiseA, k_raise, Bool.true_eq_false, reduceCtorEq, ne_eq])
local macro_rules | `(tactic| walk_at "gz") => `(tactic| simp only [k_bnd, k_ret, k_ok, k_bad, k_badM, k_exc, k_lft, k_ite, k_ite', o_some, o_none, o_ite, v_some, k_var, k_c, k_op, k_call, k_call0, k_cb, k_nil, k_cons, k_tup, k_lst, k_bOf, k_bAnd, k_bOr, k_bNot, k_and, k_or, k_not, k_if, k_chain, k_inC, k_neg, k_bm, k_get2, k_pnone, k_psome, k_sl, k_pnil, k_pcons, k_dic, k_gix, k_seq, k_nx, k_rt, k_sbad, k_snil, k_spass, k_set, k_sret, k_sretN, k_sexp, k_sif, k_asg, k_par2, k_par3, k_aug, k_put, k_seqI, k_range1, k_forI, k_lc, List.getElem?_cons_zero, List.getElem?_cons_succ, List.set_cons_zero, List.set_cons_succ, List.length_cons, List.length_nil, if_true, if_false, Bool.not_true, Bool.not_false, Bool.false_eq_true, ite_true, ite_false, reduceIte, Nat.reduceAdd, Nat.zero_add, k_sortSet, k_range2, iadd_i, add_i, sub_i, eq_i, eq_s, ne_i, ne_s, ne_b, lt_i, le_i, gt_i, ge_i, ix_0, ix_1, ix_2, flat_str, flat_int, flat_non, sz_0, sz_1, sz_2, sz_3, sz_4, sz_5, sz_6, sz_7, sz_8, sz_9, decide_eq_true_eq, Bool.not_eq_eq_eq_not, decide_eq_false_iff_not, decide_true, decide_false, true_and, and_true, exists_eq_left, inC_strs, not_true_eq_false, not_false_eq_true, k_isE, k_tryAs, k_tryO, k_raiseA, k_raise, Bool.true_eq_false, reduceCtorEq, ne_eq])
/-! ### what terms and spreads are worth: the laws' own reckoning -/
def wkE (es : List (Str × Int)) : List (Key × D) := encA (fun w : Str => (Sum.inr w : Key)) es
def WkR (N : Int) (es : List (Str × Int)) : Prop := ∀ e ∈ es, 0 ≤ e.2 ∧ e.2 < N
section
variable {worth putIn : Fn} {N : Int} {W : Nat} {es : List (Str × Int)}
end
/-! ### dicts of names -/
theorem putD_look {k k2 : Key} {v : D} : ∀ {kvs : List (Key × D)}, lookK (putD kvs k v) k2 = if k = k2 then some v else lookK kvs k2
  | [] => by
    unfold putD lookK
    simp only [List.any_nil, Bool.false_eq_true, if_false, List.nil_append, List.find?_cons, List.find?_nil]
    by_cases h : k = k2
    · simp [h]
    · simp [h]
  | e :: r => by
    have ih := putD_look (k := k) (k2 := k2) (v := v) (kvs := r)
    unfold putD lookK at ih ⊢
    rw [List.any_cons, List.find?_cons]
    by_cases q : e.1 = k
    · rw [decide_eq_true q, Bool.true_or, if_pos rfl, List.map_cons, List.find?_cons, if_pos q]
      by_cases h : k = k2
      · rw [if_pos h, decide_eq_true (q.trans h)]; rfl
      · rw [if_neg h, decide_eq_false (fun z => h (q.symm.trans z))]
        dsimp only
        by_cases z : (r.any fun kv => decide (kv.1 = k)) = true
        · rw [if_pos z, if_neg h] at ih; exact ih
        · have hr : r.map (fun kv => if kv.1 = k then (kv.1, v) else kv) = r := by
            have hz : ∀ kv ∈ r, ¬ kv.1 = k := fun kv hk he => z (List.any_eq_true.mpr ⟨kv, hk, decide_eq_true he⟩)
            exact (List.map_congr_left fun kv hk => if_neg (hz kv hk)).trans (List.map_id _)
          rw [hr]
    · rw [decide_eq_false q, Bool.false_or]
      by_cases z : (r.any fun kv => decide (kv.1 = k)) = true
      · rw [if_pos z] at ih ⊢
        rw [List.map_cons, if_neg q, List.find?_cons]
        by_cases h : e.1 = k2
        · rw [decide_eq_true h, if_neg (fun w => q (h.trans w.symm))]
        · rw [decide_eq_false h]; exact ih
      · rw [if_neg z] at ih ⊢
        rw [List.cons_append, List.find?_cons]
        by_cases h : e.1 = k2
        · rw [decide_eq_true h, if_neg (fun w => q (h.trans w.symm))]
        · rw [decide_eq_false h]; exact ih
theorem keys_nd {α : Type} {f : α → Str} {g : α → D} {ws : List α} (h : (ws.map f).Nodup) : ((ws.map fun w => ((.inr (f w) : Key), g w)).map (·.1)).Nodup := by
  rw [List.map_map]
  have : ((fun x : Key × D => x.1) ∘ fun w => ((.inr (f w) : Key), g w)) = (fun s : Str => (.inr s : Key)) ∘ f := rfl
  rw [this, ← List.map_map]
  rw [List.nodup_iff_pairwise_ne] at h ⊢
  exact List.pairwise_map.mpr (h.imp fun n e => n (by injection e))
theorem asDP_wk : ∀ es : List (Str × Int), asDP (es.map fun e => D.tup [.str e.1, .int e.2]) = some (wkE es)
  | [] => rfl
  | e :: r => by
    rw [List.map_cons, asDP, asDP_wk r]
    rfl
theorem dict_wk {st : Sto} {l : Nat} {es : List (Str × Int)} (hn : (es.map (·.1)).Nodup) (h : st[l]? = some (.lst (es.map fun e => D.tup [.str e.1, .int e.2]))) : oDict [.loc l] st = some (.loc st.length, st ++ [.dic (wkE es)]) := by
  unfold oDict
  dsimp only
  rw [lst_at h]
  dsimp only
  rw [asDP_wk]
  dsimp only
  rw [mergeD_nd (ps := wkE es) (keys_nd (f := fun e : Str × Int => e.1) (g := fun e => .int e.2) hn)]
theorem wk_len (es : List (Str × Int)) : (wkE es).length = es.length := List.length_map ..
theorem set_wk {st : Sto} {W : Nat} {es : List (Str × Int)} {w : Str} {v : Int} (hn : (es.map (·.1)).Nodup) (hl : es.length ≤ 1000) (h : st[W]? = some (.dic (wkE es))) : setO (.loc W) (.str w) (.int v) st = some (st.set W (.dic (wkE (putM es w v)))) := by
  unfold setO
  dsimp only
  rw [h]
  dsimp only [keyOf]
  rw [if_pos (by rw [wk_len]; exact szl (by omega))]
  congr 3
  exact putD_enc (fun w : Str => (Sum.inr w : Key)) hn fun e _ q => by injection q
theorem WkR.put {N : Int} {es : List (Str × Int)} (h : WkR N es) {w : Str} {v : Int} (h0 : 0 ≤ v) (h1 : v < N) : WkR N (putM es w v) :=
  putM_vals (P := fun e => 0 ≤ e.2 ∧ e.2 < N) ⟨h0, h1⟩ h
end Sh

set_option maxHeartbeats 1000000
namespace Sh
open PySem PySem.Spec PyProof.Rows L2
local macro_rules | `(tactic| walk_at "go") => `(tactic| simp only [k_bnd, k_ret, k_ok, k_bad, k_badM, k_exc, k_lft, k_ite, k_ite', o_some, o_none, o_ite, v_some, k_var, k_c, k_op, k_call, k_call0, k_cb, k_nil, k_cons, k_tup, k_lst, k_bOf, k_bAnd, k_bOr, k_bNot, k_and, k_or, k_not, k_if, k_chain, k_inC, k_neg, k_bm, k_get2, k_pnone, k_psome, k_sl, k_pnil, k_pcons, k_dic, k_gix, k_seq, k_nx, k_rt, k_sbad, k_snil, k_spass, k_set, k_sret, k_sretN, k_sexp, k_sif, k_asg, k_par2, k_par3, k_aug, k_put, k_seqI, k_range1, k_forI, k_lc, List.getElem?_cons_zero, List.getElem?_cons_succ, List.set_cons_zero, List.set_cons_succ, List.length_cons, List.length_nil, if_true, if_false, Bool.not_true, Bool.not_false, Bool.false_eq_true, ite_true, ite_false, reduceIte, Nat.reduceAdd, Nat.zero_add])
local macro_rules | `(tactic| walk_at "gg") => `(tactic| simp only [k_bnd, k_ret, k_ok, k_bad, k_badM, k_exc, k_lft, k_ite, k_ite', o_some, o_none, o_ite, v_some, k_var, k_c, k_op, k_call, k_call0, k_cb, k_nil, k_cons, k_tup, k_lst, k_bOf, k_bAnd, k_bOr, k_bNot, k_and, k_or, k_not, k_if, k_chain, k_inC, k_neg, k_bm, k_get2, k_pnone, k_psome, k_sl, k_pnil, k_pcons, k_dic, k_gix, k_seq, k_nx, k_rt, k_sbad, k_snil, k_spass, k_set, k_sret, k_sretN, k_sexp, k_sif, k_asg, k_par2, k_par3, k_aug, k_put, k_seqI, k_range1, k_forI, k_lc, List.getElem?_cons_zero, List.getElem?_cons_succ, List.set_cons_zero, List.set_cons_succ, List.length_cons, List.length_nil, if_true, if_false, Bool.not_true, Bool.not_false, Bool.false_eq_true, ite_true, ite_false, reduceIte, Nat.reduceAdd, Nat.zero_add, k_sortSet, k_range2, iadd_i, add_i, sub_i, eq_i, eq_s, ne_i, ne_s, ne_b, lt_i, le_i, gt_i, ge_i, ix_0, ix_1, ix_2, flat_str, flat_int, flat_non, sz_0, sz_1, sz_2, sz_3, sz_4, sz_5, sz_6, sz_7, sz_8, sz_9, decide_eq_true_eq, Bool.not_eq_eq_eq_not, decide_eq_false_iff_not, decide_true, decide_false, true_and, and_true, exists_eq_left, inC_strs, not_true_eq_false, not_false_eq_true])
local macro_rules | `(tactic| walk_at "g2") => `(tactic| simp only [k_bnd, k_ret, k_ok, k_bad, k_badM, k_exc, k_lft, k_ite, k_ite', o_some, o_none, o_ite, v_some, k_var, k_c, k_op, k_call, k_call0, k_cb, k_nil, k_cons, k_tup, k_lst, k_bOf, k_bAnd, k_bOr, k_bNot, k_and, k_or, k_not, k_if, k_chain, k_inC, k_neg, k_bm, k_get2, k_pnone, k_psome, k_sl, k_pnil, k_pcons, k_dic, k_gix, k_seq, k_nx, k_rt, k_sbad, k_snil, k_spass, k_set, k_sret, k_sretN, k_sexp, k_sif, k_asg, k_par2, k_par3, k_aug, k_put, k_seqI, k_range1, k_forI, k_lc, List.getElem?_cons_zero, List.getElem?_cons_succ, List.set_cons_zero, List.set_cons_succ, List.length_cons, List.length_nil, if_true, if_false, Bool.not_true, Bool.not_false, Bool.false_eq_true, ite_true, ite_false, reduceIte, Nat.reduceAdd, Nat.zero_add, k_sortSet, iadd_i, add_i, sub_i, eq_i, eq_s, ne_i, ne_s, ne_b, lt_i, le_i, gt_i, ge_i, ix_0, ix_1, ix_2, flat_str, flat_int, flat_non, sz_0, sz_1, sz_2, sz_3, sz_4, sz_5, sz_6, sz_7, sz_8, sz_9, decide_eq_true_eq, Bool.not_eq_eq_eq_not, decide_eq_false_iff_not, decide_true, decide_false, true_and, and_true, exists_eq_left, inC_strs, not_true_eq_false, not_false_eq_true, k_isE, k_tryAs, k_tryO, k_raiseA, k_raise, Bool.true_eq_false, reduceCtorEq, ne_eq])
local macro_rules | `(tactic| walk_at "g1") => `(tactic| simp only [k_bnd, k_ret, k_ok, k_bad, k_badM, k_exc, k_lft, k_ite, k_ite', o_some, o_none, o_ite, v_some, k_var, k_c, k_op, k_call, k_call0, k_cb, k_nil, k_cons, k_tup, k_lst, k_bOf, k_bAnd, k_bOr, k_bNot, k_and, k_or, k_not, k_if, k_chain, k_inC, k_neg, k_bm, k_get2, k_pnone, k_psome, k_sl, k_pnil, k_pcons, k_dic, k_gix, k_seq, k_nx, k_rt, k_sbad, k_snil, k_spass, k_set, k_sret, k_sretN, k_sexp, k_sif, k_asg, k_par2, k_par3, k_aug, k_put, k_seqI, k_forI, k_lc, List.getElem?_cons_zero, List.getElem?_cons_succ, List.set_cons_zero, List.set_cons_succ, List.length_cons, List.length_nil, if_true, if_false, Bool.not_true, Bool.not_false, Bool.false_eq_true, ite_true, ite_false, reduceIte, Nat.reduceAdd, Nat.zero_add, k_sortSet, iadd_i, add_i, sub_i, eq_i, eq_s, ne_i, ne_s, ne_b, lt_i, le_i, gt_i, ge_i, ix_0, ix_1, ix_2, flat_str, flat_int, flat_non, sz_0, sz_1, sz_2, sz_3, sz_4, sz_5, sz_6, sz_7, sz_8, sz_9, decide_eq_true_eq, Bool.not_eq_eq_eq_not, decide_eq_false_iff_not, decide_true, decide_false, true_and, and_true, exists_eq_left, inC_strs, not_true_eq_false, not_false_eq_true, k_isE, k_tryAs, k_tryO, k_raiseA, k_raise, Bool.true_eq_false, reduceCtorEq, ne_eq])
local macro_rules | `(tactic| walk_at "gz") => `(tactic| simp only [k_bnd, k_ret, k_ok, k_bad, k_badM, k_exc, k_lft, k_ite, k_ite', o_some, o_none, o_ite, v_some, k_var, k_c, k_op, k_call, k_call0, k_cb, k_nil, k_cons, k_tup, k_lst, k_bOf, k_bAnd, k_bOr, k_bNot, k_and, k_or, k_not, k_if, k_chain, k_inC, k_neg, k_bm, k_get2, k_pnone, k_psome, k_sl, k_pnil, k_pcons, k_dic, k_gix, k_seq, k_nx, k_rt, k_sbad, k_snil, k_spass, k_set, k_sret, k_sretN, k_sexp, k_sif, k_asg, k_par2, k_par3, k_aug, k_put, k_seqI, k_range1, k_forI, k_lc, List.getElem?_cons_zero, List.getElem?_cons_succ, List.set_cons_zero, List.set_cons_succ, List.length_cons, List.length_nil, if_true, if_false, Bool.not_true, Bool.not_false, Bool.false_eq_true, ite_true, ite_false, reduceIte, Nat.reduceAdd, Nat.zero_add, k_sortSet, k_range2, iadd_i, add_i, sub_i, eq_i, eq_s, ne_i, ne_s, ne_b, lt_i, le_i, gt_i, ge_i, ix_0, ix_1, ix_2, flat_str, flat_int, flat_non, sz_0, sz_1, sz_2, sz_3, sz_4, sz_5, sz_6, sz_7, sz_8, sz_9, decide_eq_true_eq, Bool.not_eq_eq_eq_not, decide_eq_false_iff_not, decide_true, decide_false, true_and, and_true, exists_eq_left, inC_strs, not_true_eq_false, not_false_eq_true, k_isE, k_tryAs, k_tryO, k_raiseA, k_raise, Bool.true_eq_false, reduceCtorEq, ne_eq])
def gs_worth_of : SM :=
  sSeq (sSet 2 (eC (.int 0))) (sSeq (sForI (iSeq (eVar 0)) (gT [gN 3, gN 4]) (sSeq (sForI (iSeq (eVar 3)) (gN 5) (sSet 4 (eOp oMul (eVar 4) (eOp oIx (eVar 1) (eVar 5))))) (sAug 2 oIAddX (eVar 4)))) (sRet (eVar 2)))
def gs_span (f_worth_of : Fn) (f_size_of : Fn) : SM :=
  sSeq (sSet 3 (eCB oDict (aCons (eLc (iSeq (eVar 1)) (gT [gN 7, gN 8, gN 9]) (bYes) (eTup (aCons (eVar 7) (aCons (eVar 8) (aNil)))) [7, 8, 9]) (aNil)))) (sSeq (sSet 4 (eCB oDict (aCons (eLc (iSeq (eVar 1)) (gT [gN 7, gN 8, gN 9]) (bYes) (eTup (aCons (eVar 7) (aCons (eVar 9) (aNil)))) [7, 8, 9]) (aNil)))) (sSeq (sForI (iSeq (eVar 0)) (gT [gN 5, gN 6]) (sIf (bNot (bOf (eCB oAll (aCons (eLc (iSeq (eVar 5)) (gN 7) (bYes) (eOp oInT (eVar 7) (eVar 4)) [7]) (aNil))))) (sRet (eC .non)) (sNil))) (sSeq (sIf (bOf (eOp oGe (eCall 2 f_worth_of (aCons (eVar 0) (aCons (eVar 4) (aNil)))) (eCall 1 f_size_of (aCons (eVar 2) (aNil))))) (sRet (eC .non)) (sNil)) (sRet (eTup (aCons (eCall 2 f_worth_of (aCons (eVar 0) (aCons (eVar 3) (aNil)))) (aCons (eCall 2 f_worth_of (aCons (eVar 0) (aCons (eVar 4) (aNil)))) (aNil))))))))
def gs_law_whole : SM :=
  sSeq (sSet 2 (eC (.int 0))) (sSeq (sForI (iSeq (eVar 0)) (gT [gN 3, gN 4]) (sSeq (sForI (iSeq (eVar 3)) (gN 5) (sSet 4 (eOp oMul (eVar 4) (eOp oIx (eVar 1) (eVar 5))))) (sSet 2 (eOp oAdd (eVar 2) (eVar 4))))) (sRet (eVar 2)))
def gs_law_all_worths : SM :=
  sSeq (sSet 1 (eLst (aCons ((fun _ => newO (.dic []))) (aNil)))) (sSeq (sForI (iSeq (eVar 0)) (gT [gN 2, gN 3, gN 4]) (sSeq (sSet 5 (eLst (aNil))) (sSeq (sForI (iSeq (eVar 1)) (gN 6) (sForI (iRange1 (aCons (eCB oMin2 (aCons (eC (.int 4)) (aCons (eOp oAdd (eOp oSub (eVar 4) (eVar 3)) (eC (.int 1))) (aNil)))) (aNil))) (gN 7) (sSeq (sSet 8 (eCB oDict (aCons (eVar 6) (aNil)))) (sSeq (sPut (eOp oIx (eLst (aCons (eOp oAdd (eVar 3) (eVar 7)) (aCons (eVar 4) (aNil)))) (eCB oIntX (aCons (eOp oEq (eVar 7) (eC (.int 3))) (aNil)))) (eVar 8) (eVar 2)) (sExp (eBM "list" oAppend (eVar 5) (aCons (eVar 8) (aNil)))))))) (sSet 1 (eVar 5))))) (sRet (eVar 1)))
/-! ### what a spread comes to, without any rest -/
def wmS (σ : Str → Int) (m : Mon) (f : Int) : Int := m.foldl (fun a w => a * σ w) f
def whS (σ : Str → Int) (p : Pol) : Int := p.foldl (fun a e => a + wmS σ e.1 e.2) 0
def atW (es : List (Str × Int)) (w : Str) : Int := (getM es w).getD 0
theorem wmS_le {σ τ : Str → Int} : ∀ {m : Mon} {a b : Int}, (∀ w ∈ m, 0 ≤ σ w ∧ σ w ≤ τ w) → 0 ≤ a → a ≤ b → 0 ≤ wmS σ m a ∧ wmS σ m a ≤ wmS τ m b
  | [], a, b, _, h0, h1 => ⟨h0, h1⟩
  | w :: r, a, b, h, h0, h1 => by
    obtain ⟨k0, k1⟩ := h w List.mem_cons_self
    exact wmS_le (m := r) (fun v hv => h v (List.mem_cons_of_mem _ hv)) (Int.mul_nonneg h0 k0) (Int.mul_le_mul h1 k1 k0 (Int.le_trans h0 h1))
theorem whS_le {σ τ : Str → Int} {p : Pol} (hp : ∀ e ∈ p, 0 ≤ e.2 ∧ ∀ w ∈ e.1, 0 ≤ σ w ∧ σ w ≤ τ w) : 0 ≤ whS σ p ∧ whS σ p ≤ whS τ p := by
  have gen : ∀ (p : Pol) (a b : Int), (∀ e ∈ p, 0 ≤ e.2 ∧ ∀ w ∈ e.1, 0 ≤ σ w ∧ σ w ≤ τ w) → 0 ≤ a → a ≤ b → 0 ≤ p.foldl (fun a e => a + wmS σ e.1 e.2) a ∧ p.foldl (fun a e => a + wmS σ e.1 e.2) a ≤ p.foldl (fun a e => a + wmS τ e.1 e.2) b := by
    intro p
    induction p with
    | nil => exact fun a b _ h0 h1 => ⟨h0, h1⟩
    | cons e r ih =>
      intro a b h h0 h1
      obtain ⟨k0, k1⟩ := h e List.mem_cons_self
      obtain ⟨j0, j1⟩ := wmS_le (σ := σ) (τ := τ) (m := e.1) k1 k0 (Int.le_refl _)
      exact ih _ _ (fun x hx => h x (List.mem_cons_of_mem _ hx)) (by show 0 ≤ a + wmS σ e.1 e.2; omega) (by show a + wmS σ e.1 e.2 ≤ b + wmS τ e.1 e.2; omega)
  exact gen p 0 0 hp (Int.le_refl _) (Int.le_refl _)
theorem whS_congr {σ τ : Str → Int} {p : Pol} (h : ∀ e ∈ p, ∀ w ∈ e.1, σ w = τ w) : whS σ p = whS τ p := by
  have g1 : ∀ (m : Mon) (a : Int), (∀ w ∈ m, σ w = τ w) → wmS σ m a = wmS τ m a := by
    intro m
    induction m with
    | nil => exact fun _ _ => rfl
    | cons w r ih =>
      intro a h
      show wmS σ r (a * σ w) = wmS τ r (a * τ w)
      rw [h w List.mem_cons_self]
      exact ih _ fun v hv => h v (List.mem_cons_of_mem _ hv)
  have gen : ∀ (p : Pol) (a : Int), (∀ e ∈ p, ∀ w ∈ e.1, σ w = τ w) → p.foldl (fun a e => a + wmS σ e.1 e.2) a = p.foldl (fun a e => a + wmS τ e.1 e.2) a := by
    intro p
    induction p with
    | nil => exact fun _ _ => rfl
    | cons e r ih =>
      intro a h
      rw [List.foldl_cons, List.foldl_cons, g1 e.1 e.2 (h e List.mem_cons_self)]
      exact ih _ fun x hx => h x (List.mem_cons_of_mem _ hx)
  exact gen p 0 h
theorem whS_snoc {σ : Str → Int} (p : Pol) (e : Mon × Int) : whS σ (p ++ [e]) = whS σ p + wmS σ e.1 e.2 := by
  unfold whS
  rw [List.foldl_append]
  rfl
theorem wmS_snoc {σ : Str → Int} (m : Mon) (w : Str) (f : Int) : wmS σ (m ++ [w]) f = wmS σ m f * σ w := by
  unfold wmS
  rw [List.foldl_append]
  rfl
/-! ### dicts from names to numbers -/
theorem look_wk {es : List (Str × Int)} {w : Str} : lookK (wkE es) (.inr w) = (getM es w).map D.int := lookK_enc (fun w : Str => (Sum.inr w : Key)) fun e _ q => by injection q
theorem look_wkm {es : List (Str × Int)} {w : Str} (h : w ∈ es.map (·.1)) : lookK (wkE es) (.inr w) = some (.int (atW es w)) := by
  obtain ⟨v, hv⟩ := getM_mem h
  rw [look_wk]
  unfold atW
  rw [hv]
  rfl
theorem look_wkn {es : List (Str × Int)} {w : Str} (h : w ∉ es.map (·.1)) : lookK (wkE es) (.inr w) = none := by
  rw [look_wk]
  cases hg : getM es w with
  | none => rfl
  | some v =>
    exfalso
    unfold getM at hg
    cases hf : es.find? fun e => e.1 == w with
    | none => rw [hf] at hg; cases hg
    | some e => exact h (List.mem_map.mpr ⟨e, List.mem_of_find?_eq_some hf, by simpa using List.find?_some hf⟩)
theorem in_wk {st : Sto} {l : Nat} {es : List (Str × Int)} {w : Str} (h : st[l]? = some (.dic (wkE es))) : oInT (.str w) (.loc l) st = some (.bl (decide (w ∈ es.map (·.1))), st) := by
  have hr : rdAt st l (.str w) = some (lookK (wkE es) (.inr w)) := by
    unfold rdAt
    rw [h]
    rfl
  unfold oInT
  dsimp only
  rw [hr]
  dsimp only
  by_cases q : w ∈ es.map (·.1)
  · rw [look_wkm q, decide_eq_true q]
    rfl
  · rw [look_wkn q, decide_eq_false q]
    rfl
theorem ix_wk {st : Sto} {l : Nat} {es : List (Str × Int)} {w : Str} (h : st[l]? = some (.dic (wkE es))) (hw : w ∈ es.map (·.1)) : oIx (.loc l) (.str w) st = some (.int (atW es w), st) := ix_dic h (look_wkm hw)
theorem atW_mem {es : List (Str × Int)} (hn : (es.map (·.1)).Nodup) {e : Str × Int} (he : e ∈ es) : atW es e.1 = e.2 := by
  unfold atW
  rw [getM_coef hn, coef_mem hn he]
theorem sworth_of_sp {st : Sto} {p : Pol} {es : List (Str × Int)} {l : Nat} (hl : st[l]? = some (.dic (wkE es))) (hk : ∀ e ∈ p, ∀ w ∈ e.1, w ∈ es.map (·.1)) (hb : ∀ x ∈ es, 0 ≤ x.2 ∧ x.2 ≤ 16777216) (hn : (es.map (·.1)).Nodup) :
    Ok (runDef 6 gs_worth_of [spD p, .loc l] st) fun d st' => d = .int (whS (atW es) p) ∧ st' = st := by
  have hat : ∀ w ∈ es.map (·.1), 0 ≤ atW es w ∧ atW es w ≤ 16777216 := fun w hw => by
    obtain ⟨e, he, rfl⟩ := List.mem_map.mp hw
    rw [atW_mem hn he]
    exact hb e he
  unfold Ok
  rw [k_run, st_6_2]
  unfold gs_worth_of
  refine cut_seq (fun en' st' => en' = [some (spD p), some (.loc l), some (.int 0), none, none, none] ∧ st' = st) ⟨rfl, rfl⟩ (fun en1 st1 hJ => ?_)
  obtain ⟨rfl, rfl⟩ := hJ
  refine cut_seq (fun en' st' => (∃ y3 y4 y5 : Option D, en' = [some (spD p), some (.loc l), some (.int (whS (atW es) p)), y3, y4, y5]) ∧ st' = st1) ?_ (fun en1 st2 hJ => ?_)
  · rw [k_forI]
    refine seq_sp (p := p) rfl ?_
    refine for_xs pairD p (fun i en' st' => (∃ y3 y4 y5 : Option D, en' = [some (spD p), some (.loc l), some (.int (whS (atW es) (p.take i))), y3, y4, y5]) ∧ st' = st1) ⟨⟨_, _, _, rfl⟩, rfl⟩ (fun _ _ _ _ _ => rfl) (fun i e en' st' he hJ => ?_) (fun en' st' hJ => ?_)
    · obtain ⟨⟨y3, y4, y5, rfl⟩, rfl⟩ := hJ
      obtain ⟨m, f⟩ := e
      have hkm := hk _ (List.mem_of_getElem? he)
      refine ⟨_, rfl, ?_⟩
      show OkS (sSeq _ _ [some (spD p), some (.loc l), some (.int (whS (atW es) (p.take i))), some (.tup (m.map D.str)), some (.int f), y5] _) _
      refine cut_seq (fun en' s => (∃ y5 : Option D, en' = [some (spD p), some (.loc l), some (.int (whS (atW es) (p.take i))), some (.tup (m.map D.str)), some (.int (wmS (atW es) m f)), y5]) ∧ s = st') ?_ (fun en1 s hJ => ?_)
      · rw [k_forI, k_seqI]
        walk_at "go"
        rw [List.length_map]
        refine for_xs D.str m (fun j en' s => (∃ y5 : Option D, en' = [some (spD p), some (.loc l), some (.int (whS (atW es) (p.take i))), some (.tup (m.map D.str)), some (.int (wmS (atW es) (m.take j) f)), y5]) ∧ s = st') ⟨⟨_, rfl⟩, rfl⟩ (fun _ _ _ _ _ => rfl) (fun j w en' s hw hJ => ?_) (fun en' s hJ => ?_)
        · obtain ⟨⟨y5, rfl⟩, rfl⟩ := hJ
          have hwm := hkm w (List.mem_of_getElem? hw)
          have hwb := hat w hwm
          refine ⟨_, rfl, ?_⟩
          walk_at "go"
          rw [ix_wk hl hwm]
          walk_at "go"
          rw [mul_r (by omega)]
          refine ⟨⟨some (.str w), ?_⟩, rfl⟩
          have e2 : m.take (j + 1) = m.take j ++ [w] := by rw [List.take_add_one, hw]; rfl
          rw [e2, wmS_snoc]
        · rw [List.take_length] at hJ
          exact hJ
      obtain ⟨⟨y5, rfl⟩, rfl⟩ := hJ
      walk_at "go"
      rw [iadd_i]
      refine ⟨⟨some (.tup (m.map D.str)), some (.int (wmS (atW es) m f)), y5, ?_⟩, rfl⟩
      have e2 : p.take (i + 1) = p.take i ++ [(m, f)] := by rw [List.take_add_one, he]; rfl
      rw [e2, whS_snoc]
    · rw [List.take_length] at hJ
      exact hJ
  obtain ⟨⟨y3, y4, y5, rfl⟩, rfl⟩ := hJ
  walk_at "go"
  first | exact ⟨rfl, rfl⟩ | exact ⟨rfl, trivial⟩ | trivial
theorem slaw_whole_sp {st : Sto} {p : Pol} {es : List (Str × Int)} {l : Nat} (hl : st[l]? = some (.dic (wkE es))) (hk : ∀ e ∈ p, ∀ w ∈ e.1, w ∈ es.map (·.1)) (hb : ∀ x ∈ es, 0 ≤ x.2 ∧ x.2 ≤ 16777216) (hn : (es.map (·.1)).Nodup) :
    Ok (runDef 6 gs_law_whole [spD p, .loc l] st) fun d st' => d = .int (whS (atW es) p) ∧ st' = st := by
  have hat : ∀ w ∈ es.map (·.1), 0 ≤ atW es w ∧ atW es w ≤ 16777216 := fun w hw => by
    obtain ⟨e, he, rfl⟩ := List.mem_map.mp hw
    rw [atW_mem hn he]
    exact hb e he
  unfold Ok
  rw [k_run, st_6_2]
  unfold gs_law_whole
  refine cut_seq (fun en' st' => en' = [some (spD p), some (.loc l), some (.int 0), none, none, none] ∧ st' = st) ⟨rfl, rfl⟩ (fun en1 st1 hJ => ?_)
  obtain ⟨rfl, rfl⟩ := hJ
  refine cut_seq (fun en' st' => (∃ y3 y4 y5 : Option D, en' = [some (spD p), some (.loc l), some (.int (whS (atW es) p)), y3, y4, y5]) ∧ st' = st1) ?_ (fun en1 st2 hJ => ?_)
  · rw [k_forI]
    refine seq_sp (p := p) rfl ?_
    refine for_xs pairD p (fun i en' st' => (∃ y3 y4 y5 : Option D, en' = [some (spD p), some (.loc l), some (.int (whS (atW es) (p.take i))), y3, y4, y5]) ∧ st' = st1) ⟨⟨_, _, _, rfl⟩, rfl⟩ (fun _ _ _ _ _ => rfl) (fun i e en' st' he hJ => ?_) (fun en' st' hJ => ?_)
    · obtain ⟨⟨y3, y4, y5, rfl⟩, rfl⟩ := hJ
      obtain ⟨m, f⟩ := e
      have hkm := hk _ (List.mem_of_getElem? he)
      refine ⟨_, rfl, ?_⟩
      show OkS (sSeq _ _ [some (spD p), some (.loc l), some (.int (whS (atW es) (p.take i))), some (.tup (m.map D.str)), some (.int f), y5] _) _
      refine cut_seq (fun en' s => (∃ y5 : Option D, en' = [some (spD p), some (.loc l), some (.int (whS (atW es) (p.take i))), some (.tup (m.map D.str)), some (.int (wmS (atW es) m f)), y5]) ∧ s = st') ?_ (fun en1 s hJ => ?_)
      · rw [k_forI, k_seqI]
        walk_at "go"
        rw [List.length_map]
        refine for_xs D.str m (fun j en' s => (∃ y5 : Option D, en' = [some (spD p), some (.loc l), some (.int (whS (atW es) (p.take i))), some (.tup (m.map D.str)), some (.int (wmS (atW es) (m.take j) f)), y5]) ∧ s = st') ⟨⟨_, rfl⟩, rfl⟩ (fun _ _ _ _ _ => rfl) (fun j w en' s hw hJ => ?_) (fun en' s hJ => ?_)
        · obtain ⟨⟨y5, rfl⟩, rfl⟩ := hJ
          have hwm := hkm w (List.mem_of_getElem? hw)
          have hwb := hat w hwm
          refine ⟨_, rfl, ?_⟩
          walk_at "go"
          rw [ix_wk hl hwm]
          walk_at "go"
          rw [mul_r (by omega)]
          refine ⟨⟨some (.str w), ?_⟩, rfl⟩
          have e2 : m.take (j + 1) = m.take j ++ [w] := by rw [List.take_add_one, hw]; rfl
          rw [e2, wmS_snoc]
        · rw [List.take_length] at hJ
          exact hJ
      obtain ⟨⟨y5, rfl⟩, rfl⟩ := hJ
      walk_at "go"
      rw [add_i]
      refine ⟨⟨some (.tup (m.map D.str)), some (.int (wmS (atW es) m f)), y5, ?_⟩, rfl⟩
      have e2 : p.take (i + 1) = p.take i ++ [(m, f)] := by rw [List.take_add_one, he]; rfl
      rw [e2, whS_snoc]
    · rw [List.take_length] at hJ
      exact hJ
  obtain ⟨⟨y3, y4, y5, rfl⟩, rfl⟩ := hJ
  walk_at "go"
  first | exact ⟨rfl, rfl⟩ | exact ⟨rfl, trivial⟩ | trivial
/-! ### spans -/
def inpD (x : Str × Int × Int) : D := .tup [.str x.1, .int x.2.1, .int x.2.2]
def leastE (xs : List (Str × Int × Int)) : List (Str × Int) := xs.map fun x => (x.1, x.2.1)
def mostE (xs : List (Str × Int × Int)) : List (Str × Int) := xs.map fun x => (x.1, x.2.2)
theorem least_keys (xs : List (Str × Int × Int)) : (leastE xs).map (·.1) = xs.map (·.1) := by unfold leastE; rw [List.map_map]; rfl
theorem most_keys (xs : List (Str × Int × Int)) : (mostE xs).map (·.1) = xs.map (·.1) := by unfold mostE; rw [List.map_map]; rfl
structure InpOk (N : Int) (xs : List (Str × Int × Int)) : Prop where
  nd : (xs.map (·.1)).Nodup
  bd : ∀ x ∈ xs, 0 ≤ x.2.1 ∧ x.2.1 ≤ x.2.2 ∧ x.2.2 < N
theorem InpOk.least {N : Int} (hN : N ≤ 16777216) {xs : List (Str × Int × Int)} (h : InpOk N xs) : ∀ x ∈ leastE xs, 0 ≤ x.2 ∧ x.2 ≤ 16777216 := fun e he => by
  obtain ⟨x, hx, rfl⟩ := List.mem_map.mp he
  have := h.bd x hx
  dsimp only
  omega
theorem InpOk.most {N : Int} (hN : N ≤ 16777216) {xs : List (Str × Int × Int)} (h : InpOk N xs) : ∀ x ∈ mostE xs, 0 ≤ x.2 ∧ x.2 ≤ 16777216 := fun e he => by
  obtain ⟨x, hx, rfl⟩ := List.mem_map.mp he
  have := h.bd x hx
  dsimp only
  omega
def knownP (ws : List Str) (p : Pol) : Bool := p.all fun e => e.1.all fun w => decide (w ∈ ws)
theorem known_iff {ws : List Str} {p : Pol} : knownP ws p = true ↔ ∀ e ∈ p, ∀ w ∈ e.1, w ∈ ws := by
  unfold knownP
  simp [List.all_eq_true]
def spanD (N : Int) (xs : List (Str × Int × Int)) (p : Pol) : D :=
  if knownP (xs.map (·.1)) p = true then (if N ≤ whS (atW (mostE xs)) p then .non else .tup [.int (whS (atW (leastE xs)) p), .int (whS (atW (mostE xs)) p)]) else .non
def WhSp (f : Fn) : Prop := ∀ ⦃st : Sto⦄ ⦃p : Pol⦄ ⦃es : List (Str × Int)⦄ ⦃l : Nat⦄, st[l]? = some (.dic (wkE es)) → (∀ e ∈ p, ∀ w ∈ e.1, w ∈ es.map (·.1)) → (∀ x ∈ es, 0 ≤ x.2 ∧ x.2 ≤ 16777216) → (es.map (·.1)).Nodup → Ok (f [spD p, .loc l] st) fun d st' => d = .int (whS (atW es) p) ∧ st' = st
theorem span_sp {worth size : Fn} (hwo : WhSp worth) (hs : SizeSp size) {y N : Int} (hw : WN y N) {xs : List (Str × Int × Int)} (hx : InpOk N xs) (hxl : xs.length ≤ 1000) {p : Pol} (hpl : p.length ≤ 1000) (hml : ∀ e ∈ p, e.1.length ≤ 1000) (st : Sto) :
    Ok (runDef 10 (gs_span worth size) [spD p, .tup (xs.map inpD), .int y] st) fun d st' => d = spanD N xs p ∧ Ext st st' := by
  have hN := hw.le
  unfold Ok
  rw [k_run, st_10_3]
  unfold gs_span
  have hcomp : ∀ (f : Str × Int × Int → Int) (el : EM) (enw : Ev) (s : Sto), (∀ x ∈ xs, ∃ en1, (gT [gN 7, gN 8, gN 9]) (inpD x) enw = some en1 ∧ ∀ acc, Ok (el en1 (s ++ [.lst acc])) fun y s2 => y = .tup [.str x.1, .int (f x)] ∧ s2 = s ++ [.lst acc]) →
      Ok (lcLoop bYes el (gT [gN 7, gN 8, gN 9]) (srcIts (xs.map inpD)) s.length enw xs.length 0 (s ++ [.lst []])) fun _ s2 => s2 = s ++ [.lst ((xs.map fun x => (x.1, f x)).map fun e => D.tup [.str e.1, .int e.2])] := fun f el enw s h => by
    refine Ok.imp (lc_pE (cond := bYes) inpD xs (fun x => .tup [.str x.1, .int (f x)]) (fun _ => true) (szl (by omega)) (src_its _ _) (fun x hx => ?_)) fun _ s3 e3 => ?_
    · obtain ⟨en1, e1, h1⟩ := h x hx
      exact ⟨en1, e1, fun acc => ⟨OkX.of_eq (a := true) rfl ⟨rfl, rfl⟩, fun _ => h1 acc⟩⟩
    · rw [e3, List.filter_eq_self.mpr (fun _ _ => rfl), List.map_map]
      rfl
  refine cut_seq (fun en' st' => (∃ A : Nat, en' = [some (spD p), some (.tup (xs.map inpD)), some (.int y), some (.loc A), none, none, none, none, none, none] ∧ st'[A]? = some (.dic (wkE (leastE xs)))) ∧ Ext st st') ?_ (fun en1 st1 hJ => ?_)
  · walk_at "go"
    rw [List.length_map]
    refine Ok.imp (hcomp (fun x => x.2.1) _ _ st (fun x hx => ⟨_, rfl, fun acc => ?_⟩)) fun _ s e => ?_
    · unfold Ok
      show OkX (eTup _ [some (spD p), some (.tup (xs.map inpD)), some (.int y), none, none, none, none, some (.str x.1), some (.int x.2.1), some (.int x.2.2)] _) _ _
      walk_at "gg"
    · subst e
      rw [show (List.map (fun x : Str × Int × Int => (x.1, x.2.1)) xs) = leastE xs from rfl, dict_wk (es := leastE xs) (by rw [least_keys]; exact hx.nd) last_at]
      exact ⟨⟨_, rfl, last_at⟩, Ext.app.appR⟩
  obtain ⟨⟨A, rfl, hA⟩, hE1⟩ := hJ
  refine cut_seq (fun en' st' => (∃ C : Nat, en' = [some (spD p), some (.tup (xs.map inpD)), some (.int y), some (.loc A), some (.loc C), none, none, none, none, none] ∧ st'[C]? = some (.dic (wkE (mostE xs)))) ∧ Ext st1 st') ?_ (fun en1 st2 hJ => ?_)
  · walk_at "go"
    rw [List.length_map]
    refine Ok.imp (hcomp (fun x => x.2.2) _ _ st1 (fun x hx => ⟨_, rfl, fun acc => ?_⟩)) fun _ s e => ?_
    · unfold Ok
      show OkX (eTup _ [some (spD p), some (.tup (xs.map inpD)), some (.int y), some (.loc A), none, none, none, some (.str x.1), some (.int x.2.1), some (.int x.2.2)] _) _ _
      walk_at "gg"
    · subst e
      rw [show (List.map (fun x : Str × Int × Int => (x.1, x.2.2)) xs) = mostE xs from rfl, dict_wk (es := mostE xs) (by rw [most_keys]; exact hx.nd) last_at]
      exact ⟨⟨_, rfl, last_at⟩, Ext.app.appR⟩
  obtain ⟨⟨C, rfl, hC⟩, hE2⟩ := hJ
  have hA2 := hE2.get hA
  have hE := hE1.trans hE2
  clear hE1 hE2 hA
  refine cut_seq (fun en' st' => (∃ y5 y6 y7 y8 y9 : Option D, en' = [some (spD p), some (.tup (xs.map inpD)), some (.int y), some (.loc A), some (.loc C), y5, y6, y7, y8, y9]) ∧ knownP (xs.map (·.1)) p = true ∧ Ext st2 st') ?_ (fun en1 st3 hJ => ?_)
  · rw [k_forI]
    refine seq_sp (p := p) rfl ?_
    refine for_xs pairD p (fun i en' st' => (∃ y5 y6 y7 y8 y9 : Option D, en' = [some (spD p), some (.tup (xs.map inpD)), some (.int y), some (.loc A), some (.loc C), y5, y6, y7, y8, y9]) ∧ knownP (xs.map (·.1)) (p.take i) = true ∧ Ext st2 st') ⟨⟨_, _, _, _, _, rfl⟩, rfl, Ext.refl⟩ (fun _ _ _ _ _ => rfl) (fun i e en' st' he hJ => ?_) (fun en' st' hJ => ?_)
    · obtain ⟨⟨y5, y6, y7, y8, y9, rfl⟩, hkn, hE3⟩ := hJ
      obtain ⟨m, f⟩ := e
      have hmm := hml _ (List.mem_of_getElem? he)
      refine ⟨_, rfl, ?_⟩
      show OkS (sIf _ _ _ [some (spD p), some (.tup (xs.map inpD)), some (.int y), some (.loc A), some (.loc C), some (.tup (m.map D.str)), some (.int f), y7, y8, y9] _) _
      walk_at "gg"
      rw [List.length_map]
      have hC3 := hE3.get hC
      refine Ok.imp (lc_pE (cond := bYes) D.str m (fun w => .bl (decide (w ∈ xs.map (·.1)))) (fun _ => true) (szl (by have : m.length ≤ 1000 := hmm; omega)) (src_its _ _) (fun w hw => ⟨_, rfl, fun acc => ⟨OkX.of_eq (a := true) rfl ⟨rfl, rfl⟩, fun _ => ?_⟩⟩)) fun _ s e => ?_
      · unfold Ok
        show OkX (eOp oInT _ _ [some (spD p), some (.tup (xs.map inpD)), some (.int y), some (.loc A), some (.loc C), some (.tup (m.map D.str)), some (.int f), some (.str w), y8, y9] _) _ _
        walk_at "gg"
        rw [in_wk (app_get hC3), most_keys]
        exact ⟨rfl, rfl⟩
      · subst e
        rw [List.filter_eq_self.mpr (fun _ _ => rfl), oAll_f (f := fun w => decide (w ∈ xs.map (·.1))) last_at]
        walk_at "gg"
        have e2 : p.take (i + 1) = p.take i ++ [(m, f)] := by rw [List.take_add_one, he]; rfl
        cases hall : m.all fun w => decide (w ∈ xs.map (·.1)) with
        | true =>
          rw [if_neg (by simp)]
          refine ⟨⟨_, _, _, _, _, rfl⟩, ?_, hE3.appR⟩
          rw [e2]
          unfold knownP at hkn ⊢
          rw [List.all_append, hkn]
          simp only [List.all_cons, List.all_nil, hall]
          rfl
        | false =>
          rw [if_pos (by simp)]
          refine ⟨?_, hE.trans hE3.appR⟩
          unfold spanD
          rw [if_neg]
          intro z
          have := List.all_eq_true.mp z (m, f) (List.mem_of_getElem? he)
          dsimp only at this
          rw [hall] at this
          cases this
    · rw [List.take_length] at hJ
      exact hJ
  obtain ⟨⟨y5, y6, y7, y8, y9, rfl⟩, hkn, hE3⟩ := hJ
  have hA3 := hE3.get hA2
  have hC3 := hE3.get hC
  have hkp := known_iff.mp hkn
  walk_at "gg"
  refine Ok.imp (hwo (p := p) hC3 (by rw [most_keys]; exact hkp) (hx.most hN.2) (by rw [most_keys]; exact hx.nd)) fun d s ⟨e1, e2⟩ => ?_
  subst e1 e2
  refine Ok.imp (hw.size hs) fun _ s1 ⟨e1, e2⟩ => ?_
  subst e1 e2
  walk_at "gg"
  by_cases hge : N ≤ whS (atW (mostE xs)) p
  · rw [if_pos hge]
    refine ⟨?_, hE.trans hE3⟩
    unfold spanD
    rw [if_pos hkn, if_pos hge]
  · rw [if_neg hge]
    refine Ok.imp (hwo (p := p) hA3 (by rw [least_keys]; exact hkp) (hx.least hN.2) (by rw [least_keys]; exact hx.nd)) fun d s ⟨e1, e2⟩ => ?_
    subst e1 e2
    refine Ok.imp (hwo (p := p) hC3 (by rw [most_keys]; exact hkp) (hx.most hN.2) (by rw [most_keys]; exact hx.nd)) fun d s ⟨e1, e2⟩ => ?_
    subst e1 e2
    refine ⟨?_, hE.trans hE3⟩
    unfold spanD
    rw [if_pos hkn, if_neg hge]
/-! ### all rows of worths between the least and the most -/
theorem putM_new {w : Str} {v : Int} : ∀ {es : List (Str × Int)}, w ∉ es.map (·.1) → putM es w v = es ++ [(w, v)]
  | [], _ => rfl
  | e :: r, h => by
    rw [List.map_cons, List.mem_cons, not_or] at h
    unfold putM
    rw [if_neg fun z => h.1 z.symm, putM_new h.2]
    rfl
structure Btw (xs : List (Str × Int × Int)) (es : List (Str × Int)) : Prop where
  key : es.map (·.1) = xs.map (·.1)
  bt : ∀ e ∈ es, ∃ x ∈ xs, x.1 = e.1 ∧ x.2.1 ≤ e.2 ∧ e.2 ≤ x.2.2
theorem Btw.snoc {xs : List (Str × Int × Int)} {es : List (Str × Int)} (h : Btw xs es) {x : Str × Int × Int} {v : Int} (h0 : x.2.1 ≤ v) (h1 : v ≤ x.2.2) : Btw (xs ++ [x]) (es ++ [(x.1, v)]) :=
  ⟨by rw [List.map_append, List.map_append, h.key]; rfl, fun e he => by
    rcases List.mem_append.mp he with z | z
    · obtain ⟨u, hu, k⟩ := h.bt e z
      exact ⟨u, List.mem_append_left _ hu, k⟩
    · rw [List.mem_singleton.mp z]
      exact ⟨x, List.mem_append_right _ (List.mem_singleton.mpr rfl), rfl, h0, h1⟩⟩
theorem Btw.len {xs : List (Str × Int × Int)} {es : List (Str × Int)} (h : Btw xs es) : es.length = xs.length := by
  have := congrArg List.length h.key
  rwa [List.length_map, List.length_map] at this
/-- dicts at places, each between -/
def BtL (xs : List (Str × Int × Int)) (ls : List Nat) (st : Sto) : Prop := ∀ l ∈ ls, ∃ es, st[l]? = some (.dic (wkE es)) ∧ Btw xs es
theorem BtL.ext {xs : List (Str × Int × Int)} {ls : List Nat} {st st' : Sto} (h : BtL xs ls st) (k : Ext st st') : BtL xs ls st' := fun l hl => by
  obtain ⟨es, h1, h2⟩ := h l hl
  exact ⟨es, k.get h1, h2⟩
theorem all_sp {xs : List (Str × Int × Int)} {N : Int} (hx : InpOk N xs) (hl : xs.length ≤ 3) {I0 : Nat} {st : Sto} (hI : st[I0]? = some (.lst (xs.map inpD))) :
    Ok (runDef 9 gs_law_all_worths [.loc I0] st) fun d st' => ∃ (F : Nat) (ls : List Nat), d = .loc F ∧ st'[F]? = some (.lst (ls.map D.loc)) ∧ ls.length ≤ 64 ∧ BtL xs ls st' ∧ Ext st st' := by
  unfold Ok
  rw [k_run, st_9_1]
  unfold gs_law_all_worths
  refine cut_seq (fun en' st' => (∃ (F : Nat) (ls : List Nat), en' = [some (.loc I0), some (.loc F), none, none, none, none, none, none, none] ∧ st'[F]? = some (.lst (ls.map D.loc)) ∧ ls.length ≤ 4 ^ 0 ∧ BtL (xs.take 0) ls st') ∧ Ext st st') ?_ (fun en1 st1 hJ => ?_)
  · walk_at "go"
    show OkX (Sh.R.ok (D.loc st.length) (st ++ [O.dic []])) _ _
    walk_at "go"
    rw [if_pos (show 1 ≤ sizeLine by decide)]
    refine ⟨⟨_, [st.length], rfl, last_at, Nat.le_refl _, fun l hl => ?_⟩, Ext.app.appR⟩
    rw [List.mem_singleton.mp hl]
    exact ⟨[], app_get last_at, rfl, fun e he => by cases he⟩
  obtain ⟨⟨F0, ls0, rfl, hF0, hl0, hb0⟩, hE1⟩ := hJ
  refine cut_seq (fun en' st' => (∃ (F : Nat) (ls : List Nat) (y2 y3 y4 y5 y6 y7 y8 : Option D), en' = [some (.loc I0), some (.loc F), y2, y3, y4, y5, y6, y7, y8] ∧ st'[F]? = some (.lst (ls.map D.loc)) ∧ ls.length ≤ 4 ^ xs.length ∧ BtL xs ls st') ∧ Ext st st') ?_ (fun en1 st2 hJ => ?_)
  · rw [k_forI, k_seqI]
    walk_at "go"
    rw [lst_at (hE1.get hI)]
    dsimp only
    rw [List.length_map]
    refine for_xs inpD xs (fun i en' st' => (∃ (F : Nat) (ls : List Nat) (y2 y3 y4 y5 y6 y7 y8 : Option D), en' = [some (.loc I0), some (.loc F), y2, y3, y4, y5, y6, y7, y8] ∧ st'[F]? = some (.lst (ls.map D.loc)) ∧ ls.length ≤ 4 ^ i ∧ BtL (xs.take i) ls st') ∧ Ext st st') ⟨⟨F0, ls0, _, _, _, _, _, _, _, rfl, hF0, hl0, hb0⟩, hE1⟩ (fun i en' st' hJ j => src_at (hJ.2.get hI) j) (fun i x en' s0 hxi hJ => ?_) (fun en' st' hJ => ?_)
    · obtain ⟨⟨F, ls, y2, y3, y4, y5, y6, y7, y8, rfl, hF, hll, hbt⟩, hE⟩ := hJ
      have hi3 : i < 3 := by have := (List.getElem?_eq_some_iff.mp hxi).1; omega
      have hl16 : ls.length ≤ 16 := by
        obtain rfl | rfl | rfl : i = 0 ∨ i = 1 ∨ i = 2 := by omega
        all_goals omega
      have hxb := hx.bd x (List.mem_of_getElem? hxi)
      have etk : xs.take (i + 1) = xs.take i ++ [x] := by rw [List.take_add_one, hxi]; rfl
      have hnew : x.1 ∉ (xs.take i).map (·.1) := fun z => by
        have h1 : ((xs.take (i + 1)).map (·.1)).Nodup := hx.nd.sublist ((List.take_sublist _ _).map _)
        rw [etk, List.map_append, List.nodup_append] at h1
        exact h1.2.2 _ z _ (List.mem_singleton.mpr rfl) rfl
      refine ⟨_, rfl, ?_⟩
      show OkS (sSeq _ _ [some (.loc I0), some (.loc F), some (.str x.1), some (.int x.2.1), some (.int x.2.2), y5, y6, y7, y8] s0) _
      refine cut_seq (fun en' s => en' = [some (.loc I0), some (.loc F), some (.str x.1), some (.int x.2.1), some (.int x.2.2), some (.loc s0.length), y6, y7, y8] ∧ s = s0 ++ [.lst []]) ?_ (fun en1 s1 hJ => ?_)
      · walk_at "go"
        rw [if_pos (Nat.zero_le _)]
        first | exact ⟨rfl, rfl⟩ | exact ⟨trivial, rfl⟩ | exact ⟨rfl, trivial⟩ | trivial
      obtain ⟨rfl, rfl⟩ := hJ
      refine cut_seq (fun en' s => (∃ (qs : List Nat) (y6 y7 y8 : Option D), en' = [some (.loc I0), some (.loc F), some (.str x.1), some (.int x.2.1), some (.int x.2.2), some (.loc s0.length), y6, y7, y8] ∧ s[s0.length]? = some (.lst (qs.map D.loc)) ∧ qs.length ≤ 4 * ls.length ∧ BtL (xs.take (i + 1)) qs s) ∧ Ext s0 s) ?_ (fun en1 s1 hJ => ?_)
      · rw [k_forI, k_seqI]
        walk_at "go"
        rw [lst_at (app_get hF)]
        dsimp only
        rw [List.length_map]
        refine for_xs D.loc ls (fun j en' s => (∃ (qs : List Nat) (y6 y7 y8 : Option D), en' = [some (.loc I0), some (.loc F), some (.str x.1), some (.int x.2.1), some (.int x.2.2), some (.loc s0.length), y6, y7, y8] ∧ s[s0.length]? = some (.lst (qs.map D.loc)) ∧ qs.length ≤ 4 * j ∧ (∀ q ∈ qs, s0.length < q) ∧ BtL (xs.take (i + 1)) qs s) ∧ Ext s0 s) ⟨⟨[], _, _, _, rfl, last_at, Nat.le_refl _, fun _ h => (by cases h), fun _ h => by cases h⟩, Ext.app⟩ (fun j en' s hJ u => src_at (hJ.2.get hF) u) (fun j w en' s hwj hJ => ?_) (fun en' s hJ => ?_)
        · obtain ⟨⟨qs, y6, y7, y8, rfl, hG, hql, hqg, hqb⟩, hE2⟩ := hJ
          have hj := (List.getElem?_eq_some_iff.mp hwj).1
          obtain ⟨es, hes, hbe⟩ := hbt w (List.mem_of_getElem? hwj)
          refine ⟨_, rfl, ?_⟩
          show OkS (sForI _ _ _ [some (.loc I0), some (.loc F), some (.str x.1), some (.int x.2.1), some (.int x.2.2), some (.loc s0.length), some (.loc w), y7, y8] s) _
          walk_at "go"
          rw [show oSub (.int x.2.2) (.int x.2.1) s = some (.int (x.2.2 - x.2.1), s) from rfl]
          walk_at "go"
          rw [show oAdd (.int (x.2.2 - x.2.1)) (.int 1) s = some (.int (x.2.2 - x.2.1 + 1), s) from rfl]
          walk_at "go"
          rw [min_i]
          walk_at "go"
          obtain ⟨u, hu, hu0, hu1, hu2⟩ : ∃ u : Int, u = (if x.2.2 - x.2.1 + 1 < 4 then x.2.2 - x.2.1 + 1 else 4) ∧ 0 ≤ u ∧ u ≤ 4 ∧ u ≤ x.2.2 - x.2.1 + 1 := ⟨_, rfl, by split <;> omega, by split <;> omega, by split <;> omega⟩
          rw [← hu]
          clear hu
          rw [if_pos (by omega)]
          have hun : (u.toNat : Int) = u := by omega
          generalize u.toNat = un at hun
          refine for_rng (n := un) (fun k en' s => (∃ (qs : List Nat) (y7 y8 : Option D), en' = [some (.loc I0), some (.loc F), some (.str x.1), some (.int x.2.1), some (.int x.2.2), some (.loc s0.length), some (.loc w), y7, y8] ∧ s[s0.length]? = some (.lst (qs.map D.loc)) ∧ qs.length ≤ 4 * j + k ∧ (∀ q ∈ qs, s0.length < q) ∧ BtL (xs.take (i + 1)) qs s) ∧ Ext s0 s) ⟨⟨qs, _, _, rfl, hG, hql, hqg, hqb⟩, hE2⟩ (fun k en s hk hJ => ?_) (fun en s hJ => ?_)
          · clear hG hql hqg hqb hE2 qs y6 y7 y8
            obtain ⟨⟨qs, y7, y8, rfl, hG, hql, hqg, hqb⟩, hE2⟩ := hJ
            obtain ⟨kx, hkx⟩ : ∃ kx : Int, kx = (k : Int) := ⟨_, rfl⟩
            refine ⟨_, rfl, ?_⟩
            rw [← hkx]
            refine cut_seq (fun en' s2 => en' = [some (.loc I0), some (.loc F), some (.str x.1), some (.int x.2.1), some (.int x.2.2), some (.loc s0.length), some (.loc w), some (.int kx), some (.loc s.length)] ∧ s2 = s ++ [.dic (wkE es)]) ?_ (fun en1 s2 hJ => ?_)
            · walk_at "go"
              rw [dict_cp (hE2.get hes)]
              exact ⟨rfl, rfl⟩
            obtain ⟨rfl, rfl⟩ := hJ
            have hkeys : x.1 ∉ es.map (·.1) := by rw [hbe.key]; exact hnew
            have hnde : (es.map (·.1)).Nodup := by
              rw [hbe.key]
              exact hx.nd.sublist ((List.take_sublist _ _).map _)
            have hel : es.length ≤ 3 := by rw [hbe.len, List.length_take]; omega
            refine cut_seq (fun en' s3 => en' = [some (.loc I0), some (.loc F), some (.str x.1), some (.int x.2.1), some (.int x.2.2), some (.loc s0.length), some (.loc w), some (.int kx), some (.loc s.length)] ∧ ∃ v : Int, x.2.1 ≤ v ∧ v ≤ x.2.2 ∧ s3[s.length]? = some (.dic (wkE (es ++ [(x.1, v)]))) ∧ Ext s s3) ?_ (fun en1 s3 hJ => ?_)
            · walk_at "go"
              rw [show oAdd (.int x.2.1) (.int kx) (s ++ [O.dic (wkE es)]) = some (.int (x.2.1 + kx), s ++ [O.dic (wkE es)]) from rfl]
              walk_at "go"
              rw [if_pos (show 2 ≤ sizeLine by decide)]
              have hlst : (s ++ [O.dic (wkE es)] ++ [O.lst [D.int (x.2.1 + kx), D.int x.2.2]])[(s ++ [O.dic (wkE es)]).length]? = some (O.lst [D.int (x.2.1 + kx), D.int x.2.2]) := last_at
              have hdic : (s ++ [O.dic (wkE es)] ++ [O.lst [D.int (x.2.1 + kx), D.int x.2.2]])[s.length]? = some (O.dic (wkE es)) := app_get last_at
              have hEs : Ext s (s ++ [O.dic (wkE es)] ++ [O.lst [D.int (x.2.1 + kx), D.int x.2.2]]) := Ext.app.appR
              generalize s ++ [O.dic (wkE es)] ++ [O.lst [D.int (x.2.1 + kx), D.int x.2.2]] = s4 at hlst hdic hEs
              rw [show oEq (.int kx) (.int 3) s4 = some (.bl (decide (kx = 3)), s4) from rfl]
              walk_at "go"
              obtain ⟨v, hv0, hv1, hv⟩ : ∃ v : Int, x.2.1 ≤ v ∧ v ≤ x.2.2 ∧ OkO (oIntX [.bl (decide (kx = 3))] s4) (fun d s5 => OkO (oIx (.loc (s ++ [O.dic (wkE es)]).length) d s5) fun d2 s6 => d2 = .int v ∧ s6 = s4) := by
                by_cases h3 : kx = 3
                · refine ⟨x.2.2, hxb.2.1, Int.le_refl _, ?_⟩
                  rw [decide_eq_true h3, show oIntX [.bl true] s4 = some (.int 1, s4) from rfl, o_some, ix_lst (lst_at hlst) (d := .int x.2.2) rfl]
                  exact ⟨rfl, rfl⟩
                · refine ⟨x.2.1 + kx, by omega, by omega, ?_⟩
                  rw [decide_eq_false h3, show oIntX [.bl false] s4 = some (.int 0, s4) from rfl, o_some, ix_lst (lst_at hlst) (d := .int (x.2.1 + kx)) rfl]
                  exact ⟨rfl, rfl⟩
              have hout : ∀ {o : Option (D × Sto)} {P P' : D → Sto → Prop}, OkO o P → (∀ d s, P d s → P' d s) → OkO o P' := fun {o} {P P'} h k => by
                cases o with
                | none => exact h
                | some q => exact k q.1 q.2 h
              refine hout hv fun d s5 h5 => ?_
              refine hout h5 fun d2 s6 ⟨e5, e6⟩ => ?_
              subst e5 e6
              rw [set_wk hnde (by omega) hdic, putM_new hkeys]
              exact ⟨trivial, v, hv0, hv1, List.getElem?_set_self (lift_len hdic), hEs.setR (Nat.le_refl _)⟩
            obtain ⟨rfl, v, hv0, hv1, hd3, hE3⟩ := hJ
            have hG3 := hE3.get hG
            have hlt := lift_len hG
            walk_at "go"
            rw [if_pos (isTy_lst hG3)]
            have hap : oAppend (.loc s0.length) [.loc s.length] s3 = some (.non, s3.set s0.length (.lst ((qs ++ [s.length]).map D.loc))) := by
              unfold oAppend
              dsimp only
              rw [hG3]
              dsimp only
              rw [if_pos (szl (by rw [List.length_map]; omega)), List.map_append]
              rfl
            rw [hap]
            refine ⟨⟨qs ++ [s.length], _, _, rfl, List.getElem?_set_self (lift_len hG3), by rw [List.length_append, List.length_singleton]; omega, fun q hq => ?_, fun q hq => ?_⟩, (hE2.trans hE3).setR (Nat.le_refl _)⟩
            · rcases List.mem_append.mp hq with z | z
              · exact hqg q z
              · rw [List.mem_singleton.mp z]; exact hlt
            · rcases List.mem_append.mp hq with z | z
              · obtain ⟨es2, h1, h2⟩ := hqb q z
                have := hqg q z
                exact ⟨es2, by rw [List.getElem?_set_ne (by omega)]; exact hE3.get h1, h2⟩
              · rw [List.mem_singleton.mp z]
                exact ⟨_, by rw [List.getElem?_set_ne (by omega)]; exact hd3, by rw [etk]; exact hbe.snoc hv0 hv1⟩
          · obtain ⟨⟨qs, y7, y8, rfl, hG, hql, hqg, hqb⟩, hE2⟩ := hJ
            exact ⟨⟨qs, _, _, _, rfl, hG, by omega, hqg, hqb⟩, hE2⟩
        · obtain ⟨⟨qs, y6, y7, y8, rfl, hG, hql, hqg, hqb⟩, hE2⟩ := hJ
          exact ⟨⟨qs, _, _, _, rfl, hG, hql, hqb⟩, hE2⟩
      obtain ⟨⟨qs, y6, y7, y8, rfl, hG, hql, hqb⟩, hE2⟩ := hJ
      walk_at "go"
      refine ⟨⟨s0.length, qs, _, _, _, _, _, _, _, rfl, hG, ?_, hqb⟩, hE.trans hE2⟩
      rw [Nat.pow_succ]
      omega
    · rw [List.take_length] at hJ
      exact hJ
  obtain ⟨⟨F, ls, y2, y3, y4, y5, y6, y7, y8, rfl, hF, hll, hbt⟩, hE⟩ := hJ
  walk_at "go"
  refine ⟨F, ls, rfl, hF, Nat.le_trans hll ?_, hbt, hE⟩
  obtain h | h | h | h : xs.length = 0 ∨ xs.length = 1 ∨ xs.length = 2 ∨ xs.length = 3 := by omega
  all_goals rw [h]; decide
end Sh

set_option maxHeartbeats 1000000
namespace Sh
open PySem PySem.Spec PyProof.Rows L2
local macro_rules | `(tactic| walk_at "go") => `(tactic| simp only [k_bnd, k_ret, k_ok, k_bad, k_badM, k_exc, k_lft, k_ite, k_ite', o_some, o_none, o_ite, v_some, k_var, k_c, k_op, k_call, k_call0, k_cb, k_nil, k_cons, k_tup, k_lst, k_bOf, k_bAnd, k_bOr, k_bNot, k_and, k_or, k_not, k_if, k_chain, k_inC, k_neg, k_bm, k_get2, k_pnone, k_psome, k_sl, k_pnil, k_pcons, k_dic, k_gix, k_seq, k_nx, k_rt, k_sbad, k_snil, k_spass, k_set, k_sret, k_sretN, k_sexp, k_sif, k_asg, k_par2, k_par3, k_aug, k_put, k_seqI, k_range1, k_forI, k_lc, List.getElem?_cons_zero, List.getElem?_cons_succ, List.set_cons_zero, List.set_cons_succ, List.length_cons, List.length_nil, if_true, if_false, Bool.not_true, Bool.not_false, Bool.false_eq_true, ite_true, ite_false, reduceIte, Nat.reduceAdd, Nat.zero_add])
local macro_rules | `(tactic| walk_at "gg") => `(tactic| simp only [k_bnd, k_ret, k_ok, k_bad, k_badM, k_exc, k_lft, k_ite, k_ite', o_some, o_none, o_ite, v_some, k_var, k_c, k_op, k_call, k_call0, k_cb, k_nil, k_cons, k_tup, k_lst, k_bOf, k_bAnd, k_bOr, k_bNot, k_and, k_or, k_not, k_if, k_chain, k_inC, k_neg, k_bm, k_get2, k_pnone, k_psome, k_sl, k_pnil, k_pcons, k_dic, k_gix, k_seq, k_nx, k_rt, k_sbad, k_snil, k_spass, k_set, k_sret, k_sretN, k_sexp, k_sif, k_asg, k_par2, k_par3, k_aug, k_put, k_seqI, k_range1, k_forI, k_lc, List.getElem?_cons_zero, List.getElem?_cons_succ, List.set_cons_zero, List.set_cons_succ, List.length_cons, List.length_nil, if_true, if_false, Bool.not_true, Bool.not_false, Bool.false_eq_true, ite_true, ite_false, reduceIte, Nat.reduceAdd, Nat.zero_add, k_sortSet, k_range2, iadd_i, add_i, sub_i, eq_i, eq_s, ne_i, ne_s, ne_b, lt_i, le_i, gt_i, ge_i, ix_0, ix_1, ix_2, flat_str, flat_int, flat_non, sz_0, sz_1, sz_2, sz_3, sz_4, sz_5, sz_6, sz_7, sz_8, sz_9, decide_eq_true_eq, Bool.not_eq_eq_eq_not, decide_eq_false_iff_not, decide_true, decide_false, true_and, and_true, exists_eq_left, inC_strs, not_true_eq_false, not_false_eq_true])
local macro_rules | `(tactic| walk_at "g2") => `(tactic| simp only [k_bnd, k_ret, k_ok, k_bad, k_badM, k_exc, k_lft, k_ite, k_ite', o_some, o_none, o_ite, v_some, k_var, k_c, k_op, k_call, k_call0, k_cb, k_nil, k_cons, k_tup, k_lst, k_bOf, k_bAnd, k_bOr, k_bNot, k_and, k_or, k_not, k_if, k_chain, k_inC, k_neg, k_bm, k_get2, k_pnone, k_psome, k_sl, k_pnil, k_pcons, k_dic, k_gix, k_seq, k_nx, k_rt, k_sbad, k_snil, k_spass, k_set, k_sret, k_sretN, k_sexp, k_sif, k_asg, k_par2, k_par3, k_aug, k_put, k_seqI, k_range1, k_forI, k_lc, List.getElem?_cons_zero, List.getElem?_cons_succ, List.set_cons_zero, List.set_cons_succ, List.length_cons, List.length_nil, if_true, if_false, Bool.not_true, Bool.not_false, Bool.false_eq_true, ite_true, ite_false, reduceIte, Nat.reduceAdd, Nat.zero_add, k_sortSet, iadd_i, add_i, sub_i, eq_i, eq_s, ne_i, ne_s, ne_b, lt_i, le_i, gt_i, ge_i, ix_0, ix_1, ix_2, flat_str, flat_int, flat_non, sz_0, sz_1, sz_2, sz_3, sz_4, sz_5, sz_6, sz_7, sz_8, sz_9, decide_eq_true_eq, Bool.not_eq_eq_eq_not, decide_eq_false_iff_not, decide_true, decide_false, true_and, and_true, exists_eq_left, inC_strs, not_true_eq_false, not_false_eq_true, k_isE, k_tryAs, k_tryO, k_raiseA, k_raise, Bool.true_eq_false, reduceCtorEq, ne_eq])
local macro_rules | `(tactic| walk_at "gz") => `(tactic| simp only [k_bnd, k_ret, k_ok, k_bad, k_badM, k_exc, k_lft, k_ite, k_ite', o_some, o_none, o_ite, v_some, k_var, k_c, k_op, k_call, k_call0, k_cb, k_nil, k_cons, k_tup, k_lst, k_bOf, k_bAnd, k_bOr, k_bNot, k_and, k_or, k_not, k_if, k_chain, k_inC, k_neg, k_bm, k_get2, k_pnone, k_psome, k_sl, k_pnil, k_pcons, k_dic, k_gix, k_seq, k_nx, k_rt, k_sbad, k_snil, k_spass, k_set, k_sret, k_sretN, k_sexp, k_sif, k_asg, k_par2, k_par3, k_aug, k_put, k_seqI, k_range1, k_forI, k_lc, List.getElem?_cons_zero, List.getElem?_cons_succ, List.set_cons_zero, List.set_cons_succ, List.length_cons, List.length_nil, if_true, if_false, Bool.not_true, Bool.not_false, Bool.false_eq_true, ite_true, ite_false, reduceIte, Nat.reduceAdd, Nat.zero_add, k_sortSet, k_range2, iadd_i, add_i, sub_i, eq_i, eq_s, ne_i, ne_s, ne_b, lt_i, le_i, gt_i, ge_i, ix_0, ix_1, ix_2, flat_str, flat_int, flat_non, sz_0, sz_1, sz_2, sz_3, sz_4, sz_5, sz_6, sz_7, sz_8, sz_9, decide_eq_true_eq, Bool.not_eq_eq_eq_not, decide_eq_false_iff_not, decide_true, decide_false, true_and, and_true, exists_eq_left, inC_strs, not_true_eq_false, not_false_eq_true, k_isE, k_tryAs, k_tryO, k_raiseA, k_raise, Bool.true_eq_false, reduceCtorEq, ne_eq])
def Row.hd : Row → Str
  | .set x t => ("set " : Str) ++ x ++ (" " : Str) ++ txt t
  | .tell t => ("tell" : Str) ++ (" " : Str) ++ txt t
  | .ifr o a b _ _ => ("if" : Str) ++ (" " : Str) ++ (txt a ++ (" " : Str) ++ o ++ (" " : Str) ++ txt b)
  | .whl o a b _ => ("while" : Str) ++ (" " : Str) ++ (txt a ++ (" " : Str) ++ o ++ (" " : Str) ++ txt b)
  | .trn t _ => ("turns" : Str) ++ (" " : Str) ++ txt t
def elseT : List Str := ["else"]
mutual
def Row.ln (k : Nat) : Row → List (Nat × List Str)
  | .set x t => [(k, ["set", x, txt t])]
  | .tell t => [(k, ["tell", txt t])]
  | .ifr o a b r s => (k, ["if", txt a, o, txt b]) :: (lnL (k + 1) r ++ ((if s.isEmpty = true then [] else [(k, elseT)]) ++ lnL (k + 1) s))
  | .whl o a b r => (k, ["while", txt a, o, txt b]) :: lnL (k + 1) r
  | .trn t r => (k, ["turns", txt t]) :: lnL (k + 1) r
def lnL (k : Nat) : List Row → List (Nat × List Str)
  | [] => []
  | r :: rs => r.ln k ++ lnL k rs
end
mutual
theorem ln_len : ∀ (r : Row) (k : Nat), (r.ln k).length + 1 ≤ 2 * r.all.length
  | .set x t, k => by simp [Row.ln, Row.all]
  | .tell t, k => by simp [Row.ln, Row.all]
  | .ifr o a b r s, k => by
    have h1 := lnL_len r (k + 1)
    have h2 := lnL_len s (k + 1)
    have h3 : (if s.isEmpty = true then ([] : List (Nat × List Str)) else [(k, elseT)]).length ≤ 1 := by split <;> simp
    simp only [Row.ln, Row.all, List.length_cons, List.length_append]
    cases s with
    | nil => simp [lnL, allL]; omega
    | cons p q =>
      have h4 : 1 ≤ (allL (p :: q)).length := by rw [allL, List.length_append, Row.all_eq, List.length_cons]; omega
      have h5 : (lnL (k + 1) (p :: q)).length + 1 ≤ 2 * (allL (p :: q)).length := by
        rw [lnL, allL, List.length_append, List.length_append]
        have a1 := ln_len p (k + 1)
        have a2 := lnL_len q (k + 1)
        omega
      omega
  | .whl o a b r, k => by
    have h1 := lnL_len r (k + 1)
    simp only [Row.ln, Row.all, List.length_cons]
    omega
  | .trn t r, k => by
    have h1 := lnL_len r (k + 1)
    simp only [Row.ln, Row.all, List.length_cons]
    omega
theorem lnL_len : ∀ (rs : List Row) (k : Nat), (lnL k rs).length ≤ 2 * (allL rs).length
  | [], k => by simp [lnL, allL]
  | r :: rs, k => by
    have h1 := ln_len r k
    have h2 := lnL_len rs k
    rw [lnL, allL, List.length_append, List.length_append]
    omega
end
/-- what is asked of rows that are written -/
def Row.gdT (r : Row) : Prop := (∀ t ∈ r.asked, t.gd ∧ t.lvs ≤ 200 ∧ t.dep ≤ 60) ∧ (∀ x ∈ r.own, x.length ≤ 6) ∧ match r with
  | .ifr o _ _ _ _ => o.length ≤ 6
  | .whl o _ _ _ => o.length ≤ 6
  | .set _ _ => True
  | .tell _ => True
  | .trn _ _ => True
section
variable {f ft fh fr : Fn} {st : Sto}
end
section
variable {f ft fh fr : Fn} {st : Sto} {y : Int} {k : Nat}
end
/-- what is asked of a program that is written -/
structure Prg.wr (p : Prg) : Prop where
  wd : 0 ≤ p.w ∧ p.w < 100000000
  ins : ∀ i ∈ p.ins, i.1.length ≤ 6 ∧ (0 ≤ i.2.1 ∧ i.2.1 < 100000000) ∧ (0 ≤ i.2.2 ∧ i.2.2 < 100000000)
  insL : p.ins.length ≤ 40
  rows : ∀ r ∈ allL p.rows, r.gdT
  rowsL : (allL p.rows).length ≤ 120
  dep : rdep p.rows ≤ 8
section
variable {fp fl : Fn} {st : Sto} {p : Prg}
end
/-! ### the law's own text -/
inductive LnR (st : Sto) : List D → List (Nat × List Str) → Prop
  | nil : LnR st [] []
  | cons {w : Nat} {q : Nat × List Str} {ds : List D} {qs : List (Nat × List Str)} (h : st[w]? = some (.lst (q.2.map D.str))) (hn : q.2 ≠ []) (t : LnR st ds qs) : LnR st (.tup [.int (q.1 : Int), .loc w] :: ds) (q :: qs)
theorem LnR.ext {st st' : Sto} (x : Ext st st') {ds : List D} {qs : List (Nat × List Str)} (h : LnR st ds qs) : LnR st' ds qs := by
  induction h with
  | nil => exact .nil
  | cons h hn t ih => exact .cons (x.get h) hn ih
theorem LnR.app {st : Sto} {ds es : List D} {qs rs : List (Nat × List Str)} (h : LnR st ds qs) (h' : LnR st es rs) : LnR st (ds ++ es) (qs ++ rs) := by
  induction h with
  | nil => exact h'
  | cons h hn t ih => exact .cons h hn ih
theorem LnR.len {st : Sto} {ds : List D} {qs : List (Nat × List Str)} (h : LnR st ds qs) : ds.length = qs.length := by
  induction h with
  | nil => rfl
  | cons h hn t ih => rw [List.length_cons, List.length_cons, ih]
theorem LnR.tups {st : Sto} {ds : List D} {qs : List (Nat × List Str)} (h : LnR st ds qs) : ∀ d ∈ ds, ∃ es, d = .tup es := by
  induction h with
  | nil => exact fun d hd => by cases hd
  | cons h hn t ih =>
    intro d hd
    rcases List.mem_cons.mp hd with rfl | hd
    · exact ⟨_, rfl⟩
    · exact ih d hd
theorem LnR.set {st : Sto} {L : Nat} {o : O} {es : List D} (hL : st[L]? = some (.lst es)) (he : ∀ d ∈ es, ∃ fs, d = .tup fs) {ds : List D} {qs : List (Nat × List Str)} (h : LnR st ds qs) : LnR (st.set L o) ds qs := by
  induction h with
  | nil => exact .nil
  | @cons w q ds qs h hn t ih =>
    refine .cons ?_ hn ih
    rw [List.getElem?_set_ne]
    · exact h
    · rintro rfl
      rw [hL] at h
      injection h with h
      injection h with h
      obtain ⟨a, r, e⟩ := List.exists_cons_of_ne_nil hn
      rw [e, List.map_cons] at h
      obtain ⟨fs, e2⟩ := he (.str a) (by rw [h]; exact List.mem_cons_self)
      cases e2
theorem LnR.get {st : Sto} {ds : List D} {qs : List (Nat × List Str)} (h : LnR st ds qs) : ∀ {i : Nat} {d : D}, ds[i]? = some d → ∃ q w, qs[i]? = some q ∧ d = .tup [.int (q.1 : Int), .loc w] ∧ st[w]? = some (.lst (q.2.map D.str)) := by
  induction h with
  | nil => intro i d e; simp at e
  | @cons w q ds qs h hn t ih =>
    intro i d e
    cases i with
    | zero =>
      rw [List.getElem?_cons_zero] at e
      cases e
      exact ⟨q, w, rfl, rfl, h⟩
    | succ i =>
      rw [List.getElem?_cons_succ] at e
      rw [List.getElem?_cons_succ]
      exact ih e
section
variable {f fh fb : Fn} {st : Sto} {y : Int} {k : Nat} {p : Prg}
end
end Sh

set_option maxHeartbeats 1000000
namespace Sh
open PySem PySem.Spec PyProof.Rows L2
local macro_rules | `(tactic| walk_at "go") => `(tactic| simp only [k_bnd, k_ret, k_ok, k_bad, k_badM, k_exc, k_lft, k_ite, k_ite', o_some, o_none, o_ite, v_some, k_var, k_c, k_op, k_call, k_call0, k_cb, k_nil, k_cons, k_tup, k_lst, k_bOf, k_bAnd, k_bOr, k_bNot, k_and, k_or, k_not, k_if, k_chain, k_inC, k_neg, k_bm, k_get2, k_pnone, k_psome, k_sl, k_pnil, k_pcons, k_dic, k_gix, k_seq, k_nx, k_rt, k_sbad, k_snil, k_spass, k_set, k_sret, k_sretN, k_sexp, k_sif, k_asg, k_par2, k_par3, k_aug, k_put, k_seqI, k_range1, k_forI, k_lc, List.getElem?_cons_zero, List.getElem?_cons_succ, List.set_cons_zero, List.set_cons_succ, List.length_cons, List.length_nil, if_true, if_false, Bool.not_true, Bool.not_false, Bool.false_eq_true, ite_true, ite_false, reduceIte, Nat.reduceAdd, Nat.zero_add])
local macro_rules | `(tactic| walk_at "gg") => `(tactic| simp only [k_bnd, k_ret, k_ok, k_bad, k_badM, k_exc, k_lft, k_ite, k_ite', o_some, o_none, o_ite, v_some, k_var, k_c, k_op, k_call, k_call0, k_cb, k_nil, k_cons, k_tup, k_lst, k_bOf, k_bAnd, k_bOr, k_bNot, k_and, k_or, k_not, k_if, k_chain, k_inC, k_neg, k_bm, k_get2, k_pnone, k_psome, k_sl, k_pnil, k_pcons, k_dic, k_gix, k_seq, k_nx, k_rt, k_sbad, k_snil, k_spass, k_set, k_sret, k_sretN, k_sexp, k_sif, k_asg, k_par2, k_par3, k_aug, k_put, k_seqI, k_range1, k_forI, k_lc, List.getElem?_cons_zero, List.getElem?_cons_succ, List.set_cons_zero, List.set_cons_succ, List.length_cons, List.length_nil, if_true, if_false, Bool.not_true, Bool.not_false, Bool.false_eq_true, ite_true, ite_false, reduceIte, Nat.reduceAdd, Nat.zero_add, k_sortSet, k_range2, iadd_i, add_i, sub_i, eq_i, eq_s, ne_i, ne_s, ne_b, lt_i, le_i, gt_i, ge_i, ix_0, ix_1, ix_2, flat_str, flat_int, flat_non, sz_0, sz_1, sz_2, sz_3, sz_4, sz_5, sz_6, sz_7, sz_8, sz_9, decide_eq_true_eq, Bool.not_eq_eq_eq_not, decide_eq_false_iff_not, decide_true, decide_false, true_and, and_true, exists_eq_left, inC_strs, not_true_eq_false, not_false_eq_true])
local macro_rules | `(tactic| walk_at "g2") => `(tactic| simp only [k_bnd, k_ret, k_ok, k_bad, k_badM, k_exc, k_lft, k_ite, k_ite', o_some, o_none, o_ite, v_some, k_var, k_c, k_op, k_call, k_call0, k_cb, k_nil, k_cons, k_tup, k_lst, k_bOf, k_bAnd, k_bOr, k_bNot, k_and, k_or, k_not, k_if, k_chain, k_inC, k_neg, k_bm, k_get2, k_pnone, k_psome, k_sl, k_pnil, k_pcons, k_dic, k_gix, k_seq, k_nx, k_rt, k_sbad, k_snil, k_spass, k_set, k_sret, k_sretN, k_sexp, k_sif, k_asg, k_par2, k_par3, k_aug, k_put, k_seqI, k_range1, k_forI, k_lc, List.getElem?_cons_zero, List.getElem?_cons_succ, List.set_cons_zero, List.set_cons_succ, List.length_cons, List.length_nil, if_true, if_false, Bool.not_true, Bool.not_false, Bool.false_eq_true, ite_true, ite_false, reduceIte, Nat.reduceAdd, Nat.zero_add, k_sortSet, iadd_i, add_i, sub_i, eq_i, eq_s, ne_i, ne_s, ne_b, lt_i, le_i, gt_i, ge_i, ix_0, ix_1, ix_2, flat_str, flat_int, flat_non, sz_0, sz_1, sz_2, sz_3, sz_4, sz_5, sz_6, sz_7, sz_8, sz_9, decide_eq_true_eq, Bool.not_eq_eq_eq_not, decide_eq_false_iff_not, decide_true, decide_false, true_and, and_true, exists_eq_left, inC_strs, not_true_eq_false, not_false_eq_true, k_isE, k_tryAs, k_tryO, k_raiseA, k_raise, Bool.true_eq_false, reduceCtorEq, ne_eq])
local macro_rules | `(tactic| walk_at "g1") => `(tactic| simp only [k_bnd, k_ret, k_ok, k_bad, k_badM, k_exc, k_lft, k_ite, k_ite', o_some, o_none, o_ite, v_some, k_var, k_c, k_op, k_call, k_call0, k_cb, k_nil, k_cons, k_tup, k_lst, k_bOf, k_bAnd, k_bOr, k_bNot, k_and, k_or, k_not, k_if, k_chain, k_inC, k_neg, k_bm, k_get2, k_pnone, k_psome, k_sl, k_pnil, k_pcons, k_dic, k_gix, k_seq, k_nx, k_rt, k_sbad, k_snil, k_spass, k_set, k_sret, k_sretN, k_sexp, k_sif, k_asg, k_par2, k_par3, k_aug, k_put, k_seqI, k_forI, k_lc, List.getElem?_cons_zero, List.getElem?_cons_succ, List.set_cons_zero, List.set_cons_succ, List.length_cons, List.length_nil, if_true, if_false, Bool.not_true, Bool.not_false, Bool.false_eq_true, ite_true, ite_false, reduceIte, Nat.reduceAdd, Nat.zero_add, k_sortSet, iadd_i, add_i, sub_i, eq_i, eq_s, ne_i, ne_s, ne_b, lt_i, le_i, gt_i, ge_i, ix_0, ix_1, ix_2, flat_str, flat_int, flat_non, sz_0, sz_1, sz_2, sz_3, sz_4, sz_5, sz_6, sz_7, sz_8, sz_9, decide_eq_true_eq, Bool.not_eq_eq_eq_not, decide_eq_false_iff_not, decide_true, decide_false, true_and, and_true, exists_eq_left, inC_strs, not_true_eq_false, not_false_eq_true, k_isE, k_tryAs, k_tryO, k_raiseA, k_raise, Bool.true_eq_false, reduceCtorEq, ne_eq])
local macro_rules | `(tactic| walk_at "gz") => `(tactic| simp only [k_bnd, k_ret, k_ok, k_bad, k_badM, k_exc, k_lft, k_ite, k_ite', o_some, o_none, o_ite, v_some, k_var, k_c, k_op, k_call, k_call0, k_cb, k_nil, k_cons, k_tup, k_lst, k_bOf, k_bAnd, k_bOr, k_bNot, k_and, k_or, k_not, k_if, k_chain, k_inC, k_neg, k_bm, k_get2, k_pnone, k_psome, k_sl, k_pnil, k_pcons, k_dic, k_gix, k_seq, k_nx, k_rt, k_sbad, k_snil, k_spass, k_set, k_sret, k_sretN, k_sexp, k_sif, k_asg, k_par2, k_par3, k_aug, k_put, k_seqI, k_range1, k_forI, k_lc, List.getElem?_cons_zero, List.getElem?_cons_succ, List.set_cons_zero, List.set_cons_succ, List.length_cons, List.length_nil, if_true, if_false, Bool.not_true, Bool.not_false, Bool.false_eq_true, ite_true, ite_false, reduceIte, Nat.reduceAdd, Nat.zero_add, k_sortSet, k_range2, iadd_i, add_i, sub_i, eq_i, eq_s, ne_i, ne_s, ne_b, lt_i, le_i, gt_i, ge_i, ix_0, ix_1, ix_2, flat_str, flat_int, flat_non, sz_0, sz_1, sz_2, sz_3, sz_4, sz_5, sz_6, sz_7, sz_8, sz_9, decide_eq_true_eq, Bool.not_eq_eq_eq_not, decide_eq_false_iff_not, decide_true, decide_false, true_and, and_true, exists_eq_left, inC_strs, not_true_eq_false, not_false_eq_true, k_isE, k_tryAs, k_tryO, k_raiseA, k_raise, Bool.true_eq_false, reduceCtorEq, ne_eq])
section
variable {f fh fb : Fn} {st : Sto} {y : Int} {k : Nat} {p : Prg}
end
section
variable {fh fl fp fk f : Fn} {st : Sto} {p : Prg}
end
section
variable {st : Sto} {y : Int} {row rows ist isn test wid inps ri no : Fn} {k n : Nat} {z : Int}
end
end Sh

set_option maxHeartbeats 1000000
namespace Sh
open PySem PySem.Spec PyProof.Rows L2
local macro_rules | `(tactic| walk_at "go") => `(tactic| simp only [k_bnd, k_ret, k_ok, k_bad, k_badM, k_exc, k_lft, k_ite, k_ite', o_some, o_none, o_ite, v_some, k_var, k_c, k_op, k_call, k_call0, k_cb, k_nil, k_cons, k_tup, k_lst, k_bOf, k_bAnd, k_bOr, k_bNot, k_and, k_or, k_not, k_if, k_chain, k_inC, k_neg, k_bm, k_get2, k_pnone, k_psome, k_sl, k_pnil, k_pcons, k_dic, k_gix, k_seq, k_nx, k_rt, k_sbad, k_snil, k_spass, k_set, k_sret, k_sretN, k_sexp, k_sif, k_asg, k_par2, k_par3, k_aug, k_put, k_seqI, k_range1, k_forI, k_lc, List.getElem?_cons_zero, List.getElem?_cons_succ, List.set_cons_zero, List.set_cons_succ, List.length_cons, List.length_nil, if_true, if_false, Bool.not_true, Bool.not_false, Bool.false_eq_true, ite_true, ite_false, reduceIte, Nat.reduceAdd, Nat.zero_add])
local macro_rules | `(tactic| walk_at "gg") => `(tactic| simp only [k_bnd, k_ret, k_ok, k_bad, k_badM, k_exc, k_lft, k_ite, k_ite', o_some, o_none, o_ite, v_some, k_var, k_c, k_op, k_call, k_call0, k_cb, k_nil, k_cons, k_tup, k_lst, k_bOf, k_bAnd, k_bOr, k_bNot, k_and, k_or, k_not, k_if, k_chain, k_inC, k_neg, k_bm, k_get2, k_pnone, k_psome, k_sl, k_pnil, k_pcons, k_dic, k_gix, k_seq, k_nx, k_rt, k_sbad, k_snil, k_spass, k_set, k_sret, k_sretN, k_sexp, k_sif, k_asg, k_par2, k_par3, k_aug, k_put, k_seqI, k_range1, k_forI, k_lc, List.getElem?_cons_zero, List.getElem?_cons_succ, List.set_cons_zero, List.set_cons_succ, List.length_cons, List.length_nil, if_true, if_false, Bool.not_true, Bool.not_false, Bool.false_eq_true, ite_true, ite_false, reduceIte, Nat.reduceAdd, Nat.zero_add, k_sortSet, k_range2, iadd_i, add_i, sub_i, eq_i, eq_s, ne_i, ne_s, ne_b, lt_i, le_i, gt_i, ge_i, ix_0, ix_1, ix_2, flat_str, flat_int, flat_non, sz_0, sz_1, sz_2, sz_3, sz_4, sz_5, sz_6, sz_7, sz_8, sz_9, decide_eq_true_eq, Bool.not_eq_eq_eq_not, decide_eq_false_iff_not, decide_true, decide_false, true_and, and_true, exists_eq_left, inC_strs, not_true_eq_false, not_false_eq_true])
local macro_rules | `(tactic| walk_at "g2") => `(tactic| simp only [k_bnd, k_ret, k_ok, k_bad, k_badM, k_exc, k_lft, k_ite, k_ite', o_some, o_none, o_ite, v_some, k_var, k_c, k_op, k_call, k_call0, k_cb, k_nil, k_cons, k_tup, k_lst, k_bOf, k_bAnd, k_bOr, k_bNot, k_and, k_or, k_not, k_if, k_chain, k_inC, k_neg, k_bm, k_get2, k_pnone, k_psome, k_sl, k_pnil, k_pcons, k_dic, k_gix, k_seq, k_nx, k_rt, k_sbad, k_snil, k_spass, k_set, k_sret, k_sretN, k_sexp, k_sif, k_asg, k_par2, k_par3, k_aug, k_put, k_seqI, k_range1, k_forI, k_lc, List.getElem?_cons_zero, List.getElem?_cons_succ, List.set_cons_zero, List.set_cons_succ, List.length_cons, List.length_nil, if_true, if_false, Bool.not_true, Bool.not_false, Bool.false_eq_true, ite_true, ite_false, reduceIte, Nat.reduceAdd, Nat.zero_add, k_sortSet, iadd_i, add_i, sub_i, eq_i, eq_s, ne_i, ne_s, ne_b, lt_i, le_i, gt_i, ge_i, ix_0, ix_1, ix_2, flat_str, flat_int, flat_non, sz_0, sz_1, sz_2, sz_3, sz_4, sz_5, sz_6, sz_7, sz_8, sz_9, decide_eq_true_eq, Bool.not_eq_eq_eq_not, decide_eq_false_iff_not, decide_true, decide_false, true_and, and_true, exists_eq_left, inC_strs, not_true_eq_false, not_false_eq_true, k_isE, k_tryAs, k_tryO, k_raiseA, k_raise, Bool.true_eq_false, reduceCtorEq, ne_eq])
local macro_rules | `(tactic| walk_at "g1") => `(tactic| simp only [k_bnd, k_ret, k_ok, k_bad, k_badM, k_exc, k_lft, k_ite, k_ite', o_some, o_none, o_ite, v_some, k_var, k_c, k_op, k_call, k_call0, k_cb, k_nil, k_cons, k_tup, k_lst, k_bOf, k_bAnd, k_bOr, k_bNot, k_and, k_or, k_not, k_if, k_chain, k_inC, k_neg, k_bm, k_get2, k_pnone, k_psome, k_sl, k_pnil, k_pcons, k_dic, k_gix, k_seq, k_nx, k_rt, k_sbad, k_snil, k_spass, k_set, k_sret, k_sretN, k_sexp, k_sif, k_asg, k_par2, k_par3, k_aug, k_put, k_seqI, k_forI, k_lc, List.getElem?_cons_zero, List.getElem?_cons_succ, List.set_cons_zero, List.set_cons_succ, List.length_cons, List.length_nil, if_true, if_false, Bool.not_true, Bool.not_false, Bool.false_eq_true, ite_true, ite_false, reduceIte, Nat.reduceAdd, Nat.zero_add, k_sortSet, iadd_i, add_i, sub_i, eq_i, eq_s, ne_i, ne_s, ne_b, lt_i, le_i, gt_i, ge_i, ix_0, ix_1, ix_2, flat_str, flat_int, flat_non, sz_0, sz_1, sz_2, sz_3, sz_4, sz_5, sz_6, sz_7, sz_8, sz_9, decide_eq_true_eq, Bool.not_eq_eq_eq_not, decide_eq_false_iff_not, decide_true, decide_false, true_and, and_true, exists_eq_left, inC_strs, not_true_eq_false, not_false_eq_true, k_isE, k_tryAs, k_tryO, k_raiseA, k_raise, Bool.true_eq_false, reduceCtorEq, ne_eq])
local macro_rules | `(tactic| walk_at "gz") => `(tactic| simp only [k_bnd, k_ret, k_ok, k_bad, k_badM, k_exc, k_lft, k_ite, k_ite', o_some, o_none, o_ite, v_some, k_var, k_c, k_op, k_call, k_call0, k_cb, k_nil, k_cons, k_tup, k_lst, k_bOf, k_bAnd, k_bOr, k_bNot, k_and, k_or, k_not, k_if, k_chain, k_inC, k_neg, k_bm, k_get2, k_pnone, k_psome, k_sl, k_pnil, k_pcons, k_dic, k_gix, k_seq, k_nx, k_rt, k_sbad, k_snil, k_spass, k_set, k_sret, k_sretN, k_sexp, k_sif, k_asg, k_par2, k_par3, k_aug, k_put, k_seqI, k_range1, k_forI, k_lc, List.getElem?_cons_zero, List.getElem?_cons_succ, List.set_cons_zero, List.set_cons_succ, List.length_cons, List.length_nil, if_true, if_false, Bool.not_true, Bool.not_false, Bool.false_eq_true, ite_true, ite_false, reduceIte, Nat.reduceAdd, Nat.zero_add, k_sortSet, k_range2, iadd_i, add_i, sub_i, eq_i, eq_s, ne_i, ne_s, ne_b, lt_i, le_i, gt_i, ge_i, ix_0, ix_1, ix_2, flat_str, flat_int, flat_non, sz_0, sz_1, sz_2, sz_3, sz_4, sz_5, sz_6, sz_7, sz_8, sz_9, decide_eq_true_eq, Bool.not_eq_eq_eq_not, decide_eq_false_iff_not, decide_true, decide_false, true_and, and_true, exists_eq_left, inC_strs, not_true_eq_false, not_false_eq_true, k_isE, k_tryAs, k_tryO, k_raiseA, k_raise, Bool.true_eq_false, reduceCtorEq, ne_eq])
/-! ### terms as the laws of spreads draw them -/
section
variable {s g c L : Nat} {I : Sto → Prop} {take pick factor term heap : Fn} {st : Sto} {N : Int} {ws : List Str}
end
section
variable {out by_ plus fits : Fn} {N : Int}
end
end Sh

set_option maxHeartbeats 1000000
namespace Sh
open PySem PySem.Spec PyProof.Rows L2
local macro_rules | `(tactic| walk_at "go") => `(tactic| simp only [k_bnd, k_ret, k_ok, k_bad, k_badM, k_exc, k_lft, k_ite, k_ite', o_some, o_none, o_ite, v_some, k_var, k_c, k_op, k_call, k_call0, k_cb, k_nil, k_cons, k_tup, k_lst, k_bOf, k_bAnd, k_bOr, k_bNot, k_and, k_or, k_not, k_if, k_chain, k_inC, k_neg, k_bm, k_get2, k_pnone, k_psome, k_sl, k_pnil, k_pcons, k_dic, k_gix, k_seq, k_nx, k_rt, k_sbad, k_snil, k_spass, k_set, k_sret, k_sretN, k_sexp, k_sif, k_asg, k_par2, k_par3, k_aug, k_put, k_seqI, k_range1, k_forI, k_lc, List.getElem?_cons_zero, List.getElem?_cons_succ, List.set_cons_zero, List.set_cons_succ, List.length_cons, List.length_nil, if_true, if_false, Bool.not_true, Bool.not_false, Bool.false_eq_true, ite_true, ite_false, reduceIte, Nat.reduceAdd, Nat.zero_add])
local macro_rules | `(tactic| walk_at "gg") => `(tactic| simp only [k_bnd, k_ret, k_ok, k_bad, k_badM, k_exc, k_lft, k_ite, k_ite', o_some, o_none, o_ite, v_some, k_var, k_c, k_op, k_call, k_call0, k_cb, k_nil, k_cons, k_tup, k_lst, k_bOf, k_bAnd, k_bOr, k_bNot, k_and, k_or, k_not, k_if, k_chain, k_inC, k_neg, k_bm, k_get2, k_pnone, k_psome, k_sl, k_pnil, k_pcons, k_dic, k_gix, k_seq, k_nx, k_rt, k_sbad, k_snil, k_spass, k_set, k_sret, k_sretN, k_sexp, k_sif, k_asg, k_par2, k_par3, k_aug, k_put, k_seqI, k_range1, k_forI, k_lc, List.getElem?_cons_zero, List.getElem?_cons_succ, List.set_cons_zero, List.set_cons_succ, List.length_cons, List.length_nil, if_true, if_false, Bool.not_true, Bool.not_false, Bool.false_eq_true, ite_true, ite_false, reduceIte, Nat.reduceAdd, Nat.zero_add, k_sortSet, k_range2, iadd_i, add_i, sub_i, eq_i, eq_s, ne_i, ne_s, ne_b, lt_i, le_i, gt_i, ge_i, ix_0, ix_1, ix_2, flat_str, flat_int, flat_non, sz_0, sz_1, sz_2, sz_3, sz_4, sz_5, sz_6, sz_7, sz_8, sz_9, decide_eq_true_eq, Bool.not_eq_eq_eq_not, decide_eq_false_iff_not, decide_true, decide_false, true_and, and_true, exists_eq_left, inC_strs, not_true_eq_false, not_false_eq_true])
local macro_rules | `(tactic| walk_at "g2") => `(tactic| simp only [k_bnd, k_ret, k_ok, k_bad, k_badM, k_exc, k_lft, k_ite, k_ite', o_some, o_none, o_ite, v_some, k_var, k_c, k_op, k_call, k_call0, k_cb, k_nil, k_cons, k_tup, k_lst, k_bOf, k_bAnd, k_bOr, k_bNot, k_and, k_or, k_not, k_if, k_chain, k_inC, k_neg, k_bm, k_get2, k_pnone, k_psome, k_sl, k_pnil, k_pcons, k_dic, k_gix, k_seq, k_nx, k_rt, k_sbad, k_snil, k_spass, k_set, k_sret, k_sretN, k_sexp, k_sif, k_asg, k_par2, k_par3, k_aug, k_put, k_seqI, k_range1, k_forI, k_lc, List.getElem?_cons_zero, List.getElem?_cons_succ, List.set_cons_zero, List.set_cons_succ, List.length_cons, List.length_nil, if_true, if_false, Bool.not_true, Bool.not_false, Bool.false_eq_true, ite_true, ite_false, reduceIte, Nat.reduceAdd, Nat.zero_add, k_sortSet, iadd_i, add_i, sub_i, eq_i, eq_s, ne_i, ne_s, ne_b, lt_i, le_i, gt_i, ge_i, ix_0, ix_1, ix_2, flat_str, flat_int, flat_non, sz_0, sz_1, sz_2, sz_3, sz_4, sz_5, sz_6, sz_7, sz_8, sz_9, decide_eq_true_eq, Bool.not_eq_eq_eq_not, decide_eq_false_iff_not, decide_true, decide_false, true_and, and_true, exists_eq_left, inC_strs, not_true_eq_false, not_false_eq_true, k_isE, k_tryAs, k_tryO, k_raiseA, k_raise, Bool.true_eq_false, reduceCtorEq, ne_eq])
local macro_rules | `(tactic| walk_at "g1") => `(tactic| simp only [k_bnd, k_ret, k_ok, k_bad, k_badM, k_exc, k_lft, k_ite, k_ite', o_some, o_none, o_ite, v_some, k_var, k_c, k_op, k_call, k_call0, k_cb, k_nil, k_cons, k_tup, k_lst, k_bOf, k_bAnd, k_bOr, k_bNot, k_and, k_or, k_not, k_if, k_chain, k_inC, k_neg, k_bm, k_get2, k_pnone, k_psome, k_sl, k_pnil, k_pcons, k_dic, k_gix, k_seq, k_nx, k_rt, k_sbad, k_snil, k_spass, k_set, k_sret, k_sretN, k_sexp, k_sif, k_asg, k_par2, k_par3, k_aug, k_put, k_seqI, k_forI, k_lc, List.getElem?_cons_zero, List.getElem?_cons_succ, List.set_cons_zero, List.set_cons_succ, List.length_cons, List.length_nil, if_true, if_false, Bool.not_true, Bool.not_false, Bool.false_eq_true, ite_true, ite_false, reduceIte, Nat.reduceAdd, Nat.zero_add, k_sortSet, iadd_i, add_i, sub_i, eq_i, eq_s, ne_i, ne_s, ne_b, lt_i, le_i, gt_i, ge_i, ix_0, ix_1, ix_2, flat_str, flat_int, flat_non, sz_0, sz_1, sz_2, sz_3, sz_4, sz_5, sz_6, sz_7, sz_8, sz_9, decide_eq_true_eq, Bool.not_eq_eq_eq_not, decide_eq_false_iff_not, decide_true, decide_false, true_and, and_true, exists_eq_left, inC_strs, not_true_eq_false, not_false_eq_true, k_isE, k_tryAs, k_tryO, k_raiseA, k_raise, Bool.true_eq_false, reduceCtorEq, ne_eq])
local macro_rules | `(tactic| walk_at "gz") => `(tactic| simp only [k_bnd, k_ret, k_ok, k_bad, k_badM, k_exc, k_lft, k_ite, k_ite', o_some, o_none, o_ite, v_some, k_var, k_c, k_op, k_call, k_call0, k_cb, k_nil, k_cons, k_tup, k_lst, k_bOf, k_bAnd, k_bOr, k_bNot, k_and, k_or, k_not, k_if, k_chain, k_inC, k_neg, k_bm, k_get2, k_pnone, k_psome, k_sl, k_pnil, k_pcons, k_dic, k_gix, k_seq, k_nx, k_rt, k_sbad, k_snil, k_spass, k_set, k_sret, k_sretN, k_sexp, k_sif, k_asg, k_par2, k_par3, k_aug, k_put, k_seqI, k_range1, k_forI, k_lc, List.getElem?_cons_zero, List.getElem?_cons_succ, List.set_cons_zero, List.set_cons_succ, List.length_cons, List.length_nil, if_true, if_false, Bool.not_true, Bool.not_false, Bool.false_eq_true, ite_true, ite_false, reduceIte, Nat.reduceAdd, Nat.zero_add, k_sortSet, k_range2, iadd_i, add_i, sub_i, eq_i, eq_s, ne_i, ne_s, ne_b, lt_i, le_i, gt_i, ge_i, ix_0, ix_1, ix_2, flat_str, flat_int, flat_non, sz_0, sz_1, sz_2, sz_3, sz_4, sz_5, sz_6, sz_7, sz_8, sz_9, decide_eq_true_eq, Bool.not_eq_eq_eq_not, decide_eq_false_iff_not, decide_true, decide_false, true_and, and_true, exists_eq_left, inC_strs, not_true_eq_false, not_false_eq_true, k_isE, k_tryAs, k_tryO, k_raiseA, k_raise, Bool.true_eq_false, reduceCtorEq, ne_eq])
/-- where nothing is too much -/
structure Dq (N : Int) (A : Pol) (a : Nat) (p : Pol) (st : Sto) : Prop extends Dc N A a st where
  eq : EqP N A p
  fit : fitP A = true
theorem Dq.ext {N : Int} {A p : Pol} {a : Nat} {st st' : Sto} (h : Dq N A a p st) (k : Ext st st') : Dq N A a p st' := ⟨h.toDc.ext k, h.eq, h.fit⟩
theorem Dq.len {N : Int} {A p : Pol} {a : Nat} {st : Sto} (h : Dq N A a p st) : A.length ≤ 24 := (fitP_iff.mp h.fit).1
theorem Dq.nms {N : Int} {A p : Pol} {a : Nat} {st : Sto} (h : Dq N A a p st) : ∀ e ∈ A, e.1.length ≤ 6 := (fitP_iff.mp h.fit).2
section
variable {poly by_ fits plus : Fn} {N : Int}
/-- a row of dicts -/
def DcL (N : Int) (Ps : List Pol) (ls : List Nat) (st : Sto) : Prop := ls.length = Ps.length ∧ ∀ (j : Nat) (P : Pol) (a : Nat), Ps[j]? = some P → ls[j]? = some a → Dc N P a st
theorem DcL.ext {Ps : List Pol} {ls : List Nat} {st st' : Sto} (h : DcL N Ps ls st) (k : Ext st st') : DcL N Ps ls st' := ⟨h.1, fun j P a e1 e2 => (h.2 j P a e1 e2).ext k⟩
theorem DcL.add {Ps : List Pol} {ls : List Nat} {st : Sto} {P : Pol} {a : Nat} (h : DcL N Ps ls st) (k : Dc N P a st) : DcL N (Ps ++ [P]) (ls ++ [a]) st := by
  refine ⟨by rw [List.length_append, List.length_append, h.1]; rfl, fun j Q b e1 e2 => ?_⟩
  by_cases hj : j < Ps.length
  · rw [List.getElem?_append_left hj] at e1
    rw [List.getElem?_append_left (by rw [h.1]; exact hj)] at e2
    exact h.2 j Q b e1 e2
  · rw [List.getElem?_append_right (by omega)] at e1
    rw [List.getElem?_append_right (by rw [h.1]; omega), h.1] at e2
    have hj2 : j - Ps.length = 0 := by
      have := (List.getElem?_eq_some_iff.mp e1).1
      rw [List.length_singleton] at this
      omega
    rw [hj2] at e1 e2
    injection e1 with e1
    injection e2 with e2
    subst e1 e2
    exact k
end
/-! ### what is shown of a dict of spreads -/
theorem repr_nest {k n : Nat} {d : D} {ds : List D} (hd : Wt k n d) (h : ∀ d ∈ ds, Wt k n d) (hk : k ≤ 100) (hn : (n + 2) * ds.length + n + 20 ≤ 16777216) : ∃ x : Str, ∀ (l m : Nat) (st : Sto), st[l]? = some (.lst [d, .loc m]) → st[m]? = some (.lst ds) → oRepr [.loc l] st = some (.str x, st) := by
  obtain ⟨a, b, c, e, f⟩ := wt_all h
  refine ⟨(PyData.list [toP d, .list (toPL ds)]).shown, fun l m st hl hm => ?_⟩
  have hlen := listText_len_le (PyData.shownAll (toPL ds))
  have hlen2 := listText_len_le (PyData.shownAll [toP d, .list (toPL ds)])
  unfold oRepr
  dsimp only
  unfold reprD
  have e2 : toPy st 2 (.loc m) = some (.list (toPL ds)) := by
    unfold toPy toPyW
    dsimp only
    rw [lst_at hm]
    dsimp only
    rw [pure_pyL _ ds a]
    rfl
  have e1 : toPy st 3 (.loc l) = some (.list [toP d, .list (toPL ds)]) := by
    unfold toPy toPyW
    dsimp only
    rw [lst_at hl]
    dsimp only
    rw [toPyWL, pure_py _ _ hd.pu, toPyWL]
    rw [show toPyW (fun m => toPy st 2 (D.loc m)) (D.loc m) = some (.list (toPL ds)) from e2, toPyWL]
    rfl
  rw [e1]
  dsimp only
  have s1 : shX (PyData.list [toP d, .list (toPL ds)]) = true := by
    have hl1 := pure_layL ds a
    have hl2 := pure_lay d hd.pu
    have hd1 := pure_depL ds
    have hdp := hd.dp
    unfold shX
    simp only [PyData.canLay0, PyData.canLayAll0, PyData.depth, PyData.depthAll, hl1, hl2, hd1, pure_dep, Bool.and_true, Bool.true_and]
    exact decide_eq_true (by omega)
  have s2 : (PyData.list [toP d, .list (toPL ds)]).showable = true := by
    unfold PyData.showable
    unfold PyData.showableAll
    rw [hd.sh, PyData.showableAll, PyData.showable, c]
    rfl
  have s3 : (PyData.list [toP d, .list (toPL ds)]).shown.length ≤ sizeLine := by
    have := hd.ln
    rw [show (PyData.list [toP d, .list (toPL ds)]).shown = listText (PyData.shownAll [toP d, .list (toPL ds)]) by rw [PyData.shown]]
    have e3 : PyData.shownAll [toP d, .list (toPL ds)] = [(toP d).shown, listText (PyData.shownAll (toPL ds))] := by
      rw [PyData.shownAll, PyData.shownAll, PyData.shownAll, PyData.shown]
    rw [e3] at hlen2 ⊢
    simp only [List.map_cons, List.map_nil, List.sum_cons, List.sum_nil, List.length_cons, List.length_nil] at hlen2
    rw [f] at hlen
    rw [Nat.add_mul] at hn
    show _ ≤ 2 ^ 24
    omega
  rw [s1, s2, decide_eq_true s3]
  rfl
/-- a dict from names to spreads, as the law has it -/
structure StgW (N : Int) (ws : List Str) (n : Nat) (kvs : List (Key × D)) (ks : Str → Bool) (σ : Str → Pol) : Prop extends Stg N kvs ks σ where
  it : ∀ kv ∈ kvs, ∃ (w : Str) (p : Pol), kv = (.inr w, spD p) ∧ w ∈ ws ∧ SpB N p
  sub : ∀ w, ks w = true → w ∈ ws
  len : kvs.length ≤ n
theorem StgW.nil {N : Int} {ws : List Str} : StgW N ws 0 [] (fun _ => false) (fun _ => []) :=
  ⟨⟨fun _ h => (by cases h), fun _ _ => rfl, fun _ => nil_spb⟩, fun _ h => (by cases h), fun _ h => (by cases h), Nat.le_refl _⟩
theorem putD_mem {kvs : List (Key × D)} {k : Key} {v : D} {kv : Key × D} (h : kv ∈ putD kvs k v) : kv = (k, v) ∨ kv ∈ kvs := by
  unfold putD at h
  split at h
  · obtain ⟨x, hx, rfl⟩ := List.mem_map.mp h
    split
    · rename_i e
      exact .inl (by rw [e])
    · exact .inr hx
  · rcases List.mem_append.mp h with h | h
    · exact .inr h
    · exact .inl (List.mem_singleton.mp h)
theorem StgW.put {N : Int} {ws : List Str} {n : Nat} {kvs : List (Key × D)} {ks : Str → Bool} {σ : Str → Pol} (h : StgW N ws n kvs ks σ) {w : Str} {p : Pol} (hw : w ∈ ws) (hp : SpB N p) :
    StgW N ws (n + 1) (putD kvs (.inr w) (spD p)) (fun v => decide (v = w) || ks v) (fun v => if v = w then p else σ v) := by
  refine ⟨⟨fun v hv => ?_, fun v hv => ?_, fun v => ?_⟩, fun kv hk => ?_, fun v hv => ?_, ?_⟩
  · rw [putD_look]
    by_cases e : v = w
    · subst e
      rw [if_pos rfl]
      simp only [if_pos]
    · simp only [if_neg e]
      rw [if_neg (fun z : (Sum.inr w : Key) = Sum.inr v => e (by injection z with z; exact z.symm))]
      refine h.yes v ?_
      simpa [e] using hv
  · have hv2 : ¬ v = w ∧ ks v = false := by simpa using hv
    rw [putD_look, if_neg (fun z : (Sum.inr w : Key) = Sum.inr v => hv2.1 (by injection z with z; exact z.symm))]
    exact h.no v hv2.2
  · by_cases e : v = w
    · simp only [if_pos e]; exact hp
    · simp only [if_neg e]; exact h.ok v
  · rcases putD_mem hk with rfl | hk
    · exact ⟨w, p, rfl, hw, hp⟩
    · exact h.it kv hk
  · by_cases e : v = w
    · exact e ▸ hw
    · exact h.sub v (by simpa [e] using hv)
  · exact Nat.le_trans putD_len (Nat.succ_le_succ h.len)
theorem dropD_look {k k2 : Key} : ∀ {kvs : List (Key × D)}, lookK (dropD kvs k) k2 = if k2 = k then none else lookK kvs k2
  | [] => by
    unfold dropD lookK
    simp
  | e :: r => by
    have ih := dropD_look (k := k) (k2 := k2) (kvs := r)
    unfold dropD lookK at ih ⊢
    rw [List.filter_cons]
    by_cases q : e.1 = k
    · have hq : ¬ (decide (e.1 ≠ k) = true) := fun z => (of_decide_eq_true z) q
      rw [if_neg hq, ih, List.find?_cons]
      by_cases h : k2 = k
      · rw [if_pos h, if_pos h]
      · rw [if_neg h, if_neg h, decide_eq_false (fun z : e.1 = k2 => h (z.symm.trans q))]
    · rw [if_pos (decide_eq_true q), List.find?_cons, List.find?_cons]
      by_cases h : e.1 = k2
      · rw [decide_eq_true h, if_neg (fun z => q (h.trans z))]
      · rw [decide_eq_false h]
        exact ih
theorem StgW.drop {N : Int} {ws : List Str} {n : Nat} {kvs : List (Key × D)} {ks : Str → Bool} {σ : Str → Pol} (h : StgW N ws n kvs ks σ) (w : Str) :
    StgW N ws n (dropD kvs (.inr w)) (fun v => !decide (v = w) && ks v) σ := by
  refine ⟨⟨fun v hv => ?_, fun v hv => ?_, h.ok⟩, fun kv hk => ?_, fun v hv => ?_, ?_⟩
  · have hv2 : ¬ v = w ∧ ks v = true := by simpa using hv
    rw [dropD_look, if_neg (fun z : (Sum.inr v : Key) = Sum.inr w => hv2.1 (by injection z))]
    exact h.yes v hv2.2
  · rw [dropD_look]
    by_cases e : v = w
    · rw [if_pos (by rw [e])]
    · rw [if_neg (fun z : (Sum.inr v : Key) = Sum.inr w => e (by injection z))]
      exact h.no v (by simpa [e] using hv)
  · exact h.it kv (List.mem_filter.mp hk).1
  · have hv2 : ¬ v = w ∧ ks v = true := by simpa using hv
    exact h.sub v hv2.2
  · exact Nat.le_trans (List.length_filter_le _ _) h.len
section
variable {s g c L : Nat} {I : Sto → Prop} {take pick drawn : Fn} {st : Sto} {N : Int} {ws : List Str}
end
end Sh

set_option maxHeartbeats 1000000
namespace Law
open PySem PySem.Spec PyProof.Rows L2 Sh
local macro_rules | `(tactic| walk_at "go") => `(tactic| simp only [k_bnd, k_ret, k_ok, k_bad, k_badM, k_exc, k_lft, k_ite, k_ite', o_some, o_none, o_ite, v_some, k_var, k_c, k_op, k_call, k_call0, k_cb, k_nil, k_cons, k_tup, k_lst, k_bOf, k_bAnd, k_bOr, k_bNot, k_and, k_or, k_not, k_if, k_chain, k_inC, k_neg, k_bm, k_get2, k_pnone, k_psome, k_sl, k_pnil, k_pcons, k_dic, k_gix, k_seq, k_nx, k_rt, k_sbad, k_snil, k_spass, k_set, k_sret, k_sretN, k_sexp, k_sif, k_asg, k_par2, k_par3, k_aug, k_put, k_seqI, k_range1, k_forI, k_lc, List.getElem?_cons_zero, List.getElem?_cons_succ, List.set_cons_zero, List.set_cons_succ, List.length_cons, List.length_nil, if_true, if_false, Bool.not_true, Bool.not_false, Bool.false_eq_true, ite_true, ite_false, reduceIte, Nat.reduceAdd, Nat.zero_add])
local macro_rules | `(tactic| walk_at "gg") => `(tactic| simp only [k_bnd, k_ret, k_ok, k_bad, k_badM, k_exc, k_lft, k_ite, k_ite', o_some, o_none, o_ite, v_some, k_var, k_c, k_op, k_call, k_call0, k_cb, k_nil, k_cons, k_tup, k_lst, k_bOf, k_bAnd, k_bOr, k_bNot, k_and, k_or, k_not, k_if, k_chain, k_inC, k_neg, k_bm, k_get2, k_pnone, k_psome, k_sl, k_pnil, k_pcons, k_dic, k_gix, k_seq, k_nx, k_rt, k_sbad, k_snil, k_spass, k_set, k_sret, k_sretN, k_sexp, k_sif, k_asg, k_par2, k_par3, k_aug, k_put, k_seqI, k_range1, k_forI, k_lc, List.getElem?_cons_zero, List.getElem?_cons_succ, List.set_cons_zero, List.set_cons_succ, List.length_cons, List.length_nil, if_true, if_false, Bool.not_true, Bool.not_false, Bool.false_eq_true, ite_true, ite_false, reduceIte, Nat.reduceAdd, Nat.zero_add, k_sortSet, k_range2, iadd_i, add_i, sub_i, eq_i, eq_s, ne_i, ne_s, ne_b, lt_i, le_i, gt_i, ge_i, ix_0, ix_1, ix_2, flat_str, flat_int, flat_non, sz_0, sz_1, sz_2, sz_3, sz_4, sz_5, sz_6, sz_7, sz_8, sz_9, decide_eq_true_eq, Bool.not_eq_eq_eq_not, decide_eq_false_iff_not, decide_true, decide_false, true_and, and_true, exists_eq_left, inC_strs, not_true_eq_false, not_false_eq_true])
local macro_rules | `(tactic| walk_at "g2") => `(tactic| simp only [k_bnd, k_ret, k_ok, k_bad, k_badM, k_exc, k_lft, k_ite, k_ite', o_some, o_none, o_ite, v_some, k_var, k_c, k_op, k_call, k_call0, k_cb, k_nil, k_cons, k_tup, k_lst, k_bOf, k_bAnd, k_bOr, k_bNot, k_and, k_or, k_not, k_if, k_chain, k_inC, k_neg, k_bm, k_get2, k_pnone, k_psome, k_sl, k_pnil, k_pcons, k_dic, k_gix, k_seq, k_nx, k_rt, k_sbad, k_snil, k_spass, k_set, k_sret, k_sretN, k_sexp, k_sif, k_asg, k_par2, k_par3, k_aug, k_put, k_seqI, k_range1, k_forI, k_lc, List.getElem?_cons_zero, List.getElem?_cons_succ, List.set_cons_zero, List.set_cons_succ, List.length_cons, List.length_nil, if_true, if_false, Bool.not_true, Bool.not_false, Bool.false_eq_true, ite_true, ite_false, reduceIte, Nat.reduceAdd, Nat.zero_add, k_sortSet, iadd_i, add_i, sub_i, eq_i, eq_s, ne_i, ne_s, ne_b, lt_i, le_i, gt_i, ge_i, ix_0, ix_1, ix_2, flat_str, flat_int, flat_non, sz_0, sz_1, sz_2, sz_3, sz_4, sz_5, sz_6, sz_7, sz_8, sz_9, decide_eq_true_eq, Bool.not_eq_eq_eq_not, decide_eq_false_iff_not, decide_true, decide_false, true_and, and_true, exists_eq_left, inC_strs, not_true_eq_false, not_false_eq_true, k_isE, k_tryAs, k_tryO, k_raiseA, k_raise, Bool.true_eq_false, reduceCtorEq, ne_eq])
local macro_rules | `(tactic| walk_at "g1") => `(tactic| simp only [k_bnd, k_ret, k_ok, k_bad, k_badM, k_exc, k_lft, k_ite, k_ite', o_some, o_none, o_ite, v_some, k_var, k_c, k_op, k_call, k_call0, k_cb, k_nil, k_cons, k_tup, k_lst, k_bOf, k_bAnd, k_bOr, k_bNot, k_and, k_or, k_not, k_if, k_chain, k_inC, k_neg, k_bm, k_get2, k_pnone, k_psome, k_sl, k_pnil, k_pcons, k_dic, k_gix, k_seq, k_nx, k_rt, k_sbad, k_snil, k_spass, k_set, k_sret, k_sretN, k_sexp, k_sif, k_asg, k_par2, k_par3, k_aug, k_put, k_seqI, k_forI, k_lc, List.getElem?_cons_zero, List.getElem?_cons_succ, List.set_cons_zero, List.set_cons_succ, List.length_cons, List.length_nil, if_true, if_false, Bool.not_true, Bool.not_false, Bool.false_eq_true, ite_true, ite_false, reduceIte, Nat.reduceAdd, Nat.zero_add, k_sortSet, iadd_i, add_i, sub_i, eq_i, eq_s, ne_i, ne_s, ne_b, lt_i, le_i, gt_i, ge_i, ix_0, ix_1, ix_2, flat_str, flat_int, flat_non, sz_0, sz_1, sz_2, sz_3, sz_4, sz_5, sz_6, sz_7, sz_8, sz_9, decide_eq_true_eq, Bool.not_eq_eq_eq_not, decide_eq_false_iff_not, decide_true, decide_false, true_and, and_true, exists_eq_left, inC_strs, not_true_eq_false, not_false_eq_true, k_isE, k_tryAs, k_tryO, k_raiseA, k_raise, Bool.true_eq_false, reduceCtorEq, ne_eq])
local macro_rules | `(tactic| walk_at "gz") => `(tactic| simp only [k_bnd, k_ret, k_ok, k_bad, k_badM, k_exc, k_lft, k_ite, k_ite', o_some, o_none, o_ite, v_some, k_var, k_c, k_op, k_call, k_call0, k_cb, k_nil, k_cons, k_tup, k_lst, k_bOf, k_bAnd, k_bOr, k_bNot, k_and, k_or, k_not, k_if, k_chain, k_inC, k_neg, k_bm, k_get2, k_pnone, k_psome, k_sl, k_pnil, k_pcons, k_dic, k_gix, k_seq, k_nx, k_rt, k_sbad, k_snil, k_spass, k_set, k_sret, k_sretN, k_sexp, k_sif, k_asg, k_par2, k_par3, k_aug, k_put, k_seqI, k_range1, k_forI, k_lc, List.getElem?_cons_zero, List.getElem?_cons_succ, List.set_cons_zero, List.set_cons_succ, List.length_cons, List.length_nil, if_true, if_false, Bool.not_true, Bool.not_false, Bool.false_eq_true, ite_true, ite_false, reduceIte, Nat.reduceAdd, Nat.zero_add, k_sortSet, k_range2, iadd_i, add_i, sub_i, eq_i, eq_s, ne_i, ne_s, ne_b, lt_i, le_i, gt_i, ge_i, ix_0, ix_1, ix_2, flat_str, flat_int, flat_non, sz_0, sz_1, sz_2, sz_3, sz_4, sz_5, sz_6, sz_7, sz_8, sz_9, decide_eq_true_eq, Bool.not_eq_eq_eq_not, decide_eq_false_iff_not, decide_true, decide_false, true_and, and_true, exists_eq_left, inC_strs, not_true_eq_false, not_false_eq_true, k_isE, k_tryAs, k_tryO, k_raiseA, k_raise, Bool.true_eq_false, reduceCtorEq, ne_eq])
/-! what is drawn (family D) -/
theorem fd_takeD {n NW s g c : Nat} (h : 1 ≤ n) : TakeD s g c (lev NW n).law_take := by
  obtain ⟨m, rfl⟩ := Nat.exists_eq_add_of_le' h
  intro B st many hB hD h0 h1
  exact takeD_ok hB hD h0 h1
theorem fd_pickD {n NW s g c : Nat} (h : 2 ≤ n) : PickD s g c (lev NW n).law_pick := by
  obtain ⟨m, rfl⟩ := Nat.exists_eq_add_of_le' h
  intro B l ds st hB hD hl n1 n2 h0 h1
  have e : (lev NW (m + 2)).law_pick = runDef 2 (gd_law_pick (lev NW (m + 1)).law_take) := rfl
  rw [e]
  exact pickD_lst (fd_takeD (by omega)) hB hD hl n1 n2 h0 h1
theorem fd_begunD {n NW : Nat} {ns : List Int} (h : 1 ≤ n) (hn : ns.length ≤ 63) : Ok ((lev NW n).law_begun [.loc 0] [.rol (ns.map D.int)]) fun d st' => d = .loc 1 ∧ DrD 1 2 5 0 st' ∧ st'[0]? = some (.rol (ns.map D.int)) := by
  obtain ⟨m, rfl⟩ := Nat.exists_eq_add_of_le' h
  exact begunD_ok hn
theorem fd_namesD {n NW s g c B : Nat} {st : Sto} (h : 2 ≤ n) (hB : B ≤ 2 ^ 59) {many : Int} (h0 : 0 ≤ many) (h1 : many ≤ 12) (hI : DrD s g c B st) :
    Ok ((lev NW n).law_names [.loc s, .int many] st) fun d st' => ∃ (L : Nat) (ws : List Str), d = .loc L ∧ st'[L]? = some (.lst (ws.map D.str)) ∧ (ws.length : Int) = many ∧ (∀ w ∈ ws, Name w) ∧ ws.Nodup ∧ st.length ≤ L ∧ DrD s g c (B + 84) st' ∧ Gr s g st st' := by
  obtain ⟨m, rfl⟩ := Nat.exists_eq_add_of_le' h
  have e : (lev NW (m + 2)).law_names = runDef 11 (gd_law_names (lev NW (m + 1)).law_take) := rfl
  rw [e]
  exact namesD_sp (fd_takeD (by omega)) hB h0 h1 hI
theorem fd_sizeL {n NW : Nat} (h : 1 ≤ n) : SizeSp (lev NW n).law_size := by
  obtain ⟨m, rfl⟩ := Nat.exists_eq_add_of_le' h
  have e : (lev NW (m + 1)).law_size = runDef 3 g_law_size := rfl
  rw [e]
  exact size_sp
theorem fd_sizeof (h : 1 ≤ n) : SizeSp (lev NW n).size_of := by
  obtain ⟨m, rfl⟩ := Nat.exists_eq_add_of_le' h
  have e : (lev NW (m + 1)).size_of = runDef 3 g_law_size := rfl
  rw [e]
  exact size_sp
theorem fd_spreadD {n NW s g c B : Nat} {st : Sto} {ws : List Str} {y N : Int} (h : 3 ≤ n) (hw : WN y N) (hB : B ≤ 2 ^ 59) {L : Nat} (hI : DrD s g c B st) (hL : st[L]? = some (.lst (ws.map D.str))) (n1 : L ≠ s) (n2 : L ≠ g) (hw0 : 0 < ws.length) (hw1 : ws.length ≤ 1000) (hnm : ∀ w ∈ ws, nmB w = true) :
    Ok ((lev NW n).law_spread [.loc s, .loc L, .int y] st) fun d st' => (∃ p : Pol, d = spD p ∧ SpB N p ∧ p.length ≤ 3 ∧ ∀ e ∈ p, e.1.length ≤ 2 ∧ ∀ w ∈ e.1, w ∈ ws) ∧ DrD s g c (B + 16) st' ∧ Gr s g st st' := by
  obtain ⟨m, rfl⟩ := Nat.exists_eq_add_of_le' h
  have e : (lev NW (m + 3)).law_spread = runDef 7 (gd_law_spread (lev NW (m + 2)).law_take (lev NW (m + 2)).law_pick (lev NW (m + 2)).law_size) := rfl
  rw [e]
  exact spreadD_sp (fd_takeD (by omega)) (fd_pickD (by omega)) (fd_sizeL (by omega)) hw hB hI hL n1 n2 hw0 hw1 hnm
/-! spans -/
theorem fk_whole {n NW : Nat} (h : 1 ≤ n) : WhSp (lev NW n).law_whole := by
  obtain ⟨m, rfl⟩ := Nat.exists_eq_add_of_le' h
  intro st p es l hl hk hb hn
  exact slaw_whole_sp hl hk hb hn
theorem fk_worth {n NW : Nat} (h : 1 ≤ n) : WhSp (lev NW n).worth_of := by
  obtain ⟨m, rfl⟩ := Nat.exists_eq_add_of_le' h
  intro st p es l hl hk hb hn
  exact sworth_of_sp hl hk hb hn
theorem fk_span {n NW : Nat} (h : 2 ≤ n) {y N : Int} (hw : WN y N) {xs : List (Str × Int × Int)} (hx : InpOk N xs) (hxl : xs.length ≤ 1000) {p : Pol} (hpl : p.length ≤ 1000) (hml : ∀ e ∈ p, e.1.length ≤ 1000) (st : Sto) :
    Ok ((lev NW n).span [spD p, .tup (xs.map inpD), .int y] st) fun d st' => d = spanD N xs p ∧ Ext st st' := by
  obtain ⟨m, rfl⟩ := Nat.exists_eq_add_of_le' h
  have e : (lev NW (m + 2)).span = runDef 10 (gs_span (lev NW (m + 1)).worth_of (lev NW (m + 1)).size_of) := rfl
  rw [e]
  exact span_sp (fk_worth (by omega)) (fd_sizeof (by omega)) hw hx hxl hpl hml st
theorem fk_all {n NW : Nat} (h : 1 ≤ n) {xs : List (Str × Int × Int)} {N : Int} (hx : InpOk N xs) (hl : xs.length ≤ 3) {I0 : Nat} {st : Sto} (hI : st[I0]? = some (.lst (xs.map inpD))) :
    Ok ((lev NW n).law_all_worths [.loc I0] st) fun d st' => ∃ (F : Nat) (ls : List Nat), d = .loc F ∧ st'[F]? = some (.lst (ls.map D.loc)) ∧ ls.length ≤ 64 ∧ BtL xs ls st' ∧ Ext st st' := by
  obtain ⟨m, rfl⟩ := Nat.exists_eq_add_of_le' h
  have e : (lev NW (m + 1)).law_all_worths = runDef 9 gs_law_all_worths := rfl
  rw [e]
  exact all_sp hx hl hI
set_option maxHeartbeats 8000000
theorem map_erase {α β : Type} (f : α → β) : ∀ (l : List α) (k : Nat), (l.map f).eraseIdx k = (l.eraseIdx k).map f
  | [], _ => rfl
  | _ :: _, 0 => rfl
  | x :: r, k + 1 => by
    rw [List.map_cons, List.eraseIdx_cons_succ, List.eraseIdx_cons_succ, List.map_cons, map_erase f r k]
theorem atW_btw {N : Int} {xs : List (Str × Int × Int)} (hx : InpOk N xs) {es : List (Str × Int)} (h : Btw xs es) {w : Str} (hw : w ∈ xs.map (·.1)) : 0 ≤ atW (leastE xs) w ∧ atW (leastE xs) w ≤ atW es w ∧ atW es w ≤ atW (mostE xs) w := by
  have hw2 : w ∈ es.map (·.1) := by rw [h.key]; exact hw
  obtain ⟨e, he, rfl⟩ := List.mem_map.mp hw2
  obtain ⟨x, hxm, h1, h2, h3⟩ := h.bt e he
  have a1 : atW es e.1 = e.2 := atW_mem (by rw [h.key]; exact hx.nd) he
  have a2 : atW (leastE xs) x.1 = x.2.1 := atW_mem (e := (x.1, x.2.1)) (by rw [least_keys]; exact hx.nd) (List.mem_map.mpr ⟨x, hxm, rfl⟩)
  have a3 : atW (mostE xs) x.1 = x.2.2 := atW_mem (e := (x.1, x.2.2)) (by rw [most_keys]; exact hx.nd) (List.mem_map.mpr ⟨x, hxm, rfl⟩)
  have := hx.bd x hxm
  rw [h1] at a2 a3
  omega
/-- the loop over all rows of worths -/
theorem pop_at {st : Sto} {B : Nat} {ds : List D} {v : Int} {d : D} (h : st[B]? = some (.lst ds)) (h0 : 0 ≤ v) (h1 : v < ds.length) (hd : ds[v.toNat]? = some d) : oPopAt (.loc B) [.int v] st = some (d, st.set B (.lst (ds.eraseIdx v.toNat))) := by
  unfold oPopAt
  dsimp only
  rw [h]
  dsimp only
  rw [show ixN ds.length v = some v.toNat from by unfold ixN; rw [if_pos h0, if_pos (by omega)]]
  dsimp only
  rw [hd]
theorem two_at {a b : Int} {l : Nat} {st : Sto} {c : Bool} (h : st[l]? = some (.lst [.int a, .int b])) : ∃ v : Int, v = (if c = true then b else a) ∧ OkO (oIntX [.bl c] st) (fun d s5 => OkO (oIx (.loc l) d s5) fun d2 s6 => d2 = .int v ∧ s6 = st) := by
  cases c with
  | true =>
    refine ⟨b, rfl, ?_⟩
    rw [show oIntX [.bl true] st = some (.int 1, st) from rfl, o_some, ix_lst (lst_at h) (d := .int b) rfl]
    exact ⟨rfl, rfl⟩
  | false =>
    refine ⟨a, rfl, ?_⟩
    rw [show oIntX [.bl false] st = some (.int 0, st) from rfl, o_some, ix_lst (lst_at h) (d := .int a) rfl]
    exact ⟨rfl, rfl⟩
theorem okO_imp {o : Option (D × Sto)} {P P' : D → Sto → Prop} (h : OkO o P) (k : ∀ d s, P d s → P' d s) : OkO o P' := by
  cases o with
  | none => exact h
  | some q => exact k q.1 q.2 h
/-- the worths of one column of the inputs -/
theorem k63_col {xs : List (Str × Int × Int)} {st0 : Sto} {I k : Nat} {j : Int} {el : EM} {enw : Ev} (hk : (k = 1 ∧ j = 1) ∨ (k = 2 ∧ j = 2)) (hI : st0[I]? = some (.lst (xs.map inpD))) (hl : xs.length ≤ 3)
    (hel : ∀ (x : Str × Int × Int) acc, x ∈ xs → ∃ en1, gN 18 (inpD x) enw = some en1 ∧ Ok (el en1 (st0 ++ [.lst acc])) fun d s => d = .tup [.str x.1, .int (if k = 1 then x.2.1 else x.2.2)] ∧ s = st0 ++ [.lst acc]) :
    Ok (lcLoop bYes el (gN 18) (srcAt I) st0.length enw xs.length 0 (st0 ++ [.lst []])) fun _ s => s = st0 ++ [.lst ((xs.map fun x => (x.1, if k = 1 then x.2.1 else x.2.2)).map fun e => D.tup [.str e.1, .int e.2])] := by
  refine Ok.imp (lc_pE (cond := bYes) inpD xs (fun x => .tup [.str x.1, .int (if k = 1 then x.2.1 else x.2.2)]) (fun _ => true) (szl (by omega)) (src_atA (lst_at hI)) (fun x hx => ?_)) fun _ s3 e3 => ?_
  · obtain ⟨en1, e1, _⟩ := hel x [] hx
    refine ⟨en1, e1, fun acc => ⟨OkX.of_eq (a := true) rfl ⟨rfl, rfl⟩, fun _ => ?_⟩⟩
    obtain ⟨en2, e2, h2⟩ := hel x acc hx
    rw [e1] at e2
    injection e2 with e2
    rw [e2]
    exact h2
  · rw [e3, List.filter_eq_self.mpr (fun _ _ => rfl), List.map_map]
    rfl
theorem wt_inp {x : Str × Int × Int} (h : Name x.1) (h1 : x.2.1.natAbs < 10 ^ 12) (h2 : x.2.2.natAbs < 10 ^ 12) : Wt 3 13000 (inpD x) :=
  (wt_three (wt_name h) ((wt_int h1).mono (Nat.le_refl _) (Nat.le_refl _)) (wt_int h2)).mono (by omega) (by omega)
theorem math : ∀ ns : List Int, ns.length ≤ 63 → (∀ z ∈ ns, Builtin.Int.intBits z ≤ 1048576) → ∃ st', (lev 100000 (90 + 1)).law [.loc 0] [.rol (ns.map D.int)] = .ok (.bl true) st' := by
  intro ns hn _
  have e90 : (lev 100000 (90 + 1)).law = runDef 20 (b_law (lev 100000 90) 100000) := rfl
  rw [e90]
  suffices h : Ok (runDef 20 (b_law (lev 100000 90) 100000) [.loc 0] [.rol (ns.map D.int)]) fun d _ => d = .bl true by
    obtain ⟨d, st, e, q⟩ := Ok.out h
    subst q
    exact ⟨st, e⟩
  unfold Ok
  rw [k_run, show startD 20 [D.loc 0] = some (.loc 0) :: List.replicate 19 none from rfl]
  unfold b_law
  refine cut_seq (fun en' st' => en' = [some (.loc 0), some (.loc 1), none, none, none, none, none, none, none, none, none, none, none, none, none, none, none, none, none, none] ∧ DrD 1 2 5 0 st' ∧ st'[0]? = some (.rol (ns.map D.int))) ?_ (fun en1 st1 hJ => ?_)
  · walk_at "gg"
    refine Ok.imp (fd_begunD (by omega) hn) fun d st' ⟨h1, h2, h3⟩ => ?_
    subst h1
    exact ⟨rfl, h2, h3⟩
  obtain ⟨rfl, hI1, hr1⟩ := hJ
  refine cut_seq (fun en' st' => True) ?_ (fun en1 st1 hJ => by
    walk_at "gg")
  walk_at "gg"
  rw [len_rol hr1]
  walk_at "gg"
  rw [min_i]
  walk_at "gg"
  obtain ⟨u, hu, hu0, hu1⟩ : ∃ u : Int, u = 2 + (if ((ns.map D.int).length : Int) < 30 then ((ns.map D.int).length : Int) else 30) ∧ 0 ≤ u ∧ u ≤ 32 := ⟨_, rfl, by split <;> omega, by split <;> omega⟩
  rw [← hu, if_pos (by omega)]
  clear hu
  have hun : u.toNat ≤ 32 := by omega
  generalize u.toNat = un at hun
  refine for_rng (n := un) (fun i en' st' => (∃ y2 y3 y4 y5 y6 y7 y8 y9 y10 y11 y12 y13 y14 y15 y16 y17 y18 y19 : Option D, en' = [some (.loc 0), some (.loc 1), y2, y3, y4, y5, y6, y7, y8, y9, y10, y11, y12, y13, y14, y15, y16, y17, y18, y19]) ∧ DrD 1 2 5 (130 * i) st') ⟨⟨_, _, _, _, _, _, _, _, _, _, _, _, _, _, _, _, _, _, rfl⟩, hI1⟩ (fun i en s0 hi hJ => ?_) (fun en st4 hJ => trivial)
  obtain ⟨⟨y2, y3, y4, y5, y6, y7, y8, y9, y10, y11, y12, y13, y14, y15, y16, y17, y18, y19, rfl⟩, hD0⟩ := hJ
  refine ⟨_, rfl, ?_⟩
  generalize ((i : Nat) : Int) = tx
  have hlt0 := hD0.lt
  obtain ⟨B, hB⟩ : ∃ B, B = 130 * i := ⟨_, rfl⟩
  rw [← hB] at hD0
  have hB60 : B ≤ 2 ^ 50 := by omega
  refine cut_seq (fun en' st' => (∃ odd : Int, en' = [some (.loc 0), some (.loc 1), some (.int tx), some (.int odd), y4, y5, y6, y7, y8, y9, y10, y11, y12, y13, y14, y15, y16, y17, y18, y19]) ∧ DrD 1 2 5 (B + 1) st') ?_ (fun en1 s1 hJ => ?_)
  · walk_at "gg"
    refine Ok.imp (fd_takeD (n := 90) (by omega) (by omega) hD0 (by omega) (by omega)) fun d s1 ⟨⟨v1, e1, q1, q2⟩, hD1, hG1⟩ => ?_
    subst e1
    exact ⟨⟨_, rfl⟩, hD1⟩
  obtain ⟨⟨odd, rfl⟩, hD1⟩ := hJ
  refine cut_seq (fun en' st' => (∃ sm : Int, en' = [some (.loc 0), some (.loc 1), some (.int tx), some (.int odd), some (.int sm), y5, y6, y7, y8, y9, y10, y11, y12, y13, y14, y15, y16, y17, y18, y19]) ∧ DrD 1 2 5 (B + 2) st') ?_ (fun en1 s2 hJ => ?_)
  · walk_at "gg"
    refine Ok.imp (fd_takeD (n := 90) (by omega) (by omega) hD1 (by omega) (by omega)) fun d s1 ⟨⟨v1, e1, q1, q2⟩, hD1, hG1⟩ => ?_
    subst e1
    exact ⟨⟨_, rfl⟩, hD1⟩
  obtain ⟨⟨sm, rfl⟩, hD2⟩ := hJ
  refine cut_seq (fun en' st' => (∃ (y : Int) (w : Nat), en' = [some (.loc 0), some (.loc 1), some (.int tx), some (.int odd), some (.int sm), some (.int y), y6, y7, y8, y9, y10, y11, y12, y13, y14, y15, y16, y17, y18, y19] ∧ y = (w : Int) ∧ 1 ≤ w ∧ w ≤ 24) ∧ DrD 1 2 5 (B + 3) st') ?_ (fun en1 s3 hJ => ?_)
  · walk_at "gg"
    refine Ok.imp (fd_takeD (n := 90) (by omega) (by omega) hD2 (by omega) (by omega)) fun d s1 ⟨⟨v1, e1, q1, q2⟩, hD1, hG1⟩ => ?_
    subst e1
    rw [show oAdd (.int 1) (.int v1) s1 = some (.int (1 + v1), s1) from rfl]
    exact ⟨⟨_, (1 + v1).toNat, rfl, by omega, by omega, by omega⟩, hD1⟩
  obtain ⟨⟨y, w, rfl, hyw, hw1, hw2⟩, hD3⟩ := hJ
  obtain ⟨N, hNd⟩ : ∃ N : Int, N = 2 ^ w := ⟨_, rfl⟩
  have hw : WN y N := ⟨w, hyw, hNd, hw1, hw2⟩
  have hN := hw.le
  refine cut_seq (fun en' st' => en' = [some (.loc 0), some (.loc 1), some (.int tx), some (.int odd), some (.int sm), some (.int y), some (.int N), y7, y8, y9, y10, y11, y12, y13, y14, y15, y16, y17, y18, y19] ∧ st' = s3) ?_ (fun en1 s4 hJ => ?_)
  · walk_at "gg"
    refine Ok.imp (hw.size (fd_sizeL (NW := 100000) (n := 90) (by omega))) fun d s1 ⟨e1, e2⟩ => ?_
    subst e1 e2
    first | exact ⟨rfl, rfl⟩ | exact ⟨rfl, trivial⟩
  obtain ⟨rfl, rfl⟩ := hJ
  refine cut_seq (fun en' st' => (∃ (L : Nat) (us : List Str), en' = [some (.loc 0), some (.loc 1), some (.int tx), some (.int odd), some (.int sm), some (.int y), some (.int N), some (.loc L), y8, y9, y10, y11, y12, y13, y14, y15, y16, y17, y18, y19] ∧ L ≠ 1 ∧ L ≠ 2 ∧ L ≠ 5 ∧ st'[L]? = some (.lst (us.map D.str)) ∧ us.length = 4 ∧ us.Nodup ∧ ∀ w ∈ us, Name w) ∧ DrD 1 2 5 (B + 87) st') ?_ (fun en1 s5 hJ => ?_)
  · walk_at "gg"
    have hlt := hD3.lt
    refine Ok.imp (fd_namesD (n := 90) (by omega) (by omega) (many := 4) (by omega) (by omega) hD3) fun d s1 ⟨M, ws, h1, h2, h3, h4, h5, h6, h7, h8⟩ => ?_
    subst h1
    have hs1 := h7.lt
    rw [sortedA_s h2 (by omega)]
    walk_at "gg"
    exact ⟨⟨s1.length, srtS ws, rfl, by omega, by omega, by omega, last_at, by rw [(srt_perm ws).length_eq]; omega, (srt_perm ws).nodup_iff.mpr h5, fun w hw => h4 w (mem_srt.mp hw)⟩, h7.app⟩
  obtain ⟨⟨L, us, rfl, nL1, nL2, nL5, hL, hul, hund, hunm⟩, hD5⟩ := hJ
  refine cut_seq (fun en' st' => (∃ (sp : Str) (vs : List Str), en' = [some (.loc 0), some (.loc 1), some (.int tx), some (.int odd), some (.int sm), some (.int y), some (.int N), some (.loc L), some (.str sp), y9, y10, y11, y12, y13, y14, y15, y16, y17, y18, y19] ∧ st'[L]? = some (.lst (vs.map D.str)) ∧ vs.length = 3 ∧ vs.Nodup ∧ (∀ w ∈ vs, Name w) ∧ Name sp ∧ sp ∉ vs) ∧ DrD 1 2 5 (B + 88) st') ?_ (fun en1 s6 hJ => ?_)
  · walk_at "gg"
    rw [if_pos (isTy_lst hL)]
    refine Ok.imp (fd_takeD (n := 90) (by omega) (by omega) hD5 (by omega) (by omega)) fun d s1 ⟨⟨v1, e1, q1, q2⟩, hD1, hG1⟩ => ?_
    subst e1
    have hL1 := hG1.keep _ _ nL1 nL2 hL
    have hv : v1.toNat < us.length := by omega
    rw [pop_at hL1 q1 (by rw [List.length_map]; omega) (d := .str us[v1.toNat]) (by rw [List.getElem?_map, List.getElem?_eq_getElem hv]; rfl)]
    walk_at "gg"
    have hmap : (us.map D.str).eraseIdx v1.toNat = (us.eraseIdx v1.toNat).map D.str := map_erase _ _ _
    refine ⟨⟨us[v1.toNat], us.eraseIdx v1.toNat, rfl, by rw [hmap]; exact List.getElem?_set_self (lift_len hL1), by rw [List.length_eraseIdx_of_lt hv, hul], hund.sublist (List.eraseIdx_sublist _ _), fun w hw => hunm w ((List.eraseIdx_sublist _ _).mem hw), hunm _ (List.getElem_mem hv), fun z => ?_⟩, hD1.setO (by omega) (by omega) (by omega)⟩
    obtain ⟨k, hk, hne, hke⟩ := List.mem_eraseIdx_iff_getElem.mp z
    exact hne ((List.getElem?_inj hk hund).mp (by rw [List.getElem?_eq_getElem hk, List.getElem?_eq_getElem hv, hke]))
  obtain ⟨⟨sp, vs, rfl, hL6, hvl, hvnd, hvnm, hsp, hspn⟩, hD6⟩ := hJ
  have hvn : ∀ w ∈ vs, nmB w = true := fun w hw => (hvnm w hw).1
  obtain ⟨I, hId⟩ : ∃ I, I = s6.length := ⟨_, rfl⟩
  have hlt6 := hD6.lt
  have hL6l := lift_len hL6
  refine cut_seq (fun en' st' => en' = [some (.loc 0), some (.loc 1), some (.int tx), some (.int odd), some (.int sm), some (.int y), some (.int N), some (.loc L), some (.str sp), some (.loc I), y10, y11, y12, y13, y14, y15, y16, y17, y18, y19] ∧ st'[I]? = some (.lst []) ∧ st'[L]? = some (.lst (vs.map D.str)) ∧ DrD 1 2 5 (B + 88) st') ?_ (fun en1 s7 hJ => ?_)
  · walk_at "gg"
    subst hId
    exact ⟨rfl, last_at, app_get hL6, hD6.app⟩
  obtain ⟨rfl, hI7, hL7, hD7⟩ := hJ
  have nI : I ≠ 1 ∧ I ≠ 2 ∧ I ≠ 5 ∧ I ≠ L := ⟨by omega, by omega, by omega, by omega⟩
  refine cut_seq (fun en' st' => (∃ (xs : List (Str × Int × Int)) (y10 y11 : Option D), en' = [some (.loc 0), some (.loc 1), some (.int tx), some (.int odd), some (.int sm), some (.int y), some (.int N), some (.loc L), some (.str sp), some (.loc I), y10, y11, y12, y13, y14, y15, y16, y17, y18, y19] ∧ st'[I]? = some (.lst (xs.map inpD)) ∧ xs.map (·.1) = vs ∧ (∀ x ∈ xs, 0 ≤ x.2.1 ∧ x.2.1 ≤ x.2.2 ∧ x.2.2 < N)) ∧ st'[L]? = some (.lst (vs.map D.str)) ∧ DrD 1 2 5 (B + 94) st') ?_ (fun en1 s8 hJ => ?_)
  · rw [k_forI, k_seqI]
    walk_at "gg"
    rw [lst_at hL7]
    dsimp only
    rw [List.length_map]
    refine for_xs D.str vs (fun j en' st' => (∃ (xs : List (Str × Int × Int)) (y10 y11 : Option D), en' = [some (.loc 0), some (.loc 1), some (.int tx), some (.int odd), some (.int sm), some (.int y), some (.int N), some (.loc L), some (.str sp), some (.loc I), y10, y11, y12, y13, y14, y15, y16, y17, y18, y19] ∧ st'[I]? = some (.lst (xs.map inpD)) ∧ xs.map (·.1) = vs.take j ∧ (∀ x ∈ xs, 0 ≤ x.2.1 ∧ x.2.1 ≤ x.2.2 ∧ x.2.2 < N)) ∧ st'[L]? = some (.lst (vs.map D.str)) ∧ DrD 1 2 5 (B + 88 + 2 * j) st') ⟨⟨[], _, _, rfl, hI7, rfl, fun _ h => (by cases h)⟩, hL7, hD7⟩ (fun j en' s hJ k => src_at hJ.2.1 k) (fun j v en' s hvj hJ => ?_) (fun en' s hJ => ?_)
    · obtain ⟨⟨xs, y10, y11, rfl, hIs, hxk, hxb⟩, hLs, hDs⟩ := hJ
      have hj := (List.getElem?_eq_some_iff.mp hvj).1
      refine ⟨_, rfl, ?_⟩
      show OkS (sSeq _ _ [some (.loc 0), some (.loc 1), some (.int tx), some (.int odd), some (.int sm), some (.int y), some (.int N), some (.loc L), some (.str sp), some (.loc I), some (.str v), y11, y12, y13, y14, y15, y16, y17, y18, y19] s) _
      have hlts := hDs.lt
      have hIl := lift_len hIs
      have hLl := lift_len hLs
      refine cut_seq (fun en' s' => (∃ a : Int, en' = [some (.loc 0), some (.loc 1), some (.int tx), some (.int odd), some (.int sm), some (.int y), some (.int N), some (.loc L), some (.str sp), some (.loc I), some (.str v), some (.int a), y12, y13, y14, y15, y16, y17, y18, y19] ∧ 0 ≤ a ∧ a < N) ∧ s'[I]? = some (.lst (xs.map inpD)) ∧ s'[L]? = some (.lst (vs.map D.str)) ∧ DrD 1 2 5 (B + 88 + 2 * j + 1) s') ?_ (fun en1 s9 hJ => ?_)
      · walk_at "gg"
        obtain ⟨q, hq, hq2⟩ := two_at (a := N) (b := 3) (c := decide (0 < sm)) (last_at (st := s) (b := O.lst [D.int N, .int 3]))
        refine okO_imp hq2 fun d1 s1 h1 => ?_
        refine okO_imp h1 fun d2 s2 ⟨e1, e2⟩ => ?_
        subst e1 e2
        have hqb : 0 < q ∧ q < 1073741824 := by rw [hq]; split <;> omega
        refine Ok.imp (fd_takeD (n := 90) (by omega) (by omega) hDs.app hqb.1 hqb.2) fun d s1 ⟨⟨v1, e1, q1, q2⟩, hD1, hG1⟩ => ?_
        subst e1
        rw [mod_i (by omega)]
        have hG := (Gr.app (t := [O.lst [D.int N, .int 3]])).trans hG1
        exact ⟨⟨_, rfl, Int.emod_nonneg _ (by omega), Int.emod_lt_of_pos _ (by omega)⟩, hG.keep _ _ nI.1 nI.2.1 hIs, hG.keep _ _ nL1 nL2 hLs, hD1⟩
      obtain ⟨⟨a, rfl, ha0, ha1⟩, hI9, hL9, hD9⟩ := hJ
      walk_at "gg"
      rw [if_pos (isTy_lst hI9)]
      have hlt9 := hD9.lt
      refine Ok.imp (fd_takeD (n := 90) (by omega) (by omega) hD9.app (by omega) (by omega)) fun d s1 ⟨⟨v1, e1, q1, q2⟩, hD1, hG1⟩ => ?_
      subst e1
      have hlast := hG1.keep _ _ (show s9.length ≠ 1 by omega) (show s9.length ≠ 2 by omega) (last_at (st := s9) (b := O.lst (([0, 1, 3, N - 1] : List Int).map D.int)))
      obtain ⟨b, hb, hmb⟩ := pick4I (xs := [0, 1, 3, N - 1]) (l := s9.length) (st := s1) (i := v1) (by omega) (by simp; omega) hlast
      rw [hb]
      walk_at "gg"
      rw [min_i]
      walk_at "gg"
      simp only [List.mem_cons, List.not_mem_nil, or_false] at hmb
      have hG := (Gr.app (t := [O.lst [D.int 0, .int 1, .int 3, .int (N - 1)]])).trans hG1
      have hI1 := hG.keep _ _ nI.1 nI.2.1 hI9
      obtain ⟨m, hm, hm0, hm1⟩ : ∃ m : Int, m = (if a + b < N - 1 then a + b else N - 1) ∧ a ≤ m ∧ m < N := ⟨_, rfl, by split <;> omega, by split <;> omega⟩
      rw [← hm]
      have hap : oAppend (.loc I) [.tup [.str v, .int a, .int m]] s1 = some (.non, s1.set I (.lst ((xs ++ [(v, a, m)]).map inpD))) := by
        unfold oAppend
        dsimp only
        rw [hI1]
        dsimp only
        rw [if_pos (szl (by
          have := congrArg List.length hxk
          rw [List.length_map, List.length_take] at this
          rw [List.length_map]; omega)), List.map_append]
        rfl
      rw [hap]
      refine ⟨⟨xs ++ [(v, a, m)], _, _, rfl, List.getElem?_set_self (lift_len hI1), ?_, fun x hx => ?_⟩, ?_, (hD1.setO nI.1 nI.2.1 nI.2.2.1).mono (by omega)⟩
      · rw [List.map_append, hxk, List.take_add_one, hvj]
        rfl
      · rcases List.mem_append.mp hx with z | z
        · exact hxb x z
        · rw [List.mem_singleton.mp z]; exact ⟨ha0, hm0, hm1⟩
      · rw [List.getElem?_set_ne nI.2.2.2]; exact hG.keep _ _ nL1 nL2 hL9
    · obtain ⟨⟨xs, y10, y11, rfl, hIs, hxk, hxb⟩, hLs, hDs⟩ := hJ
      rw [List.take_length] at hxk
      exact ⟨⟨xs, y10, y11, rfl, hIs, hxk, hxb⟩, hLs, hDs.mono (by omega)⟩
  obtain ⟨⟨xs, y10, y11, rfl, hI8, hxk, hxb⟩, hL8, hD8⟩ := hJ
  have hx : InpOk N xs := ⟨by rw [hxk]; exact hvnd, hxb⟩
  have hxl : xs.length = 3 := by
    have := congrArg List.length hxk
    rwa [List.length_map, hvl] at this
  refine cut_seq (fun en' st' => (∃ (p : Pol), en' = [some (.loc 0), some (.loc 1), some (.int tx), some (.int odd), some (.int sm), some (.int y), some (.int N), some (.loc L), some (.str sp), some (.loc I), y10, y11, some (spD p), y13, y14, y15, y16, y17, y18, y19] ∧ POk p ∧ (p.map (·.1)).Nodup ∧ p.length ≤ 3 ∧ ∀ e ∈ p, 0 < e.2 ∧ e.2 < 16777216 ∧ e.1.length ≤ 2 ∧ ∀ w ∈ e.1, w ∈ vs) ∧ st'[I]? = some (.lst (xs.map inpD)) ∧ DrD 1 2 5 (B + 110) st') ?_ (fun en1 s9 hJ => ?_)
  · walk_at "gg"
    rw [min_i]
    walk_at "gg"
    obtain ⟨w2, hw2d⟩ : ∃ w2 : Nat, w2 = min w 2 := ⟨_, rfl⟩
    obtain ⟨q, hq, hq2⟩ := two_at (a := y) (b := if 2 < y then 2 else y) (c := decide (0 < sm)) (last_at (st := s8) (b := O.lst [D.int y, .int (if 2 < y then 2 else y)]))
    refine okO_imp hq2 fun d1 s1 h1 => ?_
    refine okO_imp h1 fun d2 s2 ⟨e1, e2⟩ => ?_
    subst e1 e2
    obtain ⟨N2, hN2⟩ : ∃ N2, WN q N2 := by
      by_cases hc : decide (0 < sm) = true
      · rw [if_pos hc] at hq
        exact ⟨2 ^ w2, w2, by rw [hq]; split <;> omega, rfl, by omega, by omega⟩
      · rw [if_neg hc] at hq
        exact ⟨N, w, by rw [hq]; exact hyw, hNd, hw1, hw2⟩
    have hN2l := hN2.le
    refine Ok.imp (fd_spreadD (n := 90) (by omega) hN2 (by omega) hD8.app (app_get hL8) nL1 nL2 (by omega) (by omega) hvn) fun d s1 ⟨⟨p, h1, h2, h3, h4⟩, h5, h6⟩ => ?_
    subst h1
    exact ⟨⟨p, rfl, h2.ok, h2.can.nd, h3, fun e he => ⟨(h2.can.fa e he).1, by have := (h2.can.fa e he).2; omega, h4 e he⟩⟩, (Gr.app.trans h6).keep _ _ nI.1 nI.2.1 hI8, h5.mono (by omega)⟩
  obtain ⟨⟨p, rfl, hpo, hpn, hpl, hpb⟩, hI9, hD9⟩ := hJ
  refine cut_seq (fun en' st' => (∃ (p : Pol) (y18 : Option D), en' = [some (.loc 0), some (.loc 1), some (.int tx), some (.int odd), some (.int sm), some (.int y), some (.int N), some (.loc L), some (.str sp), some (.loc I), y10, y11, some (spD p), y13, y14, y15, y16, y17, y18, y19] ∧ POk p ∧ p.length ≤ 4 ∧ (∀ e ∈ p, 0 < e.2 ∧ e.2 < 16777216 ∧ e.1.length ≤ 2) ∧ (odd = 0 → knownP vs p = false) ∧ (odd ≠ 0 → knownP vs p = true)) ∧ Ext s9 st') ?_ (fun en1 s10 hJ => ?_)
  · walk_at "gg"
    by_cases h0 : odd = 0
    · rw [if_pos h0]
      rw [show (spD p) = D.tup (p.map pairD) from rfl]
      dsimp only
      rw [List.length_map]
      refine Ok.imp (lc_pE (cond := bYes) pairD p pairD (fun _ => true) (szl (by omega)) (src_its _ _) (fun x hx => ⟨_, rfl, fun acc => ⟨OkX.of_eq (a := true) rfl ⟨rfl, rfl⟩, fun _ => ?_⟩⟩)) fun _ s1 e1 => ?_
      · unfold Ok
        show OkX (eVar 18 [some (.loc 0), some (.loc 1), some (.int tx), some (.int odd), some (.int sm), some (.int y), some (.int N), some (.loc L), some (.str sp), some (.loc I), y10, y11, some (spD p), y13, y14, y15, y16, y17, some (pairD x), y19] _) _ _
        walk_at "gg"
      · subst e1
        rw [List.filter_eq_self.mpr (fun _ _ => rfl)]
        have hm1 : MOk [sp] := ⟨fun w hw => by rw [List.mem_singleton.mp hw]; exact hsp.1, List.pairwise_singleton _ _⟩
        rw [add_l (xs := p.map pairD) (ys := [D.tup [.tup [.str sp], .int 1]]) (app_get last_at) last_at (by rw [List.length_map]; simp; omega)]
        walk_at "gg"
        have hp2o : POk (p ++ [([sp], 1)]) := fun e he => by
          rcases List.mem_append.mp he with z | z
          · exact hpo e z
          · rw [List.mem_singleton.mp z]; exact hm1
        have hp2n : ((p ++ [([sp], (1 : Int))]).map (·.1)).Nodup := by
          rw [List.map_append, List.nodup_append]
          refine ⟨hpn, by simp, fun a ha b hb e => ?_⟩
          obtain ⟨x, hx, rfl⟩ := List.mem_map.mp ha
          have hb : b = [sp] := List.mem_singleton.mp hb
          exact hspn ((hpb x hx).2.2.2 sp (by rw [e, hb]; simp))
        rw [sortedA_pairs (p := p ++ [([sp], 1)]) hp2o hp2n (by rw [List.length_append, List.length_singleton]; omega) (by rw [last_at, List.map_append]; rfl)]
        walk_at "gg"
        rw [oTuple_l last_at]
        walk_at "gg"
        refine ⟨⟨srtP (p ++ [([sp], 1)]), _, rfl, fun e he => hp2o e ((srtP_perm _).mem_iff.mp he), by rw [(srtP_perm _).length_eq, List.length_append, List.length_singleton]; omega, fun e he => ?_, fun _ => ?_, fun z => absurd h0 z⟩, Ext.app.appR.appR.appR⟩
        · rcases List.mem_append.mp ((srtP_perm _).mem_iff.mp he) with z | z
          · exact ⟨(hpb e z).1, (hpb e z).2.1, (hpb e z).2.2.1⟩
          · rw [List.mem_singleton.mp z]; exact ⟨by show (0 : Int) < 1; omega, by show (1 : Int) < 16777216; omega, by simp⟩
        · cases hk : knownP vs (srtP (p ++ [([sp], 1)])) with
          | false => rfl
          | true => exact absurd (known_iff.mp hk ([sp], 1) ((srtP_perm _).mem_iff.mpr (List.mem_append_right _ (List.mem_singleton.mpr rfl))) sp (by simp)) hspn
    · rw [if_neg h0]
      exact ⟨⟨p, _, rfl, hpo, by omega, fun e he => ⟨(hpb e he).1, (hpb e he).2.1, (hpb e he).2.2.1⟩, fun z => absurd z h0, fun _ => known_iff.mpr fun e he => (hpb e he).2.2.2⟩, Ext.refl⟩
  clear hpo hpn hpl hpb
  obtain ⟨⟨p, y18, rfl, hpo, hpl, hpb, hod0, hod1⟩, hE10⟩ := hJ
  have hI10 := hE10.get hI9
  have hD10 := hD9.ext hE10
  have hpw := wt_sp (n := 4) hpo (fun e he => by have := hpb e he; omega) hpl
  have hxw : ∀ d ∈ xs.map inpD, Wt 3 13000 d := fun d hd => by
    obtain ⟨x, hx2, rfl⟩ := List.mem_map.mp hd
    have h1 := hxb x hx2
    exact wt_inp (hvnm x.1 (by rw [← hxk]; exact List.mem_map.mpr ⟨x, hx2, rfl⟩)) (by omega) (by omega)
  obtain ⟨zs, hzs⟩ := repr_nest (k := 3) (n := 13000) (hpw.mono (by omega) (by omega)) hxw (by omega) (by rw [List.length_map]; omega)
  refine cut_seq (fun en' st' => en' = [some (.loc 0), some (.loc 1), some (.int tx), some (.int odd), some (.int sm), some (.int y), some (.int N), some (.loc L), some (.str sp), some (.loc I), y10, y11, some (spD p), some (.str zs), y14, y15, y16, y17, y18, y19] ∧ Ext s10 st') ?_ (fun en1 s11 hJ => ?_)
  · walk_at "gg"
    rw [hzs _ _ _ last_at (app_get hI10)]
    exact ⟨rfl, Ext.app⟩
  obtain ⟨rfl, hE11⟩ := hJ
  have hI11 := hE11.get hI10
  refine cut_seq (fun en' st' => (∃ d14 : D, en' = [some (.loc 0), some (.loc 1), some (.int tx), some (.int odd), some (.int sm), some (.int y), some (.int N), some (.loc L), some (.str sp), some (.loc I), y10, y11, some (spD p), some (.str zs), some d14, y15, y16, y17, y18, y19] ∧ d14 = spanD N xs p) ∧ Ext s11 st') ?_ (fun en1 s12 hJ => ?_)
  · walk_at "gg"
    rw [oTuple_l hI11]
    walk_at "gg"
    refine Ok.imp (fk_span (n := 90) (by omega) hw hx (by omega) (p := p) (by omega) (fun e he => by have := hpb e he; omega) s11) fun d s1 ⟨h1, h2⟩ => ?_
    exact ⟨⟨d, rfl, h1⟩, h2⟩
  obtain ⟨⟨d14, rfl, hd14⟩, hE12⟩ := hJ
  have hI12 := hE12.get hI11
  have hfk : (mostE xs ++ [(sp, (0 : Int))]).map (·.1) = vs ++ [sp] := by rw [List.map_append, most_keys, hxk]; rfl
  have hfn : ((mostE xs ++ [(sp, (0 : Int))]).map (·.1)).Nodup := by
    rw [hfk, List.nodup_append]
    exact ⟨hvnd, by simp, fun a ha b hb e => hspn (by rw [← List.mem_singleton.mp hb, ← e]; exact ha)⟩
  refine cut_seq (fun en' st' => (∃ Fa : Nat, en' = [some (.loc 0), some (.loc 1), some (.int tx), some (.int odd), some (.int sm), some (.int y), some (.int N), some (.loc L), some (.str sp), some (.loc I), y10, y11, some (spD p), some (.str zs), some d14, some (.loc Fa), y16, y17, y18, y19] ∧ st'[Fa]? = some (.dic (wkE (mostE xs ++ [(sp, 0)])))) ∧ Ext s12 st') ?_ (fun en1 s13 hJ => ?_)
  · walk_at "gg"
    rw [lst_at hI12]
    dsimp only
    rw [List.length_map]
    refine Ok.imp (k63_col (k := 2) (j := 2) (.inr ⟨rfl, rfl⟩) hI12 (by omega) (fun x acc hx2 => ⟨_, rfl, ?_⟩)) fun _ s1 e1 => ?_
    · unfold Ok inpD
      show OkX (eTup _ [some (.loc 0), some (.loc 1), some (.int tx), some (.int odd), some (.int sm), some (.int y), some (.int N), some (.loc L), some (.str sp), some (.loc I), y10, y11, some (spD p), some (.str zs), some d14, y15, y16, y17, some (.tup [.str x.1, .int x.2.1, .int x.2.2]), y19] _) _ _
      walk_at "gg"
      rfl
    · subst e1
      rw [show (xs.map fun x => (x.1, if 2 = 1 then x.2.1 else x.2.2)) = mostE xs from rfl]
      rw [add_l (xs := (mostE xs).map fun e => D.tup [.str e.1, .int e.2]) (ys := [D.tup [.str sp, .int 0]]) (app_get last_at) last_at (by unfold mostE; rw [List.length_map, List.length_map]; simp; omega)]
      walk_at "gg"
      rw [dict_wk (es := mostE xs ++ [(sp, 0)]) hfn (by rw [last_at, List.map_append]; rfl)]
      exact ⟨⟨_, rfl, last_at⟩, Ext.app.appR.appR.appR⟩
  obtain ⟨⟨Fa, rfl, hFa⟩, hE13⟩ := hJ
  have hI13 := hE13.get hI12
  have hD13 := ((hD10.ext hE11).ext hE12).ext hE13
  refine cut_seq (fun en' st' => (∃ y16 y17 y18 y19 : Option D, en' = [some (.loc 0), some (.loc 1), some (.int tx), some (.int odd), some (.int sm), some (.int y), some (.int N), some (.loc L), some (.str sp), some (.loc I), y10, y11, some (spD p), some (.str zs), some d14, some (.loc Fa), y16, y17, y18, y19]) ∧ Ext s13 st') ?_ (fun en1 s14 hJ => ?_)
  · walk_at "gg"
    by_cases h0 : odd = 0
    · rw [if_pos h0]
      have hd : d14 = .non := by
        rw [hd14]
        unfold spanD
        rw [hxk, hod0 h0]
        rfl
      subst hd
      rw [show oNotN .non .non s13 = some (.bl false, s13) from rfl]
      walk_at "gg"
      exact ⟨⟨_, _, _, _, rfl⟩, Ext.refl⟩
    · rw [if_neg h0]
      have hkn := hod1 h0
      have hkp := known_iff.mp hkn
      refine Ok.imp (fk_whole (NW := 100000) (n := 90) (by omega) (p := p) hFa (fun e he w hw => by rw [hfk]; exact List.mem_append_left _ (hkp e he w hw)) (fun x hx2 => by
        rcases List.mem_append.mp hx2 with z | z
        · exact hx.most hN.2 x z
        · rw [List.mem_singleton.mp z]; exact ⟨by show (0 : Int) ≤ 0; omega, by show (0 : Int) ≤ 16777216; omega⟩) hfn) fun d s1 ⟨e1, e2⟩ => ?_
      subst e1 e2
      have hwm : whS (atW (mostE xs ++ [(sp, 0)])) p = whS (atW (mostE xs)) p := whS_congr fun e he w hw => by
        have hwv := hkp e he w hw
        rw [← hxk, ← most_keys] at hwv
        obtain ⟨x, hx2, rfl⟩ := List.mem_map.mp hwv
        rw [atW_mem hfn (List.mem_append_left _ hx2), atW_mem (by rw [most_keys]; exact hx.nd) hx2]
      rw [hwm]
      walk_at "gg"
      by_cases hge : N ≤ whS (atW (mostE xs)) p
      · rw [if_pos hge]
        have hd : d14 = .non := by
          rw [hd14]
          unfold spanD
          rw [hxk, if_pos hkn, if_pos hge]
        subst hd
        rw [show oNotN .non .non s1 = some (.bl false, s1) from rfl]
        walk_at "gg"
        exact ⟨⟨_, _, _, _, rfl⟩, Ext.refl⟩
      · rw [if_neg hge]
        have hbl : Btw xs (leastE xs) := ⟨least_keys xs, fun e he => by
          obtain ⟨x, hx2, rfl⟩ := List.mem_map.mp he
          exact ⟨x, hx2, rfl, Int.le_refl _, (hxb x hx2).2.1⟩⟩
        have hkx : ∀ e ∈ p, ∀ w ∈ e.1, w ∈ xs.map (·.1) := fun e he w hw => by rw [hxk]; exact hkp e he w hw
        obtain ⟨a, ha⟩ : ∃ a, a = whS (atW (leastE xs)) p := ⟨_, rfl⟩
        obtain ⟨b, hb⟩ : ∃ b, b = whS (atW (mostE xs)) p := ⟨_, rfl⟩
        have hab : 0 ≤ a ∧ a ≤ b := by
          rw [ha, hb]
          refine whS_le fun e he => ⟨by have := hpb e he; omega, fun w hw => ?_⟩
          have := atW_btw hx hbl (hkx e he w hw)
          omega
        rw [← hb] at hge
        have hd : d14 = .tup [.int a, .int b] := by
          rw [hd14]
          unfold spanD
          rw [hxk, if_pos hkn, ← hb, if_neg hge, ← ha]
        have hwt : Wt 1 33 d14 := by
          rw [hd]
          exact (wt_two (wt_int (by omega)) (wt_int (by omega))).mono (Nat.le_refl _) (by omega)
        have hpl14 : Pl d14 := ⟨hwt.pu, by have := hwt.dp; omega⟩
        refine Ok.imp (lc_xE (st0 := s1) (cond := bYes) D.int [1, 2] (fun j => .int (if j = 1 then a else b)) (fun _ => true) (by decide) (src_itsX _ _) (fun j hj => ⟨_, rfl, fun s hE => ⟨OkX.of_eq (a := true) rfl ⟨rfl, Ext.refl⟩, fun _ s2 hE2 => ?_⟩⟩)) fun _ s2 ⟨e2, hE2⟩ => ?_
        · unfold Ok
          show OkX (eCall 2 _ _ [some (.loc 0), some (.loc 1), some (.int tx), some (.int odd), some (.int sm), some (.int y), some (.int N), some (.loc L), some (.str sp), some (.loc I), y10, y11, some (spD p), some (.str zs), some d14, some (.loc Fa), y16, y17, y18, some (.int j)] s2) _ _
          walk_at "gg"
          have hI2 := hE2.get hI13
          rw [lst_at hI2]
          dsimp only
          rw [List.length_map]
          simp only [List.mem_cons, List.not_mem_nil, or_false] at hj
          rcases hj with rfl | rfl
          · refine Ok.imp (k63_col (k := 1) (j := 1) (.inl ⟨rfl, rfl⟩) hI2 (by omega) (fun x acc hx2 => ⟨_, rfl, ?_⟩)) fun _ s3 e1 => ?_
            · unfold Ok inpD
              show OkX (eTup _ [some (.loc 0), some (.loc 1), some (.int tx), some (.int odd), some (.int sm), some (.int y), some (.int N), some (.loc L), some (.str sp), some (.loc I), y10, y11, some (spD p), some (.str zs), some d14, some (.loc Fa), y16, y17, some (.tup [.str x.1, .int x.2.1, .int x.2.2]), some (.int 1)] _) _ _
              walk_at "gg"
            · subst e1
              rw [show (xs.map fun x => (x.1, if 1 = 1 then x.2.1 else x.2.2)) = leastE xs from rfl]
              rw [dict_wk (es := leastE xs) (by rw [least_keys]; exact hx.nd) last_at]
              walk_at "gg"
              refine Ok.imp (fk_whole (NW := 100000) (n := 90) (by omega) (p := p) (es := leastE xs) last_at (by rw [least_keys]; exact hkx) (hx.least hN.2) (by rw [least_keys]; exact hx.nd)) fun d s4 ⟨e1, e2⟩ => ?_
              subst e1 e2
              exact ⟨by rw [← ha] <;> try rfl, Ext.app.appR⟩
          · refine Ok.imp (k63_col (k := 2) (j := 2) (.inr ⟨rfl, rfl⟩) hI2 (by omega) (fun x acc hx2 => ⟨_, rfl, ?_⟩)) fun _ s3 e1 => ?_
            · unfold Ok inpD
              show OkX (eTup _ [some (.loc 0), some (.loc 1), some (.int tx), some (.int odd), some (.int sm), some (.int y), some (.int N), some (.loc L), some (.str sp), some (.loc I), y10, y11, some (spD p), some (.str zs), some d14, some (.loc Fa), y16, y17, some (.tup [.str x.1, .int x.2.1, .int x.2.2]), some (.int 2)] _) _ _
              walk_at "gg"
              rfl
            · subst e1
              rw [show (xs.map fun x => (x.1, if 2 = 1 then x.2.1 else x.2.2)) = mostE xs from rfl]
              rw [dict_wk (es := mostE xs) (by rw [most_keys]; exact hx.nd) last_at]
              walk_at "gg"
              refine Ok.imp (fk_whole (NW := 100000) (n := 90) (by omega) (p := p) (es := mostE xs) last_at (by rw [most_keys]; exact hkx) (hx.most hN.2) (by rw [most_keys]; exact hx.nd)) fun d s4 ⟨e1, e2⟩ => ?_
              subst e1 e2
              exact ⟨by rw [← hb] <;> try rfl, Ext.app.appR⟩
        · have hdue : s2[s1.length]? = some (.lst [.int a, .int b]) := e2
          rw [repr_wt hwt (by omega) (by omega)]
          walk_at "gg"
          rw [oTuple_l hdue]
          walk_at "gg"
          rw [← hd, repr_wt hwt (by omega) (by omega)]
          walk_at "gg"
          rw [oTuple_l (hE2.get hI13)]
          walk_at "gg"
          refine Ok.imp (fk_span (n := 90) (by omega) hw hx (by omega) (p := p) (by omega) (fun e he => by have := hpb e he; omega) s2) fun d s3 ⟨h1, hE3⟩ => ?_
          rw [← hd14] at h1
          rw [h1, oNe_pl hpl14 hpl14]
          walk_at "gg"
          refine Ok.imp (fk_all (NW := 100000) (n := 90) (by omega) hx (by omega) ((hE2.trans hE3).get hI13)) fun d4 s4 ⟨Q, ls, e4, hQ, hQl, hbt, hE4⟩ => ?_
          subst e4
          dsimp only
          rw [lst_at hQ]
          dsimp only
          rw [List.length_map]
          have hdue4 := (hE3.trans hE4).get hdue
          refine for_xs D.loc ls (fun j en' s => (∃ y17 : Option D, en' = [some (.loc 0), some (.loc 1), some (.int tx), some (.int odd), some (.int sm), some (.int y), some (.int N), some (.loc L), some (.str sp), some (.loc I), y10, y11, some (spD p), some (.str zs), some d14, some (.loc Fa), some (.loc s1.length), y17, y18, y19]) ∧ Ext s4 s) ⟨⟨_, rfl⟩, Ext.refl⟩ (fun j en' s hJ k => src_at (hJ.2.get hQ) k) (fun j l en' s hlj hJ => ?_) (fun en' s hJ => ?_)
          · obtain ⟨⟨y17, rfl⟩, hE5⟩ := hJ
            obtain ⟨es, hes, hbe⟩ := hbt l (List.mem_of_getElem? hlj)
            refine ⟨_, rfl, ?_⟩
            show OkS (sIf _ _ _ [some (.loc 0), some (.loc 1), some (.int tx), some (.int odd), some (.int sm), some (.int y), some (.int N), some (.loc L), some (.str sp), some (.loc I), y10, y11, some (spD p), some (.str zs), some d14, some (.loc Fa), some (.loc s1.length), some (.loc l), y18, y19] s) _
            have hdue5 := hE5.get hdue4
            walk_at "gg"
            rw [ix_lst (lst_at hdue5) (d := .int a) rfl]
            walk_at "gg"
            refine Ok.imp (fk_whole (NW := 100000) (n := 90) (by omega) (p := p) (hE5.get hes) (by rw [hbe.key]; exact hkx) (fun x hx2 => by
              obtain ⟨u, hu, h1, h2, h3⟩ := hbe.bt x hx2
              have := hxb u hu
              omega) (by rw [hbe.key]; exact hx.nd)) fun d s6 ⟨e1, e2⟩ => ?_
            subst e1 e2
            have hc1 : a ≤ whS (atW es) p := by
              rw [ha]
              exact (whS_le fun e he => ⟨by have := hpb e he; omega, fun w hw => by have := atW_btw hx hbe (hkx e he w hw); omega⟩).2
            have hc2 : whS (atW es) p ≤ b := by
              rw [hb]
              exact (whS_le fun e he => ⟨by have := hpb e he; omega, fun w hw => by have := atW_btw hx hbe (hkx e he w hw); omega⟩).2
            walk_at "gg"
            rw [if_pos hc1, ix_lst (lst_at hdue5) (d := .int b) rfl]
            walk_at "gg"
            rw [if_neg (by first | exact fun z => z hc2 | simp [hc2])]
            exact ⟨⟨_, rfl⟩, hE5⟩
          · obtain ⟨⟨y17, rfl⟩, hE5⟩ := hJ
            exact ⟨⟨_, _, _, _, rfl⟩, ((hE2.trans hE3).trans hE4).trans hE5⟩
  obtain ⟨⟨y16, y17, y18, y19, rfl⟩, hE14⟩ := hJ
  have hI14 := hE14.get hI13
  have hD14 := hD13.ext hE14
  walk_at "gg"
  rw [hzs _ _ _ last_at (app_get hI14)]
  walk_at "gg"
  exact ⟨⟨_, _, _, _, _, _, _, _, _, _, _, _, _, _, _, _, _, _, rfl⟩, hD14.app.mono (by omega)⟩
end Law

open PySem PySem.W PyProof.Rows
set_option maxHeartbeats 0 in
theorem PySem.Challenge.cw_turngrow_k63_spans_told_holds : PySem.Challenge.rw_turngrow_k63_spans_told.Holds := by
  w_on; o_law; k_head; (case hw => w_witness2)
  k_fill
  refine Sh.law_ok (l := PySem.Challenge.rw_turngrow_k63_spans_told) (n := 63) (k := 90 + 1) (x := "_law_script") rfl (by decide) rfl ⟨rfl, by decide, by decide⟩ (fun w h Y => PySem.W.kIn_of Y) (Law.lev 100000 (90 + 1)).law ?F Law.math
  case F =>
    intro w mg fa h KX G hmg
    refine' Law.all_mk 90 KX G hmg ?a0 ?l0 ?c0 ?k0 ?a1 ?l1 ?c1 ?k1 ?a2 ?l2 ?c2 ?k2 ?a3 ?l3 ?c3 ?k3 ?a4 ?l4 ?c4 ?k4 ?a5 ?l5 ?c5 ?k5 ?a6 ?l6 ?c6 ?k6 ?a7 ?l7 ?c7 ?k7 ?a8 ?l8 ?c8 ?k8 ?a9 ?l9 ?c9 ?k9 ?a10 ?l10 ?c10 ?k10 ?a11 ?l11 ?c11 ?k11 ?z_abs ?z_all ?z_dict ?z_int ?z_len ?z_min ?z_range ?z_repr ?z_sorted ?z_str ?z_tuple
    (case a0 => k_is); (case l0 => k_is); (case c0 => k_is); (case k0 => k_is); (case a1 => k_is); (case l1 => k_is); (case c1 => k_is); (case k1 => k_is); (case a2 => k_is); (case l2 => k_is); (case c2 => k_is); (case k2 => k_is); (case a3 => k_is); (case l3 => k_is); (case c3 => k_is); (case k3 => k_is); (case a4 => k_is); (case l4 => k_is); (case c4 => k_is); (case k4 => k_is); (case a5 => k_is); (case l5 => k_is); (case c5 => k_is); (case k5 => k_is); (case a6 => k_is); (case l6 => k_is); (case c6 => k_is); (case k6 => k_is); (case a7 => k_is); (case l7 => k_is); (case c7 => k_is); (case k7 => k_is); (case a8 => k_is); (case l8 => k_is); (case c8 => k_is); (case k8 => k_is); (case a9 => k_is); (case l9 => k_is); (case c9 => k_is); (case k9 => k_is); (case a10 => k_is); (case l10 => k_is); (case c10 => k_is); (case k10 => k_is); (case a11 => k_is); (case l11 => k_is); (case c11 => k_is); (case k11 => k_is); (case z_abs => k_is); (case z_all => k_is); (case z_dict => k_is); (case z_int => k_is); (case z_len => k_is); (case z_min => k_is); (case z_range => k_is); (case z_repr => k_is); (case z_sorted => k_is); (case z_str => k_is); (case z_tuple => k_is)


