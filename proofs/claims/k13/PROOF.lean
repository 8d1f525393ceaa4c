import PyProof.Rows.All
import Wide.All
import OpenK.AllK
import Wide.FinOn
import HandS.ForMost
import HandS.ForExc
import HandS.CallSlots
import HandS.Flow
import HandS.Wide
import HandS.TupAny
import HandS.TryOnly
import HandS.Walk
import HandS.IsInst
import HandS.SortInts
import HandS.EndBits
import HandS.More
import HandS.Conv
import HandS.Zip
import HandS.Finally
import HandS.Strs
import HandS.SetFor
import HandS.ExcInit
import HandS.ExcField
import HandS.ExcIs
import HandS.Defaults
import PySem.Challenge.RW_spacewright_k13_a_world
set_option Elab.async false
set_option linter.all false
set_option maxRecDepth 100000
set_option maxHeartbeats 4000000
set_option autoImplicit false
section
/-! Sm, part A: data, the store, results; how they stand for values and the abstract heap of the hand layer. -/
namespace Sm
open PySem PySem.Spec PyProof.Rows L2

/-- data: what never changes is told by value; `loc` names a thing of the store -/
inductive D where
  | non | bl (b : Bool) | int (i : Int) | str (x : Str) | ty (n : String) | cls (c : Nat) | fnc (i : Nat) | loc (l : Nat)
  | tup (xs : List D) | lsc (xs : List D)
/-- things that may change -/
inductive Ob where
  | lst (xs : List D) | dct (kvs : List (Key × D)) | ins (c : Nat) (fs : List (Str × D))
abbrev Sto := List Ob
/-- an exception: its class, its fields -/
abbrev Exn := Nat × List (Str × D)
inductive Rz (α : Type) where
  | ok (a : α) (S : Sto) | ex (e : Exn) (S : Sto) | no
def Rz.andThen {α β : Type} (r : Rz α) (f : α → Sto → Rz β) : Rz β :=
  match r with
  | .ok a S => f a S
  | .ex e S => .ex e S
  | .no => .no
def Mo (α : Type) := Sto → Rz α
instance : Monad Mo where
  pure a := fun S => .ok a S
  bind x f := fun S => (x S).andThen f
abbrev En := List (Option D)
abbrev DE := En → Mo D

section
variable {α β : Type}
@[simp] theorem pure_ap (a : α) (S : Sto) : (pure a : Mo α) S = .ok a S := rfl
@[simp] theorem bind_ap (x : Mo α) (f : α → Mo β) (S : Sto) : (x >>= f) S = (x S).andThen f := rfl
@[simp] theorem andThen_ok (a : α) (S : Sto) (f : α → Sto → Rz β) : (Rz.ok a S).andThen f = f a S := rfl
@[simp] theorem andThen_ex (e : Exn) (S : Sto) (f : α → Sto → Rz β) : (Rz.ex e S : Rz α).andThen f = .ex e S := rfl
@[simp] theorem andThen_no (f : α → Sto → Rz β) : (Rz.no : Rz α).andThen f = .no := rfl
end
def bad {α : Type} : Mo α := fun _ => .no
@[simp] theorem bad_ap {α : Type} (S : Sto) : (bad : Mo α) S = .no := rfl

/-- a length that the model can hold -/
@[irreducible] def fit (n : Nat) : Bool := decide (n ≤ sizeLine)
theorem fit_iff {n : Nat} : fit n = true ↔ n ≤ sizeLine := by
  unfold fit
  exact decide_eq_true_iff
theorem fit_of {n : Nat} (h : n ≤ 16777216) : fit n = true := fit_iff.mpr (by rw [sizeLine_eq]; exact h)
theorem fit_ne {n : Nat} (h : ¬ n ≤ sizeLine) : fit n = false := by
  cases e : fit n with
  | false => rfl
  | true => exact absurd (fit_iff.mp e) h

/-! ### the relation -/
structure Gx where
  K : PySem.W.Frag
  ct : Nat → Addr
  fa : Nat → Addr
/-- a list that nobody changes: locked, or of the written part -/
def Lsc (K : PySem.W.Frag) (H : Hp) (a : Addr) (xs : List V) : Prop :=
  (∃ o, H a = some (.frz o (.lst xs))) ∨
    ∃ (o : Obj) (its : Array Value) (n : Nat), K.lookup a = some o ∧ o.cls = .type "list" ∧ o.dict = none ∧ o.data = .seq its n ∧ its.size ≤ sizeLine ∧ Vals xs its.toList
theorem Lsc.sq {K : PySem.W.Frag} {H : Hp} {a : Addr} {xs : List V} (h : Lsc K H a xs) : SqL K H a xs := by
  rcases h with h | h
  · exact .inl (.inr h)
  · exact .inr h

mutual
inductive VR (g : Gx) (m : Nat → Addr) (n : Nat) (H : Hp) : V → D → Prop
  | non : VR g m n H .non .non
  | bl (b : Bool) : VR g m n H (.bl b) (.bl b)
  | int (i : Int) : VR g m n H (.int i) (.int i)
  | str (x : Str) : VR g m n H (.str x) (.str x)
  | ty (t : String) : VR g m n H (.ty t) (.ty t)
  | cls (c : Nat) : VR g m n H (.ref (g.ct c)) (.cls c)
  | fnc (i : Nat) : VR g m n H (.ref (g.fa i)) (.fnc i)
  | loc (l : Nat) : l < n → VR g m n H (.ref (m l)) (.loc l)
  | tup (a : Addr) (xs : List V) (ds : List D) : SqT g.K H a xs → VRs g m n H xs ds → VR g m n H (.ref a) (.tup ds)
  | lsc (a : Addr) (xs : List V) (ds : List D) : Lsc g.K H a xs → VRs g m n H xs ds → VR g m n H (.ref a) (.lsc ds)
inductive VRs (g : Gx) (m : Nat → Addr) (n : Nat) (H : Hp) : List V → List D → Prop
  | nil : VRs g m n H [] []
  | cons (x : V) (d : D) (xs : List V) (ds : List D) : VR g m n H x d → VRs g m n H xs ds → VRs g m n H (x :: xs) (d :: ds)
end

/-- from one heap to a later one -/
structure Ev (g : Gx) (m : Nat → Addr) (n : Nat) (H : Hp) (m' : Nat → Addr) (n' : Nat) (H' : Hp) : Prop where
  le : n ≤ n'
  ag : ∀ l, l < n → m' l = m l
  tup : ∀ a xs, SqT g.K H a xs → SqT g.K H' a xs
  lsc : ∀ a xs, Lsc g.K H a xs → Lsc g.K H' a xs
section
variable {g : Gx} {m m' m'' : Nat → Addr} {n n' n'' : Nat} {H H' H'' : Hp}
theorem Ev.refl : Ev g m n H m n H := ⟨Nat.le_refl _, fun _ _ => rfl, fun _ _ h => h, fun _ _ h => h⟩
theorem Ev.trans (a : Ev g m n H m' n' H') (b : Ev g m' n' H' m'' n'' H'') : Ev g m n H m'' n'' H'' :=
  ⟨Nat.le_trans a.le b.le, fun l h => (b.ag l (Nat.lt_of_lt_of_le h a.le)).trans (a.ag l h), fun x xs h => b.tup x xs (a.tup x xs h), fun x xs h => b.lsc x xs (a.lsc x xs h)⟩
mutual
theorem VR.ev (e : Ev g m n H m' n' H') : ∀ {v : V} {d : D}, VR g m n H v d → VR g m' n' H' v d
  | _, _, .non => .non
  | _, _, .bl b => .bl b
  | _, _, .int i => .int i
  | _, _, .str x => .str x
  | _, _, .ty t => .ty t
  | _, _, .cls c => .cls c
  | _, _, .fnc i => .fnc i
  | _, _, .loc l h => by rw [← e.ag l h]; exact .loc l (Nat.lt_of_lt_of_le h e.le)
  | _, _, .tup a xs ds h r => .tup a xs ds (e.tup a xs h) (VRs.ev e r)
  | _, _, .lsc a xs ds h r => .lsc a xs ds (e.lsc a xs h) (VRs.ev e r)
theorem VRs.ev (e : Ev g m n H m' n' H') : ∀ {v : List V} {d : List D}, VRs g m n H v d → VRs g m' n' H' v d
  | _, _, .nil => .nil
  | _, _, .cons x d xs ds r t => .cons x d xs ds (VR.ev e r) (VRs.ev e t)
end
theorem VRs.length : ∀ {v : List V} {d : List D}, VRs g m n H v d → v.length = d.length
  | _, _, .nil => rfl
  | _, _, .cons _ _ _ _ _ t => congrArg (· + 1) (VRs.length t)
theorem VRs.append : ∀ {v v' : List V} {d d' : List D}, VRs g m n H v d → VRs g m n H v' d' → VRs g m n H (v ++ v') (d ++ d')
  | _, _, _, _, .nil, s => s
  | _, _, _, _, .cons x d xs ds r t, s => .cons x d _ _ r (VRs.append t s)
theorem VRs.get : ∀ {v : List V} {d : List D} {i : Nat} {x : D}, VRs g m n H v d → d[i]? = some x → ∃ u, v[i]? = some u ∧ VR g m n H u x
  | _, _, _, _, .nil, e => by simp at e
  | _, _, 0, _, .cons x d xs ds r t, e => by simp at e; subst e; exact ⟨x, rfl, r⟩
  | _, _, i + 1, y, .cons x d xs ds r t, e => by
    obtain ⟨u, h1, h2⟩ := VRs.get (i := i) (x := y) t (by simpa using e)
    exact ⟨u, by simpa using h1, h2⟩
theorem VRs.get' : ∀ {v : List V} {d : List D} {i : Nat} {u : V}, VRs g m n H v d → v[i]? = some u → ∃ x, d[i]? = some x ∧ VR g m n H u x
  | _, _, _, _, .nil, e => by simp at e
  | _, _, 0, _, .cons x d xs ds r t, e => by simp at e; subst e; exact ⟨d, rfl, r⟩
  | _, _, i + 1, y, .cons x d xs ds r t, e => by
    obtain ⟨u, h1, h2⟩ := VRs.get' (i := i) (u := y) t (by simpa using e)
    exact ⟨u, by simpa using h1, h2⟩
theorem VRs.set : ∀ {v : List V} {d : List D} (i : Nat) {u : V} {x : D}, VRs g m n H v d → VR g m n H u x → VRs g m n H (v.set i u) (d.set i x)
  | _, _, _, _, _, .nil, _ => .nil
  | _, _, 0, u, y, .cons x d xs ds r t, q => .cons u y xs ds q t
  | _, _, i + 1, u, y, .cons x d xs ds r t, q => .cons x d _ _ r (VRs.set i t q)
theorem VRs.take : ∀ {v : List V} {d : List D} (i : Nat), VRs g m n H v d → VRs g m n H (v.take i) (d.take i)
  | _, _, 0, _ => .nil
  | _, _, i + 1, .nil => .nil
  | _, _, i + 1, .cons x d xs ds r t => .cons x d _ _ r (VRs.take i t)
theorem VRs.drop : ∀ {v : List V} {d : List D} (i : Nat), VRs g m n H v d → VRs g m n H (v.drop i) (d.drop i)
  | _, _, 0, r => r
  | _, _, i + 1, .nil => .nil
  | _, _, i + 1, .cons x d xs ds r t => VRs.drop i t
theorem VRs.reverse {v : List V} {d : List D} (h : VRs g m n H v d) : VRs g m n H v.reverse d.reverse := by
  have go : ∀ {v : List V} {d : List D}, VRs g m n H v d → VRs g m n H v.reverse d.reverse := by
    intro v
    induction v with
    | nil => intro d h; cases h; exact .nil
    | cons x xs ih =>
      intro d h
      cases h with
      | cons _ y _ ys r t =>
        rw [List.reverse_cons, List.reverse_cons]
        exact (ih t).append (.cons _ _ _ _ r .nil)
  exact go h
theorem VRs.ints : ∀ {v : List V} {ns : List Int}, VRs g m n H v (ns.map D.int) → v = ns.map V.int
  | [], [], _ => rfl
  | _ :: _, k :: ns, h => by
    cases h with
    | cons _ _ _ _ r t =>
      cases r
      rw [VRs.ints t]
      rfl
theorem VRs.of_ints : ∀ (ns : List Int), VRs g m n H (ns.map V.int) (ns.map D.int)
  | [] => .nil
  | k :: ns => .cons _ _ _ _ (.int k) (VRs.of_ints ns)
end

/-- a thing of the store stands at a -/
def OR (g : Gx) (m : Nat → Addr) (n : Nat) (H : Hp) (a : Addr) : Ob → Prop
  | .lst ds => ∃ vs, H a = some (.lst vs) ∧ VRs g m n H vs ds
  | .dct kvs => ∃ kvs', H a = some (.dK kvs') ∧ kvs'.map (·.1) = kvs.map (·.1) ∧ VRs g m n H (kvs'.map (·.2)) (kvs.map (·.2))
  | .ins c fs => ∃ dx fs', H a = some (.ins (g.ct c) dx fs') ∧ fs'.map (·.1) = fs.map (·.1) ∧ VRs g m n H (fs'.map (·.2)) (fs.map (·.2))
structure SR (g : Gx) (m : Nat → Addr) (H : Hp) (S : Sto) : Prop where
  ob : ∀ (l : Nat) (o : Ob), S[l]? = some o → OR g m S.length H (m l) o
  inj : ∀ l l', l < S.length → l' < S.length → m l = m l' → l = l'
structure ER (g : Gx) (m : Nat → Addr) (n : Nat) (H : Hp) (σ : L2.St) (ρ : En) : Prop where
  len : σ.length = ρ.length
  at_ : ∀ (i : Nat) (d : D), ρ[i]? = some (some d) → ∃ v, σ[i]? = some (some v) ∧ VR g m n H v d
def XR (g : Gx) (m : Nat → Addr) (n : Nat) (H : Hp) (e : Exn) (c : Value) (d : Option Addr) : Prop :=
  c = .ref (g.ct e.1) ∧ (e.2 = [] ∨ ∃ dd fs', d = some dd ∧ H dd = some (.xd fs') ∧ fs'.map (·.1) = e.2.map (·.1) ∧ VRs g m n H (fs'.map (·.2)) (e.2.map (·.2)))

section
variable {g : Gx} {m m' m'' : Nat → Addr} {n n' n'' : Nat} {H H' H'' : Hp} {S S' : Sto} {σ : L2.St} {ρ : En}
theorem ER.ev (e : Ev g m n H m' n' H') (h : ER g m n H σ ρ) : ER g m' n' H' σ ρ := ⟨h.len, fun i d q => by
  obtain ⟨v, a, b⟩ := h.at_ i d q
  exact ⟨v, a, b.ev e⟩⟩
theorem ER.set (h : ER g m n H σ ρ) {i : Nat} {v : V} {d : D} (r : VR g m n H v d) : ER g m n H (σ.set i (some v)) (ρ.set i (some d)) := by
  refine ⟨by simp [h.len], fun j e q => ?_⟩
  by_cases hj : i = j
  · subst hj
    by_cases hl : i < ρ.length
    · rw [List.getElem?_set_self hl] at q
      cases q
      exact ⟨v, List.getElem?_set_self (by rw [h.len]; exact hl), r⟩
    · rw [List.getElem?_eq_none (by simpa using hl)] at q; cases q
  · rw [List.getElem?_set_ne hj] at q
    obtain ⟨u, a, b⟩ := h.at_ j e q
    exact ⟨u, by rw [List.getElem?_set_ne hj]; exact a, b⟩
theorem ER.unset (h : ER g m n H σ ρ) {i : Nat} {o : Option V} : ER g m n H (σ.set i o) (ρ.set i none) := by
  refine ⟨by simp [h.len], fun j e q => ?_⟩
  by_cases hj : i = j
  · subst hj
    by_cases hl : i < ρ.length
    · rw [List.getElem?_set_self hl] at q; cases q
    · rw [List.getElem?_eq_none (by simpa using hl)] at q; cases q
  · rw [List.getElem?_set_ne hj] at q
    obtain ⟨u, a, b⟩ := h.at_ j e q
    exact ⟨u, by rw [List.getElem?_set_ne hj]; exact a, b⟩

/-- a store's address is tracked -/
theorem SR.has (h : SR g m H S) {l : Nat} (hl : l < S.length) : ∃ o, H (m l) = some o := by
  have q := h.ob l S[l] (List.getElem?_eq_getElem hl)
  cases e : S[l] with
  | lst ds => rw [e] at q; obtain ⟨_, z, _⟩ := q; exact ⟨_, z⟩
  | dct kvs => rw [e] at q; obtain ⟨_, z, _⟩ := q; exact ⟨_, z⟩
  | ins c fs => rw [e] at q; obtain ⟨_, _, z, _⟩ := q; exact ⟨_, z⟩
/-- it is no tuple, no locked thing, no own dict -/
theorem SR.canw (h : SR g m H S) {l : Nat} (hl : l < S.length) : Mut (H (m l)) := by
  have q := h.ob l S[l] (List.getElem?_eq_getElem hl)
  cases e : S[l] with
  | lst ds => rw [e] at q; obtain ⟨_, z, _⟩ := q; rw [z]; trivial
  | dct kvs => rw [e] at q; obtain ⟨_, z, _⟩ := q; rw [z]; trivial
  | ins c fs => rw [e] at q; obtain ⟨_, _, z, _⟩ := q; rw [z]; trivial
theorem SqT.keep {K : PySem.W.Frag} {a : Addr} {xs : List V} (k : ∀ o, H a = some o → (∃ ys, o = .tup ys) ∨ (∃ ob u, o = .frz ob u) → H' a = some o) (h : SqT K H a xs) : SqT K H' a xs := by
  rcases h with (h | ⟨o, h⟩) | h
  · exact .inl (.inl (k _ h (.inl ⟨_, rfl⟩)))
  · exact .inl (.inr ⟨o, k _ h (.inr ⟨_, _, rfl⟩)⟩)
  · exact .inr h
theorem Lsc.keep {K : PySem.W.Frag} {a : Addr} {xs : List V} (k : ∀ o, H a = some o → (∃ ys, o = .tup ys) ∨ (∃ ob u, o = .frz ob u) → H' a = some o) (h : Lsc K H a xs) : Lsc K H' a xs := by
  rcases h with ⟨o, h⟩ | h
  · exact .inl ⟨o, k _ h (.inr ⟨_, _, rfl⟩)⟩
  · exact .inr h
theorem Ev.new {p : Addr} {o : HO} (hp : H p = none) : Ev g m n H m n (upd H p o) := by
  refine ⟨Nat.le_refl _, fun _ _ => rfl, fun a xs h => SqT.keep (fun u e _ => ?_) h, fun a xs h => Lsc.keep (fun u e _ => ?_) h⟩ <;>
    (rw [upd_ne (ne_of_none e hp)]; exact e)
theorem Ev.wr {p : Addr} {o : HO} (hp : Mut (H p)) : Ev g m n H m n (upd H p o) := by
  have ne : ∀ {a : Addr} {u : HO}, H a = some u → (∃ ys, u = .tup ys) ∨ (∃ ob u', u = .frz ob u') → a ≠ p := fun {a u} e q z => by
    subst z
    rw [e] at hp
    rcases q with ⟨_, rfl⟩ | ⟨_, _, rfl⟩ <;> exact hp
  refine ⟨Nat.le_refl _, fun _ _ => rfl, fun a xs h => SqT.keep (fun u e q => ?_) h, fun a xs h => Lsc.keep (fun u e q => ?_) h⟩ <;>
    (rw [upd_ne (ne e q)]; exact e)
/-- m with one more place -/
def ext (m : Nat → Addr) (n : Nat) (p : Addr) : Nat → Addr := fun l => if l = n then p else m l
theorem ext_old {p : Addr} {l : Nat} (h : l < n) : ext m n p l = m l := if_neg (Nat.ne_of_lt h)
theorem ext_new {p : Addr} : ext m n p n = p := if_pos rfl
theorem Ev.ext {p : Addr} (e : Ev g m n H m n H') : Ev g m n H (ext m n p) (n + 1) H' := ⟨Nat.le_succ _, fun l h => ext_old h, e.tup, e.lsc⟩
/-- an object's description through a change elsewhere -/
theorem OR.keep {a : Addr} {o : Ob} (e : Ev g m n H m' n' H') (k : ∀ u, H a = some u → Mut (some u) → H' a = some u) (h : OR g m n H a o) : OR g m' n' H' a o := by
  cases o with
  | lst ds => obtain ⟨vs, a1, a2⟩ := h; exact ⟨vs, k _ a1 trivial, a2.ev e⟩
  | dct kvs => obtain ⟨vs, a1, a2, a3⟩ := h; exact ⟨vs, k _ a1 trivial, a2, a3.ev e⟩
  | ins c fs => obtain ⟨dx, vs, a1, a2, a3⟩ := h; exact ⟨dx, vs, k _ a1 trivial, a2, a3.ev e⟩
/-- something new that the store does not name -/
theorem SR.aside (h : SR g m H S) {p : Addr} {o : HO} (hp : H p = none) : SR g m (upd H p o) S :=
  ⟨fun l u e => (h.ob l u e).keep (Ev.new hp) fun v q _ => by rw [upd_ne (ne_of_none q hp)]; exact q, h.inj⟩
/-- .. or whatever else changed, but the store's things -/
theorem SR.keep (h : SR g m H S) (e : Ev g m S.length H m S.length H') (k : ∀ l u, l < S.length → H (m l) = some u → H' (m l) = some u) : SR g m H' S :=
  ⟨fun l u q => (h.ob l u q).keep e fun v z _ => k l v (List.getElem?_eq_some_iff.mp q).1 z, h.inj⟩
/-- a new thing of the store -/
theorem SR.alloc (h : SR g m H S) {p : Addr} {u : HO} {o : Ob} (hp : H p = none) (ho : OR g (ext m S.length p) (S.length + 1) (upd H p u) p o) : SR g (ext m S.length p) (upd H p u) (S ++ [o]) := by
  have e : Ev g m S.length H (ext m S.length p) (S.length + 1) (upd H p u) := Ev.ext (Ev.new hp)
  have nm : ∀ l, l < S.length → m l ≠ p := fun l hl => by
    obtain ⟨v, q⟩ := h.has hl
    exact ne_of_none q hp
  refine ⟨fun l o' q => ?_, fun l l' h1 h2 q => ?_⟩
  · rw [List.length_append, List.length_singleton]
    by_cases hl : l < S.length
    · rw [List.getElem?_append_left hl] at q
      rw [ext_old hl]
      exact (h.ob l o' q).keep e fun v z _ => by rw [upd_ne (nm l hl)]; exact z
    · have hl' : l = S.length := by
        have := (List.getElem?_eq_some_iff.mp q).1
        rw [List.length_append, List.length_singleton] at this
        omega
      subst hl'
      rw [List.getElem?_concat_length] at q
      cases q
      rw [ext_new]
      exact ho
  · rw [List.length_append, List.length_singleton] at h1 h2
    by_cases a : l < S.length
    · by_cases b : l' < S.length
      · rw [ext_old a, ext_old b] at q
        exact h.inj l l' a b q
      · have : l' = S.length := by omega
        subst this
        rw [ext_old a, ext_new] at q
        exact absurd q (nm l a)
    · have : l = S.length := by omega
      subst this
      by_cases b : l' < S.length
      · rw [ext_old b, ext_new] at q
        exact absurd q.symm (nm l' b)
      · omega
/-- a thing of the store is written -/
theorem SR.wr (h : SR g m H S) {l : Nat} {u : HO} {o : Ob} (hl : l < S.length) (ho : OR g m S.length (upd H (m l) u) (m l) o) : SR g m (upd H (m l) u) (S.set l o) := by
  have e : Ev g m S.length H m S.length (upd H (m l) u) := Ev.wr (h.canw hl)
  refine ⟨fun k o' q => ?_, fun a b h1 h2 q => ?_⟩
  · rw [List.length_set]
    by_cases hk : l = k
    · subst hk
      rw [List.getElem?_set_self hl] at q
      cases q
      exact ho
    · rw [List.getElem?_set_ne hk] at q
      have hkl := (List.getElem?_eq_some_iff.mp q).1
      exact (h.ob k o' q).keep e fun v z _ => by rw [upd_ne (fun z => hk (h.inj _ _ hkl hl z).symm)]; exact z
  · rw [List.length_set] at h1 h2
    exact h.inj a b h1 h2 q
theorem SR.atL (h : SR g m H S) {l : Nat} {ds : List D} (q : S[l]? = some (.lst ds)) : l < S.length ∧ ∃ vs, H (m l) = some (.lst vs) ∧ VRs g m S.length H vs ds :=
  ⟨(List.getElem?_eq_some_iff.mp q).1, h.ob l _ q⟩
theorem SR.atD (h : SR g m H S) {l : Nat} {kvs : List (Key × D)} (q : S[l]? = some (.dct kvs)) : l < S.length ∧ ∃ kvs', H (m l) = some (.dK kvs') ∧ kvs'.map (·.1) = kvs.map (·.1) ∧ VRs g m S.length H (kvs'.map (·.2)) (kvs.map (·.2)) :=
  ⟨(List.getElem?_eq_some_iff.mp q).1, h.ob l _ q⟩
theorem SR.atI (h : SR g m H S) {l : Nat} {c : Nat} {fs : List (Str × D)} (q : S[l]? = some (.ins c fs)) : l < S.length ∧ ∃ dx fs', H (m l) = some (.ins (g.ct c) dx fs') ∧ fs'.map (·.1) = fs.map (·.1) ∧ VRs g m S.length H (fs'.map (·.2)) (fs.map (·.2)) :=
  ⟨(List.getElem?_eq_some_iff.mp q).1, h.ob l _ q⟩
end

/-! ### what is wanted of a result -/
section
variable {α β : Type}
def PRx (g : Gx) (m : Nat → Addr) (S : Sto) (H : Hp) (W : XK) (K : α → (Nat → Addr) → Sto → Hp → Prop) : Rz α → Prop
  | .ok a S' => ∀ m' H', Ev g m S.length H m' S'.length H' → SR g m' H' S' → K a m' S' H'
  | .ex e S' => ∀ c d m' H', Ev g m S.length H m' S'.length H' → SR g m' H' S' → XR g m' S'.length H' e c d → W c d H'
  | .no => False
variable {g : Gx} {m m' : Nat → Addr} {S S' : Sto} {H H' : Hp} {W : XK} {K K' : α → (Nat → Addr) → Sto → Hp → Prop} {r : Rz α}
theorem PRx.ev (e : Ev g m S.length H m' S'.length H') (h : PRx g m S H W K r) : PRx g m' S' H' W K r := by
  cases r with
  | ok a S1 => exact fun m1 H1 e1 s1 => h m1 H1 (e.trans e1) s1
  | ex x S1 => exact fun c d m1 H1 e1 s1 => h c d m1 H1 (e.trans e1) s1
  | no => exact h
theorem PRx.mono (h : PRx g m S H W K r) (k : ∀ a m' S' H', Ev g m S.length H m' S'.length H' → SR g m' H' S' → K a m' S' H' → K' a m' S' H') : PRx g m S H W K' r := by
  cases r with
  | ok a S1 => exact fun m1 H1 e1 s1 => k a m1 S1 H1 e1 s1 (h m1 H1 e1 s1)
  | ex x S1 => exact h
  | no => exact h
theorem PRx.bind {f : α → Sto → Rz β} {K2 : β → (Nat → Addr) → Sto → Hp → Prop} (h : PRx g m S H W K2 (r.andThen f)) :
    PRx g m S H W (fun a m1 S1 H1 => PRx g m1 S1 H1 W K2 (f a S1)) r := by
  cases r with
  | ok a S1 => exact fun m1 H1 e1 _ => PRx.ev e1 h
  | ex x S1 => exact h
  | no => exact h
end
/-- the ends: a value, values, a truth -/
abbrev KD (g : Gx) (Q : VK) : D → (Nat → Addr) → Sto → Hp → Prop := fun d m' S' H' => ∀ v, VR g m' S'.length H' v d → Q v H'
abbrev KA (g : Gx) (Q : List V → Hp → Prop) : List D → (Nat → Addr) → Sto → Hp → Prop := fun d m' S' H' => ∀ v, VRs g m' S'.length H' v d → Q v H'
abbrev KT (Q : Bool → Hp → Prop) : Bool → (Nat → Addr) → Sto → Hp → Prop := fun b _ _ H' => Q b H'
def tD (g : Gx) (W : WX) (f : DE) : TE := fun σ H Q => ∃ m S ρ, SR g m H S ∧ ER g m S.length H σ ρ ∧ PRx g m S H (fun c d H' => W c d σ H') (KD g Q) (f ρ S)
def tDs (g : Gx) (W : WX) (f : En → Mo (List D)) : TA := fun σ H Q => ∃ m S ρ, SR g m H S ∧ ER g m S.length H σ ρ ∧ PRx g m S H (fun c d H' => W c d σ H') (KA g Q) (f ρ S)
def tDb (g : Gx) (W : WX) (f : En → Mo Bool) : TT := fun σ H Q => ∃ m S ρ, SR g m H S ∧ ER g m S.length H σ ρ ∧ PRx g m S H (fun c d H' => W c d σ H') (KT Q) (f ρ S)

theorem PE.imp {X : Cx} {e : Expr} {t t' : TE} (h : PE X e t) (i : ∀ σ H Q, t' σ H Q → t σ H Q) : PE X e t' := ⟨fun pins s σ H Q I q => h.run pins s σ H Q I (i σ H Q q)⟩
theorem PT.imp {X : Cx} {e : Expr} {t t' : TT} (h : PT X e t) (i : ∀ σ H Q, t' σ H Q → t σ H Q) : PT X e t' := ⟨fun pins s σ H Q I q => h.run pins s σ H Q I (i σ H Q q)⟩
theorem PW.imp {X : Cx} {e : Expr} {t t' : TT} (h : PW X e t) (i : ∀ σ H Q, t' σ H Q → t σ H Q) : PW X e t' := ⟨fun w pins s σ H Q I q => h.run w pins s σ H Q I (i σ H Q q)⟩
theorem PA.imp {X : Cx} {e : List Expr} {t t' : TA} (h : PA X e t) (i : ∀ σ H Q, t' σ H Q → t σ H Q) : PA X e t' := ⟨fun pos pins s σ H Q I q => h.run pos pins s σ H Q I (i σ H Q q)⟩
theorem PS.imp {X : Cx} {e : Stmt} {t t' : TS} (h : PS X e t) (i : ∀ D σ H, t' D σ H → t D σ H) : PS X e t' := ⟨fun pins s σ H D I q => h.run pins s σ H D I (i D σ H q)⟩
theorem PSs.imp {X : Cx} {e : List Stmt} {t t' : TS} (h : PSs X e t) (i : ∀ D σ H, t' D σ H → t D σ H) : PSs X e t' := ⟨fun pins s σ H D I q => h.run pins s σ H D I (i D σ H q)⟩
theorem PI.imp {X : Cx} {tg e : Expr} {t t' : TI} (h : PI X tg e t) (i : ∀ σ H R, t' σ H R → t σ H R) : PI X tg e t' := ⟨fun pins s σ H Q I q => h.run pins s σ H Q I (i σ H Q q)⟩
theorem PI.or {X : Cx} {tg e : Expr} {t t' : TI} (h : PI X tg e t) (h' : PI X tg e t') : PI X tg e (fun σ H R => t σ H R ∨ t' σ H R) :=
  ⟨fun pins s σ H Q I q => q.elim (h.run pins s σ H Q I) (h'.run pins s σ H Q I)⟩
end Sm
end
section
/-! Sm, part B: expressions. -/
namespace Sm
open PySem PySem.Spec PyProof.Rows L2

section
variable {X : Cx} {g : Gx} {W : WX} {e a b c : Expr} {es rest : List Expr} {f fa fb fc : DE} {fs : En → Mo (List D)} {ft fu : En → Mo Bool} {pos : Pos}

/-! ### from a part to the rest -/
theorem tD.sub {H : Hp} {σ : L2.St} {m : Nat → Addr} {S : Sto} {ρ : En} {β : Type} {k : D → Sto → Rz β} {K : β → (Nat → Addr) → Sto → Hp → Prop} {Q : VK}
    (sr : SR g m H S) (er : ER g m S.length H σ ρ) (h : PRx g m S H (fun c d H' => W c d σ H') K ((f ρ S).andThen k))
    (q : ∀ d m1 S1 H1 v, SR g m1 H1 S1 → ER g m1 S1.length H1 σ ρ → Ev g m S.length H m1 S1.length H1 → VR g m1 S1.length H1 v d → PRx g m1 S1 H1 (fun c d H' => W c d σ H') K (k d S1) → Q v H1) : tD g W f σ H Q :=
  ⟨m, S, ρ, sr, er, h.bind.mono fun d m1 S1 H1 e1 s1 p v r => q d m1 S1 H1 v s1 (er.ev e1) e1 r p⟩
theorem tDs.sub {H : Hp} {σ : L2.St} {m : Nat → Addr} {S : Sto} {ρ : En} {β : Type} {k : List D → Sto → Rz β} {K : β → (Nat → Addr) → Sto → Hp → Prop} {Q : List V → Hp → Prop}
    (sr : SR g m H S) (er : ER g m S.length H σ ρ) (h : PRx g m S H (fun c d H' => W c d σ H') K ((fs ρ S).andThen k))
    (q : ∀ d m1 S1 H1 v, SR g m1 H1 S1 → ER g m1 S1.length H1 σ ρ → Ev g m S.length H m1 S1.length H1 → VRs g m1 S1.length H1 v d → PRx g m1 S1 H1 (fun c d H' => W c d σ H') K (k d S1) → Q v H1) : tDs g W fs σ H Q :=
  ⟨m, S, ρ, sr, er, h.bind.mono fun d m1 S1 H1 e1 s1 p v r => q d m1 S1 H1 v s1 (er.ev e1) e1 r p⟩
theorem tDb.sub {H : Hp} {σ : L2.St} {m : Nat → Addr} {S : Sto} {ρ : En} {β : Type} {k : Bool → Sto → Rz β} {K : β → (Nat → Addr) → Sto → Hp → Prop} {Q : Bool → Hp → Prop}
    (sr : SR g m H S) (er : ER g m S.length H σ ρ) (h : PRx g m S H (fun c d H' => W c d σ H') K ((ft ρ S).andThen k))
    (q : ∀ d m1 S1 H1, SR g m1 H1 S1 → ER g m1 S1.length H1 σ ρ → Ev g m S.length H m1 S1.length H1 → PRx g m1 S1 H1 (fun c d H' => W c d σ H') K (k d S1) → Q d H1) : tDb g W ft σ H Q :=
  ⟨m, S, ρ, sr, er, h.bind.mono fun d m1 S1 H1 e1 s1 p => q d m1 S1 H1 s1 (er.ev e1) e1 p⟩
theorem PRx.here {α : Type} {m : Nat → Addr} {S : Sto} {H : Hp} {W : XK} {K : α → (Nat → Addr) → Sto → Hp → Prop} {a : α} (h : PRx g m S H W K (.ok a S)) (sr : SR g m H S) : K a m S H := h m H Ev.refl sr

/-! ### names, constants -/
def cVar (i : Nat) : DE := fun ρ S => match ρ[i]? with
  | some (some d) => .ok d S
  | _ => .no
def cC (d : D) : DE := fun _ S => .ok d S
theorem de_var (i : Nat) {x : Str} (hN : X.N[i]? = some x := by rfl) (hv : Vis X.env.scope x := by first | exact Or.inl rfl | exact Or.inr (Or.inl rfl) | exact Or.inr (Or.inr rfl)) (hd : (x == ("__debug__" : Str)) = false := by decide)
    (hcd : (x == ("__classdict__" : Str)) = false := by decide) : PE X (.Name x pos) (tD g W (cVar i)) := by
  refine PE.imp (pe_var hN hv hd hcd) fun σ H Q ⟨m, S, ρ, sr, er, h⟩ => ?_
  unfold cVar at h
  cases q : ρ[i]? with
  | none => rw [q] at h; exact h.elim
  | some o =>
    cases o with
    | none => rw [q] at h; exact h.elim
    | some d =>
      rw [q] at h
      obtain ⟨v, hs, r⟩ := er.at_ i d q
      exact ⟨v, hs, h m H Ev.refl sr v r⟩
theorem de_int {i j} : PE X (.Constant (.int i) j pos) (tD g W (cC (.int i))) := PE.imp pe_int fun _ H _ ⟨m, _, _, sr, _, h⟩ => h m H Ev.refl sr _ (.int i)
theorem de_bl {i j} : PE X (.Constant (.bool i) j pos) (tD g W (cC (.bl i))) := PE.imp pe_bl fun _ H _ ⟨m, _, _, sr, _, h⟩ => h m H Ev.refl sr _ (.bl i)
theorem de_str {i j} : PE X (.Constant (.str i) j pos) (tD g W (cC (.str i))) := PE.imp pe_str fun _ H _ ⟨m, _, _, sr, _, h⟩ => h m H Ev.refl sr _ (.str i)
theorem de_non {j} : PE X (.Constant .none j pos) (tD g W (cC .non)) := PE.imp pe_non fun _ H _ ⟨m, _, _, sr, _, h⟩ => h m H Ev.refl sr _ .non
/-- a module's own name that stands for data -/
structure Cst (g : Gx) (u : Value) (d : D) : Prop where
  ex : ∃ v, RelV v u ∧ ∀ m n H, VR g m n H v d
theorem de_glob {x : Str} {u : Value} {d : D} (hm : X.mg x = some u) (hc : Cst g u d) (hg : Gl X x := by rfl) (hd : (x == ("__debug__" : Str)) = false := by decide) : PE X (.Name x pos) (tD g W (cC d)) := by
  obtain ⟨v, r, hv⟩ := hc.ex
  exact PE.imp (pe_glob hg hm r hd) fun _ H _ ⟨m, S, _, sr, _, h⟩ => h m H Ev.refl sr _ (hv m S.length H)
theorem de_bltn {x : Str} {t : String} (hm : X.mg x = none) (hv : bootBuiltins x = some (.type t)) (hg : Gl X x := by rfl) (hn : x ≠ "__name__" := by decide) (hd : (x == ("__debug__" : Str)) = false := by decide) : PE X (.Name x pos) (tD g W (cC (.ty t))) :=
  PE.imp (pe_bltn (v := .ty t) hg hm hv rfl hn hd) fun _ H _ ⟨m, _, _, sr, _, h⟩ => h m H Ev.refl sr _ (.ty t)

/-! ### arguments, displays -/
def cNil : En → Mo (List D) := fun _ S => .ok [] S
def cCons (f : DE) (fs : En → Mo (List D)) : En → Mo (List D) := fun ρ => do let x ← f ρ; let xs ← fs ρ; pure (x :: xs)
theorem da_nil : PA X [] (tDs g W cNil) := PA.imp pa_nil fun _ H _ ⟨m, _, _, sr, _, h⟩ => h m H Ev.refl sr _ .nil
theorem da_cons (ha : PE X e (tD g W f)) (hr : PA X es (tDs g W fs)) (hs : starEach (e :: es) X.env = (false, eval e X.env) :: starEach es X.env := by rfl) : PA X (e :: es) (tDs g W (cCons f fs)) :=
  PA.imp (pa_cons ha hr hs) fun _ _ _ ⟨_, _, _, sr, er, h⟩ => tD.sub sr er h fun _ _ _ _ _ s1 er1 _ r1 h1 => tDs.sub s1 er1 h1 fun _ m2 _ H2 _ s2 _ e2 r2 h2 =>
    h2 m2 H2 Ev.refl s2 _ (.cons _ _ _ _ (r1.ev e2) r2)
def cTup (fs : En → Mo (List D)) : DE := fun ρ => do let xs ← fs ρ; fun S => if fit xs.length = true then .ok (.tup xs) S else .no
def newL (xs : List D) : Mo D := fun S => if fit xs.length = true then .ok (.loc S.length) (S ++ [.lst xs]) else .no
def cLst (fs : En → Mo (List D)) : DE := fun ρ => fs ρ >>= newL
theorem tup_new {m : Nat → Addr} {S : Sto} {H : Hp} {ds : List D} {vs : List V} {Q : VK} {W : XK} (sr : SR g m H S) (r : VRs g m S.length H vs ds) (h : PRx g m S H W (KD g Q) (.ok (.tup ds) S)) : ∀ p, H p = none → Q (.ref p) (upd H p (.tup vs)) := fun p hp =>
  h m _ (Ev.new hp) (sr.aside hp) _ (.tup p vs ds (.inl (.inl upd_same)) (r.ev (Ev.new hp)))
theorem lst_new {m : Nat → Addr} {S : Sto} {H : Hp} {ds : List D} {vs : List V} {Q : VK} {W : XK} (sr : SR g m H S) (r : VRs g m S.length H vs ds) (h : PRx g m S H W (KD g Q) (.ok (.loc S.length) (S ++ [.lst ds]))) : ∀ p, H p = none → Q (.ref p) (upd H p (.lst vs)) := fun p hp => by
  have e : Ev g m S.length H (ext m S.length p) (S.length + 1) (upd H p (.lst vs)) := Ev.ext (Ev.new hp)
  have q := h (ext m S.length p) _ (by rw [List.length_append, List.length_singleton]; exact e) (sr.alloc hp ⟨vs, upd_same, r.ev e⟩) (.ref (ext m S.length p S.length)) (.loc _ (by rw [List.length_append, List.length_singleton]; exact Nat.lt_succ_self _))
  rw [ext_new] at q
  exact q
theorem dct_new {m : Nat → Addr} {S : Sto} {H : Hp} {ds : List (Key × D)} {vs : List (Key × V)} {Q : VK} {W : XK} (sr : SR g m H S) (rk : vs.map (·.1) = ds.map (·.1)) (r : VRs g m S.length H (vs.map (·.2)) (ds.map (·.2)))
    (h : PRx g m S H W (KD g Q) (.ok (.loc S.length) (S ++ [.dct ds]))) : ∀ p, H p = none → Q (.ref p) (upd H p (.dK vs)) := fun p hp => by
  have e : Ev g m S.length H (ext m S.length p) (S.length + 1) (upd H p (.dK vs)) := Ev.ext (Ev.new hp)
  have q := h (ext m S.length p) _ (by rw [List.length_append, List.length_singleton]; exact e) (sr.alloc hp ⟨vs, upd_same, rk, r.ev e⟩) (.ref (ext m S.length p S.length)) (.loc _ (by rw [List.length_append, List.length_singleton]; exact Nat.lt_succ_self _))
  rw [ext_new] at q
  exact q
theorem de_tup {x1} (ha : PA X es (tDs g W fs)) : PE X (.Tuple es x1 pos) (tD g W (cTup fs)) :=
  PE.imp (pe_tup ha) fun _ _ _ ⟨_, _, _, sr, er, h⟩ => tDs.sub sr er h fun ds m1 S1 H1 vs s1 er1 _ r1 h1 => by
    by_cases hz : fit ds.length = true
    · have h2 : PRx g m1 S1 H1 _ _ (if fit ds.length = true then (Rz.ok (D.tup ds) S1 : Rz D) else .no) := h1
      rw [if_pos hz] at h2
      exact ⟨by rw [r1.length]; exact fit_iff.mp hz, tup_new s1 r1 h2⟩
    · have h2 : PRx g m1 S1 H1 _ _ (if fit ds.length = true then (Rz.ok (D.tup ds) S1 : Rz D) else .no) := h1
      rw [if_neg hz] at h2
      exact h2.elim
theorem de_lst (ha : PA X es (tDs g W fs)) : PE X (.List es pos) (tD g W (cLst fs)) :=
  PE.imp (pe_lst ha) fun _ _ _ ⟨_, _, _, sr, er, h⟩ => tDs.sub sr er h fun ds m1 S1 H1 vs s1 er1 _ r1 h1 => by
    have h2 : PRx g m1 S1 H1 _ _ (if fit ds.length = true then (Rz.ok (D.loc S1.length) (S1 ++ [.lst ds]) : Rz D) else .no) := h1
    by_cases hz : fit ds.length = true
    · rw [if_pos hz] at h2
      exact ⟨by rw [r1.length]; exact fit_iff.mp hz, lst_new s1 r1 h2⟩
    · rw [if_neg hz] at h2
      exact h2.elim

/-! ### operations by values -/
/-- h is sound for the hand layer's r -/
def S2 (g : Gx) (r : R2) (h : D → D → Mo D) : Prop := ∀ (m : Nat → Addr) (S : Sto) (H : Hp) (x y : V) (d e : D) (Q : VK) (W : XK), SR g m H S → VR g m S.length H x d → VR g m S.length H y e → PRx g m S H W (KD g Q) (h d e S) → r x y H Q
def S1 (g : Gx) (r : V → Hp → VK → Prop) (h : D → Mo D) : Prop := ∀ (m : Nat → Addr) (S : Sto) (H : Hp) (x : V) (d : D) (Q : VK) (W : XK), SR g m H S → VR g m S.length H x d → PRx g m S H W (KD g Q) (h d S) → r x H Q
def SC (g : Gx) (r : List V → Hp → VK → Prop) (h : List D → Mo D) : Prop := ∀ (m : Nat → Addr) (S : Sto) (H : Hp) (xs : List V) (ds : List D) (Q : VK) (W : XK), SR g m H S → VRs g m S.length H xs ds → PRx g m S H W (KD g Q) (h ds S) → r xs H Q
def SM (g : Gx) (r : V → List V → Hp → VK → Prop) (h : D → List D → Mo D) : Prop := ∀ (m : Nat → Addr) (S : Sto) (H : Hp) (x : V) (xs : List V) (d : D) (ds : List D) (Q : VK) (W : XK), SR g m H S → VR g m S.length H x d → VRs g m S.length H xs ds → PRx g m S H W (KD g Q) (h d ds S) → r x xs H Q
def cOp (h : D → D → Mo D) (fa fb : DE) : DE := fun ρ => do let x ← fa ρ; let y ← fb ρ; h x y
def cUn (h : D → Mo D) (fa : DE) : DE := fun ρ => do let x ← fa ρ; h x
theorem op_sub2 {r : R2} {h : D → D → Mo D} (hs : S2 g r h) : ∀ σ H Q, tD g W (cOp h fa fb) σ H Q → tOp r (tD g W fa) (tD g W fb) σ H Q := fun _ _ _ ⟨_, _, _, sr, er, k⟩ =>
  tD.sub sr er k fun _ _ _ _ _ s1 er1 _ r1 h1 => tD.sub s1 er1 h1 fun _ m2 S2 H2 _ s2 _ e2 r2 h2 => hs m2 S2 H2 _ _ _ _ _ _ s2 (r1.ev e2) r2 h2
theorem de_op {op : Operator} {r : R2} {h : D → D → Mo D} (ho : OpR X (binaryOp op) r) (hs : S2 g r h) (ha : PE X a (tD g W fa)) (hb : PE X b (tD g W fb)) : PE X (.BinOp a op b pos) (tD g W (cOp h fa fb)) := PE.imp (pe_op ho ha hb) (op_sub2 hs)
theorem de_cmp {op : CmpOp} {r : R2} {h : D → D → Mo D} (ho : OpR X (compareOp op) r) (hs : S2 g r h) (ha : PE X a (tD g W fa)) (hb : PE X b (tD g W fb)) (hm : behindInMarks op b = false := by first | exact nomark _ | rfl | with_unfolding_all rfl) :
    PE X (.Compare a [op] [b] pos) (tD g W (cOp h fa fb)) := PE.imp (pe_cmpR ho ha hb hm) (op_sub2 hs)
theorem de_un {op : UnaryOp} {r : V → Hp → VK → Prop} {h : D → Mo D} (ho : UnR X (unaryOp op) r) (hs : S1 g r h) (ha : PE X a (tD g W fa)) : PE X (.UnaryOp op a pos) (tD g W (cUn h fa)) :=
  PE.imp (pe_un ho ha) fun _ _ _ ⟨_, _, _, sr, er, k⟩ => tD.sub sr er k fun _ m1 S1 H1 _ s1 _ _ r1 h1 => hs m1 S1 H1 _ _ _ _ s1 r1 h1
/-- a truth out of a value that is a bool -/
def asB : D → Mo Bool
  | .bl b => pure b
  | _ => bad
def cTest (f : DE) : En → Mo Bool := fun ρ => f ρ >>= asB
theorem asB_ok {m : Nat → Addr} {S : Sto} {H : Hp} {W : XK} {K : Bool → (Nat → Addr) → Sto → Hp → Prop} {d : D} {v : V} (sr : SR g m H S) (r : VR g m S.length H v d) (h : PRx g m S H W K (asB d S)) : ∃ k, v = .bl k ∧ K k m S H := by
  cases d with
  | bl k => cases r; exact ⟨k, rfl, h m H Ev.refl sr⟩
  | _ => exact h.elim
theorem dt_cmp {op : CmpOp} {r : R2} {h : D → D → Mo D} (ho : OpR X (compareOp op) r) (hs : S2 g r h) (ha : PE X a (tD g W fa)) (hb : PE X b (tD g W fb)) (hm : behindInMarks op b = false := by first | exact nomark _ | rfl | with_unfolding_all rfl) :
    PT X (.Compare a [op] [b] pos) (tDb g W (cTest (cOp h fa fb))) := by
  refine PT.imp (pt_cmpR ho ha hb hm) fun σ H Q ⟨m, S, ρ, sr, er, k⟩ => ?_
  refine op_sub2 hs _ _ _ ⟨m, S, ρ, sr, er, k.bind.mono fun d m1 S1 H1 e1 s1 p v rv => ?_⟩
  exact asB_ok s1 rv p
def cChain (h h' : D → D → Mo D) (fa fb fc : DE) : DE := fun ρ => do
  let x ← fa ρ; let y ← fb ρ; let z ← h x y; let k ← asB z
  match k with
  | true => do let u ← fc ρ; h' y u
  | false => pure (.bl false)
theorem chain_sub {r r' : R2} {h h' : D → D → Mo D} (hs : S2 g r h) (hs' : S2 g r' h') : ∀ σ H Q, tD g W (cChain h h' fa fb fc) σ H Q → tChain r r' (tD g W fa) (tD g W fb) (tD g W fc) σ H Q := fun _ _ _ ⟨_, _, _, sr, er, k⟩ =>
  tD.sub sr er k fun _ _ _ _ _ s1 er1 _ r1 h1 => tD.sub s1 er1 h1 fun _ m2 S2 H2 _ s2 er2 e2 r2 h2 => hs m2 S2 H2 _ _ _ _ _ _ s2 (r1.ev e2) r2 (h2.bind.mono fun d m3 S3 H3 e3 s3 p v rv => by
    cases d with
    | bl c =>
      cases rv
      refine ⟨c, rfl, ?_⟩
      cases c with
      | true =>
        rw [if_pos rfl]
        exact tD.sub s3 (er2.ev e3) p fun _ m4 S4 H4 _ s4 _ e4 r4 h4 => hs' m4 S4 H4 _ _ _ _ _ _ s4 ((r2.ev e3).ev e4) r4 h4
      | false =>
        rw [if_neg Bool.false_ne_true]
        exact p m3 H3 Ev.refl s3 _ (.bl false)
    | _ => exact p.elim)
theorem de_chain {op op' : CmpOp} {r r' : R2} {h h' : D → D → Mo D} (ho : OpR X (compareOp op) r) (hs : S2 g r h) (ho' : OpR X (compareOp op') r') (hs' : S2 g r' h') (ha : PE X a (tD g W fa)) (hb : PE X b (tD g W fb)) (hc : PE X c (tD g W fc)) (hm : lastMarks [op, op'] [b, c] = false := by rfl) :
    PE X (.Compare a [op, op'] [b, c] pos) (tD g W (cChain h h' fa fb fc)) := PE.imp (pe_chain ho ho' ha hb hc hm) (chain_sub hs hs')
theorem dt_chain {op op' : CmpOp} {r r' : R2} {h h' : D → D → Mo D} (ho : OpR X (compareOp op) r) (hs : S2 g r h) (ho' : OpR X (compareOp op') r') (hs' : S2 g r' h') (ha : PE X a (tD g W fa)) (hb : PE X b (tD g W fb)) (hc : PE X c (tD g W fc)) (hm : lastMarks [op, op'] [b, c] = false := by rfl) :
    PT X (.Compare a [op, op'] [b, c] pos) (tDb g W (cTest (cChain h h' fa fb fc))) := by
  refine PT.imp (pt_chain ho ho' ha hb hc hm) fun σ H Q ⟨m, S, ρ, sr, er, k⟩ => ?_
  refine chain_sub hs hs' _ _ _ ⟨m, S, ρ, sr, er, k.bind.mono fun d m1 S1 H1 e1 s1 p v rv => ?_⟩
  exact asB_ok s1 rv p

/-! ### truth -/
def trO (S : Sto) : Option Ob → Rz Bool
  | some (.lst xs) => .ok (!xs.isEmpty) S
  | some (.dct kvs) => .ok (!kvs.isEmpty) S
  | _ => .no
def trD : D → Mo Bool
  | .non => pure false
  | .bl b => pure b
  | .int i => pure (i != 0)
  | .str y => fun S => if fit y.length = true then .ok ((y.length : Int) != 0) S else .no
  | .tup xs => pure (!xs.isEmpty)
  | .lsc xs => pure (!xs.isEmpty)
  | .loc l => fun S => trO S S[l]?
  | .ty _ => bad
  | .cls _ => bad
  | .fnc _ => bad
theorem trD_loc {l : Nat} {S : Sto} : trD (.loc l) S = trO S S[l]? := rfl
theorem trD_str {y : Str} {S : Sto} (hz : fit y.length = true) : trD (.str y) S = .ok ((y.length : Int) != 0) S := by
  unfold trD
  exact if_pos hz
theorem trD_strN {y : Str} {S : Sto} (hz : ¬ fit y.length = true) : trD (.str y) S = .no := by
  unfold trD
  exact if_neg hz
theorem VRs.empty {m : Nat → Addr} {n : Nat} {H : Hp} {vs : List V} {ds : List D} (r : VRs g m n H vs ds) : vs.isEmpty = ds.isEmpty := by cases r <;> rfl
theorem map_empty {α β γ : Type} {xs : List (α × β)} {ys : List (α × γ)} (h : xs.map (·.1) = ys.map (·.1)) : xs.isEmpty = ys.isEmpty := by
  cases xs <;> cases ys <;> first | rfl | cases h
theorem trD_ok {m : Nat → Addr} {S : Sto} {H : Hp} {W : XK} {K : Bool → (Nat → Addr) → Sto → Hp → Prop} {d : D} {v : V} (sr : SR g m H S) (r : VR g m S.length H v d) (h : PRx g m S H W K (trD d S)) : ∃ k, TruV g.K v H k ∧ K k m S H ∧ trD d S = .ok k S := by
  cases r with
  | non => exact ⟨_, rfl, h m H Ev.refl sr, rfl⟩
  | bl b => exact ⟨_, rfl, h m H Ev.refl sr, rfl⟩
  | int i => exact ⟨_, rfl, h m H Ev.refl sr, rfl⟩
  | str y =>
    by_cases hz : fit y.length = true
    · have e : trD (.str y) S = .ok ((y.length : Int) != 0) S := trD_str hz
      rw [e] at h
      have t : TruV g.K (.str y) H ((y.length : Int) != 0) := And.intro (fit_iff.mp hz) rfl
      exact ⟨_, t, h m H Ev.refl sr, e⟩
    · have e : trD (.str y) S = .no := trD_strN hz
      rw [e] at h; exact h.elim
  | ty t => exact h.elim
  | cls a => exact h.elim
  | fnc a => exact h.elim
  | tup a xs ds hq rs => exact ⟨_, .inr (.inl ⟨xs, hq, by rw [rs.empty]⟩), h m H Ev.refl sr, rfl⟩
  | lsc a xs ds hq rs => exact ⟨_, .inl ⟨xs, hq.sq, by rw [rs.empty]⟩, h m H Ev.refl sr, rfl⟩
  | loc l hl =>
    rw [trD_loc] at h ⊢
    cases q : S[l]? with
    | none => rw [q] at h; exact h.elim
    | some o =>
      rw [q] at h
      cases o with
      | lst ds =>
        obtain ⟨_, vs, hv, rs⟩ := sr.atL q
        exact ⟨_, .inl ⟨vs, SqL.of hv, by rw [rs.empty]⟩, h m H Ev.refl sr, rfl⟩
      | dct kvs =>
        obtain ⟨_, vs, hv, hk, rs⟩ := sr.atD q
        exact ⟨_, .inr (.inr ⟨vs, hv, by rw [map_empty hk]⟩), h m H Ev.refl sr, rfl⟩
      | ins c fs => exact h.elim
def cTru (f : DE) : En → Mo Bool := fun ρ => f ρ >>= trD
theorem dt_tru (ha : PE X a (tD g W fa)) (hK : X.K = g.K) (he : ∀ whole, isTrue a X.env whole = (do let v ← whole; standAt a.pos; holding [v] (truthy v)) := by intro _; rfl) : PT X a (tDb g W (cTru fa)) :=
  PT.imp (pt_truth ha he) fun _ _ _ ⟨_, _, _, sr, er, h⟩ => tD.sub sr er h fun _ _ _ _ _ s1 _ _ r1 h1 => by
    obtain ⟨k, t, q, _⟩ := trD_ok s1 r1 h1
    rw [hK]
    exact ⟨k, t, q⟩
def cNotT (f : En → Mo Bool) : En → Mo Bool := fun ρ => do let k ← f ρ; pure (!k)
def cAndT (f h : En → Mo Bool) : En → Mo Bool := fun ρ => do
  let k ← f ρ
  match k with
  | true => h ρ
  | false => pure false
def cOrT (f h : En → Mo Bool) : En → Mo Bool := fun ρ => do
  let k ← f ρ
  match k with
  | true => pure true
  | false => h ρ
theorem dt_not (ha : PT X a (tDb g W ft)) : PT X (.UnaryOp .Not a pos) (tDb g W (cNotT ft)) :=
  PT.imp (pt_not ha) fun _ _ _ ⟨_, _, _, sr, er, h⟩ => tDb.sub sr er h fun _ _ _ _ s1 _ _ h1 => h1.here s1
theorem dw_and1 (ha : PT X a (tDb g W ft)) : PW X (.BoolOp .And [a] pos) (tDb g W ft) := pw_and1 ha
theorem dw_or1 (ha : PT X a (tDb g W ft)) : PW X (.BoolOp .Or [a] pos) (tDb g W ft) := pw_or1 ha
theorem dw_and (ha : PT X a (tDb g W ft)) (hb : PW X (.BoolOp .And (b :: rest) pos) (tDb g W fu)) : PW X (.BoolOp .And (a :: b :: rest) pos) (tDb g W (cAndT ft fu)) :=
  PW.imp (pw_and ha hb) fun _ _ _ ⟨_, _, _, sr, er, h⟩ => tDb.sub sr er h fun k m1 S1 H1 s1 er1 _ h1 => by
    cases k with
    | true => rw [if_pos rfl]; exact ⟨m1, S1, _, s1, er1, h1⟩
    | false => rw [if_neg Bool.false_ne_true]; exact h1.here s1
theorem dw_or (ha : PT X a (tDb g W ft)) (hb : PW X (.BoolOp .Or (b :: rest) pos) (tDb g W fu)) : PW X (.BoolOp .Or (a :: b :: rest) pos) (tDb g W (cOrT ft fu)) :=
  PW.imp (pw_or ha hb) fun _ _ _ ⟨_, _, _, sr, er, h⟩ => tDb.sub sr er h fun k m1 S1 H1 s1 er1 _ h1 => by
    cases k with
    | true => rw [if_pos rfl]; exact h1.here s1
    | false => rw [if_neg Bool.false_ne_true]; exact ⟨m1, S1, _, s1, er1, h1⟩
theorem dt_pw (h : PW X a (tDb g W ft)) : PT X a (tDb g W ft) := h.pt
/-- .. as values, by truth -/
def cOr (fa fb : DE) : DE := fun ρ => do
  let x ← fa ρ; let k ← trD x
  match k with
  | true => pure x
  | false => fb ρ
def cAnd (fa fb : DE) : DE := fun ρ => do
  let x ← fa ρ; let k ← trD x
  match k with
  | true => fb ρ
  | false => pure x
def cNot (fa : DE) : DE := fun ρ => do let x ← fa ρ; let k ← trD x; pure (.bl (!k))
theorem trD_bind {α : Type} {m : Nat → Addr} {S : Sto} {H : Hp} {W : XK} {K : α → (Nat → Addr) → Sto → Hp → Prop} {k : Bool → Sto → Rz α} {d : D} {v : V} (sr : SR g m H S) (r : VR g m S.length H v d) (h : PRx g m S H W K ((trD d S).andThen k)) : ∃ c, TruV g.K v H c ∧ PRx g m S H W K (k c S) := by
  obtain ⟨c, t, q, e⟩ := trD_ok sr r h.bind
  exact ⟨c, t, q⟩
theorem de_or (hK : X.K = g.K) (ha : PE X a (tD g W fa)) (hb : PE X (.BoolOp .Or (b :: rest) pos) (tD g W fb)) : PE X (.BoolOp .Or (a :: b :: rest) pos) (tD g W (cOr fa fb)) :=
  PE.imp (pe_orT ha hb) fun _ _ _ ⟨_, _, _, sr, er, h⟩ => tD.sub sr er h fun d m1 S1 H1 v s1 er1 _ r1 h1 => by
    obtain ⟨c, t, q⟩ := trD_bind s1 r1 h1
    rw [hK]
    refine ⟨c, t, ?_⟩
    cases c with
    | true => rw [if_pos rfl]; exact q.here s1 _ r1
    | false => rw [if_neg Bool.false_ne_true]; exact ⟨m1, S1, _, s1, er1, q⟩
theorem de_and (hK : X.K = g.K) (ha : PE X a (tD g W fa)) (hb : PE X (.BoolOp .And (b :: rest) pos) (tD g W fb)) : PE X (.BoolOp .And (a :: b :: rest) pos) (tD g W (cAnd fa fb)) :=
  PE.imp (pe_andT ha hb) fun _ _ _ ⟨_, _, _, sr, er, h⟩ => tD.sub sr er h fun d m1 S1 H1 v s1 er1 _ r1 h1 => by
    obtain ⟨c, t, q⟩ := trD_bind s1 r1 h1
    rw [hK]
    refine ⟨c, t, ?_⟩
    cases c with
    | true => rw [if_pos rfl]; exact ⟨m1, S1, _, s1, er1, q⟩
    | false => rw [if_neg Bool.false_ne_true]; exact q.here s1 _ r1
theorem de_one {op} (h : PE X a (tD g W fa)) : PE X (.BoolOp op [a] pos) (tD g W fa) := pe_one h
theorem de_not (hK : X.K = g.K) (ha : PE X a (tD g W fa)) : PE X (.UnaryOp .Not a pos) (tD g W (cNot fa)) :=
  PE.imp (pe_notT ha) fun _ _ _ ⟨_, _, _, sr, er, h⟩ => tD.sub sr er h fun d m1 S1 H1 v s1 er1 _ r1 h1 => by
    obtain ⟨c, t, q⟩ := trD_bind s1 r1 h1
    rw [hK]
    exact ⟨c, t, q.here s1 _ (.bl _)⟩
def cIf (ft : En → Mo Bool) (fa fb : DE) : DE := fun ρ => do
  let k ← ft ρ
  match k with
  | true => fa ρ
  | false => fb ρ
theorem de_ifExp (hc : PT X c (tDb g W ft)) (ha : PE X a (tD g W fa)) (hb : PE X b (tD g W fb)) : PE X (.IfExp c a b pos) (tD g W (cIf ft fa fb)) :=
  PE.imp (pe_ifExp hc ha hb) fun _ _ _ ⟨_, _, _, sr, er, h⟩ => tDb.sub sr er h fun k m1 S1 H1 s1 er1 _ h1 => by
    cases k with
    | true => rw [if_pos rfl]; exact ⟨m1, S1, _, s1, er1, h1⟩
    | false => rw [if_neg Bool.false_ne_true]; exact ⟨m1, S1, _, s1, er1, h1⟩

/-! ### calls of built-ins; subscripts; methods of built-in types -/
def cCall (h : List D → Mo D) (fs : En → Mo (List D)) : DE := fun ρ => do let xs ← fs ρ; h xs
theorem call_sub {r : List V → Hp → VK → Prop} {h : List D → Mo D} (hs : SC g r h) : ∀ σ H Q, tD g W (cCall h fs) σ H Q → tCB r (tDs g W fs) σ H Q := fun _ _ _ ⟨_, _, _, sr, er, k⟩ =>
  tDs.sub sr er k fun _ m1 S1 H1 _ s1 _ _ r1 h1 => hs m1 S1 H1 _ _ _ _ s1 r1 h1
theorem de_callB {x : Str} {id : String} {p : Pos} {r : List V → Hp → VK → Prop} {h : List D → Mo D} (hc : CallR X (.builtin id) r) (hs : SC g r h) (hm : X.mg x = none) (hv : bootBuiltins x = some (.builtin id)) (ha : PA X (e :: es) (tDs g W fs)) (hg : Gl X x := by rfl)
    (he : starEach (e :: es) X.env = (false, eval e X.env) :: starEach es X.env := by rfl) (hpl : (backTo pos (starEach es X.env)).any (·.1) = false := by rfl) (hn : x ≠ "__name__" := by decide) (hd : (x == ("__debug__" : Str)) = false := by decide) :
    PE X (.Call (.Name x p) (e :: es) [] pos) (tD g W (cCall h fs)) := PE.imp (pe_callB hc hg hm hv ha hn hd he hpl) (call_sub hs)
theorem de_callTy {x : Str} {T : String} {p : Pos} {r : List V → Hp → VK → Prop} {h : List D → Mo D} (hc : CallR X (.type T) r) (hs : SC g r h) (hm : X.mg x = none) (hv : bootBuiltins x = some (.type T)) (ha : PA X (e :: es) (tDs g W fs)) (hg : Gl X x := by rfl)
    (he : starEach (e :: es) X.env = (false, eval e X.env) :: starEach es X.env := by rfl) (hpl : (backTo pos (starEach es X.env)).any (·.1) = false := by rfl) (hn : x ≠ "__name__" := by decide) (hd : (x == ("__debug__" : Str)) = false := by decide) :
    PE X (.Call (.Name x p) (e :: es) [] pos) (tD g W (cCall h fs)) := PE.imp (pe_callTy hc hg hm hv ha hn hd he hpl) (call_sub hs)
/-- a method of a built-in type: the type looked at ahead of the arguments -/
def tyD (T : String) : D → Sto → Bool
  | .str _, _ => T == "str"
  | .lsc _, _ => T == "list"
  | .loc l, S => match S[l]? with
    | some (.lst _) => T == "list"
    | some (.dct _) => T == "dict"
    | _ => false
  | _, _ => false
theorem tyD_ok {m : Nat → Addr} {S : Sto} {H : Hp} {T : String} {d : D} {v : V} (sr : SR g m H S) (r : VR g m S.length H v d) (h : tyD T d S = true) : tyV g.K T v H := by
  cases r with
  | str x => exact beq_iff_eq.mp h
  | lsc a xs ds hq rs => exact .inl ⟨beq_iff_eq.mp h, xs, hq.sq⟩
  | loc l hl =>
    simp only [tyD] at h
    cases q : S[l]? with
    | none => rw [q] at h; cases h
    | some o =>
      rw [q] at h
      cases o with
      | lst ds =>
        obtain ⟨_, vs, hv, _⟩ := sr.atL q
        exact .inl ⟨beq_iff_eq.mp h, vs, SqL.of hv⟩
      | dct kvs =>
        obtain ⟨_, vs, hv, _⟩ := sr.atD q
        exact .inr (.inr (.inl ⟨beq_iff_eq.mp h, .inl ⟨vs, hv⟩⟩))
      | ins c fs => cases h
  | _ => cases h
def chk (T : String) (d : D) : Mo Unit := fun S => if tyD T d S = true then .ok () S else .no
theorem chk_bind {α : Type} {m : Nat → Addr} {S : Sto} {H : Hp} {W : XK} {K : α → (Nat → Addr) → Sto → Hp → Prop} {T : String} {k : Unit → Sto → Rz α} {d : D} (h : PRx g m S H W K ((chk T d S).andThen k)) : tyD T d S = true ∧ PRx g m S H W K (k () S) := by
  unfold chk at h
  by_cases q : tyD T d S = true
  · rw [if_pos q] at h; exact ⟨q, h⟩
  · rw [if_neg q] at h; exact h.elim
def cMt (T : String) (h : D → List D → Mo D) (fa : DE) (fs : En → Mo (List D)) : DE := fun ρ => do
  let x ← fa ρ; chk T x; let xs ← fs ρ; h x xs
def cMt0 (T : String) (h : D → List D → Mo D) (fa : DE) : DE := fun ρ => do
  let x ← fa ρ; chk T x; h x []
variable {o : Expr} {fo : DE} {name : Str} {apos cpos : Pos} {T id : String} {r : V → List V → Hp → VK → Prop} {h : D → List D → Mo D}
theorem de_mt0 (pa : PlainAttrs T) (slot : Slot T name id) (hty : typeOf (.builtin id) = pure (.type "method_descriptor")) (hm : MtR X id r) (hs : SM g r h) (hK : X.K = g.K) (ho : PE X o (tD g W fo))
    (hbase : attributeBase o name X.env (eval o X.env) = eval o X.env := by rfl) (hline : (apos.endLine == cpos.line) = true := by rfl) : PE X (.Call (.Attribute o name apos) [] [] cpos) (tD g W (cMt0 T h fo)) :=
  PE.imp (pe_bm0 pa slot hty hm ho hbase hline) fun _ _ _ ⟨_, _, _, sr, er, k⟩ => tD.sub sr er k fun _ m1 S1 H1 _ s1 _ _ r1 h1 => by
    obtain ⟨t, h2⟩ := chk_bind h1
    rw [hK]
    exact ⟨tyD_ok s1 r1 t, hs m1 S1 H1 _ _ _ _ _ _ s1 r1 .nil h2⟩
theorem de_mt (pa : PlainAttrs T) (slot : Slot T name id) (hty : typeOf (.builtin id) = pure (.type "method_descriptor")) (hm : MtR X id r) (hs : SM g r h) (hK : X.K = g.K) (ho : PE X o (tD g W fo)) (ha : PA X (e :: es) (tDs g W fs))
    (hbase : attributeBase o name X.env (eval o X.env) = eval o X.env := by rfl)
    (hfew : ((backTo cpos (starEach (e :: es) X.env)).all (fun x => !x.1) && (backToKw cpos (keywordEach [] X.env)).all (fun x => x.1.isSome)
      && decide ((e :: es).length + ([] : List Keyword).length + (if ([] : List Keyword).isEmpty then 0 else 1) < 30)) = true := by rfl)
    (hline : (apos.endLine == cpos.line) = true := by rfl) (hst : starEach (e :: es) X.env = (false, eval e X.env) :: starEach es X.env := by rfl) (hplain : (backTo cpos (starEach es X.env)).any (·.1) = false := by rfl) :
    PE X (.Call (.Attribute o name apos) (e :: es) [] cpos) (tD g W (cMt T h fo fs)) :=
  PE.imp (pe_bm pa slot hty hm ho ha hbase hfew hline hst hplain) fun _ _ _ ⟨_, _, _, sr, er, k⟩ => tD.sub sr er k fun _ m1 S1 H1 _ s1 er1 _ r1 h1 => by
    obtain ⟨t, h2⟩ := chk_bind h1
    rw [hK]
    exact ⟨tyD_ok s1 r1 t, tDs.sub s1 er1 h2 fun _ m2 S2 H2 _ s2 _ e2 r2 h3 => hs m2 S2 H2 _ _ _ _ _ _ s2 (r1.ev e2) r2 h3⟩
end
end Sm
end
section
/-! Sm, part C: statements, loops, comprehensions. -/
namespace Sm
open PySem PySem.Spec PyProof.Rows L2

/-- how a statement ends -/
inductive Fz where
  | nx (ρ : En) (S : Sto) | brk (ρ : En) (S : Sto) | cnt (ρ : En) (S : Sto) | ret (d : D) (S : Sto) | ex (e : Exn) (ρ : En) (S : Sto) | no
abbrev DS := En → Sto → Fz
def Rz.toF {α : Type} (r : Rz α) (ρ : En) (k : α → Sto → Fz) : Fz :=
  match r with
  | .ok a S => k a S
  | .ex e S => .ex e ρ S
  | .no => .no
section
variable {α : Type}
@[simp] theorem toF_ok (a : α) (S : Sto) (ρ : En) (k : α → Sto → Fz) : (Rz.ok a S).toF ρ k = k a S := rfl
@[simp] theorem toF_ex (e : Exn) (S : Sto) (ρ : En) (k : α → Sto → Fz) : (Rz.ex e S : Rz α).toF ρ k = .ex e ρ S := rfl
@[simp] theorem toF_no (ρ : En) (k : α → Sto → Fz) : (Rz.no : Rz α).toF ρ k = .no := rfl
end
def PF (g : Gx) (m : Nat → Addr) (S : Sto) (H : Hp) (W : WX) (E : Ends) : Fz → Prop
  | .nx ρ' S' => ∀ σ' m' H', Ev g m S.length H m' S'.length H' → SR g m' H' S' → ER g m' S'.length H' σ' ρ' → E.nx σ' H'
  | .brk ρ' S' => ∀ σ' m' H', Ev g m S.length H m' S'.length H' → SR g m' H' S' → ER g m' S'.length H' σ' ρ' → E.bk σ' H'
  | .cnt ρ' S' => ∀ σ' m' H', Ev g m S.length H m' S'.length H' → SR g m' H' S' → ER g m' S'.length H' σ' ρ' → E.ct σ' H'
  | .ret d S' => ∀ v m' H', Ev g m S.length H m' S'.length H' → SR g m' H' S' → VR g m' S'.length H' v d → E.rt v H'
  | .ex e ρ' S' => ∀ c d σ' m' H', Ev g m S.length H m' S'.length H' → SR g m' H' S' → ER g m' S'.length H' σ' ρ' → XR g m' S'.length H' e c d → W c d σ' H'
  | .no => False
def tS (g : Gx) (W : WX) (f : DS) : TS := fun E σ H => ∃ m S ρ, SR g m H S ∧ ER g m S.length H σ ρ ∧ PF g m S H W E (f ρ S)

section
variable {g : Gx} {m m' : Nat → Addr} {S S' : Sto} {H H' : Hp} {W : WX} {E : Ends} {r : Fz} {σ : L2.St} {ρ : En}
theorem PF.ev (e : Ev g m S.length H m' S'.length H') (h : PF g m S H W E r) : PF g m' S' H' W E r := by
  cases r with
  | nx ρ1 S1 => exact fun s1 m1 H1 e1 => h s1 m1 H1 (e.trans e1)
  | brk ρ1 S1 => exact fun s1 m1 H1 e1 => h s1 m1 H1 (e.trans e1)
  | cnt ρ1 S1 => exact fun s1 m1 H1 e1 => h s1 m1 H1 (e.trans e1)
  | ret d S1 => exact fun s1 m1 H1 e1 => h s1 m1 H1 (e.trans e1)
  | ex x ρ1 S1 => exact fun c d s1 m1 H1 e1 => h c d s1 m1 H1 (e.trans e1)
  | no => exact h
/-- an expression ahead of the rest of a statement -/
theorem PF.bind {α : Type} {x : Rz α} {k : α → Sto → Fz} (er : ER g m S.length H σ ρ) (h : PF g m S H W E (x.toF ρ k)) :
    PRx g m S H (fun c d H' => W c d σ H') (fun a m1 S1 H1 => PF g m1 S1 H1 W E (k a S1)) x := by
  cases x with
  | ok a S1 => exact fun m1 H1 e1 _ => PF.ev e1 h
  | ex e S1 => exact fun c d m1 H1 e1 s1 x1 => h c d σ m1 H1 e1 s1 (er.ev e1) x1
  | no => exact h
theorem PF.here (h : PF g m S H W E (.nx ρ S)) (sr : SR g m H S) (er : ER g m S.length H σ ρ) : E.nx σ H := h σ m H Ev.refl sr er
end

section
variable {X : Cx} {g : Gx} {W : WX} {e a b c : Expr} {st : Stmt} {sts rest : List Stmt} {f fa fb : DE} {fs : En → Mo (List D)} {ft : En → Mo Bool} {s t u : DS} {pos : Pos}

theorem tD.subF {H : Hp} {σ : L2.St} {m : Nat → Addr} {S : Sto} {ρ : En} {k : D → Sto → Fz} {E : Ends} {Q : VK}
    (sr : SR g m H S) (er : ER g m S.length H σ ρ) (h : PF g m S H W E ((f ρ S).toF ρ k))
    (q : ∀ d m1 S1 H1 v, SR g m1 H1 S1 → ER g m1 S1.length H1 σ ρ → Ev g m S.length H m1 S1.length H1 → VR g m1 S1.length H1 v d → PF g m1 S1 H1 W E (k d S1) → Q v H1) : tD g W f σ H Q :=
  ⟨m, S, ρ, sr, er, (h.bind er).mono fun d m1 S1 H1 e1 s1 p v r => q d m1 S1 H1 v s1 (er.ev e1) e1 r p⟩
theorem tDb.subF {H : Hp} {σ : L2.St} {m : Nat → Addr} {S : Sto} {ρ : En} {k : Bool → Sto → Fz} {E : Ends} {Q : Bool → Hp → Prop}
    (sr : SR g m H S) (er : ER g m S.length H σ ρ) (h : PF g m S H W E ((ft ρ S).toF ρ k))
    (q : ∀ d m1 S1 H1, SR g m1 H1 S1 → ER g m1 S1.length H1 σ ρ → Ev g m S.length H m1 S1.length H1 → PF g m1 S1 H1 W E (k d S1) → Q d H1) : tDb g W ft σ H Q :=
  ⟨m, S, ρ, sr, er, (h.bind er).mono fun d m1 S1 H1 e1 s1 p => q d m1 S1 H1 s1 (er.ev e1) e1 p⟩

/-! ### blocks -/
def cNext : DS := fun ρ S => .nx ρ S
def cSeq (s t : DS) : DS := fun ρ S => match s ρ S with
  | .nx ρ' S' => t ρ' S'
  | o => o
theorem dss_nil : PSs X [] (tS g W cNext) := PSs.imp pss_nil fun _ _ _ ⟨_, _, _, sr, er, h⟩ => h.here sr er
theorem seq_sub : ∀ E σ H, tS g W (cSeq s t) E σ H → tSeq (tS g W s) (tS g W t) E σ H := fun E σ H ⟨m, S, ρ, sr, er, h⟩ => by
  refine ⟨m, S, ρ, sr, er, ?_⟩
  unfold cSeq at h
  cases q : s ρ S with
  | nx ρ1 S1 => rw [q] at h; exact fun s1 m1 H1 e1 sr1 er1 => ⟨m1, S1, ρ1, sr1, er1, PF.ev e1 h⟩
  | brk ρ1 S1 => rw [q] at h; exact h
  | cnt ρ1 S1 => rw [q] at h; exact h
  | ret d S1 => rw [q] at h; exact h
  | ex x ρ1 S1 => rw [q] at h; exact h
  | no => rw [q] at h; exact h
theorem dss_cons (h1 : PS X st (tS g W s)) (h2 : PSs X rest (tS g W t)) : PSs X (st :: rest) (tS g W (cSeq s t)) := PSs.imp (pss_cons h1 h2) seq_sub
theorem dss_one (h1 : PS X st (tS g W s)) : PSs X [st] (tS g W s) := pss_one h1
def cBrk : DS := fun ρ S => .brk ρ S
def cCnt : DS := fun ρ S => .cnt ρ S
def cNever : DS := fun _ _ => .no
theorem ds_pass : PS X (.Pass pos) (tS g W cNext) := PS.imp ps_pass fun _ _ _ ⟨_, _, _, sr, er, h⟩ => h.here sr er
theorem ds_break : PS X (.Break pos) (tS g W cBrk) := PS.imp ps_break fun _ _ H ⟨m, _, _, sr, er, h⟩ => h _ m H Ev.refl sr er
theorem ds_continue : PS X (.Continue pos) (tS g W cCnt) := PS.imp ps_continue fun _ _ H ⟨m, _, _, sr, er, h⟩ => h _ m H Ev.refl sr er
/-- a statement that is not served: the proof must never come to it -/
theorem ds_never : PS X st (tS g W cNever) := PS.imp ps_never fun _ _ _ ⟨_, _, _, _, _, h⟩ => h
def cExpr (f : DE) : DS := fun ρ S => (f ρ S).toF ρ fun _ S' => .nx ρ S'
theorem ds_expr (he : PE X e (tD g W f)) (hs : swapsWith e none pos.line X.env = pure false := by rfl) : PS X (.Expr e pos) (tS g W (cExpr f)) :=
  PS.imp (ps_expr he hs) fun _ _ _ ⟨_, _, _, sr, er, h⟩ => tD.subF sr er h fun _ _ _ _ _ s1 er1 _ _ h1 => h1.here s1 er1
def cRet (f : DE) : DS := fun ρ S => (f ρ S).toF ρ fun d S' => .ret d S'
theorem ds_ret (he : PE X e (tD g W f)) : PS X (.Return (some e) pos) (tS g W (cRet f)) :=
  PS.imp (ps_ret he) fun _ _ _ ⟨_, _, _, sr, er, h⟩ => tD.subF sr er h fun _ m1 _ H1 v s1 er1 _ r1 h1 => h1 v m1 H1 Ev.refl s1 r1
def cRetN : DS := fun _ S => .ret .non S
theorem ds_retN : PS X (.Return none pos) (tS g W cRetN) := PS.imp ps_retN fun _ _ H ⟨m, _, _, sr, _, h⟩ => h _ m H Ev.refl sr .non
def cIfS (c : En → Mo Bool) (s t : DS) : DS := fun ρ S => (c ρ S).toF ρ fun k S' => match k with
  | true => s ρ S'
  | false => t ρ S'
theorem ds_if {p q : List Stmt} (hc : PT X c (tDb g W ft)) (ha : PSs X p (tS g W s)) (hb : PSs X q (tS g W t)) : PS X (.If c p q pos) (tS g W (cIfS ft s t)) :=
  PS.imp (ps_if hc ha hb) fun _ _ _ ⟨_, _, _, sr, er, h⟩ => tDb.subF sr er h fun k m1 S1 H1 s1 er1 _ h1 => by
    cases k with
    | true => rw [if_pos rfl]; exact ⟨m1, S1, _, s1, er1, h1⟩
    | false => rw [if_neg Bool.false_ne_true]; exact ⟨m1, S1, _, s1, er1, h1⟩

/-! ### targets -/
/-- what a target makes of a value -/
abbrev DG := D → En → Sto → Fz
def tG (g : Gx) (W : WX) (f : DG) : TG := fun v σ H Q => ∃ m S ρ d, SR g m H S ∧ ER g m S.length H σ ρ ∧ VR g m S.length H v d ∧ PF g m S H W { nx := Q, rt := fun _ _ => False } (f d ρ S)
theorem PG.imp {tg : Expr} {t t' : TG} (h : PG X tg t) (i : ∀ v σ H Q, t' v σ H Q → t v σ H Q) : PG X tg t' := ⟨fun pins s σ H v u Q I r q => h.run pins s σ H v u Q I r (i v σ H Q q)⟩
theorem PGs.imp {tg : List Expr} {t t' : TGs} (h : PGs X tg t) (i : ∀ v σ H Q, t' v σ H Q → t v σ H Q) : PGs X tg t' := ⟨fun pins s σ H v u Q I r q => h.run pins s σ H v u Q I r (i v σ H Q q)⟩
def kName (i : Nat) : DG := fun d ρ S => .nx (ρ.set i (some d)) S
theorem dg_name (i : Nat) {x : Str} (hN : X.N.Nodup) (hi : X.N[i]? = some x := by rfl) (hx : Loc X.env.scope x := by first | exact Or.inl rfl | exact Or.inr rfl) (hf : X.fn x = true ∨ X.env.scope.names.lookup x = some .local := by first | exact .inl rfl | exact .inr rfl) :
    PG X (.Name x pos) (tG g W (kName i)) := PG.imp (pg_name hN hi hx hf) fun _ _ H _ ⟨m, _, _, _, sr, er, r, h⟩ => h _ m H Ev.refl sr (er.set r)
abbrev DGs := List D → En → Sto → Fz
def tGs (g : Gx) (W : WX) (f : DGs) : TGs := fun vs σ H Q => ∃ m S ρ ds, SR g m H S ∧ ER g m S.length H σ ρ ∧ VRs g m S.length H vs ds ∧ PF g m S H W { nx := Q, rt := fun _ _ => False } (f ds ρ S)
def kNil : DGs := fun ds ρ S => match ds with
  | [] => .nx ρ S
  | _ :: _ => .no
def kCons (f : DG) (fs : DGs) : DGs := fun ds ρ S => match ds with
  | [] => .no
  | d :: r => match f d ρ S with
    | .nx ρ' S' => fs r ρ' S'
    | _ => .no
theorem dgs_nil : PGs X [] (tGs g W kNil) := PGs.imp pgs_nil fun _ _ _ _ ⟨_, _, _, ds, sr, er, r, h⟩ => by
  cases r with
  | nil => exact ⟨rfl, h.here sr er⟩
  | cons _ _ _ _ _ _ => exact h.elim
theorem dgs_cons {es : List Expr} {k : DG} {ks : DGs} (h1 : PG X e (tG g W k)) (h2 : PGs X es (tGs g W ks))
    (hs : (assignEach (e :: es) X.env).map (·.2) = assign e X.env :: (assignEach es X.env).map (·.2) := by rfl) : PGs X (e :: es) (tGs g W (kCons k ks)) :=
  PGs.imp (pgs_cons h1 h2 hs) fun vs σ H Q ⟨m, S, ρ, ds, sr, er, r, h⟩ => by
    cases r with
    | nil => exact h.elim
    | cons x d xs ds rx rs =>
      refine ⟨x, xs, rfl, m, S, ρ, d, sr, er, rx, ?_⟩
      unfold kCons at h
      cases q : k d ρ S with
      | nx ρ1 S1 =>
        simp only [q] at h
        exact fun s1 m1 H1 e1 sr1 er1 => ⟨m1, S1, ρ1, ds, sr1, er1, rs.ev e1, PF.ev e1 h⟩
      | _ => simp only [q] at h; exact h.elim
def unO : Option Ob → Option (List D)
  | some (.lst xs) => some xs
  | _ => none
/-- what is unpacked: a tuple, a list -/
def unS (S : Sto) : D → Option (List D)
  | .tup xs => some xs
  | .lsc xs => some xs
  | .loc l => unO S[l]?
  | _ => none
/-- unpacking -/
def kTup (ks : DGs) (n : Nat) : DG := fun d ρ S => match unS S d with
  | some xs => if xs.length = n then ks xs ρ S else .no
  | none => .no
theorem PG.or {tg : Expr} {t t' : TG} (h : PG X tg t) (h' : PG X tg t') : PG X tg (fun v σ H Q => t v σ H Q ∨ t' v σ H Q) := ⟨fun pins s σ H v u Q I r q => q.elim (h.run pins s σ H v u Q I r) (h'.run pins s σ H v u Q I r)⟩
theorem dg_tup {es : List Expr} {k n : Nat} {ks : DGs} (hc : X.calm = true) (hK : X.K = g.K) (h : PGs X es (tGs g W ks)) (hn : (assignEach es X.env).length = n := by rfl) (hst : (assignEach es X.env).findIdx? (·.1) = none := by rfl) :
    PG X (.Tuple es k pos) (tG g W (kTup ks n)) := PG.imp (PG.or (pg_tup hc h hn hst) (pg_lst hc h hn hst)) fun v σ H Q ⟨m, S, ρ, d, sr, er, r, q⟩ => by
  rw [hK]
  unfold kTup at q
  cases z : unS S d with
  | none => simp only [z] at q; exact q.elim
  | some xs =>
    simp only [z] at q
    by_cases hl : xs.length = n
    · rw [if_pos hl] at q
      cases r with
      | tup a vs _ hq rs => cases z; exact .inl ⟨a, vs, rfl, hq, by rw [rs.length]; exact hl, m, S, ρ, xs, sr, er, rs, q⟩
      | lsc a vs _ hq rs => cases z; exact .inr ⟨a, vs, rfl, hq.sq, by rw [rs.length]; exact hl, m, S, ρ, xs, sr, er, rs, q⟩
      | loc l hl' =>
        have z2 : unO S[l]? = some xs := z
        cases q2 : S[l]? with
        | none => rw [q2] at z2; cases z2
        | some o =>
          rw [q2] at z2
          cases o with
          | lst ys =>
            cases z2
            obtain ⟨_, vs, hv, rs⟩ := sr.atL q2
            exact .inr ⟨m l, vs, rfl, SqL.of hv, by rw [rs.length]; exact hl, m, S, ρ, xs, sr, er, rs, q⟩
          | _ => cases z2
      | _ => cases z
    · rw [if_neg hl] at q; exact q.elim
/-- target = e -/
def cAsg (f : DE) (k : DG) : DS := fun ρ S => (f ρ S).toF ρ fun d S' => match k d ρ S' with
  | .nx ρ' S'' => .nx ρ' S''
  | _ => .no
theorem asg_sub {k : DG} : ∀ E σ H, tS g W (cAsg f k) E σ H → tAsg (tD g W f) (tG g W k) E σ H := fun E σ H ⟨m, S, ρ, sr, er, h⟩ =>
  tD.subF sr er h fun d m1 S1 H1 v s1 er1 _ r1 h1 => by
    refine ⟨m1, S1, ρ, d, s1, er1, r1, ?_⟩
    cases q : k d ρ S1 with
    | nx ρ2 S2 => simp only [q] at h1; exact h1
    | _ => simp only [q] at h1; exact h1.elim
theorem ds_asg {tg : Expr} {k : DG} (he : PE X e (tD g W f)) (hg : PG X tg (tG g W k)) (hs : swapsWithSole [tg] e pos.line X.env = pure false := by rfl) (hw : swappedStores [tg] e X.env = pure none := by rfl)
    (h1 : (assignEach [tg] X.env).map (·.2) = [assign tg X.env] := by rfl) : PS X (.Assign [tg] e pos) (tS g W (cAsg f k)) := PS.imp (ps_asg he hg hs hw h1) asg_sub
theorem ds_set (i : Nat) {x : Str} {pos' : Pos} (hN : X.N.Nodup) (he : PE X e (tD g W f)) (hi : X.N[i]? = some x := by rfl) (hx : Loc X.env.scope x := by first | exact Or.inl rfl | exact Or.inr rfl) (hs : swapsWith e (some (.Name x pos')) pos.line X.env = pure false := by rfl)
    (hf : X.fn x = true ∨ X.env.scope.names.lookup x = some .local := by first | exact .inl rfl | exact .inr rfl) : PS X (.Assign [.Name x pos'] e pos) (tS g W (cAsg f (kName i))) :=
  PS.imp (ps_set hN hi hx he hs hf) fun _ _ _ ⟨_, _, _, sr, er, h⟩ => tD.subF sr er h fun _ m1 _ H1 v s1 er1 _ r1 h1 => h1 _ m1 H1 Ev.refl s1 (er1.set r1)
/-- a, b = e1, e2 (two plain locals): stored from the right -/
def cPar (i j : Nat) (fs : En → Mo (List D)) : DS := fun ρ S => (fs ρ S).toF ρ fun ds S' => match ds with
  | [d, e] => .nx ((ρ.set i (some d)).set j (some e)) S'
  | _ => .no
theorem tDs.subF {H : Hp} {σ : L2.St} {m : Nat → Addr} {S : Sto} {ρ : En} {k : List D → Sto → Fz} {E : Ends} {Q : List V → Hp → Prop}
    (sr : SR g m H S) (er : ER g m S.length H σ ρ) (h : PF g m S H W E ((fs ρ S).toF ρ k))
    (q : ∀ d m1 S1 H1 v, SR g m1 H1 S1 → ER g m1 S1.length H1 σ ρ → Ev g m S.length H m1 S1.length H1 → VRs g m1 S1.length H1 v d → PF g m1 S1 H1 W E (k d S1) → Q v H1) : tDs g W fs σ H Q :=
  ⟨m, S, ρ, sr, er, (h.bind er).mono fun d m1 S1 H1 e1 s1 p v r => q d m1 S1 H1 v s1 (er.ev e1) e1 r p⟩
theorem ds_par (i j : Nat) {x y : Str} {px py pt : Pos} {kt k2 pt2} (hc : X.calm = true) (hN : X.N.Nodup) (hw : swappedStores [.Tuple [.Name x px, .Name y py] kt pt] (.Tuple [a, b] k2 pt2) X.env = pure (some [x, y])) (ha : PA X [a, b] (tDs g W fs)) (hi : X.N[i]? = some x := by rfl) (hj : X.N[j]? = some y := by rfl) (hij : i ≠ j := by decide)
    (hx : X.env.scope.names.lookup x = some .local := by rfl) (hy : X.env.scope.names.lookup y = some .local := by rfl)
    (hs : swapsWithSole [.Tuple [.Name x px, .Name y py] kt pt] (.Tuple [a, b] k2 pt2) pos.line X.env = pure false := by rfl) :
    PS X (.Assign [.Tuple [.Name x px, .Name y py] kt pt] (.Tuple [a, b] k2 pt2) pos) (tS g W (cPar i j fs)) :=
  PS.imp (ps_par hc hN hi hj hij hx hy ha hw hs) fun _ _ _ ⟨_, _, _, sr, er, h⟩ => tDs.subF sr er h fun ds m1 S1 H1 vs s1 er1 _ r1 h1 => by
    cases r1 with
    | nil => exact h1.elim
    | cons x d xs ds rx rs =>
      cases rs with
      | nil => exact h1.elim
      | cons x' d' xs' ds' rx' rs' =>
        cases rs' with
        | nil => exact ⟨x, x', rfl, h1 _ m1 H1 Ev.refl s1 ((er1.set rx).set rx')⟩
        | cons _ _ _ _ _ _ => exact h1.elim
/-- x op= e at a local -/
def cAug (i : Nat) (h : D → D → Mo D) (f : DE) : DS := fun ρ S => match ρ[i]? with
  | some (some x) => (f ρ S).toF ρ fun y S' => (h x y S').toF ρ fun z S'' => .nx (ρ.set i (some z)) S''
  | _ => .no
theorem ds_aug (i : Nat) {x : Str} {op : Operator} {r : R2} {h : D → D → Mo D} {pos' : Pos} (hN : X.N.Nodup) (ho : OpR X (inplaceOp op) r) (hs : S2 g r h) (he : PE X e (tD g W f)) (hi : X.N[i]? = some x := by rfl) (hx : Loc X.env.scope x := by first | exact Or.inl rfl | exact Or.inr rfl)
    (hf : X.fn x = true ∨ X.env.scope.names.lookup x = some .local := by first | exact .inl rfl | exact .inr rfl) : PS X (.AugAssign (.Name x pos') op e pos) (tS g W (cAug i h f)) :=
  PS.imp (ps_aug (ti := r) hN hi hx he (fun pins s σ H x y v u Q I r1 r2 q => ho pins s σ H x y v u Q I r1 r2 q) hf) fun E σ H ⟨m, S, ρ, sr, er, k⟩ => by
    unfold cAug at k
    cases q : ρ[i]? with
    | none => rw [q] at k; exact k.elim
    | some o =>
      rw [q] at k
      cases o with
      | none => exact k.elim
      | some d =>
        obtain ⟨v, hv, rv⟩ := er.at_ i d q
        refine ⟨v, hv, tD.subF sr er k fun y m1 S1 H1 u s1 er1 e1 r1 h1 => ?_⟩
        exact hs m1 S1 H1 _ _ _ _ _ _ s1 (rv.ev e1) r1 ((h1.bind er1).mono fun z m2 S2 H2 e2 s2 p w rw' => p _ m2 H2 Ev.refl s2 ((er1.ev e2).set rw'))

/-! ### while -/
def cWhile (c : En → Mo Bool) (s : DS) : Nat → DS
  | 0 => fun _ _ => .no
  | n + 1 => fun ρ S => (c ρ S).toF ρ fun k S' => match k with
    | true => match s ρ S' with
      | .nx ρ' S'' => cWhile c s n ρ' S''
      | .cnt ρ' S'' => cWhile c s n ρ' S''
      | .brk ρ' S'' => .nx ρ' S''
      | o => o
    | false => .nx ρ S'
theorem ds_while (n : Nat) {body : List Stmt} (hp : PassesOwn (model X.prog X.w) X.A X.env X.xe) (hc : PT X c (tDb g W ft)) (hb : PSs X body (tS g W s)) : PS X (.While c body [] pos) (tS g W (cWhile ft s n)) :=
  PS.imp (ps_while hp hc hb) fun E σ H h => by
    refine ⟨fun k => tS g W (cWhile ft s k) E, ⟨n, h⟩, ?_⟩
    rintro k σ H ⟨m, S, ρ, sr, er, q⟩
    cases k with
    | zero => exact q.elim
    | succ k =>
      refine tDb.subF sr er q fun b m1 S1 H1 s1 er1 _ q1 => ?_
      cases b with
      | false => rw [if_neg Bool.false_ne_true]; exact q1.here s1 er1
      | true =>
        rw [if_pos rfl]
        refine ⟨tS g W (cWhile ft s k) E, fun σ' H' z => ⟨k, Nat.lt_succ_self k, z⟩, m1, S1, ρ, s1, er1, ?_⟩
        have q2 : PF g m1 S1 H1 W E (match s ρ S1 with
          | .nx ρ' S'' => cWhile ft s k ρ' S''
          | .cnt ρ' S'' => cWhile ft s k ρ' S''
          | .brk ρ' S'' => .nx ρ' S''
          | o => o) := q1
        cases z : s ρ S1 with
        | nx ρ2 S2 => rw [z] at q2; exact fun s3 m3 H3 e3 sr3 er3 => ⟨m3, S2, ρ2, sr3, er3, PF.ev e3 q2⟩
        | cnt ρ2 S2 => rw [z] at q2; exact fun s3 m3 H3 e3 sr3 er3 => ⟨m3, S2, ρ2, sr3, er3, PF.ev e3 q2⟩
        | brk ρ2 S2 => rw [z] at q2; exact q2
        | ret d S2 => rw [z] at q2; exact q2
        | ex x ρ2 S2 => rw [z] at q2; exact q2
        | no => rw [z] at q2; exact q2

/-! ### what is walked -/
/-- what a walk over things of the store gives at turn i: none where it fails, some none at its end -/
abbrev Nx := Nat → Sto → Option (Option D)
/-- items that stand fast, or things of the store as they are at each turn (n turns at most) -/
inductive Wk where
  | items (ds : List D) | view (nx : Nx) (n : Nat)
def liveO (i : Nat) : Option Ob → Option (Option D)
  | some (.lst xs) => some xs[i]?
  | _ => none
/-- a list of the store -/
def liveX (l : Nat) : Nx := fun i S => liveO i S[l]?
/-- J walks the items -/
def ItmOk (g : Gx) (J : It) (m : Nat → Addr) (n : Nat) (H : Hp) (ds : List D) : Prop :=
  ∀ i m' n' H', Ev g m n H m' n' H' → (ds.length ≤ i → J.stop i H') ∧ (∀ d, ds[i]? = some d → J.go i H' ∧ ∀ x H'', J.yld i H' x H'' → Ev g m' n' H' m' n' H'' ∧ (∀ S, n' = S.length → SR g m' H' S → SR g m' H'' S) ∧ VR g m' n' H'' x d)
def VwOk (g : Gx) (J : It) (m : Nat → Addr) (n : Nat) (H : Hp) (nx : Nx) : Prop :=
  ∀ i m' H' (S' : Sto), Ev g m n H m' S'.length H' → SR g m' H' S' → (nx i S' = some none → J.stop i H') ∧
    (∀ d, nx i S' = some (some d) → J.go i H' ∧ ∀ x H'', J.yld i H' x H'' → Ev g m' S'.length H' m' S'.length H'' ∧ SR g m' H'' S' ∧ VR g m' S'.length H'' x d)
def ItOk (g : Gx) (J : It) (m : Nat → Addr) (n : Nat) (H : Hp) : Wk → Prop
  | .items ds => ItmOk g J m n H ds
  | .view nx _ => VwOk g J m n H nx
theorem live_ok {g : Gx} {m : Nat → Addr} {n : Nat} {H : Hp} {l : Nat} (hl : l < n) : VwOk g (Itl g.K (m l)) m n H (liveX l) := fun i m' H' S' e sr => by
  have hm : m' l = m l := e.ag l hl
  have h0 : ∀ o, liveO i S'[l]? = some o → ∃ xs vs, H' (m l) = some (.lst vs) ∧ VRs g m' S'.length H' vs xs ∧ o = xs[i]? := by
    intro o h
    cases q : S'[l]? with
    | none => rw [q] at h; cases h
    | some ob =>
      rw [q] at h
      cases ob with
      | lst xs =>
        cases h
        obtain ⟨_, vs, hv, rs⟩ := sr.atL q
        exact ⟨xs, vs, by rw [← hm]; exact hv, rs, rfl⟩
      | _ => cases h
  refine ⟨fun h => ?_, fun d h => ?_⟩
  · obtain ⟨xs, vs, hv, rs, ho⟩ := h0 _ h
    exact ⟨vs, SqL.of hv, by rw [rs.length]; exact List.getElem?_eq_none_iff.mp ho.symm⟩
  · obtain ⟨xs, vs, hv, rs, ho⟩ := h0 _ h
    obtain ⟨v, hvi, rv⟩ := rs.get ho.symm
    refine ⟨⟨vs, v, SqL.of hv, hvi⟩, fun x H'' y => ?_⟩
    obtain ⟨rfl, yx⟩ := y
    have := yx vs (SqL.of hv)
    rw [hvi] at this
    cases this
    exact ⟨Ev.refl, sr, rv⟩
def tIt (g : Gx) (W : WX) (f : En → Mo Wk) : TI := fun σ H R => ∃ m S ρ, SR g m H S ∧ ER g m S.length H σ ρ ∧
  PRx g m S H (fun c d H' => W c d σ H') (fun w m1 S1 H1 => ∀ J, ItOk g J m1 S1.length H1 w → R J H1) (f ρ S)
/-- the turns over items -/
def loopI (k : DG) (s : DS) : List D → DS
  | [] => fun ρ S => .nx ρ S
  | d :: r => fun ρ S => match k d ρ S with
    | .nx ρ1 S1 => match s ρ1 S1 with
      | .nx ρ' S' => loopI k s r ρ' S'
      | .cnt ρ' S' => loopI k s r ρ' S'
      | .brk ρ' S' => .nx ρ' S'
      | o => o
    | _ => .no
/-- the turns over things of the store: i turns done, n at most to come -/
def loopV (k : DG) (s : DS) (nx : Nx) : Nat → Nat → DS
  | 0, i => fun ρ S => match nx i S with
    | some none => .nx ρ S
    | _ => .no
  | n + 1, i => fun ρ S => match nx i S with
    | some (some d) => match k d ρ S with
      | .nx ρ1 S1 => match s ρ1 S1 with
        | .nx ρ' S' => loopV k s nx n (i + 1) ρ' S'
        | .cnt ρ' S' => loopV k s nx n (i + 1) ρ' S'
        | .brk ρ' S' => .nx ρ' S'
        | o => o
      | _ => .no
    | some none => .nx ρ S
    | none => .no
def lenO' : Option Ob → Nat
  | some (.lst xs) => xs.length
  | some (.dct kvs) => kvs.length
  | _ => 0
def lenL (S : Sto) (l : Nat) : Nat := lenO' S[l]?
def cFor (it : En → Mo Wk) (k : DG) (s : DS) : DS := fun ρ S => (it ρ S).toF ρ fun w S' => match w with
  | .items ds => loopI k s ds ρ S'
  | .view nx n => loopV k s nx n 0 ρ S'
theorem turn_sub {k : DG} {rest' : DS} {E : Ends} {σ : L2.St} {H : Hp} {m : Nat → Addr} {S : Sto} {ρ : En} {d : D} {v : V} (sr : SR g m H S) (er : ER g m S.length H σ ρ) (r : VR g m S.length H v d)
    (h : PF g m S H W E (match k d ρ S with
      | .nx ρ1 S1 => match s ρ1 S1 with
        | .nx ρ' S' => rest' ρ' S'
        | .cnt ρ' S' => rest' ρ' S'
        | .brk ρ' S' => .nx ρ' S'
        | o => o
      | _ => .no)) :
    tG g W k v σ H fun σ2 H2 => tS g W s { E with nx := tS g W rest' E, ct := tS g W rest' E, bk := E.nx } σ2 H2 := by
  refine ⟨m, S, ρ, d, sr, er, r, ?_⟩
  cases q : k d ρ S with
  | nx ρ1 S1 =>
    rw [q] at h
    intro s1 m1 H1 e1 sr1 er1
    refine ⟨m1, S1, ρ1, sr1, er1, ?_⟩
    have h2 := PF.ev e1 h
    dsimp only at h2
    cases z : s ρ1 S1 with
    | nx ρ2 S2 => rw [z] at h2; exact fun s3 m3 H3 e3 sr3 er3 => ⟨m3, S2, ρ2, sr3, er3, PF.ev e3 h2⟩
    | cnt ρ2 S2 => rw [z] at h2; exact fun s3 m3 H3 e3 sr3 er3 => ⟨m3, S2, ρ2, sr3, er3, PF.ev e3 h2⟩
    | brk ρ2 S2 => rw [z] at h2; exact h2
    | ret d S2 => rw [z] at h2; exact h2
    | ex x ρ2 S2 => rw [z] at h2; exact h2
    | no => rw [z] at h2; exact h2
  | _ => rw [q] at h; exact h.elim
theorem ds_for {tg iter : Expr} {body : List Stmt} {it : En → Mo Wk} {k : DG} (hp : PassesOwn (model X.prog X.w) X.A X.env X.xe) (hc : X.calm = true) (hi : PI X tg iter (tIt g W it)) (hg : PG X tg (tG g W k)) (hb : PSs X body (tS g W s))
    (hs : ∀ x, foldedSetIterable iter X.env x = pure x := by intro _; rfl) : PS X (.For tg iter body [] pos) (tS g W (cFor it k s)) :=
  PS.imp (ps_for hp hc hi hg hb hs) fun E σ H ⟨m, S, ρ, sr, er, h⟩ => by
    refine ⟨m, S, ρ, sr, er, (h.bind er).mono fun w m1 S1 H1 e1 s1 q J ok => ?_⟩
    have er1 := er.ev e1
    cases w with
    | items ds =>
      have ok : ItmOk g J m1 S1.length H1 ds := ok
      refine ⟨fun i μ σ' H' => ∃ m' S' ρ', μ = ds.length - i ∧ i ≤ ds.length ∧ Ev g m1 S1.length H1 m' S'.length H' ∧ SR g m' H' S' ∧ ER g m' S'.length H' σ' ρ' ∧ PF g m' S' H' W E (loopI k s (ds.drop i) ρ' S'),
        ⟨ds.length, m1, S1, ρ, by simp, Nat.zero_le _, Ev.refl, s1, er1, by simpa using q⟩, ?_⟩
      rintro i μ σ' H' ⟨m', S', ρ', rfl, hil, e', sr', er', q'⟩
      obtain ⟨st, gos⟩ := ok i m' S'.length H' e'
      by_cases hlt : i < ds.length
      · have hd : ds[i]? = some ds[i] := List.getElem?_eq_getElem hlt
        obtain ⟨go, yl⟩ := gos _ hd
        refine .inr ⟨go, fun σ2 H2 => ∃ m2 S2 ρ2, Ev g m1 S1.length H1 m2 S2.length H2 ∧ SR g m2 H2 S2 ∧ ER g m2 S2.length H2 σ2 ρ2 ∧ PF g m2 S2 H2 W E (loopI k s (ds.drop (i + 1)) ρ2 S2), fun σ2 H2 ⟨m2, S2, ρ2, a1, a2, a3, a4⟩ => ⟨ds.length - (i + 1), by omega, m2, S2, ρ2, rfl, hlt, a1, a2, a3, a4⟩, fun x H'' y => ?_⟩
        obtain ⟨e2, keepS, rx⟩ := yl x H'' y
        have sr2 := keepS S' rfl sr'
        have er2 := er'.ev e2
        rw [List.drop_eq_getElem_cons hlt] at q'
        have q2 := PF.ev e2 q'
        have e12 := e'.trans e2
        -- the turn, remembering how the heap came to be
        obtain ⟨m3, S3, ρ3, d3, b1, b2, b3, b4⟩ := turn_sub (rest' := loopI k s (ds.drop (i + 1))) sr2 er2 rx q2
        refine ⟨m', S', ρ', ds[i], sr2, er2, rx, ?_⟩
        clear b1 b2 b3 b4
        have q3 : PF g m' S' H'' W E (match k ds[i] ρ' S' with
          | .nx ρ1 S1 => match s ρ1 S1 with
            | .nx ρ' S' => loopI k s (ds.drop (i + 1)) ρ' S'
            | .cnt ρ' S' => loopI k s (ds.drop (i + 1)) ρ' S'
            | .brk ρ' S' => .nx ρ' S'
            | o => o
          | _ => .no) := q2
        cases z : k ds[i] ρ' S' with
        | nx ρ5 S5 =>
          rw [z] at q3
          intro s6 m6 H6 e6 sr6 er6
          refine ⟨m6, S5, ρ5, sr6, er6, ?_⟩
          have h2 := PF.ev e6 q3
          dsimp only at h2
          have e16 := e12.trans e6
          cases z2 : s ρ5 S5 with
          | nx ρ7 S7 => rw [z2] at h2; exact fun s8 m8 H8 e8 sr8 er8 => ⟨m8, S7, ρ7, e16.trans e8, sr8, er8, PF.ev e8 h2⟩
          | cnt ρ7 S7 => rw [z2] at h2; exact fun s8 m8 H8 e8 sr8 er8 => ⟨m8, S7, ρ7, e16.trans e8, sr8, er8, PF.ev e8 h2⟩
          | brk ρ7 S7 => rw [z2] at h2; exact h2
          | ret d S7 => rw [z2] at h2; exact h2
          | ex x ρ7 S7 => rw [z2] at h2; exact h2
          | no => rw [z2] at h2; exact h2
        | _ => rw [z] at q3; exact q3.elim
      · have e0 : i = ds.length := by omega
        subst e0
        rw [List.drop_length] at q'
        exact .inl ⟨st (Nat.le_refl _), q'.here sr' er'⟩
    | view nx n =>
      have ok : VwOk g J m1 S1.length H1 nx := ok
      refine ⟨fun i μ σ' H' => ∃ m' S' ρ', Ev g m1 S1.length H1 m' S'.length H' ∧ SR g m' H' S' ∧ ER g m' S'.length H' σ' ρ' ∧ PF g m' S' H' W E (loopV k s nx μ i ρ' S'),
        ⟨n, m1, S1, ρ, Ev.refl, s1, er1, q⟩, ?_⟩
      rintro i μ σ' H' ⟨m', S', ρ', e', sr', er', q'⟩
      obtain ⟨st, gos⟩ := ok i m' H' S' e' sr'
      cases μ with
      | zero =>
        unfold loopV at q'
        cases z : nx i S' with
        | none => rw [z] at q'; exact q'.elim
        | some o =>
          rw [z] at q'
          cases o with
          | none => exact .inl ⟨st z, q'.here sr' er'⟩
          | some _ => exact q'.elim
      | succ μ =>
        unfold loopV at q'
        cases z : nx i S' with
        | none => rw [z] at q'; exact q'.elim
        | some o =>
          rw [z] at q'
          cases o with
          | none => exact .inl ⟨st z, q'.here sr' er'⟩
          | some d =>
            dsimp only at q'
            obtain ⟨go, yl⟩ := gos d z
            refine .inr ⟨go, fun σ2 H2 => ∃ m2 S2 ρ2, Ev g m1 S1.length H1 m2 S2.length H2 ∧ SR g m2 H2 S2 ∧ ER g m2 S2.length H2 σ2 ρ2 ∧ PF g m2 S2 H2 W E (loopV k s nx μ (i + 1) ρ2 S2),
              fun σ2 H2 a => ⟨μ, Nat.lt_succ_self _, a⟩, fun x H'' y => ?_⟩
            obtain ⟨e2, sr2, rx⟩ := yl x H'' y
            have er2 := er'.ev e2
            have q3 := PF.ev e2 q'
            have e12 := e'.trans e2
            refine ⟨m', S', ρ', d, sr2, er2, rx, ?_⟩
            cases z3 : k d ρ' S' with
            | nx ρ5 S5 =>
              rw [z3] at q3
              intro s6 m6 H6 e6 sr6 er6
              refine ⟨m6, S5, ρ5, sr6, er6, ?_⟩
              have h2 := PF.ev e6 q3
              dsimp only at h2
              have e16 := e12.trans e6
              cases z2 : s ρ5 S5 with
              | nx ρ7 S7 => rw [z2] at h2; exact fun s8 m8 H8 e8 sr8 er8 => ⟨m8, S7, ρ7, e16.trans e8, sr8, er8, PF.ev e8 h2⟩
              | cnt ρ7 S7 => rw [z2] at h2; exact fun s8 m8 H8 e8 sr8 er8 => ⟨m8, S7, ρ7, e16.trans e8, sr8, er8, PF.ev e8 h2⟩
              | brk ρ7 S7 => rw [z2] at h2; exact h2
              | ret d S7 => rw [z2] at h2; exact h2
              | ex x ρ7 S7 => rw [z2] at h2; exact h2
              | no => rw [z2] at h2; exact h2
            | _ => rw [z3] at q3; exact q3.elim
/-- iterating data -/
def itD : D → Mo Wk
  | .tup ds => pure (.items ds)
  | .lsc ds => pure (.items ds)
  | .str x => pure (.items (x.cps.toList.map fun c => .str ⟨#[c]⟩))
  | .loc l => fun S => match S[l]? with
    | some (.lst xs) => .ok (.view (liveX l) xs.length) S
    | _ => .no
  | _ => bad
def cIt (f : DE) : En → Mo Wk := fun ρ => f ρ >>= itD
theorem itt_ok {m : Nat → Addr} {n : Nat} {H : Hp} {a : Addr} {xs : List V} {ds : List D} (hq : SqT g.K H a xs) (rs : VRs g m n H xs ds) : ItmOk g (Itt g.K a) m n H ds := fun i m' n' H' e =>
  ⟨fun h => ⟨xs, e.tup _ _ hq, by rw [rs.length]; exact h⟩, fun d hd => by
    obtain ⟨v, hv, rv⟩ := (rs.ev e).get hd
    refine ⟨⟨xs, v, e.tup _ _ hq, hv⟩, fun x H'' ⟨eq, y⟩ => ?_⟩
    subst eq
    have := y xs (e.tup _ _ hq)
    rw [hv] at this
    cases this
    exact ⟨Ev.refl, fun _ _ h => h, rv⟩⟩
theorem itl_ok {m : Nat → Addr} {n : Nat} {H : Hp} {a : Addr} {xs : List V} {ds : List D} (hq : Lsc g.K H a xs) (rs : VRs g m n H xs ds) : ItmOk g (Itl g.K a) m n H ds := fun i m' n' H' e =>
  ⟨fun h => ⟨xs, (e.lsc _ _ hq).sq, by rw [rs.length]; exact h⟩, fun d hd => by
    obtain ⟨v, hv, rv⟩ := (rs.ev e).get hd
    refine ⟨⟨xs, v, (e.lsc _ _ hq).sq, hv⟩, fun x H'' ⟨eq, y⟩ => ?_⟩
    subst eq
    have := y xs (e.lsc _ _ hq).sq
    rw [hv] at this
    cases this
    exact ⟨Ev.refl, fun _ _ h => h, rv⟩⟩
end
end Sm
end
section
/-! Sm, part D: what is walked, comprehensions, fields, own classes, calls, the entry of a def. -/
namespace Sm
open PySem PySem.Spec PyProof.Rows L2

section
variable {X : Cx} {g : Gx} {W : WX} {e a b c : Expr} {es rest : List Expr} {f fa fb : DE} {fs : En → Mo (List D)} {ft : En → Mo Bool} {s t u : DS} {pos : Pos}

/-! ### iterators -/
def iAny (K : PySem.W.Frag) (tl : TE) : TI := fun σ H R => tl σ H fun v H1 =>
  (∃ a, v = .ref a ∧ (∃ xs, SqL K H1 a xs) ∧ R (Itl K a) H1) ∨ (∃ a, v = .ref a ∧ (∃ xs, SqT K H1 a xs) ∧ R (Itt K a) H1) ∨ ∃ x, v = .str x ∧ R (L2.Its x) H1
theorem pi_any {tg l : Expr} {tl : TE} (hl : PE X l tl) : PI X tg l (iAny X.K tl) := by
  refine ⟨fun pins s σ H R I h => ?_⟩
  refine thn (hl.run pins s σ H _ I h) fun v s1 ⟨x, H1, I1, r1, q1⟩ => ?_
  rcases q1 with ⟨a, e, ⟨xs, hq⟩, q⟩ | ⟨a, e, ⟨xs, hq⟩, q⟩ | ⟨x, e, q⟩
  · subst e
    cases r1
    obtain ⟨its, rv, p, hz⟩ := I1.list hq
    refine wpAny_pyIter_list p.isList ?_
    refine ⟨s1.heap.objs.size, [s1.heap.objs.size], _, _, H1, rfl, I1.kept (t' := s1.toks) fun b o e => Heap.get?_push_of_some _ e, turn_list a _, ⟨_, Heap.get?_push_size _ rfl, rfl, rfl⟩, fun b hb => ?_, q⟩
    have e : b = s1.heap.objs.size := by simpa using hb
    subst e
    exact I1.fpOk (Nat.le_refl _) (I1.hok.fresh (Nat.le_refl _))
  · subst e
    cases r1
    obtain ⟨its, rv, p, hz⟩ := I1.tuple hq
    refine wpAny_pyIter_tuple (show s1.heap.IsTuple a its.toArray from p) ?_
    refine ⟨s1.heap.objs.size, [s1.heap.objs.size], _, _, H1, rfl, I1.kept (t' := s1.toks) fun b o e => Heap.get?_push_of_some _ e, turn_tuple a _, ⟨_, Heap.get?_push_size _ rfl, rfl, rfl⟩, fun b hb => ?_, q⟩
    have e : b = s1.heap.objs.size := by simpa using hb
    subst e
    exact I1.fpOk (Nat.le_refl _) (I1.hok.fresh (Nat.le_refl _))
  · subst e
    obtain ⟨t, rfl⟩ := r1
    cases ha : x.cps.all (· < 128)
    · exact wpAny_pyIter_wide ha (pi_one (tk := s1.toks) I1 _ (turn_str _ x t "str_iterator" (.inr rfl)) ⟨_, Heap.get?_push_size _ rfl, rfl, rfl⟩ q)
    · exact wpAny_pyIter_ascii ha (pi_one (tk := s1.toks) I1 _ (turn_str _ x t "str_ascii_iterator" (.inl rfl)) ⟨_, Heap.get?_push_size _ rfl, rfl, rfl⟩ q)
theorem its_ok {m : Nat → Addr} {n : Nat} {H : Hp} (x : Str) : ItmOk g (L2.Its x) m n H (x.cps.toList.map fun c => D.str ⟨#[c]⟩) := fun i m' n' H' e =>
  ⟨fun h => by
    rw [List.length_map, Array.length_toList] at h
    exact h, fun d hd => by
    have hi : i < x.cps.size := by
      have := (List.getElem?_eq_some_iff.mp hd).1
      simpa using this
    refine ⟨hi, fun v H'' ⟨eq, c, hc, ev⟩ => ?_⟩
    subst eq
    subst ev
    rw [List.getElem?_map, Array.getElem?_toList, hc] at hd
    cases hd
    exact ⟨Ev.refl, fun _ _ h => h, .str _⟩⟩
theorem itD_ok {m : Nat → Addr} {S : Sto} {H : Hp} {W : XK} {d : D} {v : V} {R : It → Hp → Prop} (sr : SR g m H S) (r : VR g m S.length H v d)
    (h : PRx g m S H W (fun w m1 S1 H1 => ∀ J, ItOk g J m1 S1.length H1 w → R J H1) (itD d S)) :
    (∃ a, v = .ref a ∧ (∃ xs, SqL g.K H a xs) ∧ R (Itl g.K a) H) ∨ (∃ a, v = .ref a ∧ (∃ xs, SqT g.K H a xs) ∧ R (Itt g.K a) H) ∨ ∃ x, v = .str x ∧ R (L2.Its x) H := by
  cases r with
  | str x => exact .inr (.inr ⟨x, rfl, h m H Ev.refl sr _ (its_ok x)⟩)
  | tup a xs ds hq rs => exact .inr (.inl ⟨a, rfl, ⟨xs, hq⟩, h m H Ev.refl sr _ (itt_ok hq rs)⟩)
  | lsc a xs ds hq rs => exact .inl ⟨a, rfl, ⟨xs, hq.sq⟩, h m H Ev.refl sr _ (itl_ok hq rs)⟩
  | loc l hl =>
    have h2 : PRx g m S H W (fun w m1 S1 H1 => ∀ J, ItOk g J m1 S1.length H1 w → R J H1) (match S[l]? with
      | some (.lst xs) => (Rz.ok (Wk.view (liveX l) xs.length) S : Rz Wk)
      | _ => .no) := h
    cases q : S[l]? with
    | none => rw [q] at h2; exact h2.elim
    | some o =>
      rw [q] at h2
      cases o with
      | lst ds =>
        obtain ⟨_, vs, hv, _⟩ := sr.atL q
        exact .inl ⟨m l, rfl, ⟨vs, SqL.of hv⟩, h2 m H Ev.refl sr _ (live_ok hl)⟩
      | _ => exact h2.elim
  | _ => exact h.elim
theorem di_any {tg : Expr} (hK : X.K = g.K) (he : PE X e (tD g W f)) : PI X tg e (tIt g W (cIt f)) :=
  PI.imp (pi_any he) fun σ H R ⟨m, S, ρ, sr, er, h⟩ => by
    rw [hK]
    exact tD.sub sr er h fun d m1 S1 H1 v s1 er1 _ r1 h1 => itD_ok s1 r1 h1
/-- range(a, b), range(n) -/
def rgD (lo : Int) (n : Nat) : List D := (List.range n).map fun i => D.int (lo + (i : Nat))
theorem itr_ok {m : Nat → Addr} {n : Nat} {H : Hp} (lo : Int) (k : Nat) : ItmOk g (Itr lo k) m n H (rgD lo k) := fun i m' n' H' e =>
  ⟨fun h => by
    unfold rgD at h
    rw [List.length_map, List.length_range] at h
    exact h, fun d hd => by
    have hi : i < k := by
      have := (List.getElem?_eq_some_iff.mp hd).1
      simpa [rgD] using this
    refine ⟨hi, fun v H'' ⟨eq, ev⟩ => ?_⟩
    subst eq
    subst ev
    unfold rgD at hd
    rw [List.getElem?_map, List.getElem?_range hi] at hd
    cases hd
    exact ⟨Ev.refl, fun _ _ h => h, .int _⟩⟩
@[irreducible] def okR (j : Int) : Bool := decide (-(2 ^ 62) ≤ j ∧ j < 2 ^ 62)
theorem okR_iff {j : Int} : okR j = true ↔ (-(2 ^ 62) ≤ j ∧ j < 2 ^ 62) := by
  unfold okR
  exact decide_eq_true_iff
def rng1 : List D → Mo Wk
  | [.int j] => fun S => if okR j = true then .ok (.items (rgD 0 j.toNat)) S else .no
  | _ => bad
def rng2 : List D → Mo Wk
  | [.int i, .int j] => fun S => if (okR i && okR j) = true then .ok (.items (rgD i (j - i).toNat)) S else .no
  | _ => bad
def cRng (h : List D → Mo Wk) (fs : En → Mo (List D)) : En → Mo Wk := fun ρ => fs ρ >>= h
theorem di_range1 {tg : Expr} {p : Pos} (hm : X.mg "range" = none) (ha : PA X [a] (tDs g W fs)) (hg : Gl X "range" := by rfl) (hs : starEach [a] X.env = [(false, eval a X.env)] := by rfl) : PI X tg (.Call (.Name "range" p) [a] [] pos) (tIt g W (cRng rng1 fs)) :=
  PI.imp (pi_range1 hg hm ha hs) fun σ H R ⟨m, S, ρ, sr, er, h⟩ => tDs.sub sr er h fun ds m1 S1 H1 vs s1 _ _ r1 h1 => by
    cases r1 with
    | nil => exact h1.elim
    | cons x d xs ds rx rs =>
      cases rs with
      | cons _ _ _ _ _ _ => cases rx <;> exact h1.elim
      | nil =>
        cases rx with
        | int j =>
          have h2 : PRx g m1 S1 H1 _ _ (if okR j = true then (Rz.ok (Wk.items (rgD 0 j.toNat)) S1 : Rz Wk) else .no) := h1
          by_cases q : okR j = true
          · rw [if_pos q] at h2
            obtain ⟨q1, q2⟩ := okR_iff.mp q
            exact ⟨j, rfl, q1, q2, h2 m1 H1 Ev.refl s1 _ (itr_ok 0 j.toNat)⟩
          · rw [if_neg q] at h2; exact h2.elim
        | _ => exact h1.elim
theorem di_range2 {tg : Expr} {p : Pos} (hm : X.mg "range" = none) (ha : PA X [a, b] (tDs g W fs)) (hg : Gl X "range" := by rfl) (hs : starEach [a, b] X.env = [(false, eval a X.env), (false, eval b X.env)] := by rfl) (hs2 : starEach [b] X.env = [(false, eval b X.env)] := by rfl) :
    PI X tg (.Call (.Name "range" p) [a, b] [] pos) (tIt g W (cRng rng2 fs)) :=
  PI.imp (pi_range2 hg hm ha hs hs2) fun σ H R ⟨m, S, ρ, sr, er, h⟩ => tDs.sub sr er h fun ds m1 S1 H1 vs s1 _ _ r1 h1 => by
    cases r1 with
    | nil => exact h1.elim
    | cons x d xs ds rx rs =>
      cases rs with
      | nil => cases rx <;> exact h1.elim
      | cons y e xs ds ry rs =>
        cases rs with
        | cons _ _ _ _ _ _ => cases rx <;> cases ry <;> exact h1.elim
        | nil =>
          cases rx with
          | int i =>
            cases ry with
            | int j =>
              have h2 : PRx g m1 S1 H1 _ _ (if (okR i && okR j) = true then (Rz.ok (Wk.items (rgD i (j - i).toNat)) S1 : Rz Wk) else .no) := h1
              by_cases q : (okR i && okR j) = true
              · rw [if_pos q] at h2
                rw [Bool.and_eq_true] at q
                obtain ⟨q1, q2⟩ := okR_iff.mp q.1
                obtain ⟨q3, q4⟩ := okR_iff.mp q.2
                exact ⟨i, j, rfl, ⟨q1, q2, q3, q4⟩, h2 m1 H1 Ev.refl s1 _ (itr_ok i _)⟩
              · rw [if_neg q] at h2; exact h2.elim
            | _ => exact h1.elim
          | _ => exact h1.elim

/-! ### comprehensions -/
/-- the names' slots set, one after another -/
def setAll (ρ : En) : List Nat → List D → En
  | i :: is, d :: ds => setAll (ρ.set i (some d)) is ds
  | _, _ => ρ
def setV (σ : L2.St) : List Nat → List V → L2.St
  | i :: is, d :: ds => setV (σ.set i (some d)) is ds
  | _, _ => σ
def gNames : List Nat → TGs
  | [] => gNil
  | i :: is => gCons (gName i) (gNames is)
theorem gNames_of : ∀ {is : List Nat} {xs : List V} {σ : L2.St} {H : Hp} {Q : L2.St → Hp → Prop}, xs.length = is.length → Q (setV σ is xs) H → gNames is xs σ H Q
  | [], [], _, _, _, _, h => ⟨rfl, h⟩
  | i :: is, x :: xs, σ, H, Q, hl, h => ⟨x, xs, rfl, gNames_of (is := is) (xs := xs) (σ := σ.set i (some x)) (by simpa using hl) h⟩
theorem wipe_at (σ : L2.St) (i : Nat) : ∀ vs : List Nat, (wipe σ vs)[i]? = if i ∈ vs then (if i < σ.length then some none else none) else σ[i]?
  | [] => by simp [wipe]
  | v :: vs => by
    unfold wipe
    by_cases hv : v = i
    · subst hv
      by_cases hl : v < σ.length
      · rw [List.getElem?_set_self (by rw [wipe_length]; exact hl)]
        simp [hl]
      · rw [List.getElem?_eq_none (by rw [List.length_set, wipe_length]; omega)]
        simp [hl]
    · rw [List.getElem?_set_ne hv, wipe_at σ i vs]
      simp [Ne.symm hv]
theorem wipe_set (σ : L2.St) {i : Nat} {vs : List Nat} (hi : i ∈ vs) (o : Option V) : wipe (σ.set i o) vs = wipe σ vs := by
  apply List.ext_getElem?
  intro j
  rw [wipe_at, wipe_at]
  by_cases hj : j ∈ vs
  · rw [if_pos hj, if_pos hj, List.length_set]
  · rw [if_neg hj, if_neg hj, List.getElem?_set_ne (fun z => hj (by rw [← z]; exact hi))]
theorem wipe_wipe (σ : L2.St) (vs : List Nat) : wipe (wipe σ vs) vs = wipe σ vs := by
  apply List.ext_getElem?
  intro j
  rw [wipe_at, wipe_at, wipe_length]
  by_cases hj : j ∈ vs
  · simp [hj]
  · simp [hj]
theorem wipe_setV {vs : List Nat} : ∀ {is : List Nat} {xs : List V} (σ : L2.St), (∀ i ∈ is, i ∈ vs) → wipe (setV σ is xs) vs = wipe σ vs
  | [], _, _, _ => by simp [setV]
  | i :: is, [], _, _ => by simp [setV]
  | i :: is, x :: xs, σ, h => by
    unfold setV
    rw [wipe_setV (is := is) (xs := xs) _ fun j hj => h j (List.mem_cons_of_mem _ hj), wipe_set σ (h i List.mem_cons_self)]
def wipeE (ρ : En) : List Nat → En
  | [] => ρ
  | v :: vs => (wipeE ρ vs).set v none
theorem ER.wipe {m : Nat → Addr} {n : Nat} {H : Hp} {σ : L2.St} {ρ : En} (h : ER g m n H σ ρ) : ∀ vs : List Nat, ER g m n H (L2.wipe σ vs) (wipeE ρ vs)
  | [] => h
  | v :: vs => (ER.wipe h vs).unset
theorem ER.setAll : ∀ {is : List Nat} {xs : List V} {ds : List D} {m : Nat → Addr} {n : Nat} {H : Hp} {σ : L2.St} {ρ : En}, ER g m n H σ ρ → VRs g m n H xs ds → ER g m n H (setV σ is xs) (setAll ρ is ds)
  | [], _, _, _, _, _, _, _, h, _ => by simpa [setV, Sm.setAll] using h
  | i :: is, _, _, _, _, _, _, _, h, .nil => by simpa [setV, Sm.setAll] using h
  | i :: is, _, _, _, _, _, _, _, h, .cons x d xs ds r t => ER.setAll (is := is) (h.set r) t
/-- the comprehension's names: one, or a tuple of them -/
inductive CT where
  | one (i : Nat) | many (is : List Nat)
def CT.vs : CT → List Nat
  | .one i => [i]
  | .many is => is
def CT.tg (K : PySem.W.Frag) : CT → TG
  | .one i => gName i
  | .many is => gTup K is.length (gNames is)
def CT.put (ρ : En) : CT → D → Option En
  | .one i, d => some (ρ.set i (some d))
  | .many is, .tup ds => if ds.length = is.length then some (setAll ρ is ds) else none
  | .many _, _ => none
theorem CT.ok {K : PySem.W.Frag} {t : CT} {m : Nat → Addr} {n : Nat} {H : Hp} {σ : L2.St} {ρ ρ' : En} {v : V} {d : D} {Q : L2.St → Hp → Prop} (hK : K = g.K) (er : ER g m n H σ ρ) (r : VR g m n H v d) (h : t.put ρ d = some ρ')
    (q : ∀ σ', ER g m n H σ' ρ' → (∀ ws, (∀ i ∈ t.vs, i ∈ ws) → L2.wipe σ' ws = L2.wipe σ ws) → Q σ' H) : t.tg K v σ H Q := by
  cases t with
  | one i =>
    cases h
    exact q _ (er.set r) fun ws hw => wipe_set σ (hw i (by simp [CT.vs])) _
  | many is =>
    cases r with
    | tup a xs ds hq rs =>
      have h2 : (if ds.length = is.length then some (setAll ρ is ds) else none) = some ρ' := h
      by_cases hl : ds.length = is.length
      · rw [if_pos hl] at h2
        cases h2
        subst hK
        exact ⟨a, xs, rfl, hq, by rw [rs.length]; exact hl, gNames_of (by rw [rs.length]; exact hl) (q _ (er.setAll rs) fun ws hw => wipe_setV σ hw)⟩
      · rw [if_neg hl] at h2; cases h2
    | _ => cases h
/-- the end of one turn: the new item at the list n -/
def pushL (n : Nat) (y : D) (S : Sto) : Option Sto := match S[n]? with
  | some (.lst acc) => if fit (acc.length + 1) = true then some (S.set n (.lst (acc ++ [y]))) else none
  | _ => none
/-- one turn of a comprehension -/
def lcTurn (t : CT) (tst : En → Mo Bool) (elt : DE) (ρ : En) (n : Nat) (d : D) (S : Sto) : Option Sto := match t.put ρ d with
  | some ρ' => match tst ρ' S with
    | .ok true S1 => match elt ρ' S1 with
      | .ok y S2 => pushL n y S2
      | _ => none
    | .ok false S1 => some S1
    | _ => none
  | none => none
def lcI (t : CT) (tst : En → Mo Bool) (elt : DE) (ρ : En) (n : Nat) : List D → Sto → Rz D
  | [], S => .ok (.loc n) S
  | d :: r, S => match lcTurn t tst elt ρ n d S with
    | some S' => lcI t tst elt ρ n r S'
    | none => .no
def lcV (t : CT) (tst : En → Mo Bool) (elt : DE) (ρ : En) (n : Nat) (nx : Nx) : Nat → Nat → Sto → Rz D
  | 0, i, S => match nx i S with
    | some none => .ok (.loc n) S
    | _ => .no
  | k + 1, i, S => match nx i S with
    | some (some d) => match lcTurn t tst elt ρ n d S with
      | some S' => lcV t tst elt ρ n nx k (i + 1) S'
      | none => .no
    | some none => .ok (.loc n) S
    | none => .no
def cLc (it : En → Mo Wk) (t : CT) (tst : En → Mo Bool) (elt : DE) : DE := fun ρ => do
  let w ← it ρ
  fun S => match w with
    | .items ds => lcI t tst elt (wipeE ρ t.vs) S.length ds (S ++ [.lst []])
    | .view nx k => lcV t tst elt (wipeE ρ t.vs) S.length nx k 0 (S ++ [.lst []])
/-- a turn, over the hand layer's reading; what is known of the rest (Nx) is said of every later heap -/
theorem lcTurn_ok {K : PySem.W.Frag} {t : CT} {tst : En → Mo Bool} {elt : DE} {m : Nat → Addr} {S S' : Sto} {H : Hp} {σ : L2.St} {ρ : En} {n : Nat} {d : D} {x : V} {Nx : Hp → Prop} (hK : K = g.K)
    (sr : SR g m H S) (er : ER g m S.length H (L2.wipe σ t.vs) ρ) (r : VR g m S.length H x d) (hn : n < S.length) (h : lcTurn t tst elt ρ n d S = some S')
    (q : ∀ m' H', Ev g m S.length H m' S'.length H' → SR g m' H' S' → Nx H') :
    t.tg K x (L2.wipe σ t.vs) H fun σ2 H2 => L2.wipe σ2 t.vs = L2.wipe σ t.vs ∧ tDb g (fun _ _ _ _ => False) tst σ2 H2 fun b H3 =>
      if b = true then tD g (fun _ _ _ _ => False) elt σ2 H3 fun y H4 => ∃ acc, H4 (m n) = some (.lst acc) ∧ acc.length < sizeLine ∧ Nx (upd H4 (m n) (.lst (acc ++ [y]))) else Nx H3 := by
  unfold lcTurn at h
  cases q1 : t.put ρ d with
  | none => rw [q1] at h; cases h
  | some ρ' =>
    rw [q1] at h
    dsimp only at h
    refine CT.ok hK er r q1 fun σ' er' hw => ?_
    refine ⟨(hw t.vs fun _ z => z).trans (wipe_wipe σ t.vs), m, S, ρ', sr, er', ?_⟩
    cases q2 : tst ρ' S with
    | no => rw [q2] at h; cases h
    | ex e S1 => rw [q2] at h; cases h
    | ok b S1 =>
      rw [q2] at h
      intro m1 H1 e1 s1
      cases b with
      | false =>
        cases h
        exact iteF (q m1 H1 e1 s1)
      | true =>
        refine iteT ?_
        dsimp only at h
        refine ⟨m1, S1, ρ', s1, er'.ev e1, ?_⟩
        cases q3 : elt ρ' S1 with
        | no => rw [q3] at h; cases h
        | ex e S2 => rw [q3] at h; cases h
        | ok y S2 =>
          rw [q3] at h
          dsimp only at h
          intro m2 H2 e2 s2 v rv
          have e12 := e1.trans e2
          have en : m2 n = m n := e12.ag n hn
          unfold pushL at h
          cases q4 : S2[n]? with
          | none => rw [q4] at h; cases h
          | some o =>
            rw [q4] at h
            cases o with
            | lst acc =>
              dsimp only at h
              by_cases hf : fit (acc.length + 1) = true
              · rw [if_pos hf] at h
                cases h
                obtain ⟨hl, vs, hv, rs⟩ := s2.atL q4
                have z := fit_iff.mp hf
                refine ⟨vs, by rw [← en]; exact hv, by rw [rs.length]; omega, ?_⟩
                rw [← en]
                have ew : Ev g m2 S2.length H2 m2 S2.length (upd H2 (m2 n) (.lst (vs ++ [v]))) := Ev.wr (s2.canw hl)
                refine q m2 _ (by rw [List.length_set]; exact e12.trans ew) (s2.wr hl ⟨_, upd_same, ?_⟩)
                exact (rs.append (.cons _ _ _ _ rv .nil)).ev ew
              · rw [if_neg hf] at h; cases h
            | _ => cases h
theorem lc_sub {K : PySem.W.Frag} {it : En → Mo Wk} {t : CT} {tst : En → Mo Bool} {elt : DE} (hK : K = g.K) : ∀ σ H Q, tD g W (cLc it t tst elt) σ H Q →
    tLc (tIt g W it) (t.tg K) (tDb g (fun _ _ _ _ => False) tst) (tD g (fun _ _ _ _ => False) elt) t.vs σ H Q := fun σ H Q ⟨m, S, ρ, sr, er, h⟩ => by
  refine ⟨m, S, ρ, sr, er, h.bind.mono fun w m1 S1 H1 e1 s1 q J ok D hD => ?_⟩
  have er1 := er.ev e1
  have eA : Ev g m1 S1.length H1 (ext m1 S1.length D) (S1.length + 1) (upd H1 D (.lst [])) := Ev.ext (Ev.new hD)
  have sA : SR g (ext m1 S1.length D) (upd H1 D (.lst [])) (S1 ++ [.lst []]) := s1.alloc hD ⟨[], upd_same, .nil⟩
  have lA : (S1 ++ [Ob.lst []]).length = S1.length + 1 := by rw [List.length_append, List.length_singleton]
  have fin : ∀ {m' : Nat → Addr} {S' : Sto} {H' : Hp}, m' S1.length = D → S1.length < S'.length → SR g m' H' S' → PRx g m' S' H' (fun c d H' => W c d σ H') (KD g Q) (.ok (.loc S1.length) S') → Q (.ref D) H' := fun {m' S' H'} ed hl s' p => by
    have := p m' H' Ev.refl s' (.ref (m' S1.length)) (.loc _ hl)
    rw [ed] at this
    exact this
  cases w with
  | items ds =>
    have ok : ItmOk g J m1 S1.length H1 ds := ok
    have q : PRx g m1 S1 H1 (fun c d H' => W c d σ H') (KD g Q) (lcI t tst elt (wipeE ρ t.vs) S1.length ds (S1 ++ [.lst []])) := q
    have q0 := PRx.ev (S' := S1 ++ [Ob.lst []]) (by rw [lA]; exact eA) q
    refine ⟨fun i μ H' => ∃ m' S', μ = ds.length - i ∧ i ≤ ds.length ∧ m' S1.length = D ∧ S1.length < S'.length ∧ Ev g m1 S1.length H1 m' S'.length H' ∧ SR g m' H' S' ∧ PRx g m' S' H' (fun c d H' => W c d σ H') (KD g Q) (lcI t tst elt (wipeE ρ t.vs) S1.length (ds.drop i) S'),
      ⟨ds.length, _, _, by simp, Nat.zero_le _, ext_new, by rw [lA]; exact Nat.lt_succ_self _, by rw [lA]; exact eA, sA, by simpa using q0⟩, ?_⟩
    rintro i μ H' ⟨m', S', rfl, hil, ed, hl, e', s', q'⟩
    obtain ⟨st, gos⟩ := ok i m' S'.length H' e'
    by_cases hlt : i < ds.length
    · have hd : ds[i]? = some ds[i] := List.getElem?_eq_getElem hlt
      obtain ⟨go, yl⟩ := gos _ hd
      rw [List.drop_eq_getElem_cons hlt] at q'
      refine .inr ⟨go, fun H2 => ∃ m2 S2, m2 S1.length = D ∧ S1.length < S2.length ∧ Ev g m1 S1.length H1 m2 S2.length H2 ∧ SR g m2 H2 S2 ∧ PRx g m2 S2 H2 (fun c d H' => W c d σ H') (KD g Q) (lcI t tst elt (wipeE ρ t.vs) S1.length (ds.drop (i + 1)) S2),
        fun H2 ⟨m2, S2, a1, a2, a3, a4, a5⟩ => ⟨ds.length - (i + 1), by omega, m2, S2, rfl, hlt, a1, a2, a3, a4, a5⟩, fun x H'' y => ?_⟩
      obtain ⟨e2, keepS, rx⟩ := yl x H'' y
      have s2 := keepS S' rfl s'
      have q2 := PRx.ev e2 q'
      unfold lcI at q2
      cases z : lcTurn t tst elt (wipeE ρ t.vs) S1.length ds[i] S' with
      | none => rw [z] at q2; exact q2.elim
      | some S5 =>
        rw [z] at q2
        dsimp only at q2
        have erw := (er1.ev (e'.trans e2)).wipe t.vs
        have tk := lcTurn_ok (Nx := fun H2 => ∃ m2 S2, m2 S1.length = D ∧ S1.length < S2.length ∧ Ev g m1 S1.length H1 m2 S2.length H2 ∧ SR g m2 H2 S2 ∧ PRx g m2 S2 H2 (fun c d H' => W c d σ H') (KD g Q) (lcI t tst elt (wipeE ρ t.vs) S1.length (ds.drop (i + 1)) S2))
          hK s2 erw rx hl z fun m6 H6 e6 s6 => ⟨m6, S5, (e6.ag _ hl).trans ed, Nat.lt_of_lt_of_le hl e6.le, (e'.trans e2).trans e6, s6, PRx.ev e6 q2⟩
        rw [ed] at tk
        exact tk
    · have e0 : i = ds.length := by omega
      subst e0
      rw [List.drop_length] at q'
      exact .inl ⟨st (Nat.le_refl _), fin ed hl s' q'⟩
  | view nx k =>
    have ok : VwOk g J m1 S1.length H1 nx := ok
    have q : PRx g m1 S1 H1 (fun c d H' => W c d σ H') (KD g Q) (lcV t tst elt (wipeE ρ t.vs) S1.length nx k 0 (S1 ++ [.lst []])) := q
    have q0 := PRx.ev (S' := S1 ++ [Ob.lst []]) (by rw [lA]; exact eA) q
    refine ⟨fun i μ H' => ∃ m' S', m' S1.length = D ∧ S1.length < S'.length ∧ Ev g m1 S1.length H1 m' S'.length H' ∧ SR g m' H' S' ∧ PRx g m' S' H' (fun c d H' => W c d σ H') (KD g Q) (lcV t tst elt (wipeE ρ t.vs) S1.length nx μ i S'),
      ⟨_, _, _, ext_new, by rw [lA]; exact Nat.lt_succ_self _, by rw [lA]; exact eA, sA, q0⟩, ?_⟩
    rintro i μ H' ⟨m', S', ed, hl, e', s', q'⟩
    obtain ⟨st, gos⟩ := ok i m' H' S' e' s'
    cases μ with
    | zero =>
      unfold lcV at q'
      cases z : nx i S' with
      | none => rw [z] at q'; exact q'.elim
      | some o =>
        rw [z] at q'
        cases o with
        | none => exact .inl ⟨st z, fin ed hl s' q'⟩
        | some _ => exact q'.elim
    | succ μ =>
      unfold lcV at q'
      cases z : nx i S' with
      | none => rw [z] at q'; exact q'.elim
      | some o =>
        rw [z] at q'
        cases o with
        | none => exact .inl ⟨st z, fin ed hl s' q'⟩
        | some d =>
          dsimp only at q'
          obtain ⟨go, yl⟩ := gos d z
          refine .inr ⟨go, fun H2 => ∃ m2 S2, m2 S1.length = D ∧ S1.length < S2.length ∧ Ev g m1 S1.length H1 m2 S2.length H2 ∧ SR g m2 H2 S2 ∧ PRx g m2 S2 H2 (fun c d H' => W c d σ H') (KD g Q) (lcV t tst elt (wipeE ρ t.vs) S1.length nx μ (i + 1) S2),
            fun H2 a => ⟨μ, Nat.lt_succ_self _, a⟩, fun x H'' y => ?_⟩
          obtain ⟨e2, s2, rx⟩ := yl x H'' y
          have q2 := PRx.ev e2 q'
          have erw := (er1.ev (e'.trans e2)).wipe t.vs
          cases z2 : lcTurn t tst elt (wipeE ρ t.vs) S1.length d S' with
          | none => rw [z2] at q2; exact q2.elim
          | some S5 =>
            rw [z2] at q2
            dsimp only at q2
            have tk := lcTurn_ok (Nx := fun H2 => ∃ m2 S2, m2 S1.length = D ∧ S1.length < S2.length ∧ Ev g m1 S1.length H1 m2 S2.length H2 ∧ SR g m2 H2 S2 ∧ PRx g m2 S2 H2 (fun c d H' => W c d σ H') (KD g Q) (lcV t tst elt (wipeE ρ t.vs) S1.length nx μ (i + 1) S2))
              hK s2 erw rx hl z2 fun m6 H6 e6 s6 => ⟨m6, S5, (e6.ag _ hl).trans ed, Nat.lt_of_lt_of_le hl e6.le, (e'.trans e2).trans e6, s6, PRx.ev e6 q2⟩
            rw [ed] at tk
            exact tk
theorem de_lc {elt tg iter : Expr} {ifs : List Expr} {scope : Scope} {own : List (Str × Nat)} {it : En → Mo Wk} {t : CT} {tst : En → Mo Bool} {fe : DE} (hc : X.calm = true) (hK : X.K = g.K) (hN : X.N.Nodup) (hi : PI X tg iter (tIt g W it)) (ok : BlkOk X.N X.env.scope scope own) (hv : own.map (·.2) = t.vs)
    (hg : ∀ (s : Shared) (H : Hp) (C : Addr) (cl : List (Str × Addr)) (fp : List Addr), PG (X.blk s H scope (compEnvC scope cl C X.env) fp) tg (t.tg X.K)) (ht : ∀ (s : Shared) (H : Hp) (C : Addr) (cl : List (Str × Addr)) (fp : List Addr), PTs (X.blk s H scope (compEnvC scope cl C X.env) fp) ifs (tDb g (fun _ _ _ _ => False) tst))
    (he : ∀ (s : Shared) (H : Hp) (C : Addr) (cl : List (Str × Addr)) (fp : List Addr), PE (X.blk s H scope (compEnvC scope cl C X.env) fp) elt (tD g (fun _ _ _ _ => False) fe)) (hs : ∀ x, foldedSetIterable iter X.env x = pure x := by intro _; rfl) :
    PE X (.ListComp elt [⟨tg, iter, ifs, 0⟩] scope pos) (tD g W (cLc it t tst fe)) := by
  have h := pe_lc (pos := pos) hc hN hi ok hg ht he hs
  rw [hv] at h
  exact PE.imp h (lc_sub hK)
theorem ds_setLc (i : Nat) {y : Str} {py spos : Pos} {elt tg iter : Expr} {ifs : List Expr} {scope : Scope} {own : List (Str × Nat)} {it : En → Mo Wk} {t : CT} {tst : En → Mo Bool} {fe : DE} (hc : X.calm = true) (hK : X.K = g.K) (hN : X.N.Nodup)
    (hsw : swapsWith (.ListComp elt [⟨tg, iter, ifs, 0⟩] scope pos) (some (.Name y py)) spos.line X.env = pure true) (hi : PI X tg iter (tIt g W it)) (ok : BlkOk X.N X.env.scope scope own) (hv : own.map (·.2) = t.vs)
    (hg : ∀ (s : Shared) (H : Hp) (C : Addr) (cl : List (Str × Addr)) (fp : List Addr), PG (X.blk s H scope (compEnvC scope cl C X.env) fp) tg (t.tg X.K)) (ht : ∀ (s : Shared) (H : Hp) (C : Addr) (cl : List (Str × Addr)) (fp : List Addr), PTs (X.blk s H scope (compEnvC scope cl C X.env) fp) ifs (tDb g (fun _ _ _ _ => False) tst))
    (he : ∀ (s : Shared) (H : Hp) (C : Addr) (cl : List (Str × Addr)) (fp : List Addr), PE (X.blk s H scope (compEnvC scope cl C X.env) fp) elt (tD g (fun _ _ _ _ => False) fe)) (hy : X.N[i]? = some y := by rfl) (hyl : X.env.scope.names.lookup y = some .local := by rfl) (hs : ∀ x, foldedSetIterable iter X.env x = pure x := by intro _; rfl) :
    PS X (.Assign [.Name y py] (.ListComp elt [⟨tg, iter, ifs, 0⟩] scope pos) spos) (tS g W (cAsg (cLc it t tst fe) (kName i))) := by
  have h := ps_setLc (i := i) (pos := pos) (spos := spos) hc hN hy hyl hsw hi ok hg ht he hs
  rw [hv] at h
  refine PS.imp h fun E σ H ⟨m, S, ρ, sr, er, q⟩ => ?_
  refine lc_sub hK _ _ _ ⟨m, S, ρ, sr, er, (q.bind er).mono fun d m1 S1 H1 e1 s1 p v r => ?_⟩
  exact p _ m1 H1 Ev.refl s1 ((er.ev e1).set r)
/-- no test -/
def cTrue : En → Mo Bool := fun _ S => .ok true S
theorem dts_nil : PTs X [] (tDb g W cTrue) := by
  have h := pts_nil (X := X)
  exact ⟨fun pins s σ H Q I ⟨m, S, ρ, sr, er, q⟩ => h.run pins s σ H Q I (q m H Ev.refl sr)⟩
theorem dts_one (h : PT X c (tDb g W ft)) : PTs X [c] (tDb g W ft) := pts_one h
theorem dg_names : ∀ (is : List Nat) {es : List Expr}, PGs X es (gNames is) → PGs X es (gNames is) := fun _ _ h => h
end
end Sm
end
section
/-! Sm, part E: fields, own classes, calls of defs, the entry of a def. -/
namespace Sm
open PySem PySem.Spec PyProof.Rows L2

/-! ### fields -/
@[irreducible] def few (n : Nat) : Bool := decide (n < 1000)
theorem few_iff {n : Nat} : few n = true ↔ n < 1000 := by
  unfold few
  exact decide_eq_true_iff
/-- which class has which fields -/
abbrev FTab := Nat → Str → Bool
structure TabOk (g : Gx) (T : FTab) : Prop where
  ok : ∀ c f, T c f = true → Cls g.K (g.ct c) ∧ NoAttr g.K (g.ct c) f
def putFD (f : Str) (v : D) : List (Str × D) → List (Str × D)
  | [] => [(f, v)]
  | (h, x) :: r => if h = f then (h, v) :: r else (h, x) :: putFD f v r
def fldO (T : FTab) (f : Str) : Option Ob → Option D
  | some (.ins c fs) => if T c f = true then fs.lookup f else none
  | _ => none
def fldG (T : FTab) (f : Str) : D → Sto → Option D
  | .loc l, S => fldO T f S[l]?
  | _, _ => none
def setO (T : FTab) (f : Str) (v : D) (l : Nat) (S : Sto) : Option Ob → Option Sto
  | some (.ins c fs) => if (T c f && few fs.length) = true then some (S.set l (.ins c (putFD f v fs))) else none
  | _ => none
def setG (T : FTab) (f : Str) (v : D) : D → Sto → Option Sto
  | .loc l, S => setO T f v l S S[l]?
  | _, _ => none
def optD {α : Type} (o : Option α) : Mo α := fun S => match o with
  | some a => .ok a S
  | none => .no
def fldD (T : FTab) (f : Str) (d : D) : Mo D := fun S => optD (fldG T f d S) S
def setD (T : FTab) (f : Str) (v : D) (d : D) : Mo Unit := fun S => match setG T f v d S with
  | some S' => .ok () S'
  | none => .no
section
variable {g : Gx} {m : Nat → Addr} {n : Nat} {H : Hp}
theorem lookup_rel {f : Str} : ∀ {fs' : List (Str × V)} {fs : List (Str × D)} {d : D}, fs'.map (·.1) = fs.map (·.1) → VRs g m n H (fs'.map (·.2)) (fs.map (·.2)) → fs.lookup f = some d → ∃ v, fs'.lookup f = some v ∧ VR g m n H v d
  | [], [], _, _, _, h => by cases h
  | (a, x) :: r', (b, y) :: r, d, hk, hv, h => by
    have hk' : a = b ∧ r'.map (·.1) = r.map (·.1) := by simpa using hk
    obtain ⟨rfl, hk2⟩ := hk'
    cases hv with
    | cons _ _ _ _ r1 rs =>
      rw [List.lookup_cons] at h ⊢
      cases q : f == a with
      | true => rw [q] at h; cases h; exact ⟨x, rfl, r1⟩
      | false => rw [q] at h; exact lookup_rel hk2 rs h
  | [], _ :: _, _, hk, _, _ => by simp at hk
  | _ :: _, [], _, hk, _, _ => by simp at hk
theorem lookup_none {f : Str} : ∀ {fs' : List (Str × V)} {fs : List (Str × D)}, fs'.map (·.1) = fs.map (·.1) → fs.lookup f = none → fs'.lookup f = none
  | [], [], _, _ => rfl
  | (a, x) :: r', (b, y) :: r, hk, h => by
    have hk' : a = b ∧ r'.map (·.1) = r.map (·.1) := by simpa using hk
    obtain ⟨rfl, hk2⟩ := hk'
    rw [List.lookup_cons] at h ⊢
    cases q : f == a with
    | true => rw [q] at h; cases h
    | false => rw [q] at h; exact lookup_none hk2 h
  | [], _ :: _, hk, _ => by simp at hk
  | _ :: _, [], hk, _ => by simp at hk
theorem putF_rel {f : Str} {v : V} {d : D} (rv : VR g m n H v d) : ∀ {fs' : List (Str × V)} {fs : List (Str × D)}, fs'.map (·.1) = fs.map (·.1) → VRs g m n H (fs'.map (·.2)) (fs.map (·.2)) →
    (putF f v fs').map (·.1) = (putFD f d fs).map (·.1) ∧ VRs g m n H ((putF f v fs').map (·.2)) ((putFD f d fs).map (·.2))
  | [], [], _, _ => ⟨rfl, .cons _ _ _ _ rv .nil⟩
  | (a, x) :: r', (b, y) :: r, hk, hv => by
    have hk' : a = b ∧ r'.map (·.1) = r.map (·.1) := by simpa using hk
    obtain ⟨rfl, hk2⟩ := hk'
    cases hv with
    | cons _ _ _ _ r1 rs =>
      unfold putF putFD
      by_cases q : a = f
      · rw [if_pos q, if_pos q]
        exact ⟨by simp [hk2], .cons _ _ _ _ rv rs⟩
      · rw [if_neg q, if_neg q]
        obtain ⟨h1, h2⟩ := putF_rel rv hk2 rs
        exact ⟨by simp [h1], .cons _ _ _ _ r1 h2⟩
  | [], _ :: _, hk, _ => by simp at hk
  | _ :: _, [], hk, _ => by simp at hk
end
section
variable {X : Cx} {g : Gx} {W : WX} {T : FTab} {e o a b c : Expr} {es rest : List Expr} {f fa fb fo : DE} {fs : En → Mo (List D)} {ft : En → Mo Bool} {s t u : DS} {pos apos : Pos} {x nm : Str}
def cFld (T : FTab) (nm : Str) (fo : DE) : DE := fun ρ => fo ρ >>= fldD T nm
theorem fldG_ok {m : Nat → Addr} {S : Sto} {H : Hp} {d x : D} {v : V} (hT : TabOk g T) (sr : SR g m H S) (r : VR g m S.length H v d) (h : fldG T nm d S = some x) :
    ∃ p C dx fs w, v = .ref p ∧ H p = some (.ins C dx fs) ∧ Cls g.K C ∧ NoAttr g.K C nm ∧ fs.lookup nm = some w ∧ VR g m S.length H w x := by
  cases r with
  | loc l hl =>
    have h2 : fldO T nm S[l]? = some x := h
    cases q : S[l]? with
    | none => rw [q] at h2; cases h2
    | some ob =>
      rw [q] at h2
      cases ob with
      | ins c fs =>
        obtain ⟨_, dx, fs', hv, hk, rs⟩ := sr.atI q
        have h3 : (if T c nm = true then fs.lookup nm else none) = some x := h2
        by_cases q1 : T c nm = true
        · rw [if_pos q1] at h3
          obtain ⟨c1, c2⟩ := hT.ok c nm q1
          obtain ⟨w, hw, rw'⟩ := lookup_rel hk rs h3
          exact ⟨m l, g.ct c, dx, fs', w, rfl, hv, c1, c2, hw, rw'⟩
        · rw [if_neg q1] at h3; cases h3
      | _ => cases h2
  | _ => cases h
theorem optD_bind {α β : Type} {m : Nat → Addr} {S : Sto} {H : Hp} {W : XK} {K : β → (Nat → Addr) → Sto → Hp → Prop} {o : Option α} {k : α → Sto → Rz β} (h : PRx g m S H W K ((optD o S).andThen k)) : ∃ a, o = some a ∧ PRx g m S H W K (k a S) := by
  cases o with
  | none => exact h.elim
  | some a => exact ⟨a, rfl, h⟩
theorem de_fld (hT : TabOk g T) (hK : X.K = g.K) (ho : PE X o (tD g W fo)) (hb : attributeBase o nm X.env (eval o X.env) = eval o X.env := by rfl) : PE X (.Attribute o nm pos) (tD g W (cFld T nm fo)) :=
  PE.imp (pe_fld ho hb) fun σ H Q ⟨m, S, ρ, sr, er, h⟩ => by
    rw [hK]
    refine tD.sub sr er h fun d m1 S1 H1 v s1 er1 _ r1 h1 => ?_
    have h2 : PRx g m1 S1 H1 _ (KD g Q) (optD (fldG T nm d S1) S1) := h1
    cases q : fldG T nm d S1 with
    | none => rw [q] at h2; exact h2.elim
    | some x =>
      rw [q] at h2
      obtain ⟨p, C, dx, fs, w, e1, e2, e3, e4, e5, e6⟩ := fldG_ok hT s1 r1 q
      exact ⟨p, C, dx, fs, w, e1, e2, e3, e4, e5, h2 m1 H1 Ev.refl s1 w e6⟩
def cSetF (T : FTab) (nm : Str) (fo fv : DE) : DS := fun ρ S => (fv ρ S).toF ρ fun v S1 => (fo ρ S1).toF ρ fun o S2 => match setG T nm v o S2 with
  | some S3 => .nx ρ S3
  | none => .no
theorem setG_ok {m : Nat → Addr} {S S' : Sto} {H : Hp} {d dv : D} {v w : V} (hT : TabOk g T) (sr : SR g m H S) (r : VR g m S.length H v d) (rv : VR g m S.length H w dv) (h : setG T nm dv d S = some S') :
    ∃ p C dx fs, v = .ref p ∧ H p = some (.ins C dx fs) ∧ Cls g.K C ∧ NoAttr g.K C nm ∧ fs.length < 1000 ∧ Ev g m S.length H m S'.length (upd H p (.ins C dx (putF nm w fs))) ∧ SR g m (upd H p (.ins C dx (putF nm w fs))) S' := by
  cases r with
  | loc l hl =>
    have h2 : setO T nm dv l S S[l]? = some S' := h
    cases q : S[l]? with
    | none => rw [q] at h2; cases h2
    | some ob =>
      rw [q] at h2
      cases ob with
      | ins c fs =>
        obtain ⟨hl, dx, fs', hv, hk, rs⟩ := sr.atI q
        have h3 : (if (T c nm && few fs.length) = true then some (S.set l (.ins c (putFD nm dv fs))) else none) = some S' := h2
        by_cases q1 : (T c nm && few fs.length) = true
        · rw [if_pos q1] at h3
          cases h3
          rw [Bool.and_eq_true] at q1
          obtain ⟨c1, c2⟩ := hT.ok c nm q1.1
          have hlen : fs'.length = fs.length := by
            have := congrArg List.length hk
            simpa using this
          have ew : Ev g m S.length H m S.length (upd H (m l) (.ins (g.ct c) dx (putF nm w fs'))) := Ev.wr (sr.canw hl)
          obtain ⟨p1, p2⟩ := putF_rel (f := nm) rv hk rs
          have sw := sr.wr (u := .ins (g.ct c) dx (putF nm w fs')) (o := .ins c (putFD nm dv fs)) hl ⟨dx, _, upd_same, p1, p2.ev ew⟩
          exact ⟨m l, g.ct c, dx, fs', rfl, hv, c1, c2, by rw [hlen]; exact few_iff.mp q1.2, by rw [List.length_set]; exact ew, sw⟩
        · rw [if_neg q1] at h3; cases h3
      | _ => cases h2
  | _ => cases h
theorem ds_fld {pos' : Pos} {fv : DE} {value : Expr} (hT : TabOk g T) (hK : X.K = g.K) (ho : PE X o (tD g W fo)) (hv : PE X value (tD g W fv)) (hs : swapsWith value (some (.Attribute o nm pos')) pos.line X.env = pure false := by rfl) :
    PS X (.Assign [.Attribute o nm pos'] value pos) (tS g W (cSetF T nm fo fv)) :=
  PS.imp (ps_fld ho hv hs) fun E σ H ⟨m, S, ρ, sr, er, h⟩ => by
    rw [hK]
    refine tD.subF sr er h fun dv m1 S1 H1 v s1 er1 _ r1 h1 => tD.subF s1 er1 h1 fun d m2 S2 H2 w s2 er2 e2 r2 h2 => ?_
    cases q : setG T nm dv d S2 with
    | none => rw [q] at h2; exact h2.elim
    | some S3 =>
      rw [q] at h2
      obtain ⟨p, C, dx, fs, e1, e3, e4, e5, e6, e7, e8⟩ := setG_ok hT s2 r2 (r1.ev e2) q
      exact ⟨p, C, dx, fs, e1, e3, e4, e5, e6, h2 _ m2 _ e7 e8 (er2.ev e7)⟩
def clsD : D → Sto → Option Nat
  | .loc l, S => match S[l]? with
    | some (.ins c _) => some c
    | _ => none
  | _, _ => none
theorem clsD_ok {m : Nat → Addr} {S : Sto} {H : Hp} {d : D} {p C dx : Addr} {fs : List (Str × V)} (sr : SR g m H S) (r : VR g m S.length H (.ref p) d) (hp : H p = some (.ins C dx fs)) (hd : ∃ l, d = .loc l) : ∃ c, clsD d S = some c ∧ C = g.ct c := by
  obtain ⟨l, rfl⟩ := hd
  cases r with
  | loc l hl =>
    have z := sr.ob l S[l] (List.getElem?_eq_getElem hl)
    have q : S[l]? = some S[l] := List.getElem?_eq_getElem hl
    cases e : S[l] with
    | lst ds => rw [e] at z; obtain ⟨_, z, _⟩ := z; rw [hp] at z; cases z
    | dct ds => rw [e] at z; obtain ⟨_, z, _⟩ := z; rw [hp] at z; cases z
    | ins c gs =>
      rw [e] at z q
      obtain ⟨_, _, z, _⟩ := z
      rw [hp] at z
      cases z
      refine ⟨c, ?_, rfl⟩
      unfold clsD
      simp only [q]
theorem fldG_loc {d x : D} {S : Sto} (h : fldG T nm d S = some x) : ∃ l, d = .loc l := by
  cases d with
  | loc l => exact ⟨l, rfl⟩
  | _ => cases h
def cAugF (T : FTab) (nm : Str) (h : D → D → Mo D) (fo fv : DE) : DS := fun ρ S => (fo ρ S).toF ρ fun o S1 => match fldG T nm o S1 with
  | some x => (fv ρ S1).toF ρ fun y S3 => (h x y S3).toF ρ fun z S4 => if clsD o S1 = clsD o S4 then match setG T nm z o S4 with
    | some S5 => .nx ρ S5
    | none => .no else .no
  | none => .no
theorem ds_augF {op : Operator} {tpos : Pos} {fv : DE} {value : Expr} {r : R2} {h : D → D → Mo D} (hT : TabOk g T) (hK : X.K = g.K) (hop : InOp X op r) (hs : S2 g r h) (ho : PE X o (tD g W fo)) (hv : PE X value (tD g W fv)) :
    PS X (.AugAssign (.Attribute o nm tpos) op value pos) (tS g W (cAugF T nm h fo fv)) :=
  PS.imp (ps_fldaug ho hv hop) fun E σ H ⟨m, S, ρ, sr, er, h⟩ => by
    rw [hK]
    refine tD.subF sr er h fun d m1 S1 H1 v s1 er1 _ r1 h1 => ?_
    cases q : fldG T nm d S1 with
    | none => rw [q] at h1; exact h1.elim
    | some x =>
      rw [q] at h1
      obtain ⟨p, C, dx, fs, w, e1, e3, e4, e5, e6, rx⟩ := fldG_ok hT s1 r1 q
      subst e1
      refine ⟨p, C, dx, fs, w, rfl, e3, e4, e5, e6, tD.subF s1 er1 h1 fun y m2 S2 H2 u s2 er2 e2 r2 h2 => ?_⟩
      refine hs m2 S2 H2 _ _ _ _ _ _ s2 (rx.ev e2) r2 ((h2.bind er2).mono fun z m3 S3 H3 ev3 s3 h3 zz rz => ?_)
      have er3 := er2.ev ev3
      have rd := (r1.ev e2).ev ev3
      obtain ⟨c1, k1, k2⟩ := clsD_ok s1 r1 e3 (fldG_loc q)
      by_cases qc : clsD d S1 = clsD d S3
      · rw [if_pos qc] at h3
        cases q2 : setG T nm z d S3 with
        | none => rw [q2] at h3; exact h3.elim
        | some S4 =>
          rw [q2] at h3
          obtain ⟨p', C', dx', fs', a1, a3, a4, a5, a6, a7, a8⟩ := setG_ok hT s3 rd rz q2
          cases a1
          obtain ⟨c2, k3, k4⟩ := clsD_ok s3 rd a3 (fldG_loc q)
          rw [k1, k3] at qc
          cases qc
          subst k2
          subst k4
          exact ⟨dx', fs', a3, a6, h3 _ m3 _ a7 a8 (er3.ev a7)⟩
      · rw [if_neg qc] at h3; exact h3.elim

/-! ### calls of defs -/
/-- what a def of np parameters promises: it does what F does -/
def spF (g : Gx) (np : Nat) (F : List D → Mo D) : Sp := fun vs H Q E => vs.length = np ∧ ∃ m S ds, SR g m H S ∧ VRs g m S.length H vs ds ∧ PRx g m S H E (KD g Q) (F ds S)
/-- a call with np arguments -/
def apF (np : Nat) (F : List D → Mo D) : List D → Mo D := fun ds => if ds.length = np then F ds else bad
theorem apF_ok {np : Nat} {F : List D → Mo D} {m : Nat → Addr} {S : Sto} {H : Hp} {Q : VK} {E : XK} {vs : List V} {ds : List D} (sr : SR g m H S) (r : VRs g m S.length H vs ds) (h : PRx g m S H E (KD g Q) (apF np F ds S)) : spF g np F vs H Q E := by
  unfold apF at h
  by_cases q : ds.length = np
  · rw [if_pos q] at h
    exact ⟨by rw [r.length]; exact q, m, S, ds, sr, r, h⟩
  · rw [if_neg q] at h; exact h.elim
variable {fd : FuncData} {fn : Addr} {k np : Nat} {ps : List Str} {F : List D → Mo D} {p : Pos}
theorem de_fn (G : FnOk X.prog X.w X.K X.mg X.base (L2.CX X.prog X.w) k fn fd ps (spF g np F)) (hr : Room k X.A) (hm : X.mg x = some (.ref fn)) (hk : PySem.W.keepIn X.K (.ref fn) = true) (hb : Binds X.K fd ps []) (tk : Takes X W) (ha : PA X (e :: es) (tDs g W fs))
    (hg : Gl X x := by rfl) (hdb : (x == ("__debug__" : Str)) = false := by decide) (he : starEach (e :: es) X.env = (false, eval e X.env) :: starEach es X.env := by rfl) (hpl : (backTo pos (starEach es X.env)).any (·.1) = false := by rfl) :
    PE X (.Call (.Name x p) (e :: es) [] pos) (tD g W (cCall (apF np F) fs)) :=
  PE.imp (pe_callS G hr hg hm hk hb (fun σ => passAt tk σ) ha hdb he hpl) fun σ H Q ⟨m, S, ρ, sr, er, h⟩ => tDs.sub sr er h fun ds m1 S1 H1 vs s1 _ _ r1 h1 => apF_ok s1 r1 h1
theorem de_fn0 (G : FnOk X.prog X.w X.K X.mg X.base (L2.CX X.prog X.w) k fn fd ps (spF g np F)) (hr : Room k X.A) (hm : X.mg x = some (.ref fn)) (hk : PySem.W.keepIn X.K (.ref fn) = true) (hb : Binds X.K fd ps []) (tk : Takes X W)
    (hg : Gl X x := by rfl) (hdb : (x == ("__debug__" : Str)) = false := by decide) :
    PE X (.Call (.Name x p) [] [] pos) (tD g W (cCall (apF np F) cNil)) := by
  refine ⟨fun pins s σ H Q I ⟨m, S, ρ, sr, er, h⟩ => ?_⟩
  refine wpAny_Call_Name_kw (ld_glob I hg hm ?_ hdb)
  exact PySem.W.callWith_K0 I.kIn hk (run_fnS (us := []) G hr hb (passAt tk σ) I .nil (apF_ok (vs := []) (ds := []) sr .nil h))
/-- with some parameters left to their defaults -/
theorem de_fnD {dvs : List V} {dvals : List Value} {dds : List D} (G : FnOk X.prog X.w X.K X.mg X.base (L2.CX X.prog X.w) k fn fd ps (spF g np F)) (hr : Room k X.A) (hm : X.mg x = some (.ref fn)) (hk : PySem.W.keepIn X.K (.ref fn) = true) (hb : Binds X.K fd ps dvals) (hd : Vals dvs dvals) (hdd : ∀ m n H, VRs g m n H dvs dds) (tk : Takes X W) (ha : PA X (e :: es) (tDs g W fs))
    (hg : Gl X x := by rfl) (hdb : (x == ("__debug__" : Str)) = false := by decide) (he : starEach (e :: es) X.env = (false, eval e X.env) :: starEach es X.env := by rfl) (hpl : (backTo pos (starEach es X.env)).any (·.1) = false := by rfl) :
    PE X (.Call (.Name x p) (e :: es) [] pos) (tD g W (cCall (fun ds => apF np F (ds ++ dds)) fs)) :=
  PE.imp (pe_callSD (E := WE W) G hr hg hm hk hb hd (fun σ => passAt tk σ) ha hdb he hpl) fun σ H Q ⟨m, S, ρ, sr, er, h⟩ => tDs.sub sr er h fun ds m1 S1 H1 vs s1 _ _ r1 h1 => apF_ok s1 (r1.append (hdd _ _ _)) h1

/-! ### methods of own classes -/
/-- the receiver is an instance of class c without a field of that name -/
def insG (c : Nat) (nm : Str) : D → Sto → Bool
  | .loc l, S => match S[l]? with
    | some (.ins c' fs) => decide (c' = c) && (fs.lookup nm).isNone
    | _ => false
  | _, _ => false
def chkI (c : Nat) (nm : Str) (d : D) : Mo Unit := fun S => if insG c nm d S = true then .ok () S else .no
def cMeth (c : Nat) (nm : Str) (np : Nat) (F : List D → Mo D) (fo : DE) (fs : En → Mo (List D)) : DE := fun ρ => do
  let x ← fo ρ; chkI c nm x; let xs ← fs ρ; apF np F (x :: xs)
theorem insG_ok {c : Nat} {m : Nat → Addr} {S : Sto} {H : Hp} {d : D} {v : V} (sr : SR g m H S) (r : VR g m S.length H v d) (h : insG c nm d S = true) : ∃ a dx fs, v = .ref a ∧ H a = some (.ins (g.ct c) dx fs) ∧ fs.lookup nm = none := by
  cases r with
  | loc l hl =>
    unfold insG at h
    cases q : S[l]? with
    | none => simp only [q] at h; cases h
    | some ob =>
      simp only [q] at h
      cases ob with
      | ins c' fs =>
        obtain ⟨_, dx, fs', hv, hk, rs⟩ := sr.atI q
        simp only [Bool.and_eq_true, decide_eq_true_eq, Option.isNone_iff_eq_none] at h
        obtain ⟨rfl, h2⟩ := h
        exact ⟨m l, dx, fs', rfl, hv, lookup_none hk h2⟩
      | _ => cases h
  | _ => cases h
theorem chkI_bind {α : Type} {c : Nat} {m : Nat → Addr} {S : Sto} {H : Hp} {W : XK} {K : α → (Nat → Addr) → Sto → Hp → Prop} {k : Unit → Sto → Rz α} {d : D} (h : PRx g m S H W K ((chkI c nm d S).andThen k)) : insG c nm d S = true ∧ PRx g m S H W K (k () S) := by
  unfold chkI at h
  by_cases q : insG c nm d S = true
  · rw [if_pos q] at h; exact ⟨q, h⟩
  · rw [if_neg q] at h; exact h.elim
def tMethS (C : Addr) (nm : Str) (sp : Sp) (E : L2.St → XK) (ta : TE) (t : TA) : TE := fun σ H Q => ta σ H fun x H1 => ∃ a dx fs, x = .ref a ∧ H1 a = some (.ins C dx fs) ∧ fs.lookup nm = none ∧
  t σ H1 fun vs H2 => sp (x :: vs) H2 Q (E σ)
theorem pe_methS {C : Addr} {pl : Sem Bool} {ta : TE} {t : TA} {sp : Sp} {E : L2.St → XK} {CX : CXT} (he : PE X o ta) (c : Cls X.K C) (hm : Meth X.K C nm fn) (G : FnOk X.prog X.w X.K X.mg X.base CX k fn fd ps sp) (hr : Room k X.A) (hb : Binds X.K fd ps []) (hx : ∀ σ, PassesAt CX X σ (E σ)) (ha : PA X (e :: es) t)
    (hst : starEach (e :: es) X.env = (false, eval e X.env) :: starEach es X.env := by rfl) (hpl : (backTo pos (starEach es X.env)).any (·.1) = false := by rfl)
    (ht : eval (.Call (.Attribute o nm apos) (e :: es) [] pos) X.env = (do
      let ov ← eval o X.env
      standAt apos.atName
      let (f, first) ← holding [ov] (getMethod ov nm pl)
      callWith pos f first (backTo pos (starEach (e :: es) X.env)) (backToKw pos (keywordEach [] X.env))) := by rfl) :
    PE X (.Call (.Attribute o nm apos) (e :: es) [] pos) (tMethS C nm sp E ta t) := by
  refine ⟨fun pins s σ H Q I h => ?_⟩
  refine PySem.W.methodCall_KW (pl := pl) (thn (he.run pins s σ H _ I h) fun u s1 ⟨x, H1, I1, rx, a, dx, fs, ex, ea, l, q⟩ => ?_) ht
  subst ex
  obtain rfl : u = Value.ref a := rx
  refine getmeth_ok I1 ea c hm l ?_
  refine PySem.W.callWith_K (first := [.ref a]) (h₀ := X.base) I.ok.mod.kin hm.kp (thn (ha.run pos pins s1 σ H1 _ I1 q) fun us s2 ⟨vs, H2, I2, r, q2⟩ => ⟨I2.kIn, ?_⟩) hst hpl
  exact run_fnS (us := .ref a :: us) (vs := .ref a :: vs) G hr hb (hx σ) I2 (.cons rfl r) q2
theorem pe_meth0S {C : Addr} {pl : Sem Bool} {ta : TE} {sp : Sp} {E : L2.St → XK} {CX : CXT} (he : PE X o ta) (c : Cls X.K C) (hm : Meth X.K C nm fn) (G : FnOk X.prog X.w X.K X.mg X.base CX k fn fd ps sp) (hr : Room k X.A) (hb : Binds X.K fd ps []) (hx : ∀ σ, PassesAt CX X σ (E σ))
    (ht : eval (.Call (.Attribute o nm apos) [] [] pos) X.env = (do
      let ov ← eval o X.env
      standAt apos.atName
      let (f, first) ← holding [ov] (getMethod ov nm pl)
      callWith pos f first (backTo pos (starEach [] X.env)) (backToKw pos (keywordEach [] X.env))) := by rfl) :
    PE X (.Call (.Attribute o nm apos) [] [] pos) (tMethS C nm sp E ta tNil) := by
  refine ⟨fun pins s σ H Q I h => ?_⟩
  refine PySem.W.methodCall_KW (pl := pl) (thn (he.run pins s σ H _ I h) fun u s1 ⟨x, H1, I1, rx, a, dx, fs, ex, ea, l, q⟩ => ?_) ht
  subst ex
  obtain rfl : u = Value.ref a := rx
  refine getmeth_ok I1 ea c hm l ?_
  exact PySem.W.callWith_K0 (first := [.ref a]) I1.kIn hm.kp (run_fnS (us := [.ref a]) (vs := [.ref a]) G hr hb (hx σ) I1 (.cons rfl .nil) q)
theorem meth_sub {c : Nat} : ∀ σ H Q, tD g W (cMeth c nm np F fo fs) σ H Q → tMethS (g.ct c) nm (spF g np F) (WE W) (tD g W fo) (tDs g W fs) σ H Q := fun σ H Q ⟨m, S, ρ, sr, er, h⟩ =>
  tD.sub sr er h fun d m1 S1 H1 v s1 er1 _ r1 h1 => by
    obtain ⟨q, h2⟩ := chkI_bind h1
    obtain ⟨a, dx, fs', e1, e2, e3⟩ := insG_ok s1 r1 q
    exact ⟨a, dx, fs', e1, e2, e3, tDs.sub s1 er1 h2 fun ds m2 S2 H2 vs s2 _ ev2 r2 h3 => apF_ok s2 (.cons _ _ _ _ (r1.ev ev2) r2) h3⟩
theorem de_meth {c : Nat} {pl : Sem Bool} (hcl : Cls X.K (g.ct c)) (hm : Meth X.K (g.ct c) nm fn) (G : FnOk X.prog X.w X.K X.mg X.base (L2.CX X.prog X.w) k fn fd ps (spF g np F)) (hr : Room k X.A) (hb : Binds X.K fd ps []) (tk : Takes X W) (ho : PE X o (tD g W fo)) (ha : PA X (e :: es) (tDs g W fs))
    (hst : starEach (e :: es) X.env = (false, eval e X.env) :: starEach es X.env := by rfl) (hpl : (backTo pos (starEach es X.env)).any (·.1) = false := by rfl)
    (ht : eval (.Call (.Attribute o nm apos) (e :: es) [] pos) X.env = (do
      let ov ← eval o X.env
      standAt apos.atName
      let (f, first) ← holding [ov] (getMethod ov nm pl)
      callWith pos f first (backTo pos (starEach (e :: es) X.env)) (backToKw pos (keywordEach [] X.env))) := by rfl) :
    PE X (.Call (.Attribute o nm apos) (e :: es) [] pos) (tD g W (cMeth c nm np F fo fs)) := PE.imp (pe_methS ho hcl hm G hr hb (fun σ => passAt tk σ) ha hst hpl ht) meth_sub
theorem de_meth0 {c : Nat} {pl : Sem Bool} (hcl : Cls X.K (g.ct c)) (hm : Meth X.K (g.ct c) nm fn) (G : FnOk X.prog X.w X.K X.mg X.base (L2.CX X.prog X.w) k fn fd ps (spF g np F)) (hr : Room k X.A) (hb : Binds X.K fd ps []) (tk : Takes X W) (ho : PE X o (tD g W fo))
    (ht : eval (.Call (.Attribute o nm apos) [] [] pos) X.env = (do
      let ov ← eval o X.env
      standAt apos.atName
      let (f, first) ← holding [ov] (getMethod ov nm pl)
      callWith pos f first (backTo pos (starEach [] X.env)) (backToKw pos (keywordEach [] X.env))) := by rfl) :
    PE X (.Call (.Attribute o nm apos) [] [] pos) (tD g W (cMeth c nm np F fo cNil)) := PE.imp (pe_meth0S ho hcl hm G hr hb (fun σ => passAt tk σ) ht) fun σ H Q h => by
  obtain ⟨m, S, ρ, sr, er, h⟩ := h
  exact tD.sub sr er h fun d m1 S1 H1 v s1 er1 _ r1 h1 => by
    obtain ⟨q, h2⟩ := chkI_bind h1
    obtain ⟨a, dx, fs', e1, e2, e3⟩ := insG_ok s1 r1 q
    exact ⟨a, dx, fs', e1, e2, e3, apF_ok s1 (.cons _ _ _ _ r1 .nil) h2⟩

/-! ### own classes made -/
def newI (c np : Nat) (F : List D → Mo D) : List D → Mo D := fun ds S => (apF np F (.loc S.length :: ds) (S ++ [.ins c []])).andThen fun r S' => match r with
  | .non => .ok (.loc S.length) S'
  | _ => .no
def tMakeS (C : Addr) (sp : Sp) (E : L2.St → XK) (t : TA) : TE := fun σ H Q => t σ H fun vs H1 => ∀ x dx, H1 x = none → H1 dx = none → dx ≠ x →
  sp (.ref x :: vs) (upd (upd H1 dx (.own x)) x (.ins C dx [])) (fun v H2 => v = .non ∧ Q (.ref x) H2) (E σ)
theorem run_makeS {C : Addr} {sp : Sp} {E : L2.St → XK} {CX : CXT} {pins : List (Addr × Obj)} {σ : L2.St} {H : Hp} {s : Shared} {Q : VK} {us ds : List Value} {vs dvs : List V} (M : Mk X.K C fn) (G : FnOk X.prog X.w X.K X.mg X.base CX k fn fd ps sp) (hr : Room (k + 1) X.A) (hb : Binds X.K fd ps ds) (hd : Vals dvs ds)
    (hx : PassesAt CX X σ (E σ)) (I : Inv X pins σ H s) (r : Vals vs us)
    (h : ∀ x dx, H x = none → H dx = none → dx ≠ x → sp (.ref x :: (vs ++ dvs)) (upd (upd H dx (.own x)) x (.ins C dx [])) (fun v H2 => v = .non ∧ Q (.ref x) H2) (E σ)) :
    wpAny (model X.prog X.w) X.A (call (.ref C) us) (EP X pins σ Q) X.xe s := by
  have hq := h (s.heap.objs.size + 1) s.heap.objs.size (I.hok.fresh (Nat.le_succ _)) (I.hok.fresh (Nat.le_refl _)) (Nat.ne_of_lt (Nat.lt_succ_self _))
  have I2 := Inv.made (C := C) I
  have r2 : Vals (V.ref (s.heap.objs.size + 1) :: (vs ++ dvs)) (Value.ref (s.heap.objs.size + 1) :: (us ++ ds)) := .cons rfl (r.append hd)
  have hl : (Value.ref (s.heap.objs.size + 1) :: us ++ ds).length = ps.length := by
    have e := r2.length
    rw [G.len _ _ _ _ hq] at e
    exact e.symm
  refine wpAny_call (make_map (f := fn) I.kIn M.makes M.init (beq_iff_eq.mp M.fn) (codeAny_mono (G.run _ X.stack _ _ ⟨Value.ref (s.heap.objs.size + 1) :: us, []⟩ (Value.ref (s.heap.objs.size + 1) :: (us ++ ds)) _ _ (E σ) (hr.make C us [])
    (I2.env0.make C us []) (hb _ (Value.ref (s.heap.objs.size + 1) :: us) I2.kIn hl) r2 hq) fun r s' hq' => ?_))
  cases r with
  | error e => exact hx pins _ _ e s' I2 hq'
  | ok fl =>
    cases fl with
    | ret u =>
      obtain ⟨v, H', I3, rv, ev, q3⟩ := I2.after hq'
      subst ev
      exact ⟨rv, ⟨V.ref (s.heap.objs.size + 1), H', I3, rfl, q3⟩⟩
    | next => exact False.elim hq'
    | brk => exact False.elim hq'
    | cont => exact False.elim hq'
theorem newI_ok {c : Nat} {m : Nat → Addr} {S : Sto} {H : Hp} {Q : VK} {E : XK} {vs : List V} {ds : List D} (sr : SR g m H S) (r : VRs g m S.length H vs ds) (h : PRx g m S H E (KD g Q) (newI c np F ds S)) :
    ∀ x dx, H x = none → H dx = none → dx ≠ x → spF g np F (.ref x :: vs) (upd (upd H dx (.own x)) x (.ins (g.ct c) dx [])) (fun v H2 => v = .non ∧ Q (.ref x) H2) E := fun x dx hx hdx ne => by
  have hx' : upd H dx (.own x) x = none := by rw [upd_ne (Ne.symm ne)]; exact hx
  have e1 : Ev g m S.length H m S.length (upd H dx (.own x)) := Ev.new hdx
  have s1 := sr.aside (o := .own x) hdx
  have e2 : Ev g m S.length H (ext m S.length x) (S.length + 1) (upd (upd H dx (.own x)) x (.ins (g.ct c) dx [])) := Ev.ext (e1.trans (Ev.new hx'))
  have s2 := s1.alloc (u := .ins (g.ct c) dx []) (o := .ins c []) hx' ⟨dx, [], upd_same, rfl, .nil⟩
  have lA : (S ++ [Ob.ins c []]).length = S.length + 1 := by rw [List.length_append, List.length_singleton]
  have h2 := (PRx.ev (m' := ext m S.length x) (S' := S ++ [Ob.ins c []]) (by rw [lA]; exact e2) h).bind
  refine apF_ok (S := S ++ [Ob.ins c []]) s2 (.cons _ (.loc S.length) _ _ ?_ (by rw [lA]; exact r.ev e2)) (h2.mono fun d m3 S3 H3 e3 s3 q v rv => ?_)
  · have := VR.loc (g := g) (m := ext m S.length x) (n := (S ++ [Ob.ins c []]).length) (H := upd (upd H dx (.own x)) x (.ins (g.ct c) dx [])) S.length (by rw [lA]; exact Nat.lt_succ_self _)
    rw [ext_new] at this
    exact this
  · cases d with
    | non =>
      cases rv
      have lt : S.length < (S ++ [Ob.ins c []]).length := by rw [lA]; exact Nat.lt_succ_self _
      have q2 := q m3 H3 Ev.refl s3 (.ref (m3 S.length)) (.loc _ (Nat.lt_of_lt_of_le lt e3.le))
      rw [e3.ag _ lt, ext_new] at q2
      exact ⟨rfl, q2⟩
    | _ => exact q.elim
theorem de_new {c : Nat} {dvs : List V} {dvals : List Value} {dds : List D} (M : Mk X.K (g.ct c) fn) (G : FnOk X.prog X.w X.K X.mg X.base (L2.CX X.prog X.w) k fn fd ps (spF g np F)) (hr : Room (k + 1) X.A) (hm : X.mg x = some (.ref (g.ct c))) (hb : Binds X.K fd ps dvals) (hd : Vals dvs dvals) (hdd : ∀ m n H, VRs g m n H dvs dds) (tk : Takes X W) (ha : PA X (e :: es) (tDs g W fs))
    (hg : Gl X x := by rfl) (hdb : (x == ("__debug__" : Str)) = false := by decide) (he : starEach (e :: es) X.env = (false, eval e X.env) :: starEach es X.env := by rfl) (hpl : (backTo pos (starEach es X.env)).any (·.1) = false := by rfl) :
    PE X (.Call (.Name x p) (e :: es) [] pos) (tD g W (cCall (fun ds => newI c np F (ds ++ dds)) fs)) := by
  refine ⟨fun pins s σ H Q I ⟨m, S, ρ, sr, er, h⟩ => ?_⟩
  refine wpAny_Call_Name_kw (ld_glob I hg hm ?_ hdb)
  refine PySem.W.callWith_K (h₀ := X.base) I.ok.mod.kin M.kp (thn (ha.run pos pins s σ H _ I (tDs.sub (Q := fun vs H1 => ∀ x dx, H1 x = none → H1 dx = none → dx ≠ x → spF g np F (.ref x :: (vs ++ dvs)) (upd (upd H1 dx (.own x)) x (.ins (g.ct c) dx [])) (fun v H2 => v = .non ∧ Q (.ref x) H2) (WE W σ)) sr er h
    fun ds m1 S1 H1 vs s1 _ _ r1 h1 => newI_ok s1 (r1.append (hdd _ _ _)) h1)) fun us s1 ⟨vs, H1, I1, r, q⟩ => ⟨I1.kIn, ?_⟩) he hpl
  exact run_makeS (E := WE W) M G hr hb hd (passAt tk σ) I1 r q
theorem de_new0 {c : Nat} (M : Mk X.K (g.ct c) fn) (G : FnOk X.prog X.w X.K X.mg X.base (L2.CX X.prog X.w) k fn fd ps (spF g np F)) (hr : Room (k + 1) X.A) (hm : X.mg x = some (.ref (g.ct c))) (hb : Binds X.K fd ps []) (tk : Takes X W)
    (hg : Gl X x := by rfl) (hdb : (x == ("__debug__" : Str)) = false := by decide) :
    PE X (.Call (.Name x p) [] [] pos) (tD g W (cCall (newI c np F) cNil)) := by
  refine ⟨fun pins s σ H Q I ⟨m, S, ρ, sr, er, h⟩ => ?_⟩
  refine wpAny_Call_Name_kw (ld_glob I hg hm ?_ hdb)
  refine PySem.W.callWith_K0 I.kIn M.kp (run_makeS (us := []) (vs := []) (E := WE W) M G hr hb .nil (passAt tk σ) I .nil ?_)
  exact newI_ok (vs := []) (ds := []) sr .nil h
/-- by the level: F k for a body that has Room k -/
def upK (k : Nat) (h : Nat → List D → Mo D) : List D → Mo D := match k with
  | 0 => fun _ => bad
  | j + 1 => h j
theorem de_upK {k : Nat} {h : Nat → List D → Mo D} (h0 : ∀ j, k = j + 1 → PE X a (tD g W (cCall (h j) fs))) (hn : ∃ t, PA X es t) : PE X a (tD g W (cCall (upK k h) fs)) ∨ k = 0 := by
  cases k with
  | zero => exact .inr rfl
  | succ j => exact .inl (h0 j rfl)

/-! ### the entry of a def -/
def startE (n : Nat) (ds : List D) : En := ds.map some ++ List.replicate (n - ds.length) none
def Fz.toR : Fz → Rz D
  | .nx _ S => .ok .non S
  | .ret d S => .ok d S
  | .ex e _ S => .ex e S
  | _ => .no
def cDef (n : Nat) (s : DS) : List D → Mo D := fun ds S => (s (startE n ds) S).toR
theorem start_er {m : Nat → Addr} {n : Nat} {H : Hp} {N : List Str} {vs : List V} {ds : List D} (r : VRs g m n H vs ds) : ER g m n H (L2.start N vs) (startE N.length ds) := by
  have hl := r.length
  refine ⟨by simp [L2.start, startE, hl], fun i d q => ?_⟩
  unfold startE at q
  by_cases hi : i < ds.length
  · rw [List.getElem?_append_left (by simpa using hi), List.getElem?_map] at q
    cases z : ds[i]? with
    | none => rw [z] at q; cases q
    | some d' =>
      rw [z] at q
      cases q
      obtain ⟨v, hv, rv⟩ := r.get z
      refine ⟨v, ?_, rv⟩
      unfold L2.start
      rw [List.getElem?_append_left (by rw [List.length_map, hl]; exact hi), List.getElem?_map, hv]
      rfl
  · rw [List.getElem?_append_right (by simpa using hi), List.getElem?_replicate] at q
    split at q <;> cases q
theorem fn_sm {P : Program} {w : World} {K : PySem.W.Frag} {mg : Str → Option Value} {base : Heap} {nm qual : Str} {st : Stmt} {fn : Addr} {fd : FuncData} {N ps : List Str} {k : Nat} {s : DS} (F : L2.Fun K nm qual st fn fd) (S : FnScope N ps (defScope st))
    (hbody : ∀ (cdv : Value) (A : Around) (outer : List Env) (s0 : Shared) (H : Hp) (E : XK), Room k (A.deeper (envOfC qual (defScope st) s0.heap.objs.size fn cdv)) →
      PSs (cxOf (L2.CX P w) P w K mg base N qual (defScope st) fn cdv A outer s0 H E) (defBody st) (tS g (fun cls d _ H => E cls d H) s)) :
    FnOk P w K mg base (L2.CX P w) (k + 1) fn fd ps (spF g ps.length (cDef N.length s)) := by
  refine F.okX S (fun vs H Q E h => h.1) fun cdv A outer s0 H vs Q E hr h => ⟨_, hbody cdv A outer s0 H E hr, ?_⟩
  obtain ⟨_, m, S0, ds, sr, r, q⟩ := h
  refine ⟨m, S0, startE N.length ds, sr, start_er r, ?_⟩
  unfold cDef at q
  cases z : s (startE N.length ds) S0 with
  | nx ρ1 S1 => rw [z] at q; exact fun _ m1 H1 e1 s1 _ => q m1 H1 e1 s1 .non .non
  | ret d S1 => rw [z] at q; exact fun v m1 H1 e1 s1 r1 => q m1 H1 e1 s1 v r1
  | ex e ρ1 S1 => rw [z] at q; exact fun c d _ m1 H1 e1 s1 _ x1 => q c d m1 H1 e1 s1 x1
  | brk ρ1 S1 => rw [z] at q; exact q.elim
  | cnt ρ1 S1 => rw [z] at q; exact q.elim
  | no => rw [z] at q; exact q.elim
/-- at level 0 nothing is promised -/
theorem fn_zero {P : Program} {w : World} {K : PySem.W.Frag} {mg : Str → Option Value} {base : Heap} {CX : CXT} {fn : Addr} {fd : FuncData} {ps : List Str} {np : Nat} : FnOk P w K mg base CX 0 fn fd ps (spF g np fun _ => bad) :=
  ⟨fun _ _ _ _ h => by obtain ⟨_, _, _, _, _, _, h⟩ := h; exact h.elim, fun _ _ _ _ _ _ _ _ _ _ _ _ _ h => by obtain ⟨_, _, _, _, _, _, h⟩ := h; exact h.elim⟩
end
end Sm
end
section
/-! Sm, part F: what the operations do with data. -/
namespace Sm
open PySem PySem.Spec PyProof.Rows L2

section
variable {X : Cx} {g : Gx}
theorem OpR.imp {f : Value → Value → Sem Value} {r r' : R2} (h : OpR X f r) (i : ∀ x y H Q, r' x y H Q → r x y H Q) : OpR X f r' := fun pins s σ H x y v u Q I rx ry q => h pins s σ H x y v u Q I rx ry (i _ _ _ _ q)

/-! ### + -/
def joinL (xs ys : List D) (S : Sto) : Rz D := if fit (xs.length + ys.length) = true then .ok (.loc S.length) (S ++ [.lst (xs ++ ys)]) else .no
def addO (S : Sto) : Option Ob → Option Ob → Rz D
  | some (.lst xs), some (.lst ys) => joinL xs ys S
  | _, _ => .no
def addD : D → D → Mo D
  | .int i, .int j => pure (.int (i + j))
  | .str x, .str y => fun S => if fit (x.length + y.length) = true then .ok (.str (x ++ y)) S else .no
  | .tup xs, .tup ys => fun S => if fit (xs.length + ys.length) = true then .ok (.tup (xs ++ ys)) S else .no
  | .loc l, .loc l' => fun S => addO S S[l]? S[l']?
  | _, _ => bad
def rAddA (K : PySem.W.Frag) : R2 := fun x y H Q => (∃ i j, x = .int i ∧ y = .int j ∧ Q (.int (i + j)) H) ∨ (∃ i j, x = .str i ∧ y = .str j ∧ i.length + j.length ≤ sizeLine ∧ Q (.str (i ++ j)) H) ∨ rCatA K x y H Q ∨ rCat x y H Q
theorem op_addA : OpR X (binaryOp .Add) (rAddA X.K) := op_add.or (op_add_str.or (op_catA.or op_cat))
theorem add_ok : S2 g (rAddA g.K) addD := fun m S H x y d e Q W sr rx ry h => by
  cases rx with
  | int i => cases ry with
    | int j => exact .inl ⟨i, j, rfl, rfl, h.here sr _ (.int _)⟩
    | _ => exact h.elim
  | str a => cases ry with
    | str b =>
      have h2 : PRx g m S H W (KD g Q) (if fit (a.length + b.length) = true then (Rz.ok (D.str (a ++ b)) S : Rz D) else .no) := h
      by_cases q : fit (a.length + b.length) = true
      · rw [if_pos q] at h2
        exact .inr (.inl ⟨a, b, rfl, rfl, fit_iff.mp q, h2.here sr _ (.str _)⟩)
      · rw [if_neg q] at h2; exact h2.elim
    | _ => exact h.elim
  | tup a xs ds hq rs => cases ry with
    | tup b ys es hq' rs' =>
      have h2 : PRx g m S H W (KD g Q) (if fit (ds.length + es.length) = true then (Rz.ok (D.tup (ds ++ es)) S : Rz D) else .no) := h
      by_cases q : fit (ds.length + es.length) = true
      · rw [if_pos q] at h2
        refine .inr (.inr (.inl ⟨a, b, xs, ys, rfl, rfl, hq, hq', by rw [rs.length, rs'.length]; exact fit_iff.mp q, fun e => ?_, fun _ e => ?_, fun _ _ => tup_new sr (rs.append rs') h2⟩))
        · subst e
          cases rs
          exact h2.here sr _ (.tup b ys es hq' rs')
        · subst e
          cases rs'
          rw [List.append_nil] at h2
          exact h2.here sr _ (.tup a xs ds hq rs)
      · rw [if_neg q] at h2; exact h2.elim
    | _ => exact h.elim
  | loc l hl => cases ry with
    | loc l' hl' =>
      have h2 : PRx g m S H W (KD g Q) (addO S S[l]? S[l']?) := h
      cases q : S[l]? with
      | none => rw [q] at h2; exact h2.elim
      | some ob =>
        rw [q] at h2
        cases ob with
        | lst ds =>
          cases q' : S[l']? with
          | none => rw [q'] at h2; exact h2.elim
          | some ob' =>
            rw [q'] at h2
            cases ob' with
            | lst es =>
              obtain ⟨_, xs, hx, rs⟩ := sr.atL q
              obtain ⟨_, ys, hy, rs'⟩ := sr.atL q'
              have h3 : PRx g m S H W (KD g Q) (if fit (ds.length + es.length) = true then (Rz.ok (D.loc S.length) (S ++ [.lst (ds ++ es)]) : Rz D) else .no) := h2
              by_cases qf : fit (ds.length + es.length) = true
              · rw [if_pos qf] at h3
                exact .inr (.inr (.inr ⟨m l, m l', xs, ys, rfl, rfl, hx, hy, by rw [rs.length, rs'.length]; exact fit_iff.mp qf, lst_new sr (rs.append rs') h3⟩))
              · rw [if_neg qf] at h3; exact h3.elim
            | _ => exact h2.elim
        | _ => exact h2.elim
    | _ => exact h.elim
  | _ => exact h.elim
theorem de_add {a b : Expr} {fa fb : DE} {W : WX} {pos : Pos} (hK : X.K = g.K) (ha : PE X a (tD g W fa)) (hb : PE X b (tD g W fb)) : PE X (.BinOp a .Add b pos) (tD g W (cOp addD fa fb)) := de_op op_addA (by rw [hK]; exact add_ok) ha hb

/-! ### other arithmetic -/
def intOp (C : Int → Int → Bool) (f : Int → Int → D) : D → D → Mo D
  | .int i, .int j => fun S => if C i j = true then .ok (f i j) S else .no
  | _, _ => bad
theorem intOp_ok {C : Int → Int → Bool} {P : Int → Int → Prop} {f : Int → Int → D} {fv : Int → Int → V} (hC : ∀ i j, C i j = true → P i j) (hf : ∀ i j m n H, VR g m n H (fv i j) (f i j)) : S2 g (rI P fv) (intOp C f) := fun m S H x y d e Q W sr rx ry h => by
  cases rx with
  | int i => cases ry with
    | int j =>
      have h2 : PRx g m S H W (KD g Q) (if C i j = true then (Rz.ok (f i j) S : Rz D) else .no) := h
      by_cases q : C i j = true
      · rw [if_pos q] at h2
        exact ⟨i, j, rfl, rfl, hC i j q, h2.here sr _ (hf i j _ _ _)⟩
      · rw [if_neg q] at h2; exact h2.elim
    | _ => exact h.elim
  | _ => exact h.elim
def intOp0 (f : Int → Int → D) : D → D → Mo D
  | .int i, .int j => pure (f i j)
  | _, _ => bad
theorem intOp0_ok {f : Int → Int → D} {fv : Int → Int → V} (hf : ∀ i j m n H, VR g m n H (fv i j) (f i j)) : S2 g (rI0 fv) (intOp0 f) := fun m S H x y d e Q W sr rx ry h => by
  cases rx with
  | int i => cases ry with
    | int j => exact ⟨i, j, rfl, rfl, h.here sr _ (hf i j _ _ _)⟩
    | _ => exact h.elim
  | _ => exact h.elim
abbrev subD : D → D → Mo D := intOp0 fun i j => .int (i - j)
instance decCMul (i j : Int) : Decidable (CMul i j) := inferInstanceAs (Decidable ((-(2 ^ 64) < i ∧ i < 2 ^ 64) ∨ (-(2 ^ 64) < j ∧ j < 2 ^ 64)))
instance decCMulW (i j : Int) : Decidable (CMulW i j) := inferInstanceAs (Decidable (i.natAbs.log2 + j.natAbs.log2 < 1000000))
/-- a product that the model can hold -/
@[irreducible] def okMul (i j : Int) : Bool := decide (CMul i j) || decide (CMulW i j)
@[irreducible] def okDiv (_ j : Int) : Bool := decide (j ≠ 0) && decide (j.natAbs.log2 < 9000)
@[irreducible] def okMod (_ j : Int) : Bool := decide (0 < j)
@[irreducible] def okPow (i j : Int) : Bool := decide (0 ≤ j) && (decide (j ≤ 1000000) && decide (i.natAbs < 2 ^ 64))
@[irreducible] def okShr (_ j : Int) : Bool := decide (0 ≤ j)
theorem okMul_iff {i j : Int} : okMul i j = true ↔ (CMul i j ∨ CMulW i j) := by unfold okMul; simp
theorem okDiv_iff {i j : Int} : okDiv i j = true ↔ (j ≠ 0 ∧ j.natAbs.log2 < 9000) := by unfold okDiv; simp
theorem okMod_iff {i j : Int} : okMod i j = true ↔ 0 < j := by unfold okMod; simp
theorem okPow_iff {i j : Int} : okPow i j = true ↔ (0 ≤ j ∧ j ≤ 1000000 ∧ i.natAbs < 2 ^ 64) := by unfold okPow; simp only [Bool.and_eq_true, decide_eq_true_eq]
theorem okShr_iff {i j : Int} : okShr i j = true ↔ 0 ≤ j := by unfold okShr; simp
abbrev mulD : D → D → Mo D := intOp okMul fun i j => .int (i * j)
abbrev fdivD : D → D → Mo D := intOp okDiv fun i j => .int (i.fdiv j)
abbrev modD : D → D → Mo D := intOp okMod fun i j => .int (i % j)
abbrev powD : D → D → Mo D := intOp okPow fun i j => .int (i ^ j.toNat)
abbrev shrD : D → D → Mo D := intOp okShr fun i j => .int (i / 2 ^ j.toNat)
abbrev andD : D → D → Mo D := intOp0 fun i j => .int (Builtin.bitAnd i j)
theorem op_fdivA : OpR X (binaryOp .FloorDiv) (rI (fun _ j => j ≠ 0 ∧ j.natAbs.log2 < 9000) fun i j => .int (i.fdiv j)) := opI fun _ _ _ _ _ _ _ hc q => floordiv_int hc.1 q (.inl (PyProof.noPylong_of_log2 hc.2))
theorem op_mulA : OpR X (binaryOp .Mult) (rI (fun i j => CMul i j ∨ CMulW i j) fun i j => .int (i * j)) := opI fun _ _ _ _ _ _ _ hc q => mul_int q (hc.elim CMul.ok CMulW.ok)
variable {a b : Expr} {fa fb : DE} {W : WX} {pos : Pos}
theorem de_sub (ha : PE X a (tD g W fa)) (hb : PE X b (tD g W fb)) : PE X (.BinOp a .Sub b pos) (tD g W (cOp subD fa fb)) := de_op op_sub (intOp0_ok fun _ _ _ _ _ => .int _) ha hb
theorem de_mul (ha : PE X a (tD g W fa)) (hb : PE X b (tD g W fb)) : PE X (.BinOp a .Mult b pos) (tD g W (cOp mulD fa fb)) := de_op op_mulA (intOp_ok (fun _ _ => okMul_iff.mp) fun _ _ _ _ _ => .int _) ha hb
theorem de_fdiv (ha : PE X a (tD g W fa)) (hb : PE X b (tD g W fb)) : PE X (.BinOp a .FloorDiv b pos) (tD g W (cOp fdivD fa fb)) := de_op op_fdivA (intOp_ok (fun _ _ => okDiv_iff.mp) fun _ _ _ _ _ => .int _) ha hb
theorem de_mod (ha : PE X a (tD g W fa)) (hb : PE X b (tD g W fb)) : PE X (.BinOp a .Mod b pos) (tD g W (cOp modD fa fb)) := de_op op_mod (intOp_ok (fun _ _ => okMod_iff.mp) fun _ _ _ _ _ => .int _) ha hb
theorem de_pow (ha : PE X a (tD g W fa)) (hb : PE X b (tD g W fb)) : PE X (.BinOp a .Pow b pos) (tD g W (cOp powD fa fb)) := de_op op_pow (intOp_ok (fun _ _ => okPow_iff.mp) fun _ _ _ _ _ => .int _) ha hb
theorem de_shr (ha : PE X a (tD g W fa)) (hb : PE X b (tD g W fb)) : PE X (.BinOp a .RShift b pos) (tD g W (cOp shrD fa fb)) := de_op op_shr (intOp_ok (fun _ _ => okShr_iff.mp) fun _ _ _ _ _ => .int _) ha hb
theorem de_band (ha : PE X a (tD g W fa)) (hb : PE X b (tD g W fb)) : PE X (.BinOp a .BitAnd b pos) (tD g W (cOp andD fa fb)) := de_op op_and (intOp0_ok fun _ _ _ _ _ => .int _) ha hb
def negD : D → Mo D
  | .int i => pure (.int (-i))
  | _ => bad
theorem de_neg (ha : PE X a (tD g W fa)) : PE X (.UnaryOp .USub a pos) (tD g W (cUn negD fa)) := de_un un_neg (fun m S H x d Q W sr rx h => by
  cases rx with
  | int i => exact ⟨i, rfl, h.here sr _ (.int _)⟩
  | _ => exact h.elim) ha

/-! ### comparisons -/
abbrev ltI : D → D → Mo D := intOp0 fun i j => .bl (decide (i < j))
abbrev leI : D → D → Mo D := intOp0 fun i j => .bl (decide (i ≤ j))
abbrev gtI : D → D → Mo D := intOp0 fun i j => .bl (decide (j < i))
abbrev geI : D → D → Mo D := intOp0 fun i j => .bl (decide (j ≤ i))
theorem lt_ok : S2 g (rI0 fun i j => .bl (decide (i < j))) ltI := intOp0_ok fun _ _ _ _ _ => .bl _
theorem le_ok : S2 g (rI0 fun i j => .bl (decide (i ≤ j))) leI := intOp0_ok fun _ _ _ _ _ => .bl _
theorem gt_ok : S2 g (rI0 fun i j => .bl (decide (j < i))) gtI := intOp0_ok fun _ _ _ _ _ => .bl _
theorem ge_ok : S2 g (rI0 fun i j => .bl (decide (j ≤ i))) geI := intOp0_ok fun _ _ _ _ _ => .bl _
def isNone : D → D → Mo D
  | .non, .non => pure (.bl true)
  | .bl _, .non => pure (.bl false)
  | .int _, .non => pure (.bl false)
  | .str _, .non => pure (.bl false)
  | .tup _, .non => pure (.bl false)
  | .lsc _, .non => pure (.bl false)
  | .loc _, .non => pure (.bl false)
  | .cls _, .non => pure (.bl false)
  | .fnc _, .non => pure (.bl false)
  | .ty _, .non => pure (.bl false)
  | _, _ => bad
def notB : D → Mo D
  | .bl b => pure (.bl (!b))
  | _ => bad
def notNone (d e : D) : Mo D := isNone d e >>= notB
theorem isN_ok : S2 g (fun x y H Q => y = .non ∧ Q (.bl (decide (x = .non))) H) isNone := fun m S H x y d e Q W sr rx ry h => by
  cases ry with
  | non => cases rx <;> exact ⟨rfl, h.here sr _ (.bl _)⟩
  | _ => cases rx <;> exact h.elim
theorem notN_ok : S2 g (fun x y H Q => y = .non ∧ Q (.bl (!decide (x = .non))) H) notNone := fun m S H x y d e Q W sr rx ry h => by
  cases ry with
  | non => cases rx <;> exact ⟨rfl, h.here sr _ (.bl _)⟩
  | _ => cases rx <;> exact h.elim

/-! ### == of data -/
def flatD : D → Bool
  | .non => true
  | .bl _ => true
  | .int _ => true
  | .str _ => true
  | _ => false
def eqF : D → D → Bool
  | .non, .non => true
  | .bl a, .bl b => a == b
  | .bl a, .int b => (if a then 1 else 0) == b
  | .int a, .bl b => a == (if b then 1 else 0)
  | .int a, .int b => a == b
  | .str a, .str b => a == b
  | _, _ => false
theorem flat_rel {m : Nat → Addr} {n : Nat} {H : Hp} {x : V} {d : D} (r : VR g m n H x d) (h : flatD d = true) : flatV x = true := by
  cases r <;> first | rfl | cases h
theorem flats_rel {m : Nat → Addr} {n : Nat} {H : Hp} : ∀ {xs : List V} {ds : List D}, VRs g m n H xs ds → ds.all flatD = true → xs.all flatV = true
  | _, _, .nil, _ => rfl
  | _, _, .cons x d xs ds r rs, h => by
    rw [List.all_cons, Bool.and_eq_true] at h
    rw [List.all_cons, flat_rel r h.1, flats_rel rs h.2]
    rfl
theorem eqF_rel {m : Nat → Addr} {n : Nat} {H : Hp} {x y : V} {d e : D} (rx : VR g m n H x d) (ry : VR g m n H y e) (hx : flatD d = true) (hy : flatD e = true) : eqV x y = eqF d e := by
  cases rx <;> first | (cases hx; done) | skip
  all_goals (cases ry <;> first | rfl | (cases hy; done))

/-! ### == -/
def lstO : Option Ob → Option (List D)
  | some (.lst xs) => some xs
  | _ => none
/-- the items of a list -/
def lstS (S : Sto) : D → Option (List D)
  | .lsc xs => some xs
  | .loc l => lstO S[l]?
  | _ => none
def scalF (d e : D) : Option Bool := if (flatD d && flatD e) = true then some (eqF d e) else none
def eqAll (f : D → D → Option Bool) : List D → List D → Option Bool
  | x :: xs, y :: ys => match f x y, eqAll f xs ys with
    | some a, some b => some (a && b)
    | _, _ => none
  | _, _ => some true
def sameI : D → D → Option Bool
  | .loc l, .loc l' => if l = l' then some true else none
  | _, _ => none
def eqL (f : D → D → Option Bool) (S : Sto) (d e : D) : Option Bool := match lstS S d, lstS S e with
  | some xs, some ys => if xs.length = ys.length then eqAll f xs ys else some false
  | some _, none => if flatD e = true then some false else none
  | none, some _ => if flatD d = true then some false else none
  | none, none => sameI d e
def eqC (f : D → D → Option Bool) (S : Sto) : D → D → Option Bool
  | .tup xs, .tup ys => (eqAll f xs ys).map fun b => b && decide (xs.length = ys.length)
  | .tup _, e => if (flatD e || (lstS S e).isSome) = true then some false else none
  | d, .tup _ => if (flatD d || (lstS S d).isSome) = true then some false else none
  | d, e => eqL f S d e
def eqN (S : Sto) : Nat → D → D → Option Bool
  | 0, d, e => scalF d e
  | n + 1, d, e => match scalF d e with
    | some b => some b
    | none => eqC (eqN S n) S d e
def okTop (S : Sto) : D → Bool
  | .tup _ => true
  | d => flatD d || (lstS S d).isSome
def eqQ (d e : D) (S : Sto) : Option Bool := if (okTop S d && okTop S e) = true then eqN S 60 d e else none
def eqD (d e : D) : Mo D := fun S => match eqQ d e S with
  | some b => .ok (.bl b) S
  | none => .no
def neD (d e : D) : Mo D := fun S => match eqQ d e S with
  | some b => .ok (.bl (!b)) S
  | none => .no
theorem scalF_some {d e : D} {b : Bool} (h : scalF d e = some b) : flatD d = true ∧ flatD e = true ∧ b = eqF d e := by
  unfold scalF at h
  split at h
  · rename_i q
    rw [Bool.and_eq_true] at q
    cases h
    exact ⟨q.1, q.2, rfl⟩
  · cases h
theorem eqAll_get {f : D → D → Option Bool} : ∀ {xs ys : List D} {b : Bool}, eqAll f xs ys = some b → ∃ e : Nat → Bool, (∀ j x y, xs[j]? = some x → ys[j]? = some y → f x y = some (e j)) ∧ b = (List.range (min xs.length ys.length)).all e
  | [], ys, b, h => by
    have : b = true := by cases ys <;> (cases h; rfl)
    subst this
    exact ⟨fun _ => true, fun j x y h => by simp at h, by simp⟩
  | _ :: _, [], b, h => by
    cases h
    exact ⟨fun _ => true, fun j x y _ h => by simp at h, by simp⟩
  | x :: xs, y :: ys, b, h => by
    unfold eqAll at h
    cases q : f x y with
    | none => simp only [q] at h; cases h
    | some a =>
      cases q2 : eqAll f xs ys with
      | none => simp only [q, q2] at h; cases h
      | some c =>
        simp only [q, q2] at h
        cases h
        obtain ⟨e, h1, h2⟩ := eqAll_get q2
        refine ⟨fun j => match j with | 0 => a | j + 1 => e j, fun j x' y' hx hy => ?_, ?_⟩
        · cases j with
          | zero => simp at hx hy; subst hx; subst hy; exact q
          | succ j => exact h1 j x' y' (by simpa using hx) (by simpa using hy)
        · rw [h2]
          show (a && (List.range (min xs.length ys.length)).all e) = _
          rw [List.length_cons, List.length_cons, Nat.succ_min_succ, List.range_succ_eq_map, List.all_cons, List.all_map]
          rfl
section
variable {pins : List (Addr × Obj)} {σ : L2.St} {m : Nat → Addr} {S : Sto} {H : Hp} {s : Shared}
theorem lstS_ok {d : D} {v : V} {xs : List D} (sr : SR g m H S) (r : VR g m S.length H v d) (h : lstS S d = some xs) : ∃ a vs, v = .ref a ∧ SqL g.K H a vs ∧ VRs g m S.length H vs xs := by
  cases r with
  | lsc a vs ds hq rs => cases h; exact ⟨a, vs, rfl, hq.sq, rs⟩
  | loc l hl =>
    have h2 : lstO S[l]? = some xs := h
    cases q : S[l]? with
    | none => rw [q] at h2; cases h2
    | some o =>
      rw [q] at h2
      cases o with
      | lst ys =>
        cases h2
        obtain ⟨_, vs, hv, rs⟩ := sr.atL q
        exact ⟨m l, vs, rfl, SqL.of hv, rs⟩
      | _ => cases h2
  | _ => cases h
theorem eq_same (I : Inv X pins σ H s) (sr : SR g m H S) (hK : X.K = g.K) : ∀ (n : Nat) {d e : D} {b : Bool} {v v' : V}, eqN S n d e = some b → VR g m S.length H v d → VR g m S.length H v' e → v = v' → b = true := by
  have flat : ∀ {d e : D} {b : Bool} {v v' : V}, scalF d e = some b → VR g m S.length H v d → VR g m S.length H v' e → v = v' → b = true := by
    intro d e b v v' h r r' ev
    obtain ⟨h1, h2, rfl⟩ := scalF_some h
    cases r <;> first | (cases h1; done) | (cases r' <;> first | (cases h2; done) | (cases ev; done) | (cases ev; simp [eqF]))
  have all : ∀ (f : D → D → Option Bool), (∀ {d e : D} {b : Bool} {v v' : V}, f d e = some b → VR g m S.length H v d → VR g m S.length H v' e → v = v' → b = true) → ∀ {vs vs' : List V} {xs ys : List D} {b : Bool}, VRs g m S.length H vs xs → VRs g m S.length H vs' ys → vs = vs' → eqAll f xs ys = some b → b = true := by
    intro f hf vs
    induction vs with
    | nil => intro vs' xs ys b r r' ev h; subst ev; cases r; cases r'; cases h; rfl
    | cons v vs ih =>
      intro vs' xs ys b r r' ev h
      subst ev
      cases r with
      | cons _ d _ ds r1 rs =>
        cases r' with
        | cons _ e _ es r1' rs' =>
          unfold eqAll at h
          cases q : f d e with
          | none => simp only [q] at h; cases h
          | some a =>
            cases q2 : eqAll f ds es with
            | none => simp only [q, q2] at h; cases h
            | some c =>
              simp only [q, q2] at h
              cases h
              rw [hf q r1 r1' rfl, ih rs rs' rfl q2]
              rfl
  intro n
  induction n with
  | zero => intro d e b v v' h r r' ev; exact flat h r r' ev
  | succ n ih =>
    intro d e b v v' h r r' ev
    unfold eqN at h
    cases q : scalF d e with
    | some c => rw [q] at h; cases h; exact flat q r r' ev
    | none =>
      rw [q] at h
      dsimp only at h
      have nf : ∀ {d : D} {a : Addr} {v : V}, v = .ref a → VR g m S.length H v d → flatD d = false := by
        intro d a v ev r
        cases r <;> first | rfl | cases ev
      have lists : ∀ {a : Addr} {d e : D}, v = .ref a → VR g m S.length H v d → VR g m S.length H v' e → eqL (eqN S n) S d e = some b → b = true := by
        intro a d e hv r r' h
        unfold eqL at h
        cases q1 : lstS S d with
        | some xs =>
          cases q2 : lstS S e with
          | some ys =>
            simp only [q1, q2] at h
            obtain ⟨a, vs, e1, s1, r1⟩ := lstS_ok sr r q1
            obtain ⟨a', vs', e2, s2, r2⟩ := lstS_ok sr r' q2
            rw [e1, e2] at ev; cases ev
            have := I.list_inj (hK ▸ s1) (hK ▸ s2)
            subst this
            rw [if_pos (by rw [← r1.length, ← r2.length])] at h
            exact all _ ih r1 r2 rfl h
          | none =>
            simp only [q1, q2, nf (ev ▸ hv) r'] at h
            cases h
        | none =>
          cases q2 : lstS S e with
          | some ys =>
            simp only [q1, q2, nf hv r] at h
            cases h
          | none =>
            simp only [q1, q2] at h
            cases d with
            | loc l =>
              cases e with
              | loc l' =>
                have h' : (if l = l' then some true else none) = some b := h
                split at h'
                · cases h'; rfl
                · cases h'
              | _ => cases h
            | _ => cases e <;> cases h
      have tup : ∀ {a : Addr} {vs : List V} {w : V} {e : D}, SqT g.K H a vs → VR g m S.length H w e → w = .ref a → ∀ {ys : List D}, lstS S e = some ys → False := by
        intro a vs w e ht r ew ys hy
        obtain ⟨a', vs', e1, s1, _⟩ := lstS_ok sr r hy
        rw [e1] at ew; cases ew
        obtain ⟨its, _, p, _⟩ := I.tuple (hK ▸ ht)
        obtain ⟨its', _, p', _⟩ := I.list (hK ▸ s1)
        obtain ⟨o, e1, c1, _⟩ := p
        obtain ⟨o', n', e2, c2, _⟩ := p'
        rw [e1] at e2; cases e2
        rw [c1] at c2
        exact absurd c2 (by simp)
      have tup' : ∀ {a : Addr} {vs : List V} {w : V} {e : D}, SqT g.K H a vs → VR g m S.length H w e → w = .ref a → (if (flatD e || (lstS S e).isSome) = true then some false else none) = some b → b = true := by
        intro a vs w e ht r ew h
        rw [nf ew r] at h
        cases q1 : lstS S e with
        | none => rw [q1] at h; cases h
        | some ys => exact (tup ht r ew q1).elim
      have key : ∀ {d e : D}, (∀ xs, d ≠ .tup xs) → (∀ xs, e ≠ .tup xs) → eqC (eqN S n) S d e = eqL (eqN S n) S d e := by
        intro d e h1 h2
        cases d <;> cases e <;> first | rfl | exact absurd rfl (h1 _) | exact absurd rfl (h2 _)
      cases r with
      | tup a vs xs ht rs =>
        cases r' with
        | tup a' vs' ys ht' rs' =>
          cases ev
          have := I.tuple_inj (hK ▸ ht) (hK ▸ ht')
          subst this
          obtain ⟨c, q1, rfl⟩ := Option.map_eq_some_iff.mp (show (eqAll (eqN S n) xs ys).map (fun b => b && decide (xs.length = ys.length)) = some b from h)
          rw [all _ ih rs rs' rfl q1, ← rs.length, ← rs'.length]
          simp
        | loc l hl => exact tup' ht (.loc l hl) ev.symm h
        | lsc a' vs' ys hq rs' => exact tup' ht (.lsc _ _ _ hq rs') ev.symm h
        | cls c => exact tup' ht (.cls c) ev.symm h
        | fnc c => exact tup' ht (.fnc c) ev.symm h
        | _ => cases ev
      | loc l hl =>
        cases r' with
        | tup a' vs' ys ht' rs' => exact tup' ht' (.loc l hl) ev h
        | _ => first | (cases ev; done) | (rw [key (by intro _ z; cases z) (by intro _ z; cases z)] at h; exact lists rfl (.loc l hl) (by first | exact .loc _ (by assumption) | exact .lsc _ _ _ (by assumption) (by assumption) | exact .cls _ | exact .fnc _) h)
      | lsc a vs xs hq rs =>
        cases r' with
        | tup a' vs' ys ht' rs' => exact tup' ht' (.lsc _ _ _ hq rs) ev h
        | _ => first | (cases ev; done) | (rw [key (by intro _ z; cases z) (by intro _ z; cases z)] at h; exact lists rfl (.lsc _ _ _ hq rs) (by first | exact .loc _ (by assumption) | exact .lsc _ _ _ (by assumption) (by assumption) | exact .cls _ | exact .fnc _) h)
      | cls c =>
        cases r' with
        | tup a' vs' ys ht' rs' => exact tup' ht' (.cls c) ev h
        | _ => first | (cases ev; done) | (rw [key (by intro _ z; cases z) (by intro _ z; cases z)] at h; exact lists rfl (.cls c) (by first | exact .loc _ (by assumption) | exact .lsc _ _ _ (by assumption) (by assumption) | exact .cls _ | exact .fnc _) h)
      | fnc c =>
        cases r' with
        | tup a' vs' ys ht' rs' => exact tup' ht' (.fnc c) ev h
        | _ => first | (cases ev; done) | (rw [key (by intro _ z; cases z) (by intro _ z; cases z)] at h; exact lists rfl (.fnc c) (by first | exact .loc _ (by assumption) | exact .lsc _ _ _ (by assumption) (by assumption) | exact .cls _ | exact .fnc _) h)
      | _ => cases r' <;> first | (cases ev; done) | (cases q; done) | (rw [key (by intro _ z; cases z) (by intro _ z; cases z)] at h; cases h)

theorem flat_ne {d : D} {v : V} {n : Nat} {A : Around} {a : Addr} {its : Array Value} {v' : Value} (r : VR g m n H v d) (h : flatD d = true) (rv : RelV v v') (hu : A.units < cLine) :
    (s.heap.IsTuple a its → SeqAt.EqAt A s (.ref a) v' false ∧ SeqAt.EqAt A s v' (.ref a) false ∧ SeqAt.RcAt A s (.ref a) v' false ∧ SeqAt.RcAt A s v' (.ref a) false ∧ SeqAt.RcNeAt A s (.ref a) v' true ∧ SeqAt.RcNeAt A s v' (.ref a) true) ∧
    (s.heap.IsList a its → SeqAt.EqAt A s (.ref a) v' false ∧ SeqAt.EqAt A s v' (.ref a) false ∧ SeqAt.RcAt A s (.ref a) v' false ∧ SeqAt.RcAt A s v' (.ref a) false ∧ SeqAt.RcNeAt A s (.ref a) v' true ∧ SeqAt.RcNeAt A s v' (.ref a) true) := by
  cases r with
  | non => cases rv; exact ⟨fun p => ⟨.tuple_none p hu, .none_tuple p hu, .tuple_none p hu, .none_tuple p hu, .tuple_none p hu, .none_tuple p hu⟩, fun p => ⟨.list_none p hu, .none_list p hu, .list_none p hu, .none_list p hu, .list_none p hu, .none_list p hu⟩⟩
  | bl b => cases rv; exact ⟨fun p => ⟨.tuple_bool _ p hu, .bool_tuple _ p hu, .tuple_bool _ p hu, .bool_tuple _ p hu, .tuple_bool _ p hu, .bool_tuple _ p hu⟩, fun p => ⟨.list_bool _ p hu, .bool_list _ p hu, .list_bool _ p hu, .bool_list _ p hu, .list_bool _ p hu, .bool_list _ p hu⟩⟩
  | int i => obtain ⟨t, rfl⟩ := rv; exact ⟨fun p => ⟨.tuple_int _ _ p hu, .int_tuple _ _ p hu, .tuple_int _ _ p hu, .int_tuple _ _ p hu, .tuple_int _ _ p hu, .int_tuple _ _ p hu⟩, fun p => ⟨.list_int _ _ p hu, .int_list _ _ p hu, .list_int _ _ p hu, .int_list _ _ p hu, .list_int _ _ p hu, .int_list _ _ p hu⟩⟩
  | str i => obtain ⟨t, rfl⟩ := rv; exact ⟨fun p => ⟨.tuple_str _ _ p hu, .str_tuple _ _ p hu, .tuple_str _ _ p hu, .str_tuple _ _ p hu, .tuple_str _ _ p hu, .str_tuple _ _ p hu⟩, fun p => ⟨.list_str _ _ p hu, .str_list _ _ p hu, .list_str _ _ p hu, .str_list _ _ p hu, .list_str _ _ p hu, .str_list _ _ p hu⟩⟩
  | _ => cases h
/-- what two values' equality is, at the place of an item and at the top -/
structure Three (A : Around) (s : Shared) (v w : Value) (b : Bool) : Prop where
  rc : SeqAt.RcAt A s v w b
  ne : SeqAt.RcNeAt A s v w (!b)
theorem flat_eq {d e : D} {b : Bool} {n : Nat} {v w : V} {v' w' : Value} {A : Around} (h : scalF d e = some b) (r : VR g m n H v d) (r' : VR g m n H w e) (rv : RelV v v') (rw' : RelV w w') : SeqAt.EqAt A s v' w' b ∧ Three A s v' w' b := by
  obtain ⟨h1, h2, rfl⟩ := scalF_some h
  refine ⟨?_, ?_, ?_⟩
  · rw [← eqF_rel r r' h1 h2]
    exact eqAt_V rv rw' (flat_rel r h1) (flat_rel r' h2)
  · cases r <;> first | (cases h1; done) | (cases r' <;> first | (cases h2; done) | skip)
    all_goals (try (obtain ⟨t, rfl⟩ := rv)); (try (obtain ⟨t', rfl⟩ := rw')); (try cases rv); (try cases rw')
    · exact .none_none
    · exact .none_bool _
    · exact .none_int _ _
    · exact .none_str _ _
    · exact .bool_none _
    · exact .bool_bool _ _
    · exact .bool_int _ _ _
    · exact .bool_str _ _ _
    · exact .int_none _ _
    · exact .int_bool _ _ _
    · exact .int_int _ _ _ _
    · exact .int_str _ _ _ _
    · exact .str_none _ _
    · exact .str_bool _ _ _
    · exact .str_int _ _ _ _
    · exact .str_str _ _ _ _
  · cases r <;> first | (cases h1; done) | (cases r' <;> first | (cases h2; done) | skip)
    all_goals (try (obtain ⟨t, rfl⟩ := rv)); (try (obtain ⟨t', rfl⟩ := rw')); (try cases rv); (try cases rw')
    · exact .none_none
    · exact .none_bool _
    · exact .none_int _ _
    · exact .none_str _ _
    · exact .bool_none _
    · exact .bool_bool _ _
    · exact .bool_int _ _ _
    · exact .bool_str _ _ _
    · exact .int_none _ _
    · exact .int_bool _ _ _
    · exact .int_int _ _ _ _
    · exact .int_str _ _ _ _
    · exact .str_none _ _
    · exact .str_bool _ _ _
    · exact .str_int _ _ _ _
    · exact .str_str _ _ _ _

theorem items_at {f : D → D → Option Bool} {A : Around} {xs ys : List D} {vs ws : List V} {its its' : List Value} {b : Bool} (hf : ∀ {d e : D} {b : Bool} {v w : V} {v' w' : Value}, f d e = some b → VR g m S.length H v d → VR g m S.length H w e → RelV v v' → RelV w w' → SeqAt.EqAt A s v' w' b)
    (h : eqAll f xs ys = some b) (r1 : VRs g m S.length H vs xs) (r2 : VRs g m S.length H ws ys) (v1 : Vals vs its) (v2 : Vals ws its') :
    ∃ e : Nat → Bool, (∀ j (h1 : j < its.toArray.size) (h2 : j < its'.toArray.size), SeqAt.EqAt A s its.toArray[j] its'.toArray[j] (e j)) ∧ b = (List.range (min its.toArray.size its'.toArray.size)).all e := by
  obtain ⟨e, h1, h2⟩ := eqAll_get h
  have l1 : its.toArray.size = xs.length := by rw [List.size_toArray, ← v1.length, r1.length]
  have l2 : its'.toArray.size = ys.length := by rw [List.size_toArray, ← v2.length, r2.length]
  refine ⟨e, fun j j1 j2 => ?_, by rw [l1, l2]; exact h2⟩
  have j1' : j < xs.length := l1 ▸ j1
  have j2' : j < ys.length := l2 ▸ j2
  obtain ⟨x, hx, rx⟩ := r1.get (List.getElem?_eq_getElem j1')
  obtain ⟨y, hy, ry⟩ := r2.get (List.getElem?_eq_getElem j2')
  obtain ⟨u, hu, ru⟩ := v1.get hx
  obtain ⟨w, hw, rw'⟩ := v2.get hy
  have e1 : its.toArray[j] = u := by
    have : its[j]? = some u := hu
    rw [List.getElem?_eq_some_iff] at this
    obtain ⟨_, this⟩ := this
    simpa using this
  have e2 : its'.toArray[j] = w := by
    have : its'[j]? = some w := hw
    rw [List.getElem?_eq_some_iff] at this
    obtain ⟨_, this⟩ := this
    simpa using this
  rw [e1, e2]
  exact hf (h1 j _ _ (List.getElem?_eq_getElem j1') (List.getElem?_eq_getElem j2')) rx ry ru rw'
/-- the tops of two lists, two tuples -/
theorem lists_at {f : D → D → Option Bool} {A : Around} {xs ys : List D} {vs ws : List V} {a a' : Addr} {b : Bool} (I : Inv X pins σ H s) (hK : X.K = g.K) (hu : A.units < cLine) (hf : ∀ {d e : D} {b : Bool} {v w : V} {v' w' : Value}, f d e = some b → VR g m S.length H v d → VR g m S.length H w e → RelV v v' → RelV w w' → SeqAt.EqAt A.in1 s v' w' b)
    (h : (if xs.length = ys.length then eqAll f xs ys else some false) = some b) (s1 : SqL g.K H a vs) (s2 : SqL g.K H a' ws) (r1 : VRs g m S.length H vs xs) (r2 : VRs g m S.length H ws ys) : Three A s (.ref a) (.ref a') b := by
  obtain ⟨its, v1, p1, _⟩ := I.list (hK ▸ s1)
  obtain ⟨its', v2, p2, _⟩ := I.list (hK ▸ s2)
  have l1 : its.toArray.size = xs.length := by rw [List.size_toArray, ← v1.length, r1.length]
  have l2 : its'.toArray.size = ys.length := by rw [List.size_toArray, ← v2.length, r2.length]
  by_cases hl : xs.length = ys.length
  · rw [if_pos hl] at h
    obtain ⟨e, h1, h2⟩ := items_at hf h r1 r2 v1 v2
    have hm : min its.toArray.size its'.toArray.size = its.toArray.size := by rw [l1, l2, hl]; exact Nat.min_self _
    rw [hm] at h2
    rw [h2]
    exact ⟨.lists p1.isList p2.isList (by rw [l1, l2, hl]) hu h1, .lists p1.isList p2.isList (by rw [l1, l2, hl]) hu h1⟩
  · rw [if_neg hl] at h
    cases h
    have hne : (its.toArray.size != its'.toArray.size) = true := by rw [l1, l2]; simpa using hl
    exact ⟨.lists_lengths p1.isList p2.isList hne hu, .lists_lengths p1.isList p2.isList hne hu⟩
theorem tups_at {f : D → D → Option Bool} {A : Around} {xs ys : List D} {vs ws : List V} {a a' : Addr} {b : Bool} (I : Inv X pins σ H s) (hK : X.K = g.K) (hu : A.units < cLine) (hf : ∀ {d e : D} {b : Bool} {v w : V} {v' w' : Value}, f d e = some b → VR g m S.length H v d → VR g m S.length H w e → RelV v v' → RelV w w' → SeqAt.EqAt A.in1 s v' w' b)
    (h : (eqAll f xs ys).map (fun b => b && decide (xs.length = ys.length)) = some b) (s1 : SqT g.K H a vs) (s2 : SqT g.K H a' ws) (r1 : VRs g m S.length H vs xs) (r2 : VRs g m S.length H ws ys) : Three A s (.ref a) (.ref a') b := by
  obtain ⟨its, v1, p1, _⟩ := I.tuple (hK ▸ s1)
  obtain ⟨its', v2, p2, _⟩ := I.tuple (hK ▸ s2)
  have l1 : its.toArray.size = xs.length := by rw [List.size_toArray, ← v1.length, r1.length]
  have l2 : its'.toArray.size = ys.length := by rw [List.size_toArray, ← v2.length, r2.length]
  obtain ⟨c, hc, rfl⟩ := Option.map_eq_some_iff.mp h
  obtain ⟨e, h1, h2⟩ := items_at hf hc r1 r2 v1 v2
  have eb : (c && decide (xs.length = ys.length)) = ((List.range (min its.toArray.size its'.toArray.size)).all e && its.toArray.size == its'.toArray.size) := by
    rw [h2, l1, l2]
    rfl
  rw [eb]
  exact ⟨.tuples (show s.heap.IsTuple a its.toArray from p1) (show s.heap.IsTuple a' its'.toArray from p2) hu h1, .tuples (show s.heap.IsTuple a its.toArray from p1) (show s.heap.IsTuple a' its'.toArray from p2) hu h1⟩
/-- one level: what is asked of the items, and got -/
theorem eqC_at {n : Nat} {A : Around} {d e : D} {b : Bool} {v w : V} {v' w' : Value} (I : Inv X pins σ H s) (sr : SR g m H S) (hK : X.K = g.K) (hu : A.units < cLine)
    (hf : ∀ {d e : D} {b : Bool} {v w : V} {v' w' : Value}, eqN S n d e = some b → VR g m S.length H v d → VR g m S.length H w e → RelV v v' → RelV w w' → SeqAt.EqAt A.in1 s v' w' b)
    (h : eqC (eqN S n) S d e = some b) (r : VR g m S.length H v d) (r' : VR g m S.length H w e) (rv : RelV v v') (rw' : RelV w w') : (Three A s v' w' b ∧ (v' ≠ w' → SeqAt.EqAt A s v' w' b)) ∨ (b = true ∧ v' = w' ∧ ∃ l, d = .loc l ∧ lstS S d = none) := by
  have three : ∀ {a a' : Addr} {b : Bool}, Three A s (.ref a) (.ref a') b → Three A s (.ref a) (.ref a') b ∧ (Value.ref a ≠ Value.ref a' → SeqAt.EqAt A s (.ref a) (.ref a') b) := fun t => ⟨t, fun ne => .of_refs (fun z => ne (by rw [z])) t.rc⟩
  have lists : eqL (eqN S n) S d e = some b → (Three A s v' w' b ∧ (v' ≠ w' → SeqAt.EqAt A s v' w' b)) ∨ (b = true ∧ v' = w' ∧ ∃ l, d = .loc l ∧ lstS S d = none) := by
    intro h
    unfold eqL at h
    cases q1 : lstS S d with
    | some xs =>
      obtain ⟨a, vs, e1, s1, r1⟩ := lstS_ok sr r q1
      subst e1
      obtain rfl : v' = Value.ref a := rv
      obtain ⟨its, v1, p1, _⟩ := I.list (hK ▸ s1)
      cases q2 : lstS S e with
      | some ys =>
        obtain ⟨a', ws, e2, s2, r2⟩ := lstS_ok sr r' q2
        subst e2
        obtain rfl : w' = Value.ref a' := rw'
        simp only [q1, q2] at h
        exact .inl (three (lists_at I hK hu hf h s1 s2 r1 r2))
      | none =>
        simp only [q1, q2] at h
        by_cases q3 : flatD e = true
        · rw [if_pos q3] at h
          cases h
          obtain ⟨k1, k2, k3, k4, k5, k6⟩ := (flat_ne (s := s) (A := A) r' q3 rw' hu).2 p1.isList
          exact .inl ⟨⟨k3, k5⟩, fun _ => k1⟩
        · rw [if_neg q3] at h; cases h
    | none =>
      cases q2 : lstS S e with
      | some ys =>
        obtain ⟨a', ws, e2, s2, r2⟩ := lstS_ok sr r' q2
        subst e2
        obtain rfl : w' = Value.ref a' := rw'
        obtain ⟨its, v1, p1, _⟩ := I.list (hK ▸ s2)
        simp only [q1, q2] at h
        by_cases q3 : flatD d = true
        · rw [if_pos q3] at h
          cases h
          obtain ⟨k1, k2, k3, k4, k5, k6⟩ := (flat_ne (s := s) (A := A) r q3 rv hu).2 p1.isList
          exact .inl ⟨⟨k4, k6⟩, fun _ => k2⟩
        · rw [if_neg q3] at h; cases h
      | none =>
        simp only [q1, q2] at h
        cases r with
        | loc l hl =>
          cases r' with
          | loc l' hl' =>
            have h' : (if l = l' then some true else none) = some b := h
            split at h'
            · rename_i el
              cases h'
              subst el
              obtain rfl : v' = Value.ref (m l) := rv
              obtain rfl : w' = Value.ref (m l) := rw'
              exact .inr ⟨rfl, rfl, l, rfl, rfl⟩
            · cases h'
          | _ => cases h
        | _ => cases r' <;> cases h
  have tupL : ∀ {a : Addr} {vs : List V} {d : D} {w : V} {w' : Value}, SqT g.K H a vs → VR g m S.length H w d → RelV w w' → (if (flatD d || (lstS S d).isSome) = true then some false else none) = some b → b = false ∧ SeqAt.EqAt A s (.ref a) w' false ∧ SeqAt.EqAt A s w' (.ref a) false ∧ Three A s (.ref a) w' false ∧ Three A s w' (.ref a) false := by
    intro a vs d w w' ht r rr h
    obtain ⟨its, v1, p1, _⟩ := I.tuple (hK ▸ ht)
    have p1' : s.heap.IsTuple a its.toArray := p1
    by_cases q : (flatD d || (lstS S d).isSome) = true
    · rw [if_pos q] at h
      cases h
      by_cases q3 : flatD d = true
      · obtain ⟨k1, k2, k3, k4, k5, k6⟩ := (flat_ne (s := s) (A := A) r q3 rr hu).1 p1'
        exact ⟨rfl, k1, k2, ⟨k3, k5⟩, ⟨k4, k6⟩⟩
      · cases q1 : lstS S d with
        | none => rw [q1] at q; simp [q3] at q
        | some xs =>
          obtain ⟨a', ws, e2, s2, r2⟩ := lstS_ok sr r q1
          subst e2
          obtain rfl : w' = Value.ref a' := rr
          obtain ⟨its', v2, p2, _⟩ := I.list (hK ▸ s2)
          exact ⟨rfl, .tuple_list p1' p2.isList hu, .list_tuple p2.isList p1' hu, ⟨.tuple_list p1' p2.isList hu, .tuple_list p1' p2.isList hu⟩, ⟨.list_tuple p2.isList p1' hu, .list_tuple p2.isList p1' hu⟩⟩
    · rw [if_neg q] at h; cases h
  have key : ∀ {d e : D}, (∀ xs, d ≠ .tup xs) → (∀ xs, e ≠ .tup xs) → eqC (eqN S n) S d e = eqL (eqN S n) S d e := by
    intro d e h1 h2
    cases d <;> cases e <;> first | rfl | exact absurd rfl (h1 _) | exact absurd rfl (h2 _)
  by_cases hd : ∃ xs, d = .tup xs
  · obtain ⟨xs, rfl⟩ := hd
    cases r with
    | tup a vs _ ht rs =>
      obtain rfl : v' = Value.ref a := rv
      by_cases he : ∃ ys, e = .tup ys
      · obtain ⟨ys, rfl⟩ := he
        cases r' with
        | tup a' ws _ ht' rs' =>
          obtain rfl : w' = Value.ref a' := rw'
          exact .inl (three (tups_at I hK hu hf h ht ht' rs rs'))
      · have h' : (if (flatD e || (lstS S e).isSome) = true then some false else none) = some b := by
          cases e <;> first | exact h | exact absurd ⟨_, rfl⟩ he
        obtain ⟨rfl, k1, k2, k3, k4⟩ := tupL ht r' rw' h'
        exact .inl ⟨k3, fun _ => k1⟩
  · by_cases he : ∃ ys, e = .tup ys
    · obtain ⟨ys, rfl⟩ := he
      cases r' with
      | tup a' ws _ ht' rs' =>
        obtain rfl : w' = Value.ref a' := rw'
        have h' : (if (flatD d || (lstS S d).isSome) = true then some false else none) = some b := by
          cases d <;> first | exact h | exact absurd ⟨_, rfl⟩ hd
        obtain ⟨rfl, k1, k2, k3, k4⟩ := tupL ht' r rv h'
        exact .inl ⟨k4, fun _ => k2⟩
    · rw [key (fun xs z => hd ⟨xs, z⟩) (fun xs z => he ⟨xs, z⟩)] at h
      exact lists h
theorem relV_inj {v w : V} {a : Addr} (rv : RelV v (.ref a)) (rw' : RelV w (.ref a)) : v = w := by
  have := rv.abs
  have := rw'.abs
  simp_all [absV]
theorem eqN_at (I : Inv X pins σ H s) (sr : SR g m H S) (hK : X.K = g.K) : ∀ (n : Nat) {A : Around} {d e : D} {b : Bool} {v w : V} {v' w' : Value}, A.units + n < cLine → eqN S n d e = some b → VR g m S.length H v d → VR g m S.length H w e → RelV v v' → RelV w w' → SeqAt.EqAt A s v' w' b := by
  intro n
  induction n with
  | zero => intro A d e b v w v' w' hu h r r' rv rw'; exact (flat_eq h r r' rv rw').1
  | succ n ih =>
    intro A d e b v w v' w' hu h r r' rv rw'
    have h0 := h
    unfold eqN at h
    cases q : scalF d e with
    | some c => rw [q] at h; cases h; exact (flat_eq q r r' rv rw').1
    | none =>
      rw [q] at h
      dsimp only at h
      have hu2 : A.in1.units + n < cLine := by
        show A.units + 1 + n < cLine
        omega
      rcases eqC_at (A := A) I sr hK (by omega) (fun h r r' rv rw' => ih hu2 h r r' rv rw') h r r' rv rw' with ⟨_, k⟩ | ⟨rfl, rfl, _⟩
      · by_cases ev : v' = w'
        · have evw : v = w := by
            have a1 := rv.abs
            have a2 := rw'.abs
            rw [ev, a2] at a1
            exact (Option.some.inj a1).symm
          rw [eq_same I sr hK (n + 1) h0 r r' evw, ev]
          exact .same _
        · exact k ev
      · exact .same _
/-- the relation of two values by the store's data -/
def rEqS (g : Gx) : R2 := fun x y H Q => ∃ m S d e b, SR g m H S ∧ VR g m S.length H x d ∧ VR g m S.length H y e ∧ eqQ d e S = some b ∧ Q (.bl b) H
def rNeS (g : Gx) : R2 := fun x y H Q => ∃ m S d e b, SR g m H S ∧ VR g m S.length H x d ∧ VR g m S.length H y e ∧ eqQ d e S = some b ∧ Q (.bl (!b)) H
theorem eqQ_at (I : Inv X pins σ H s) (sr : SR g m H S) (hK : X.K = g.K) {A : Around} {d e : D} {b : Bool} {v w : V} {v' w' : Value} (hu : A.units + 64 < cLine) (h : eqQ d e S = some b) (r : VR g m S.length H v d) (r' : VR g m S.length H w e) (rv : RelV v v') (rw' : RelV w w') : Three A s v' w' b := by
  unfold eqQ at h
  by_cases ht : (okTop S d && okTop S e) = true
  · rw [if_pos ht, show (60 : Nat) = 59 + 1 from rfl] at h
    unfold eqN at h
    cases q : scalF d e with
    | some c => rw [q] at h; cases h; exact (flat_eq q r r' rv rw').2
    | none =>
      rw [q] at h
      dsimp only at h
      have hu2 : A.in1.units + 59 < cLine := by
        show A.units + 1 + 59 < cLine
        omega
      rcases eqC_at (A := A) I sr hK (by omega) (fun h r r' rv rw' => eqN_at I sr hK 59 hu2 h r r' rv rw') h r r' rv rw' with ⟨k, _⟩ | ⟨_, _, l, rfl, hn⟩
      · exact k
      · rw [Bool.and_eq_true] at ht
        have t1 : (false || (lstS S (.loc l)).isSome) = true := ht.1
        rw [hn] at t1
        cases t1
  · rw [if_neg ht] at h; cases h
end
theorem op_eqA {k : Nat} (hK : X.K = g.K) (hr : Room k X.A) : OpR X (compareOp .Eq) (rEqS g) := fun pins s σ H x y v u Q I rx ry h => by
  obtain ⟨m, S, d, e, b, sr, r1, r2, hq, q⟩ := h
  exact (eqQ_at I sr hK hr.units hq r1 r2 rx ry).rc X.prog X.w _ _ ⟨.bl b, H, I, rfl, q⟩
theorem op_neA {k : Nat} (hK : X.K = g.K) (hr : Room k X.A) : OpR X (compareOp .NotEq) (rNeS g) := fun pins s σ H x y v u Q I rx ry h => by
  obtain ⟨m, S, d, e, b, sr, r1, r2, hq, q⟩ := h
  exact (eqQ_at I sr hK hr.units hq r1 r2 rx ry).ne X.prog X.w _ _ ⟨.bl (!b), H, I, rfl, q⟩
theorem eq_ok : S2 g (rEqS g) eqD := fun m S H x y d e Q W sr rx ry h => by
  unfold eqD at h
  cases z : eqQ d e S with
  | none => rw [z] at h; exact h.elim
  | some b => rw [z] at h; exact ⟨m, S, d, e, b, sr, rx, ry, z, h.here sr _ (.bl _)⟩
theorem ne_ok : S2 g (rNeS g) neD := fun m S H x y d e Q W sr rx ry h => by
  unfold neD at h
  cases z : eqQ d e S with
  | none => rw [z] at h; exact h.elim
  | some b => rw [z] at h; exact ⟨m, S, d, e, b, sr, rx, ry, z, h.here sr _ (.bl _)⟩
end
end Sm
end
section
/-! Sm, part G: subscripts, slices, membership, dicts, built-in functions, methods of lists. -/
namespace Sm
open PySem PySem.Spec PyProof.Rows L2

section
variable {X : Cx} {g : Gx} {W : WX} {a b c e o : Expr} {es : List Expr} {fa fb fc fo : DE} {fs : En → Mo (List D)} {pos : Pos}
def ar1 (h : D → Mo D) : List D → Mo D
  | [d] => h d
  | _ => bad
def ar2 (h : D → D → Mo D) : List D → Mo D
  | [d, e] => h d e
  | _ => bad
theorem SC.one {r : List V → Hp → VK → Prop} {h : D → Mo D} (k : ∀ (m : Nat → Addr) (S : Sto) (H : Hp) (x : V) (d : D) (Q : VK) (W : XK), SR g m H S → VR g m S.length H x d → PRx g m S H W (KD g Q) (h d S) → r [x] H Q) : SC g r (ar1 h) := fun m S H xs ds Q W sr rs p => by
  cases rs with
  | nil => exact p.elim
  | cons x d xs ds rx rs =>
    cases rs with
    | nil => exact k m S H x d Q W sr rx p
    | cons _ _ _ _ _ _ => exact p.elim
theorem SC.two {r : List V → Hp → VK → Prop} {h : D → D → Mo D} (k : ∀ (m : Nat → Addr) (S : Sto) (H : Hp) (x y : V) (d e : D) (Q : VK) (W : XK), SR g m H S → VR g m S.length H x d → VR g m S.length H y e → PRx g m S H W (KD g Q) (h d e S) → r [x, y] H Q) : SC g r (ar2 h) := fun m S H xs ds Q W sr rs p => by
  cases rs with
  | nil => exact p.elim
  | cons x d xs ds rx rs =>
    cases rs with
    | nil => exact p.elim
    | cons y e xs ds ry rs =>
      cases rs with
      | nil => exact k m S H x y d e Q W sr rx ry p
      | cons _ _ _ _ _ _ => exact p.elim
theorem SM.none {r : V → List V → Hp → VK → Prop} {h : D → List D → Mo D} (k : ∀ (m : Nat → Addr) (S : Sto) (H : Hp) (x : V) (d : D) (Q : VK) (W : XK), SR g m H S → VR g m S.length H x d → PRx g m S H W (KD g Q) (h d [] S) → r x [] H Q) (hb : ∀ d e es S, h d (e :: es) S = .no) : SM g r h := fun m S H x xs d ds Q W sr rx rs p => by
  cases rs with
  | nil => exact k m S H x d Q W sr rx p
  | cons _ _ _ _ _ _ => rw [hb] at p; exact p.elim
def am0 (h : D → Mo D) : D → List D → Mo D := fun d ds => match ds with
  | [] => h d
  | _ :: _ => bad
def am1 (h : D → D → Mo D) : D → List D → Mo D := fun d ds => ar1 (h d) ds
theorem SM.zero {r : V → List V → Hp → VK → Prop} {h : D → Mo D} (k : ∀ (m : Nat → Addr) (S : Sto) (H : Hp) (x : V) (d : D) (Q : VK) (W : XK), SR g m H S → VR g m S.length H x d → PRx g m S H W (KD g Q) (h d S) → r x [] H Q) : SM g r (am0 h) := SM.none k fun _ _ _ _ => rfl
theorem SM.one {r : V → List V → Hp → VK → Prop} {h : D → D → Mo D} (k : ∀ (m : Nat → Addr) (S : Sto) (H : Hp) (x y : V) (d e : D) (Q : VK) (W : XK), SR g m H S → VR g m S.length H x d → VR g m S.length H y e → PRx g m S H W (KD g Q) (h d e S) → r x [y] H Q) : SM g r (am1 h) := fun m S H x xs d ds Q W sr rx rs p => by
  cases rs with
  | nil => exact p.elim
  | cons y e xs ds ry rs =>
    cases rs with
    | nil => exact k m S H x y d e Q W sr rx ry p
    | cons _ _ _ _ _ _ => exact p.elim

/-! ### subscripts -/
def keyD : D → Option Key
  | .int i => some (.inl i)
  | .str x => some (.inr x)
  | _ => none
theorem keyD_ok {m : Nat → Addr} {n : Nat} {H : Hp} {x : V} {d : D} {k : Key} (r : VR g m n H x d) (h : keyD d = some k) : x = kV k := by
  cases r <;> first | (cases h; rfl) | cases h
def valD (kvs : List (Key × D)) (k : Key) : Option D := (kvs.find? fun kv => decide (kv.1 = k)).map (·.2)
theorem valD_rel {m : Nat → Addr} {n : Nat} {H : Hp} {k : Key} : ∀ {ks' : List (Key × V)} {ks : List (Key × D)}, ks'.map (·.1) = ks.map (·.1) → VRs g m n H (ks'.map (·.2)) (ks.map (·.2)) →
    (∀ d, valD ks k = some d → ∃ v, valV ks' k = some v ∧ VR g m n H v d) ∧ (valD ks k = none → valV ks' k = none)
  | [], [], _, _ => ⟨fun _ h => by simp [valD] at h, fun _ => rfl⟩
  | (a, x) :: r', (b, y) :: r, hk, hv => by
    have hk' : a = b ∧ r'.map (·.1) = r.map (·.1) := by simpa using hk
    obtain ⟨rfl, hk2⟩ := hk'
    cases hv with
    | cons _ _ _ _ r1 rs =>
      obtain ⟨i1, i2⟩ := valD_rel (k := k) hk2 rs
      by_cases q : a = k
      · subst q
        have e1 : valD ((a, y) :: r) a = some y := by simp [valD]
        have e2 : valV ((a, x) :: r') a = some x := valV_pos rfl
        rw [e1, e2]
        exact ⟨fun d h => by cases h; exact ⟨x, rfl, r1⟩, fun h => by cases h⟩
      · have e1 : valD ((a, y) :: r) k = valD r k := by simp [valD, q]
        have e2 : valV ((a, x) :: r') k = valV r' k := valV_neg q
        rw [e1, e2]
        exact ⟨i1, i2⟩
  | [], _ :: _, hk, _ => by simp at hk
  | _ :: _, [], hk, _ => by simp at hk
def atD (xs : List D) : D → Option D
  | .int i => atI xs i
  | _ => none
def getO (y : D) : Option Ob → Option D
  | some (.lst xs) => atD xs y
  | some (.dct kvs) => match keyD y with
    | some k => valD kvs k
    | none => none
  | _ => none
def getS (z : Str) : D → Option D
  | .int i => if fit z.length = true then (atI z.cps.toList i).map fun c => .str ⟨#[c]⟩ else none
  | _ => none
def getQ : D → D → Sto → Option D
  | .tup xs, y, _ => atD xs y
  | .lsc xs, y, _ => atD xs y
  | .str z, y, _ => getS z y
  | .loc l, y, S => getO y S[l]?
  | _, _, _ => none
def getD (x y : D) : Mo D := fun S => optD (getQ x y S) S
def rIxA (K : PySem.W.Frag) : R2 := fun x y H Q => rIx K x y H Q ∨ ∃ a v, x = .ref a ∧ DGet H a y (some v) ∧ Q v H
theorem ix_dict (hu : X.A.units + 1 < cLine) : IxR X (fun x y H Q => ∃ a v, x = .ref a ∧ DGet H a y (some v) ∧ Q v H) := by
  intro value slice pins s σ H x y v u Q I rx ry h hs
  obtain ⟨a, w, rfl, dg, q⟩ := h
  obtain rfl : v = Value.ref a := rx
  exact tail_any (dict_typeIs I dg) PySem.F.slot_dict_getitem.lookup (d_getItem hu I dg ry fun w' s' I' rw' => ⟨w, H, I', rw', q⟩) hs
theorem atD_int {xs : List D} {y d : D} (h : atD xs y = some d) : ∃ i, y = .int i ∧ atI xs i = some d := by
  cases y with
  | int i => exact ⟨i, rfl, h⟩
  | _ => cases h
theorem atI_rel {m : Nat → Addr} {n : Nat} {H : Hp} {vs : List V} {xs : List D} {i : Int} {d : D} (r : VRs g m n H vs xs) (h : atI xs i = some d) : ∃ v, atI vs i = some v ∧ VR g m n H v d := by
  unfold atI at h ⊢
  rw [r.length]
  cases q : ixN xs.length i with
  | none => rw [q] at h; cases h
  | some j =>
    rw [q] at h
    exact r.get h
theorem getQ_ok {m : Nat → Addr} {S : Sto} {H : Hp} {x y : V} {d e w : D} {Q : VK} (sr : SR g m H S) (rx : VR g m S.length H x d) (ry : VR g m S.length H y e) (h : getQ d e S = some w) (q : ∀ v, VR g m S.length H v w → Q v H) : rIxA g.K x y H Q := by
  cases rx with
  | tup a xs ds hq rs =>
    obtain ⟨i, rfl, hi⟩ := atD_int h
    cases ry
    obtain ⟨v, hv, rv⟩ := atI_rel rs hi
    exact .inl (.inr (.inl ⟨a, xs, i, v, rfl, rfl, hq, hv, q v rv⟩))
  | lsc a xs ds hq rs =>
    obtain ⟨i, rfl, hi⟩ := atD_int h
    cases ry
    obtain ⟨v, hv, rv⟩ := atI_rel rs hi
    exact .inl (.inl ⟨a, xs, i, v, rfl, rfl, hq.sq, hv, q v rv⟩)
  | str z =>
    have h2 : getS z e = some w := h
    cases ry with
    | int i =>
      have h3 : (if fit z.length = true then (atI z.cps.toList i).map fun c => D.str ⟨#[c]⟩ else none) = some w := h2
      by_cases qf : fit z.length = true
      · rw [if_pos qf] at h3
        cases qc : atI z.cps.toList i with
        | none => rw [qc] at h3; cases h3
        | some c =>
          rw [qc] at h3
          cases h3
          exact .inl (.inr (.inr ⟨z, i, c, rfl, rfl, fit_iff.mp qf, qc, q _ (.str _)⟩))
      · rw [if_neg qf] at h3; cases h3
    | _ => cases h2
  | loc l hl =>
    have h2 : getO e S[l]? = some w := h
    cases q0 : S[l]? with
    | none => rw [q0] at h2; cases h2
    | some ob =>
      rw [q0] at h2
      cases ob with
      | lst ds =>
        obtain ⟨_, xs, hx, rs⟩ := sr.atL q0
        obtain ⟨i, rfl, hi⟩ := atD_int h2
        cases ry
        obtain ⟨v, hv, rv⟩ := atI_rel rs hi
        exact .inl (.inl ⟨m l, xs, i, v, rfl, rfl, SqL.of hx, hv, q v rv⟩)
      | dct kvs =>
        obtain ⟨_, ks', hx, hk, rs⟩ := sr.atD q0
        have h3 : (match keyD e with
          | some k => valD kvs k
          | none => none) = some w := h2
        cases qk : keyD e with
        | none => rw [qk] at h3; cases h3
        | some k =>
          rw [qk] at h3
          obtain rfl := keyD_ok ry qk
          obtain ⟨v, hv, rv⟩ := (valD_rel (k := k) hk rs).1 w h3
          refine .inr ⟨m l, v, rfl, ?_, q v rv⟩
          rw [← hv]
          exact DGet.k hx
      | _ => cases h2
  | _ => cases h
theorem get_ok : S2 g (rIxA g.K) getD := fun m S H x y d e Q W sr rx ry h => by
  have h2 : PRx g m S H W (KD g Q) (optD (getQ d e S) S) := h
  cases z : getQ d e S with
  | none => rw [z] at h2; exact h2.elim
  | some w =>
    rw [z] at h2
    exact getQ_ok sr rx ry z fun v rv => h2.here sr v rv
theorem de_ix {k : Nat} (hK : X.K = g.K) (hr : Room k X.A) (ha : PE X a (tD g W fa)) (hb : PE X b (tD g W fb)) (hs : PlainIx b := by exact fun _ _ => rfl) : PE X (.Subscript a b pos) (tD g W (cOp getD fa fb)) := by
  refine PE.imp (pe_ix (r := rIxA g.K) ?_ ha hb hs) (op_sub2 get_ok)
  rw [← hK]
  exact ix_seq.or (ix_dict (hu_of hr))

/-! ### slices -/
def cPart (f : Option DE) : En → Mo (Option Int) := fun ρ => match f with
  | none => pure none
  | some f => do
    let x ← f ρ
    match x with
    | .int i => pure (some i)
    | _ => bad
def tDp (g : Gx) (W : WX) (f : En → Mo (Option Int)) : TO := fun σ H Q => ∃ m S ρ, SR g m H S ∧ ER g m S.length H σ ρ ∧ PRx g m S H (fun c d H' => W c d σ H') (fun i _ _ H' => Q i H') (f ρ S)
theorem PO.imp {e : Option Expr} {t t' : TO} (h : PO X e t) (i : ∀ σ H Q, t' σ H Q → t σ H Q) : PO X e t' := ⟨fun pins s σ H Q I q => h.run pins s σ H Q I (i σ H Q q)⟩
theorem dp_none : PO X none (tDp g W (cPart none)) := PO.imp po_none fun _ H _ ⟨m, _, _, sr, _, h⟩ => h m H Ev.refl sr
theorem dp_some (ha : PE X a (tD g W fa)) : PO X (some a) (tDp g W (cPart (some fa))) := PO.imp (po_some ha) fun σ H Q ⟨m, S, ρ, sr, er, h⟩ => tD.sub sr er h fun d m1 S1 H1 v s1 _ _ r1 h1 => by
  cases r1 with
  | int i => exact ⟨i, rfl, h1.here s1⟩
  | _ => exact h1.elim
def cutD (xs : List D) (lo hi : Option Int) : List D := (xs.drop (HT.sIx xs.length 0 lo)).take (HT.sIx xs.length xs.length hi - HT.sIx xs.length 0 lo)
theorem cut_rel {m : Nat → Addr} {n : Nat} {H : Hp} {vs : List V} {xs : List D} (r : VRs g m n H vs xs) (lo hi : Option Int) : VRs g m n H (cutV vs lo hi) (cutD xs lo hi) := by
  unfold cutV cutD
  rw [r.length]
  exact (r.drop _).take _
def slO (lo hi : Option Int) (S : Sto) : Option Ob → Rz D
  | some (.lst xs) => .ok (.loc S.length) (S ++ [.lst (cutD xs lo hi)])
  | _ => .no
def slD (lo hi : Option Int) : D → Mo D
  | .tup xs => pure (.tup (cutD xs lo hi))
  | .lsc xs => fun S => .ok (.loc S.length) (S ++ [.lst (cutD xs lo hi)])
  | .str z => fun S => if fit z.length = true then .ok (.str (cutS z lo hi)) S else .no
  | .loc l => fun S => slO lo hi S S[l]?
  | _ => bad
def cSl (f : DE) (lo hi : En → Mo (Option Int)) : DE := fun ρ => do
  let x ← f ρ; let l ← lo ρ; let h ← hi ρ; slD l h x
def rSlAll (K : PySem.W.Frag) : V → Option Int → Option Int → Hp → VK → Prop := fun x lo hi H Q => rSlA K x lo hi H Q ∨ rSlL K x lo hi H Q ∨ rSlS x lo hi H Q
theorem cut_whole {n k l : Nat} (h : HT.sIx n 0 none = 0) : True := trivial
theorem cutD_whole {xs : List D} {lo hi : Option Int} (h : HT.sIx xs.length 0 lo = 0 ∧ HT.sIx xs.length xs.length hi = xs.length) : cutD xs lo hi = xs := by
  unfold cutD
  rw [h.1, h.2, Nat.sub_zero, List.drop_zero, List.take_length]
theorem slD_ok {m : Nat → Addr} {S : Sto} {H : Hp} {x : V} {d : D} {lo hi : Option Int} {Q : VK} {W : XK} (sr : SR g m H S) (r : VR g m S.length H x d) (h : PRx g m S H W (KD g Q) (slD lo hi d S)) : rSlAll g.K x lo hi H Q := by
  cases r with
  | tup a xs ds hq rs =>
    have h2 : PRx g m S H W (KD g Q) (.ok (.tup (cutD ds lo hi)) S) := h
    refine .inl ⟨a, xs, rfl, hq, fun w => ?_, fun _ => tup_new sr (cut_rel rs lo hi) h2⟩
    rw [rs.length] at w
    rw [cutD_whole w] at h2
    exact h2.here sr _ (.tup a xs ds hq rs)
  | lsc a xs ds hq rs =>
    have h2 : PRx g m S H W (KD g Q) (.ok (.loc S.length) (S ++ [.lst (cutD ds lo hi)])) := h
    exact .inr (.inl ⟨a, xs, rfl, hq.sq, lst_new sr (cut_rel rs lo hi) h2⟩)
  | str z =>
    have h2 : PRx g m S H W (KD g Q) (if fit z.length = true then (Rz.ok (D.str (cutS z lo hi)) S : Rz D) else .no) := h
    by_cases qf : fit z.length = true
    · rw [if_pos qf] at h2
      exact .inr (.inr ⟨z, rfl, fit_iff.mp qf, h2.here sr _ (.str _)⟩)
    · rw [if_neg qf] at h2; exact h2.elim
  | loc l hl =>
    have h2 : PRx g m S H W (KD g Q) (slO lo hi S S[l]?) := h
    cases q0 : S[l]? with
    | none => rw [q0] at h2; exact h2.elim
    | some ob =>
      rw [q0] at h2
      cases ob with
      | lst ds =>
        obtain ⟨_, xs, hx, rs⟩ := sr.atL q0
        exact .inr (.inl ⟨m l, xs, rfl, SqL.of hx, lst_new sr (cut_rel rs lo hi) h2⟩)
      | _ => exact h2.elim
  | _ => exact h.elim
theorem de_slice {lo hi : Option Expr} {fl fh : En → Mo (Option Int)} {p2 : Pos} (hK : X.K = g.K) (ha : PE X a (tD g W fa)) (hl : PO X lo (tDp g W fl)) (hh : PO X hi (tDp g W fh)) : PE X (.Subscript a (.Slice lo hi none p2) pos) (tD g W (cSl fa fl fh)) := by
  refine PE.imp (pe_slice (r := rSlAll g.K) (by rw [← hK]; exact sl_tupA.or (sl_list.or sl_str)) ha hl hh) fun σ H Q ⟨m, S, ρ, sr, er, h⟩ => ?_
  refine tD.sub sr er h fun d m1 S1 H1 v s1 er1 _ r1 h1 => ?_
  refine ⟨m1, S1, ρ, s1, er1, h1.bind.mono fun l m2 S2 H2 e2 s2 h2 => ?_⟩
  exact ⟨m2, S2, ρ, s2, er1.ev e2, h2.bind.mono fun u m3 S3 H3 e3 s3 h3 => slD_ok s3 ((r1.ev e2).ev e3) h3⟩

/-! ### membership -/
def inL (x : D) (xs : List D) : Option Bool := if (flatD x && xs.all flatD) = true then some (xs.any fun y => eqF y x) else none
/-- one text in another: by its signs where it is one sign -/
def inS (x z : Str) : Bool := match x.cps.toList with
  | [c] => decide (c ∈ z.cps.toList)
  | _ => !(Builtin.Str.occurrences z x 0 z.length 1).isEmpty
def inO (x : D) : Option Ob → Option Bool
  | some (.lst xs) => inL x xs
  | some (.dct kvs) => match keyD x with
    | some k => some (valD kvs k).isSome
    | none => none
  | _ => none
def inQ : D → D → Sto → Option Bool
  | x, .tup xs, _ => inL x xs
  | x, .lsc xs, _ => inL x xs
  | .str x, .str z, _ => some (inS x z)
  | x, .loc l, S => inO x S[l]?
  | _, _, _ => none
def inD (x y : D) : Mo D := fun S => optD ((inQ x y S).map D.bl) S
def ninD (x y : D) : Mo D := fun S => optD ((inQ x y S).map fun b => D.bl (!b)) S
theorem inV_rel {m : Nat → Addr} {n : Nat} {H : Hp} {x : V} {d : D} (rx : VR g m n H x d) (hx : flatD d = true) : ∀ {xs : List V} {ds : List D}, VRs g m n H xs ds → ds.all flatD = true → inV x xs = ds.any fun y => eqF y d
  | _, _, .nil, _ => rfl
  | _, _, .cons y e xs ds r rs, h => by
    rw [List.all_cons, Bool.and_eq_true] at h
    have ih := inV_rel rx hx rs h.2
    unfold inV at ih ⊢
    rw [List.any_cons, List.any_cons, eqF_rel r rx h.1 hx, ih]
/-- the four kinds -/
def rInA (K : PySem.W.Frag) (neg : Bool) : R2 := fun x y H Q => rIn K neg x y H Q ∨ (∃ (c : Nat) (z : Str), x = .str ⟨#[c]⟩ ∧ y = .str z ∧ Q (.bl (if neg then !decide (c ∈ z.cps.toList) else decide (c ∈ z.cps.toList))) H) ∨
  (∃ i j, x = .str i ∧ y = .str j ∧ Q (.bl (if neg then !(!(Builtin.Str.occurrences j i 0 j.length 1).isEmpty) else !(Builtin.Str.occurrences j i 0 j.length 1).isEmpty)) H) ∨ ∃ a ov, y = .ref a ∧ DGet H a x ov ∧ Q (.bl (if neg then !ov.isSome else ov.isSome)) H
theorem op_inA {k : Nat} (hr : Room k X.A) : OpR X (compareOp .In) (rInA X.K false) := op_in_seq.or (op_in_sign.or (op_in_str.or fun pins s σ H x y v u Q I rx ry h => by
  obtain ⟨a, ov, rfl, dg, q⟩ := h
  obtain rfl : u = Value.ref a := ry
  exact d_in (hu_of hr) I dg rx fun s' I' => ⟨.bl ov.isSome, H, I', rfl, q⟩))
theorem op_ninA {k : Nat} (hr : Room k X.A) : OpR X (compareOp .NotIn) (rInA X.K true) := op_notIn_seq.or (op_notIn_sign.or (op_notin_str.or fun pins s σ H x y v u Q I rx ry h => by
  obtain ⟨a, ov, rfl, dg, q⟩ := h
  obtain rfl : u = Value.ref a := ry
  exact d_notIn (hu_of hr) I dg rx fun s' I' => ⟨.bl (!ov.isSome), H, I', rfl, q⟩))
theorem inL_ok {m : Nat → Addr} {n : Nat} {H : Hp} {x : V} {d : D} {p : Addr} {xs : List V} {ds : List D} {b neg : Bool} {Q : VK} (hq : SqL g.K H p xs ∨ SqT g.K H p xs) (rs : VRs g m n H xs ds) (rx : VR g m n H x d) (h : inL d ds = some b) (q : Q (.bl (if neg then !b else b)) H) : rInA g.K neg x (.ref p) H Q := by
  unfold inL at h
  by_cases z : (flatD d && ds.all flatD) = true
  · rw [if_pos z] at h
    cases h
    rw [Bool.and_eq_true] at z
    refine .inl ⟨p, xs, rfl, hq, flat_rel rx z.1, flats_rel rs z.2, ?_⟩
    rw [inV_rel rx z.1 rs z.2]
    exact q
  · rw [if_neg z] at h; cases h
theorem inQ_ok {m : Nat → Addr} {S : Sto} {H : Hp} {x y : V} {d e : D} {b neg : Bool} {Q : VK} (sr : SR g m H S) (rx : VR g m S.length H x d) (ry : VR g m S.length H y e) (h : inQ d e S = some b) (q : Q (.bl (if neg then !b else b)) H) : rInA g.K neg x y H Q := by
  cases ry with
  | tup a xs ds hq rs => exact inL_ok (.inr hq) rs rx (by cases d <;> exact h) q
  | lsc a xs ds hq rs => exact inL_ok (.inl hq.sq) rs rx (by cases d <;> exact h) q
  | str z =>
    cases rx with
    | str w =>
      have h2 : some (inS w z) = some b := h
      cases h2
      unfold inS at q
      cases hw : w.cps.toList with
      | nil => rw [hw] at q; exact .inr (.inr (.inl ⟨w, z, rfl, rfl, q⟩))
      | cons c r =>
        rw [hw] at q
        cases r with
        | nil =>
          have ew : w = ⟨#[c]⟩ := by
            cases w with
            | mk cs =>
              have z : cs = #[c] := Array.ext' (by simpa using hw)
              rw [z]
          subst ew
          exact .inr (.inl ⟨c, z, rfl, rfl, q⟩)
        | cons c2 r2 => exact .inr (.inr (.inl ⟨w, z, rfl, rfl, q⟩))
    | _ => cases h
  | loc l hl =>
    have h2 : inO d S[l]? = some b := by cases d <;> exact h
    cases q0 : S[l]? with
    | none => rw [q0] at h2; cases h2
    | some ob =>
      rw [q0] at h2
      cases ob with
      | lst ds =>
        obtain ⟨_, xs, hx, rs⟩ := sr.atL q0
        exact inL_ok (.inl (SqL.of hx)) rs rx h2 q
      | dct kvs =>
        obtain ⟨_, ks', hx, hk, rs⟩ := sr.atD q0
        have h3 : (match keyD d with
          | some k => some (valD kvs k).isSome
          | none => none) = some b := h2
        cases qk : keyD d with
        | none => rw [qk] at h3; cases h3
        | some k =>
          rw [qk] at h3
          cases h3
          obtain rfl := keyD_ok rx qk
          refine .inr (.inr (.inr ⟨m l, valV ks' k, rfl, DGet.k hx, ?_⟩))
          obtain ⟨i1, i2⟩ := valD_rel (k := k) hk rs
          have e : (valV ks' k).isSome = (valD kvs k).isSome := by
            cases z : valD kvs k with
            | none => rw [i2 z]; rfl
            | some w => obtain ⟨v, hv, _⟩ := i1 w z; rw [hv]; rfl
          rw [e]
          exact q
      | _ => cases h2
  | _ => cases d <;> cases h
theorem in_ok : S2 g (rInA g.K false) inD := fun m S H x y d e Q W sr rx ry h => by
  have h2 : PRx g m S H W (KD g Q) (optD ((inQ d e S).map D.bl) S) := h
  cases z : inQ d e S with
  | none => rw [z] at h2; exact h2.elim
  | some b => rw [z] at h2; exact inQ_ok (neg := false) sr rx ry z (h2.here sr _ (.bl _))
theorem nin_ok : S2 g (rInA g.K true) ninD := fun m S H x y d e Q W sr rx ry h => by
  have h2 : PRx g m S H W (KD g Q) (optD ((inQ d e S).map fun b => D.bl (!b)) S) := h
  cases z : inQ d e S with
  | none => rw [z] at h2; exact h2.elim
  | some b => rw [z] at h2; exact inQ_ok (neg := true) sr rx ry z (h2.here sr _ (.bl _))
end
end Sm
end
section
/-! Sm, part H: dicts made and written, built-in functions, methods of lists. -/
namespace Sm
open PySem PySem.Spec PyProof.Rows L2

section
variable {X : Cx} {g : Gx} {W : WX} {a b c e o : Expr} {es : List Expr} {fa fb fc fo fv : DE} {fs : En → Mo (List D)} {pos : Pos}
/-! ### writing into a dict, a list -/
def putD (kvs : List (Key × D)) (k : Key) (v : D) : List (Key × D) :=
  if (kvs.any fun kv => decide (kv.1 = k)) = true then kvs.map (fun kv => if kv.1 = k then (kv.1, v) else kv) else kvs ++ [(k, v)]
theorem any_rel {k : Key} : ∀ {ks' : List (Key × V)} {ks : List (Key × D)}, ks'.map (·.1) = ks.map (·.1) → (ks'.any fun kv => decide (kv.1 = k)) = (ks.any fun kv => decide (kv.1 = k))
  | [], [], _ => rfl
  | (a, x) :: r', (b, y) :: r, hk => by
    have hk' : a = b ∧ r'.map (·.1) = r.map (·.1) := by simpa using hk
    obtain ⟨rfl, hk2⟩ := hk'
    rw [List.any_cons, List.any_cons, any_rel hk2]
  | [], _ :: _, hk => by simp at hk
  | _ :: _, [], hk => by simp at hk
theorem mapk_rel {m : Nat → Addr} {n : Nat} {H : Hp} {k : Key} {v : V} {d : D} (rv : VR g m n H v d) : ∀ {ks' : List (Key × V)} {ks : List (Key × D)}, ks'.map (·.1) = ks.map (·.1) → VRs g m n H (ks'.map (·.2)) (ks.map (·.2)) →
    (ks'.map fun kv => if kv.1 = k then (kv.1, v) else kv).map (·.1) = (ks.map fun kv => if kv.1 = k then (kv.1, d) else kv).map (·.1) ∧
    VRs g m n H ((ks'.map fun kv => if kv.1 = k then (kv.1, v) else kv).map (·.2)) ((ks.map fun kv => if kv.1 = k then (kv.1, d) else kv).map (·.2))
  | [], [], _, _ => ⟨rfl, .nil⟩
  | (a, x) :: r', (b, y) :: r, hk, hv => by
    have hk' : a = b ∧ r'.map (·.1) = r.map (·.1) := by simpa using hk
    obtain ⟨rfl, hk2⟩ := hk'
    cases hv with
    | cons _ _ _ _ r1 rs =>
      obtain ⟨i1, i2⟩ := mapk_rel rv hk2 rs
      simp only [List.map_cons]
      by_cases q : a = k
      · rw [if_pos q, if_pos q]
        exact ⟨by rw [i1], .cons _ _ _ _ rv i2⟩
      · rw [if_neg q, if_neg q]
        exact ⟨by rw [i1], .cons _ _ _ _ r1 i2⟩
  | [], _ :: _, hk, _ => by simp at hk
  | _ :: _, [], hk, _ => by simp at hk
theorem putD_rel {m : Nat → Addr} {n : Nat} {H : Hp} {k : Key} {v : V} {d : D} (rv : VR g m n H v d) {ks' : List (Key × V)} {ks : List (Key × D)} (hk : ks'.map (·.1) = ks.map (·.1)) (hv : VRs g m n H (ks'.map (·.2)) (ks.map (·.2))) :
    (putK ks' k v).map (·.1) = (putD ks k d).map (·.1) ∧ VRs g m n H ((putK ks' k v).map (·.2)) ((putD ks k d).map (·.2)) := by
  unfold putK putD
  rw [any_rel hk]
  by_cases q : (ks.any fun kv => decide (kv.1 = k)) = true
  · rw [if_pos q, if_pos q]
    exact mapk_rel rv hk hv
  · rw [if_neg q, if_neg q, List.map_append, List.map_append, List.map_append, List.map_append, hk]
    exact ⟨rfl, hv.append (.cons _ _ _ _ rv .nil)⟩
/-- o[i] = v -/
def stO (i v : D) (l : Nat) (S : Sto) : Option Ob → Option Sto
  | some (.dct kvs) => match keyD i with
    | some k => if fit (kvs.length + 1) = true then some (S.set l (.dct (putD kvs k v))) else none
    | none => none
  | some (.lst xs) => match i with
    | .int j => (ixN xs.length j).map fun j => S.set l (.lst (xs.set j v))
    | _ => none
  | _ => none
def stQ : D → D → D → Sto → Option Sto
  | .loc l, i, v, S => stO i v l S S[l]?
  | _, _, _, _ => none
def rStA : TSet := fun o i v H Q => (∃ a H', o = .ref a ∧ DPut H a i v H' ∧ Q H') ∨ ∃ (p : Addr) (ys : List V) (j : Int) (k : Nat), o = .ref p ∧ i = .int j ∧ H p = some (.lst ys) ∧ ixN ys.length j = some k ∧ Q (upd H p (.lst (ys.set k v)))
theorem stQ_ok {m : Nat → Addr} {S S' : Sto} {H : Hp} {x y z : V} {d i v : D} {Q : Hp → Prop} (sr : SR g m H S) (rx : VR g m S.length H x d) (ry : VR g m S.length H y i) (rz : VR g m S.length H z v) (h : stQ d i v S = some S')
    (q : ∀ H', Ev g m S.length H m S'.length H' → SR g m H' S' → Q H') : rStA x y z H Q := by
  cases rx with
  | loc l hl =>
    have h2 : stO i v l S S[l]? = some S' := h
    cases q0 : S[l]? with
    | none => rw [q0] at h2; cases h2
    | some ob =>
      rw [q0] at h2
      cases ob with
      | lst ds =>
        obtain ⟨hl, xs, hx, rs⟩ := sr.atL q0
        cases ry with
        | int j =>
          have h3 : (ixN ds.length j).map (fun j => S.set l (.lst (ds.set j v))) = some S' := h2
          cases qj : ixN ds.length j with
          | none => rw [qj] at h3; cases h3
          | some k =>
            rw [qj] at h3
            cases h3
            have ew : Ev g m S.length H m S.length (upd H (m l) (.lst (xs.set k z))) := Ev.wr (sr.canw hl)
            refine .inr ⟨m l, xs, j, k, rfl, rfl, hx, by rw [rs.length]; exact qj, q _ (by rw [List.length_set]; exact ew) (sr.wr hl ⟨_, upd_same, ?_⟩)⟩
            exact (rs.set k rz).ev ew
        | _ => cases h2
      | dct kvs =>
        obtain ⟨hl, ks', hx, hk, rs⟩ := sr.atD q0
        have h3 : (match keyD i with
          | some k => if fit (kvs.length + 1) = true then some (S.set l (.dct (putD kvs k v))) else none
          | none => none) = some S' := h2
        cases qk : keyD i with
        | none => rw [qk] at h3; cases h3
        | some k =>
          rw [qk] at h3
          dsimp only at h3
          by_cases qf : fit (kvs.length + 1) = true
          · rw [if_pos qf] at h3
            cases h3
            obtain rfl := keyD_ok ry qk
            have hlen : ks'.length = kvs.length := by
              have := congrArg List.length hk
              simpa using this
            have ew : Ev g m S.length H m S.length (upd H (m l) (.dK (putK ks' k z))) := Ev.wr (sr.canw hl)
            have z1 := fit_iff.mp qf
            obtain ⟨p1, p2⟩ := putD_rel (k := k) rz hk rs
            refine .inl ⟨m l, _, rfl, DPut.k hx (by rw [hlen]; omega), q _ (by rw [List.length_set]; exact ew) (sr.wr hl ⟨_, upd_same, p1, p2.ev ew⟩)⟩
          · rw [if_neg qf] at h3; cases h3
      | _ => cases h2
  | _ => cases h
theorem set_A {k : Nat} (hr : Room k X.A) : PSet X rStA := by
  intro pins s σ H o i v ov iv u Q I ro ri rv h
  rcases h with ⟨a, H', rfl, dp, q⟩ | ⟨p, ys, j, k, rfl, rfl, hp, hk, q⟩
  · obtain rfl : ov = Value.ref a := ro
    exact d_setItem (hu_of hr) I dp ri rv fun s' I' => ⟨H', I', q⟩
  · exact set_list pins s σ H _ _ v ov iv u Q I ro ri rv ⟨p, ys, j, k, rfl, rfl, hp, hk, q⟩
def cSt (fo fi fv : DE) : DS := fun ρ S => (fv ρ S).toF ρ fun v S1 => (fo ρ S1).toF ρ fun o S2 => (fi ρ S2).toF ρ fun i S3 => match stQ o i v S3 with
  | some S4 => .nx ρ S4
  | none => .no
theorem ds_st {k : Nat} {i value : Expr} {fi : DE} {pos' : Pos} (hr : Room k X.A) (ho : PE X o (tD g W fo)) (hi : PE X i (tD g W fi)) (hv : PE X value (tD g W fv))
    (hs : swapsWithSole [.Subscript o i pos'] value pos.line X.env = pure false := by rfl) (hw : swappedStores [.Subscript o i pos'] value X.env = pure none := by rfl) (h1 : (assignEach [.Subscript o i pos'] X.env).map (·.2) = [assign (.Subscript o i pos') X.env] := by rfl)
    (hasg : ∀ v, assign (.Subscript o i pos') X.env v = (do
      let ov ← holding [v] (eval o X.env)
      let iv ← holding [v, ov] (eval i X.env)
      standAt pos'
      holding [v, ov, iv] (setItem ov iv v)
      release [v, ov, iv] []) := by intro _; rfl) : PS X (.Assign [.Subscript o i pos'] value pos) (tS g W (cSt fo fi fv)) :=
  PS.imp (ps_asg hv (pg_sub ho hi (set_A hr) hasg) hs hw h1) fun E σ H ⟨m, S, ρ, sr, er, h⟩ => by
    refine tD.subF sr er h fun v m1 S1 H1 x s1 er1 _ r1 h1 => tD.subF s1 er1 h1 fun o m2 S2 H2 y s2 er2 e2 r2 h2 => tD.subF s2 er2 h2 fun i m3 S3 H3 z s3 er3 e3 r3 h3 => ?_
    cases q : stQ o i v S3 with
    | none => rw [q] at h3; exact h3.elim
    | some S4 =>
      rw [q] at h3
      exact stQ_ok s3 (r2.ev e3) r3 ((r1.ev e2).ev e3) q fun H' e' s' => h3 _ m3 _ e' s' (er3.ev e')

/-! ### displays of dicts -/
def cPairs : List (DE × DE) → En → Mo (List (D × D))
  | [] => fun _ => pure []
  | (fk, fv) :: r => fun ρ => do
    let k ← fk ρ; let v ← fv ρ; let ps ← cPairs r ρ; pure ((k, v) :: ps)
/-- keys and values as the display wants them -/
def asKvs : List (D × D) → Option (List (Key × D))
  | [] => some []
  | (k, v) :: r => match keyD k, asKvs r with
    | some k, some r => some ((k, v) :: r)
    | _, _ => none
def mergeD (kvs more : List (Key × D)) : List (Key × D) := more.foldl (fun acc kv => putD acc kv.1 kv.2) kvs
@[irreducible] def few15 (n : Nat) : Bool := decide (n ≤ 15)
theorem few15_iff {n : Nat} : few15 n = true ↔ n ≤ 15 := by unfold few15; exact decide_eq_true_iff
def dispF (n : Nat) (ps : List (D × D)) (S : Sto) : Rz D := match asKvs ps, S[n]? with
  | some kvs, some (.dct []) => if few15 kvs.length = true then .ok (.loc n) (S.set n (.dct (mergeD [] kvs))) else .no
  | _, _ => .no
def cDict (fs : List (DE × DE)) : DE := fun ρ S => (cPairs fs ρ (S ++ [.dct []])).andThen fun ps S' => dispF S.length ps S'
inductive VPs (g : Gx) (m : Nat → Addr) (n : Nat) (H : Hp) : List (V × V) → List (D × D) → Prop
  | nil : VPs g m n H [] []
  | cons (x y : V) (d e : D) (r : List (V × V)) (q : List (D × D)) : VR g m n H x d → VR g m n H y e → VPs g m n H r q → VPs g m n H ((x, y) :: r) ((d, e) :: q)
theorem pairs_sub : ∀ {fs : List (DE × DE)} {σ : L2.St} {H : Hp} {m : Nat → Addr} {S : Sto} {ρ : En} {Q : List (V × V) → Hp → Prop}, SR g m H S → ER g m S.length H σ ρ →
    PRx g m S H (fun c d H' => W c d σ H') (fun ps m1 S1 H1 => ∀ vs, VPs g m1 S1.length H1 vs ps → Q vs H1) (cPairs fs ρ S) → tPairs (fs.map fun p => (tD g W p.1, tD g W p.2)) σ H Q
  | [], σ, H, m, S, ρ, Q, sr, er, h => h m H Ev.refl sr _ .nil
  | (fk, fv) :: r, σ, H, m, S, ρ, Q, sr, er, h => by
    refine tD.sub sr er h fun k m1 S1 H1 x s1 er1 _ r1 h1 => tD.sub s1 er1 h1 fun v m2 S2 H2 y s2 er2 e2 r2 h2 => ?_
    refine pairs_sub (fs := r) s2 er2 (h2.bind.mono fun ps m3 S3 H3 e3 s3 h3 vs rvs => ?_)
    exact h3 m3 H3 Ev.refl s3 _ (.cons _ _ _ _ _ _ ((r1.ev e2).ev e3) (r2.ev e3) rvs)
theorem asKvs_ok {m : Nat → Addr} {n : Nat} {H : Hp} : ∀ {ps : List (D × D)} {vs : List (V × V)} {kvs : List (Key × D)}, VPs g m n H vs ps → asKvs ps = some kvs →
    ∃ kvs' : List (Key × V), vs = kvs'.map (fun kv => (kV kv.1, kv.2)) ∧ kvs'.map (·.1) = kvs.map (·.1) ∧ VRs g m n H (kvs'.map (·.2)) (kvs.map (·.2))
  | _, _, _, .nil, h => by cases h; exact ⟨[], rfl, rfl, .nil⟩
  | _, _, _, .cons x y d e r q rx ry rs, h => by
    unfold asKvs at h
    cases q1 : keyD d with
    | none => rw [q1] at h; cases h
    | some k =>
      rw [q1] at h
      cases q2 : asKvs q with
      | none => rw [q2] at h; cases h
      | some kr =>
        rw [q2] at h
        cases h
        obtain ⟨kr', a1, a2, a3⟩ := asKvs_ok rs q2
        obtain rfl := keyD_ok rx q1
        exact ⟨(k, y) :: kr', by rw [a1]; rfl, by simp [a2], .cons _ _ _ _ ry a3⟩
theorem merge_rel {m : Nat → Addr} {n : Nat} {H : Hp} : ∀ {more' : List (Key × V)} {more : List (Key × D)} {ks' : List (Key × V)} {ks : List (Key × D)}, more'.map (·.1) = more.map (·.1) → VRs g m n H (more'.map (·.2)) (more.map (·.2)) → ks'.map (·.1) = ks.map (·.1) → VRs g m n H (ks'.map (·.2)) (ks.map (·.2)) →
    (mergeK ks' more').map (·.1) = (mergeD ks more).map (·.1) ∧ VRs g m n H ((mergeK ks' more').map (·.2)) ((mergeD ks more).map (·.2))
  | [], [], _, _, _, _, h1, h2 => ⟨h1, h2⟩
  | (a, x) :: r', (b, y) :: r, ks', ks, hk, hv, h1, h2 => by
    have hk' : a = b ∧ r'.map (·.1) = r.map (·.1) := by simpa using hk
    obtain ⟨rfl, hk2⟩ := hk'
    cases hv with
    | cons _ _ _ _ r1 rs =>
      obtain ⟨p1, p2⟩ := putD_rel (k := a) r1 h1 h2
      exact merge_rel (more' := r') (more := r) (ks' := putK ks' a x) (ks := putD ks a y) hk2 rs p1 p2
  | [], _ :: _, _, _, hk, _, _, _ => by simp at hk
  | _ :: _, [], _, _, hk, _, _, _ => by simp at hk
theorem de_dict {keys : List (Option Expr)} {values : List Expr} {fs : List (DE × DE)} (h : PPs X pos keys values (fs.map fun p => (tD g W p.1, tD g W p.2))) (hall : keys.all (·.isSome) = true := by rfl) (hl : keys.length = values.length := by rfl) (h0 : keys ≠ [] := by exact fun z => nomatch z)
    (h15 : keys.length ≤ 15 := by decide) : PE X (.Dict keys values pos) (tD g W (cDict fs)) :=
  PE.imp (pe_disp h hall hl h0 h15) fun σ H Q ⟨m, S, ρ, sr, er, h⟩ p hp => by
    have h : PRx g m S H (fun c d H' => W c d σ H') (KD g Q) ((cPairs fs ρ (S ++ [.dct []])).andThen fun ps S' => dispF S.length ps S') := h
    have e1 : Ev g m S.length H (ext m S.length p) (S.length + 1) (upd H p (.dK [])) := Ev.ext (Ev.new hp)
    have s1 : SR g (ext m S.length p) (upd H p (.dK [])) (S ++ [.dct []]) := sr.alloc hp ⟨[], upd_same, rfl, .nil⟩
    have lA : (S ++ [Ob.dct []]).length = S.length + 1 := by rw [List.length_append, List.length_singleton]
    have h2 := (PRx.ev (m' := ext m S.length p) (S' := S ++ [Ob.dct []]) (by rw [lA]; exact e1) h).bind
    refine pairs_sub s1 (by rw [lA]; exact er.ev e1) (h2.mono fun ps m3 S3 H3 e3 s3 h3 vs rvs => ?_)
    have lt : S.length < (S ++ [Ob.dct []]).length := by rw [lA]; exact Nat.lt_succ_self _
    have em : m3 S.length = p := by rw [e3.ag _ lt, ext_new]
    unfold dispF at h3
    cases q1 : asKvs ps with
    | none => rw [q1] at h3; exact h3.elim
    | some kvs =>
      rw [q1] at h3
      cases q2 : S3[S.length]? with
      | none => rw [q2] at h3; exact h3.elim
      | some ob =>
        rw [q2] at h3
        cases ob with
        | dct ks =>
          cases ks with
          | cons _ _ => exact h3.elim
          | nil =>
            dsimp only at h3
            by_cases qf : few15 kvs.length = true
            · rw [if_pos qf] at h3
              obtain ⟨hl, ks', hx, hk, _⟩ := s3.atD q2
              have hk0 : ks' = [] := by simpa using hk
              subst hk0
              obtain ⟨kvs', a1, a2, a3⟩ := asKvs_ok rvs q1
              have hlen : kvs'.length = kvs.length := by
                have := congrArg List.length a2
                simpa using this
              obtain ⟨b1, b2⟩ := merge_rel (ks' := []) (ks := []) a2 a3 rfl .nil
              rw [em] at hx
              refine ⟨hx, kvs', a1, by rw [hlen]; exact few15_iff.mp qf, ?_⟩
              have ew : Ev g m3 S3.length H3 m3 S3.length (upd H3 (m3 S.length) (.dK (mergeK [] kvs'))) := Ev.wr (s3.canw hl)
              have sw := s3.wr (u := .dK (mergeK [] kvs')) (o := .dct (mergeD [] kvs)) hl ⟨_, upd_same, b1, b2.ev ew⟩
              have q9 := h3 m3 _ (by rw [List.length_set]; exact ew) sw (.ref (m3 S.length)) (.loc _ (by rw [List.length_set]; exact hl))
              rw [em] at q9
              exact q9
            · rw [if_neg qf] at h3; exact h3.elim
        | _ => exact h3.elim
def newDct : Mo D := fun S => .ok (.loc S.length) (S ++ [.dct []])
theorem de_dict0 : PE X (.Dict [] [] pos) (tD g W fun _ => newDct) := PE.imp pe_dnewK fun _ _ _ ⟨_, _, _, sr, _, h⟩ => dct_new sr rfl .nil h
theorem dps_nil : PPs X pos [] [] (([] : List (DE × DE)).map fun p => (tD g W p.1, tD g W p.2)) := pps_nil
theorem dps_cons {k v : Expr} {fk fv : DE} {ks : List (Option Expr)} {vs : List Expr} {fs : List (DE × DE)} (hk : PE X k (tD g W fk)) (hv : PE X v (tD g W fv)) (hr : PPs X pos ks vs (fs.map fun p => (tD g W p.1, tD g W p.2))) :
    PPs X pos (some k :: ks) (v :: vs) (((fk, fv) :: fs).map fun p => (tD g W p.1, tD g W p.2)) := pps_cons hk hv hr

/-! ### built-in functions -/
theorem CallR.or {f : Value} {r r' : List V → Hp → VK → Prop} (h : CallR X f r) (h' : CallR X f r') : CallR X f (fun xs H Q => r xs H Q ∨ r' xs H Q) := by
  intro pins s σ H xs us Q I rx q
  rcases q with q | q
  · exact h pins s σ H xs us Q I rx q
  · exact h' pins s σ H xs us Q I rx q
def lenO : Option Ob → Option D
  | some (.lst xs) => some (.int xs.length)
  | some (.dct kvs) => some (.int kvs.length)
  | _ => none
def lenQ : D → Sto → Option D
  | .tup xs, _ => some (.int xs.length)
  | .lsc xs, _ => some (.int xs.length)
  | .str z, _ => if fit z.length = true then some (.int z.length) else none
  | .loc l, S => lenO S[l]?
  | _, _ => none
def lenD (d : D) : Mo D := fun S => optD (lenQ d S) S
theorem len_ok : SC g (fun xs H Q => (∃ x n, xs = [x] ∧ LenV g.K x H n ∧ Q (.int n) H) ∨ ∃ a kvs, xs = [V.ref a] ∧ H a = some (.dK kvs) ∧ Q (.int kvs.length) H) (ar1 lenD) := SC.one fun m S H x d Q W sr rx h => by
  have h2 : PRx g m S H W (KD g Q) (optD (lenQ d S) S) := h
  cases rx with
  | tup a xs ds hq rs => exact .inl ⟨_, ds.length, rfl, .inr ⟨xs, hq, rs.length.symm⟩, h2.here sr _ (.int _)⟩
  | lsc a xs ds hq rs => exact .inl ⟨_, ds.length, rfl, .inl ⟨xs, hq.sq, rs.length.symm⟩, h2.here sr _ (.int _)⟩
  | str z =>
    have h3 : PRx g m S H W (KD g Q) (optD (if fit z.length = true then some (.int z.length) else none) S) := h2
    by_cases qf : fit z.length = true
    · rw [if_pos qf] at h3
      exact .inl ⟨_, z.length, rfl, ⟨fit_iff.mp qf, rfl⟩, h3.here sr _ (.int _)⟩
    · rw [if_neg qf] at h3; exact h3.elim
  | loc l hl =>
    have h3 : PRx g m S H W (KD g Q) (optD (lenO S[l]?) S) := h2
    cases q0 : S[l]? with
    | none => rw [q0] at h3; exact h3.elim
    | some ob =>
      rw [q0] at h3
      cases ob with
      | lst ds =>
        obtain ⟨_, xs, hx, rs⟩ := sr.atL q0
        exact .inl ⟨_, ds.length, rfl, .inl ⟨xs, SqL.of hx, rs.length.symm⟩, h3.here sr _ (.int _)⟩
      | dct kvs =>
        obtain ⟨_, ks', hx, hk, rs⟩ := sr.atD q0
        have hlen : ks'.length = kvs.length := by
          have := congrArg List.length hk
          simpa using this
        exact .inr ⟨_, ks', rfl, hx, by rw [hlen]; exact h3.here sr _ (.int _)⟩
      | _ => exact h3.elim
  | _ => exact h2.elim
theorem de_len {p : Pos} (hK : X.K = g.K) (hm : X.mg "len" = none) (ha : PA X (e :: es) (tDs g W fs)) (hg : Gl X "len" := by rfl) (he : starEach (e :: es) X.env = (false, eval e X.env) :: starEach es X.env := by rfl) (hpl : (backTo pos (starEach es X.env)).any (·.1) = false := by rfl) :
    PE X (.Call (.Name "len" p) (e :: es) [] pos) (tD g W (cCall (ar1 lenD) fs)) := de_callB (by rw [← hK]; exact call_len.or call_lenD) len_ok hm PySem.boot_len ha hg he hpl
def intD : D → Mo D
  | .int i => pure (.int i)
  | .bl b => pure (.int (if b then 1 else 0))
  | _ => bad
theorem int_ok : SC g (fun xs H Q => (∃ i, xs = [.int i] ∧ Q (.int i) H) ∨ ∃ k, xs = [.bl k] ∧ Q (.int (if k then 1 else 0)) H) (ar1 intD) := SC.one fun m S H x d Q W sr rx h => by
  cases rx with
  | int i => exact .inl ⟨i, rfl, h.here sr _ (.int _)⟩
  | bl k => exact .inr ⟨k, rfl, h.here sr _ (.int _)⟩
  | _ => exact h.elim
def absD : D → Mo D
  | .int i => pure (.int (if i < 0 then -i else i))
  | _ => bad
theorem abs_ok : SC g (fun xs H Q => ∃ i, xs = [.int i] ∧ Q (.int (if i < 0 then -i else i)) H) (ar1 absD) := SC.one fun m S H x d Q W sr rx h => by
  cases rx with
  | int i => exact ⟨i, rfl, h.here sr _ (.int _)⟩
  | _ => exact h.elim
def maxD : D → D → Mo D
  | .int i, .int j => pure (.int (if j > i then j else i))
  | _, _ => bad
def minD : D → D → Mo D
  | .int i, .int j => pure (.int (if j < i then j else i))
  | _, _ => bad
theorem max_ok : SC g (fun xs H Q => ∃ i j, xs = [.int i, .int j] ∧ Q (.int (if j > i then j else i)) H) (ar2 maxD) := SC.two fun m S H x y d e Q W sr rx ry h => by
  cases rx with
  | int i => cases ry with
    | int j => exact ⟨i, j, rfl, h.here sr _ (.int _)⟩
    | _ => exact h.elim
  | _ => exact h.elim
theorem min_ok : SC g (fun xs H Q => ∃ i j, xs = [.int i, .int j] ∧ Q (.int (if j < i then j else i)) H) (ar2 minD) := SC.two fun m S H x y d e Q W sr rx ry h => by
  cases rx with
  | int i => cases ry with
    | int j => exact ⟨i, j, rfl, h.here sr _ (.int _)⟩
    | _ => exact h.elim
  | _ => exact h.elim

/-! ### isinstance -/
/-- a type: a built-in one by its name, an own class by its number -/
abbrev TK := Sum String Nat
def tv (g : Gx) : TK → Value
  | .inl n => .type n
  | .inr c => .ref (g.ct c)
def tyO : Option Ob → Option TK
  | some (.lst _) => some (.inl "list")
  | some (.dct _) => some (.inl "dict")
  | some (.ins c _) => some (.inr c)
  | none => none
def tyQ : D → Sto → Option TK
  | .non, _ => some (.inl "NoneType")
  | .bl _, _ => some (.inl "bool")
  | .int _, _ => some (.inl "int")
  | .str _, _ => some (.inl "str")
  | .tup _, _ => some (.inl "tuple")
  | .loc l, S => tyO S[l]?
  | _, _ => none
/-- a class as an argument -/
def clQ : D → Option TK
  | .ty n => some (.inl n)
  | .cls c => some (.inr c)
  | _ => none
structure IsTab (g : Gx) (J : TK → TK → Option Bool) : Prop where
  kit : ∀ t c b, J t c = some b → PySem.W.kitOne g.K (tv g t) (tv g c) = some b
  own : ∀ c t b, J (.inr c) t = some b → Cls g.K (g.ct c) ∧ PySem.W.findIn g.K (.ref (g.ct c)) "__class__" = some (some (.builtin "object.__class__")) ∧ PySem.W.specialIn g.K (.builtin "object.__class__") "__get__" = some (some (.builtin "getset_descriptor.__get__")) ∧
    PySem.W.takesIn g.K (.builtin "object.__class__") = some true ∧ PySem.W.mroIn g.K (g.ct c) (.type "object") = some true
def isiQ (J : TK → TK → Option Bool) (x c : D) (S : Sto) : Option Bool := match tyQ x S, clQ c with
  | some t, some k => J t k
  | _, _ => none
def isiD (J : TK → TK → Option Bool) (x c : D) : Mo D := fun S => optD ((isiQ J x c S).map D.bl) S
theorem isi_ok {J : TK → TK → Option Bool} (hJ : IsTab g J) : SC g (rIsi g.K) (ar2 (isiD J)) := SC.two fun m S H x y d e Q W sr rx ry h => by
  have h2 : PRx g m S H W (KD g Q) (optD ((isiQ J d e S).map D.bl) S) := h
  cases z : isiQ J d e S with
  | none => rw [z] at h2; exact h2.elim
  | some b =>
    rw [z] at h2
    unfold isiQ at z
    cases q1 : tyQ d S with
    | none => rw [q1] at z; cases z
    | some t =>
      rw [q1] at z
      cases q2 : clQ e with
      | none => rw [q2] at z; cases z
      | some k =>
        rw [q2] at z
        dsimp only at z
        have kit := hJ.kit t k b z
        have kc : ClsV y (tv g k) := by
          cases ry <;> first | (cases q2; exact .ty _) | (cases q2; exact .own _) | cases q2
        have kt : TyX g.K H x (tv g t) := by
          cases rx with
          | non => cases q1; exact .base .non
          | bl _ => cases q1; exact .base (.bl _)
          | int _ => cases q1; exact .base (.int _)
          | str _ => cases q1; exact .base (.str _)
          | tup a xs ds hq rs =>
            cases q1
            rcases hq with (hq | ⟨o, hq⟩) | ⟨o, its, n, hk, hc, _⟩
            · exact .base (.tup hq)
            · exact .fTuple hq
            · exact .kTuple hk hc
          | loc l hl =>
            have q3 : tyO S[l]? = some t := q1
            cases q0 : S[l]? with
            | none => rw [q0] at q3; cases q3
            | some ob =>
              rw [q0] at q3
              cases ob with
              | lst ds => cases q3; obtain ⟨_, xs, hx, _⟩ := sr.atL q0; exact .base (.lst hx)
              | dct kvs => cases q3; obtain ⟨_, xs, hx, _⟩ := sr.atD q0; exact .base (.dK hx)
              | ins c fs =>
                cases q3
                obtain ⟨_, dx, fs', hx, _⟩ := sr.atI q0
                obtain ⟨o1, o2, o3, o4, o5⟩ := hJ.own c k b z
                exact .base (.ins hx o1 o2 o3 o4 o5)
          | _ => cases q1
        exact ⟨x, y, tv g t, tv g k, b, rfl, kc, kt, kit, h2.here sr _ (.bl _)⟩
theorem de_isi {J : TK → TK → Option Bool} {p : Pos} (hJ : IsTab g J) (hK : X.K = g.K) (hm : X.mg "isinstance" = none) (hv : bootBuiltins "isinstance" = some (.builtin "isinstance")) (ha : PA X (e :: es) (tDs g W fs)) (hg : Gl X "isinstance" := by rfl) (he : starEach (e :: es) X.env = (false, eval e X.env) :: starEach es X.env := by rfl) (hpl : (backTo pos (starEach es X.env)).any (·.1) = false := by rfl) :
    PE X (.Call (.Name "isinstance" p) (e :: es) [] pos) (tD g W (cCall (ar2 (isiD J)) fs)) := de_callB (by rw [← hK]; exact call_isi) (isi_ok hJ) hm hv ha hg he hpl
/-- an own class's name -/
theorem de_cls {x : Str} (c : Nat) (hm : X.mg x = some (.ref (g.ct c))) (hg : Gl X x := by rfl) (hd : (x == ("__debug__" : Str)) = false := by decide) : PE X (.Name x pos) (tD g W (cC (.cls c))) := de_glob hm ⟨.ref (g.ct c), rfl, fun _ _ _ => .cls c⟩ hg hd

/-! ### methods of lists -/
def appO (y : D) (l : Nat) (S : Sto) : Option Ob → Option Sto
  | some (.lst xs) => if fit (xs.length + 1) = true then some (S.set l (.lst (xs ++ [y]))) else none
  | _ => none
def appQ : D → D → Sto → Option Sto
  | .loc l, y, S => appO y l S S[l]?
  | _, _, _ => none
/-- a method that changes the store and gives None -/
def unitQ (o : Option Sto) : Rz D := match o with
  | some S' => .ok .non S'
  | none => .no
def appD (x y : D) : Mo D := fun S => unitQ (appQ x y S)
theorem app_ok : SM g rAppend (am1 appD) := SM.one fun m S H x y d e Q W sr rx ry h => by
  have h2 : PRx g m S H W (KD g Q) (unitQ (appQ d e S)) := h
  cases z : appQ d e S with
  | none => rw [z] at h2; exact h2.elim
  | some S' =>
    rw [z] at h2
    cases rx with
    | loc l hl =>
      have z2 : appO e l S S[l]? = some S' := z
      cases q0 : S[l]? with
      | none => rw [q0] at z2; cases z2
      | some ob =>
        rw [q0] at z2
        cases ob with
        | lst ds =>
          have z3 : (if fit (ds.length + 1) = true then some (S.set l (.lst (ds ++ [e]))) else none) = some S' := z2
          by_cases qf : fit (ds.length + 1) = true
          · rw [if_pos qf] at z3
            cases z3
            obtain ⟨hl, xs, hx, rs⟩ := sr.atL q0
            have zf := fit_iff.mp qf
            have ew : Ev g m S.length H m S.length (upd H (m l) (.lst (xs ++ [y]))) := Ev.wr (sr.canw hl)
            refine ⟨m l, xs, y, rfl, rfl, hx, by rw [rs.length]; omega, h2 m _ (by rw [List.length_set]; exact ew) (sr.wr hl ⟨_, upd_same, ?_⟩) _ .non⟩
            exact (rs.append (.cons _ _ _ _ ry .nil)).ev ew
          · rw [if_neg qf] at z3; cases z3
        | _ => cases z2
    | _ => cases z
end
end Sm
end
section
/-! Sm, part I: the glue: what the top has made, the end of a law. -/
namespace Sm
open PySem PySem.Spec PyProof.Rows L2

/-- addresses by number -/
def pick (l : List Addr) : Nat → Addr := fun i => l.getD i 0
/-- a def of the module -/
structure FnT (K : PySem.W.Frag) (mg : Str → Option Value) (nm : Str) (st : Stmt) (ps : List Str) : Type where
  fn : Addr
  fd : FuncData
  F : L2.Fun K nm nm st fn fd
  b : Binds K fd ps []
  m : mg nm = some (.ref fn)
  k : PySem.W.keepIn K (.ref fn) = true
/-- a method of a class -/
structure MeT (K : PySem.W.Frag) (C : Addr) (nm qual : Str) (st : Stmt) (ps : List Str) : Type where
  fn : Addr
  fd : FuncData
  F : L2.Fun K nm qual st fn fd
  b : Binds K fd ps []
  m : Meth K C nm fn
/-- a class with its own __init__ -/
structure InT (K : PySem.W.Frag) (mg : Str → Option Value) (C : Addr) (nm qual : Str) (st : Stmt) (ps : List Str) : Type where
  fn : Addr
  fd : FuncData
  F : L2.Fun K "__init__" qual st fn fd
  b : Binds K fd ps []
  M : Mk K C fn
  cl : Cls K C
  m : mg nm = some (.ref C)
/-- the table of isinstance as a list -/
def look {α β : Type} [DecidableEq α] (a : α) : List (α × β) → Option β
  | [] => none
  | (x, y) :: r => if a = x then some y else look a r
def tabJ (l : List ((TK × TK) × Bool)) (t c : TK) : Option Bool := look (t, c) l
theorem look_mem {α β : Type} [DecidableEq α] {a : α} {b : β} : ∀ {l : List (α × β)}, look a l = some b → (a, b) ∈ l
  | [], h => by cases h
  | (x, y) :: r, h => by
    unfold look at h
    by_cases q : a = x
    · rw [if_pos q] at h; cases h; rw [q]; exact List.mem_cons_self
    · rw [if_neg q] at h; exact List.mem_cons_of_mem _ (look_mem h)
section
variable {P : Program} {w : World} {K : PySem.W.Frag} {mg : Str → Option Value} {base : Heap} {g : Gx}
theorem isTab_of {l : List ((TK × TK) × Bool)} (h1 : ∀ e ∈ l, PySem.W.kitOne g.K (tv g e.1.1) (tv g e.1.2) = some e.2)
    (h2 : ∀ e ∈ l, ∀ c, e.1.1 = .inr c → Cls g.K (g.ct c) ∧ PySem.W.findIn g.K (.ref (g.ct c)) "__class__" = some (some (.builtin "object.__class__")) ∧ PySem.W.specialIn g.K (.builtin "object.__class__") "__get__" = some (some (.builtin "getset_descriptor.__get__")) ∧
      PySem.W.takesIn g.K (.builtin "object.__class__") = some true ∧ PySem.W.mroIn g.K (g.ct c) (.type "object") = some true) : IsTab g (tabJ l) :=
  ⟨fun t c b h => h1 _ (look_mem h), fun c t b h => h2 _ (look_mem h) c rfl⟩
/-- the table of fields as a list -/
def tabF (l : List (Nat × Str)) : FTab := fun c f => decide ((c, f) ∈ l)
theorem tabOk_of {l : List (Nat × Str)} (h : ∀ e ∈ l, Cls g.K (g.ct e.1) ∧ NoAttr g.K (g.ct e.1) e.2) : TabOk g (tabF l) := ⟨fun c f q => h (c, f) (of_decide_eq_true q)⟩

theorem kit_tt {a b : String} {r : Bool} (h : kitB a b = some r) : PySem.W.kitOne K (.type a) (.type b) = some r := kit_ty h
theorem kit_self {t : Value} : PySem.W.kitOne K t t = some true := if_pos (beq_self_eq_true _)
theorem kit_rt {C : Addr} {T : String} {b : Bool} (h : PySem.W.kitMeta T = true) (s : PySem.W.subIn K (.ref C) (.type T) = some b) : PySem.W.kitOne K (.ref C) (.type T) = some b := by
  unfold PySem.W.kitOne
  rw [if_neg (by intro z; exact absurd (beq_iff_eq.mp z) (by intro q; cases q))]
  show (if PySem.W.kitMeta T = true then _ else _) = _
  rw [if_pos h]
  exact s
theorem kit_xr {C D : Addr} {b : Bool} (ne : (D == C) = false) (i : PySem.W.isClsIn K C = true) (ty : PySem.W.typeIn K (.ref C) = some (.type "type")) (s : PySem.W.subIn K (.ref D) (.ref C) = some b) : PySem.W.kitOne K (.ref D) (.ref C) = some b := by
  unfold PySem.W.kitOne
  rw [if_neg (by intro z; have := beq_iff_eq.mp z; cases this; simp at ne)]
  have e2 : ((PySem.W.clsIn K C).isSome && PySem.W.typeIn K (.ref C) == some (.type "type")) = true := by
    have i' : (PySem.W.clsIn K C).isSome = true := i
    rw [i', ty] <;> rfl
  show (if ((PySem.W.clsIn K C).isSome && PySem.W.typeIn K (.ref C) == some (.type "type")) = true then _ else _) = _
  rw [if_pos e2]
  exact s
theorem kit_tr {C : Addr} {T : String} {b : Bool} (i : PySem.W.isClsIn K C = true) (ty : PySem.W.typeIn K (.ref C) = some (.type "type")) (s : PySem.W.subIn K (.type T) (.ref C) = some b) : PySem.W.kitOne K (.type T) (.ref C) = some b := by
  unfold PySem.W.kitOne
  rw [if_neg (by intro z; have := beq_iff_eq.mp z; cases this)]
  have e2 : ((PySem.W.clsIn K C).isSome && PySem.W.typeIn K (.ref C) == some (.type "type")) = true := by
    have i' : (PySem.W.clsIn K C).isSome = true := i
    rw [i', ty] <;> rfl
  show (if ((PySem.W.clsIn K C).isSome && PySem.W.typeIn K (.ref C) == some (.type "type")) = true then _ else _) = _
  rw [if_pos e2]
  exact s
theorem fa_nil {α : Type} {P : α → Prop} : ∀ e ∈ ([] : List α), P e := fun _ h => by cases h
theorem fa_cons {α : Type} {P : α → Prop} {a : α} {l : List α} (h : P a) (r : ∀ e ∈ l, P e) : ∀ e ∈ a :: l, P e := fun e q => by
  rcases List.mem_cons.mp q with z | z
  · rw [z]; exact h
  · exact r e z
theorem cst_int (i : Int) (t : Tok) : Cst g (.int i t) (.int i) := ⟨.int i, ⟨t, rfl⟩, fun _ _ _ => .int i⟩
theorem cst_str (i : Str) (t : Tok) : Cst g (.str i t) (.str i) := ⟨.str i, ⟨t, rfl⟩, fun _ _ _ => .str i⟩
theorem fn_bad {CX : CXT} {k : Nat} {fn : Addr} {fd : FuncData} {ps : List Str} {np : Nat} : FnOk P w K mg base CX k fn fd ps (spF g np fun _ => bad) :=
  ⟨fun _ _ _ _ h => by obtain ⟨_, _, _, _, _, _, h⟩ := h; exact h.elim, fun _ _ _ _ _ _ _ _ _ _ _ _ _ h => by obtain ⟨_, _, _, _, _, _, h⟩ := h; exact h.elim⟩
theorem fn_do {nm qual : Str} {st : Stmt} {fn : Addr} {fd : FuncData} {N ps : List Str} {k np n : Nat} {s : DS} (F : L2.Fun K nm qual st fn fd) (S : FnScope N ps (defScope st)) (hp : ps.length = np := by rfl) (hn : N.length = n := by rfl)
    (hbody : ∀ (cdv : Value) (A : Around) (outer : List Env) (s0 : Shared) (H : Hp) (E : XK), Room k (A.deeper (envOfC qual (defScope st) s0.heap.objs.size fn cdv)) →
      PSs (cxOf (L2.CX P w) P w K mg base N qual (defScope st) fn cdv A outer s0 H E) (defBody st) (tS g (fun cls d _ H => E cls d H) s)) :
    FnOk P w K mg base (L2.CX P w) (k + 1) fn fd ps (spF g np (cDef n s)) := by
  subst hp
  subst hn
  exact fn_sm F S hbody
/-- a level's denotation: below 2 nothing -/
def lev (F : Nat → List D → Mo D) : Nat → List D → Mo D
  | 0 => fun _ => bad
  | 1 => fun _ => bad
  | k + 2 => F k
@[simp] theorem lev_succ {F : Nat → List D → Mo D} {k : Nat} : lev F (k + 2) = F k := rfl
theorem fn_lev {CX : CXT} {k : Nat} {fn : Addr} {fd : FuncData} {ps : List Str} {np : Nat} {F : Nat → List D → Mo D} (h : ∀ j, FnOk P w K mg base CX (j + 2) fn fd ps (spF g np (F j))) : FnOk P w K mg base CX k fn fd ps (spF g np (lev F k)) := by
  match k with
  | 0 => exact fn_bad
  | 1 => exact fn_bad
  | k + 2 => exact h k

/-! ### the end of a law -/
def spL (n : Nat) (K : PySem.W.Frag) : Sp := fun vs H Q _ => ∃ (a : Addr) (ns : List Int), vs = [.ref a] ∧ ns.length ≤ n ∧ (∀ z ∈ ns, Builtin.Int.intBits z ≤ 1048576) ∧ Only H ∧ SqL K H a (ns.map V.int) ∧ ∀ H', Q (.bl true) H'
theorem lsc_of {H : Hp} {a : Addr} {xs : List V} (hO : Only H) (h : SqL K H a xs) : Lsc K H a xs := by
  rcases h with h | h
  · refine .inl ?_
    rcases h with h | ⟨o, h⟩
    · rcases hO a with z | ⟨o, ys, z⟩
      · rw [z] at h; cases h
      · rw [z] at h; cases h
    · exact ⟨o, h⟩
  · exact .inr h
theorem sr_nil {m : Nat → Addr} {H : Hp} : SR g m H [] := ⟨fun l o h => by simp at h, fun l l' h => by simp at h⟩
theorem law_end {CX : CXT} {n k : Nat} {fn : Addr} {fd : FuncData} {ps : List Str} {F : List D → Mo D} (hK : g.K = K) (G : FnOk P w K mg base CX k fn fd ps (spF g 1 F)) (h : ∀ ns : List Int, ns.length ≤ n → (∀ z ∈ ns, Builtin.Int.intBits z ≤ 1048576) → ∃ S', F [.lsc (ns.map .int)] [] = .ok (.bl true) S') :
    FnOk P w K mg base CX k fn fd ps (spL n K) := by
  refine G.imp fun vs H Q E q => ?_
  obtain ⟨a, ns, rfl, hl, hb, hO, hS, hQ⟩ := q
  obtain ⟨S', e⟩ := h ns hl hb
  refine ⟨rfl, fun _ => 0, [], [.lsc (ns.map .int)], sr_nil, .cons _ _ _ _ (.lsc a (ns.map V.int) _ (by rw [hK]; exact lsc_of hO hS) (VRs.of_ints ns)) .nil, ?_⟩
  rw [e]
  intro m' H' _ _ v rv
  cases rv
  exact hQ H'
theorem walk_sm {l : PySem.W.OpenLaw} {n k : Nat} {q : Program} {loose : List Str} {XP : (Str → Option Value) → Heap → Prop} {YP : World → Heap → Prop} {d : DefRec} {K : Params → PySem.W.Frag} {x : Str}
    (hn : l.most = some n) (hn2 : n ≤ sizeLine) (hdf : d.params.defaults = []) (hr : Room k callerA)
    (hY : ∀ (w : World) (h : Heap), YP w h → (K w.params).In h)
    (F : ∀ (w : World) (mg : Str → Option Value) (fa : Addr) (h : Heap), (K w.params).In h → h.Ns mainGlobals mg → mg d.name = some (.ref fa) →
      ∃ fd : FuncData, (∀ (s : Shared) (u : Value), BindsTo s fd ⟨[u], []⟩ [(x, u)]) ∧
        ∀ base : Heap, (K w.params).In base → base.Ns mainGlobals mg → FnOk l.prog w (K w.params) mg base (L2.CX l.prog w) k fa fd [x] (spL n (K w.params))) :
    PySem.W.WalkO q loose XP YP l.row.toRowW d [] (fun f vs => PySem.call f vs) :=
  L2.walk_ofB (CX := fun w => L2.CX l.prog w) (sp := fun w => spL n (K w.params)) hn hn2 hdf hr hY F (fun w H a ns hl hb hO hS => ⟨a, ns, rfl, hl, hb, hO, hS, fun _ => rfl⟩)
    fun w H s e s' z => by
      obtain ⟨_, _, _, _, _, _, _, _, _, _, _, _, z⟩ := z
      exact z.elim
end
end Sm
end
section
/-! Sm, part J: how denotations are reckoned (for simp). -/
namespace Sm
open PySem PySem.Spec PyProof.Rows L2
section
variable {S S' : Sto} {ρ : En} {f fa fb fc : DE} {fs : En → Mo (List D)} {ft fu : En → Mo Bool} {s t u : DS} {d e : D} {i j : Int}
/-! ### expressions -/
@[simp] theorem cVar_e (i : Nat) : cVar i ρ S = (match ρ[i]? with
  | some (some d) => .ok d S
  | _ => .no) := rfl
@[simp] theorem cC_e : cC d ρ S = .ok d S := rfl
@[simp] theorem cNil_e : cNil ρ S = .ok [] S := rfl
@[simp] theorem cCons_e : cCons f fs ρ S = (f ρ S).andThen fun x S1 => (fs ρ S1).andThen fun xs S2 => .ok (x :: xs) S2 := rfl
@[simp] theorem cTup_e : cTup fs ρ S = (fs ρ S).andThen fun xs S1 => if fit xs.length = true then .ok (.tup xs) S1 else .no := rfl
@[simp] theorem cLst_e : cLst fs ρ S = (fs ρ S).andThen fun xs S1 => newL xs S1 := rfl
@[simp] theorem cOp_e {h : D → D → Mo D} : cOp h fa fb ρ S = (fa ρ S).andThen fun x S1 => (fb ρ S1).andThen fun y S2 => h x y S2 := rfl
@[simp] theorem cUn_e {h : D → Mo D} : cUn h fa ρ S = (fa ρ S).andThen fun x S1 => h x S1 := rfl
@[simp] theorem cTest_e : cTest f ρ S = (f ρ S).andThen fun x S1 => asB x S1 := rfl
@[simp] theorem asB_e {b : Bool} : asB (.bl b) S = .ok b S := rfl
@[simp] theorem cTru_e : cTru f ρ S = (f ρ S).andThen fun x S1 => trD x S1 := rfl
@[simp] theorem cNotT_e : cNotT ft ρ S = (ft ρ S).andThen fun k S1 => .ok (!k) S1 := rfl
@[simp] theorem cAndT_e : cAndT ft fu ρ S = (ft ρ S).andThen fun k S1 => if k = true then fu ρ S1 else .ok false S1 := by
  show (ft ρ S).andThen _ = _
  congr
  funext k S1
  cases k <;> rfl
@[simp] theorem cOrT_e : cOrT ft fu ρ S = (ft ρ S).andThen fun k S1 => if k = true then .ok true S1 else fu ρ S1 := by
  show (ft ρ S).andThen _ = _
  congr
  funext k S1
  cases k <;> rfl
@[simp] theorem cAnd_e : cAnd fa fb ρ S = (fa ρ S).andThen fun x S1 => (trD x S1).andThen fun k S2 => if k = true then fb ρ S2 else .ok x S2 := by
  show (fa ρ S).andThen _ = _
  congr
  funext x S1
  show (trD x S1).andThen _ = _
  congr
  funext k S2
  cases k <;> rfl
@[simp] theorem cOr_e : cOr fa fb ρ S = (fa ρ S).andThen fun x S1 => (trD x S1).andThen fun k S2 => if k = true then .ok x S2 else fb ρ S2 := by
  show (fa ρ S).andThen _ = _
  congr
  funext x S1
  show (trD x S1).andThen _ = _
  congr
  funext k S2
  cases k <;> rfl
@[simp] theorem cNot_e : cNot fa ρ S = (fa ρ S).andThen fun x S1 => (trD x S1).andThen fun k S2 => .ok (.bl (!k)) S2 := rfl
@[simp] theorem cIf_e : cIf ft fa fb ρ S = (ft ρ S).andThen fun k S1 => if k = true then fa ρ S1 else fb ρ S1 := by
  show (ft ρ S).andThen _ = _
  congr
  funext k S1
  cases k <;> rfl
@[simp] theorem cCall_e {h : List D → Mo D} : cCall h fs ρ S = (fs ρ S).andThen fun xs S1 => h xs S1 := rfl
@[simp] theorem cChain_e {h h' : D → D → Mo D} : cChain h h' fa fb fc ρ S = (fa ρ S).andThen fun x S1 => (fb ρ S1).andThen fun y S2 => (h x y S2).andThen fun z S3 => (asB z S3).andThen fun k S4 => if k = true then (fc ρ S4).andThen fun u S5 => h' y u S5 else .ok (.bl false) S4 := by
  show (fa ρ S).andThen _ = _
  congr
  funext x S1
  show (fb ρ S1).andThen _ = _
  congr
  funext y S2
  show (h x y S2).andThen _ = _
  congr
  funext z S3
  show (asB z S3).andThen _ = _
  congr
  funext k S4
  cases k <;> rfl
@[simp] theorem cMt_e {T : String} {h : D → List D → Mo D} : cMt T h fa fs ρ S = (fa ρ S).andThen fun x S1 => (chk T x S1).andThen fun _ S2 => (fs ρ S2).andThen fun xs S3 => h x xs S3 := rfl
@[simp] theorem cMt0_e {T : String} {h : D → List D → Mo D} : cMt0 T h fa ρ S = (fa ρ S).andThen fun x S1 => (chk T x S1).andThen fun _ S2 => h x [] S2 := rfl
@[simp] theorem cFld_e {T : FTab} {nm : Str} : cFld T nm fa ρ S = (fa ρ S).andThen fun x S1 => fldD T nm x S1 := rfl
@[simp] theorem apF_e {np : Nat} {F : List D → Mo D} {ds : List D} : apF np F ds S = if ds.length = np then F ds S else .no := by
  unfold apF
  split <;> rfl
@[simp] theorem ar1_e {h : D → Mo D} : ar1 h [d] S = h d S := rfl
@[simp] theorem ar2_e {h : D → D → Mo D} : ar2 h [d, e] S = h d e S := rfl
@[simp] theorem am0_e {h : D → Mo D} : am0 h d [] S = h d S := rfl
@[simp] theorem am1_e {h : D → D → Mo D} : am1 h d [e] S = h d e S := rfl
@[simp] theorem optD_some {α : Type} {a : α} : optD (some a) S = .ok a S := rfl
@[simp] theorem optD_none {α : Type} : optD (none : Option α) S = .no := rfl
@[simp] theorem newL_e {xs : List D} (h : xs.length ≤ 16777216) : newL xs S = .ok (.loc S.length) (S ++ [.lst xs]) := by
  unfold newL
  rw [if_pos (fit_of h)]
@[simp] theorem fit_e {n : Nat} (h : n ≤ 16777216) : fit n = true := fit_of h
@[simp] theorem cSl_e {lo hi : En → Mo (Option Int)} : cSl fa lo hi ρ S = (fa ρ S).andThen fun x S1 => (lo ρ S1).andThen fun l S2 => (hi ρ S2).andThen fun h S3 => slD l h x S3 := rfl
@[simp] theorem cPart_none : cPart none ρ S = .ok none S := rfl
@[simp] theorem cPart_some : cPart (some fa) ρ S = (fa ρ S).andThen fun x S1 => match x with
    | .int i => .ok (some i) S1
    | _ => .no := by
  show (fa ρ S).andThen _ = _
  congr
  funext x S1
  cases x <;> rfl
/-! ### operations -/
@[simp] theorem addD_int : addD (.int i) (.int j) S = .ok (.int (i + j)) S := rfl
@[simp] theorem addD_str {x y : Str} : addD (.str x) (.str y) S = if fit (x.length + y.length) = true then .ok (.str (x ++ y)) S else .no := rfl
@[simp] theorem addD_tup {x y : List D} : addD (.tup x) (.tup y) S = if fit (x.length + y.length) = true then .ok (.tup (x ++ y)) S else .no := rfl
@[simp] theorem addD_loc {l l' : Nat} : addD (.loc l) (.loc l') S = addO S S[l]? S[l']? := rfl
@[simp] theorem subD_int : subD (.int i) (.int j) S = .ok (.int (i - j)) S := rfl
@[simp] theorem mulD_int : mulD (.int i) (.int j) S = if okMul i j = true then .ok (.int (i * j)) S else .no := rfl
@[simp] theorem fdivD_int : fdivD (.int i) (.int j) S = if okDiv i j = true then .ok (.int (i.fdiv j)) S else .no := rfl
@[simp] theorem modD_int : modD (.int i) (.int j) S = if okMod i j = true then .ok (.int (i % j)) S else .no := rfl
@[simp] theorem powD_int : powD (.int i) (.int j) S = if okPow i j = true then .ok (.int (i ^ j.toNat)) S else .no := rfl
@[simp] theorem shrD_int : shrD (.int i) (.int j) S = if okShr i j = true then .ok (.int (i / 2 ^ j.toNat)) S else .no := rfl
@[simp] theorem andD_int : andD (.int i) (.int j) S = .ok (.int (Builtin.bitAnd i j)) S := rfl
@[simp] theorem negD_int : negD (.int i) S = .ok (.int (-i)) S := rfl
@[simp] theorem ltI_int : ltI (.int i) (.int j) S = .ok (.bl (decide (i < j))) S := rfl
@[simp] theorem leI_int : leI (.int i) (.int j) S = .ok (.bl (decide (i ≤ j))) S := rfl
@[simp] theorem gtI_int : gtI (.int i) (.int j) S = .ok (.bl (decide (j < i))) S := rfl
@[simp] theorem geI_int : geI (.int i) (.int j) S = .ok (.bl (decide (j ≤ i))) S := rfl
@[simp] theorem okMod_e (h : 0 < j) : okMod i j = true := okMod_iff.mpr h
@[simp] theorem okShr_e (h : 0 ≤ j) : okShr i j = true := okShr_iff.mpr h
@[simp] theorem okPow_e (h : 0 ≤ j) (h2 : j ≤ 1000000) (h3 : i.natAbs < 18446744073709551616) : okPow i j = true := okPow_iff.mpr ⟨h, h2, h3⟩
theorem log2_lt {n k : Nat} (hk : 0 < k) (h : n < 2 ^ k) : n.log2 < k := by
  rcases Nat.eq_zero_or_pos n with z | z
  · subst z; simpa using hk
  · exact (Nat.log2_lt (Nat.ne_of_gt z)).mpr h
@[simp] theorem okDiv_e (h : 0 < j) (h2 : j < 18446744073709551616) : okDiv i j = true := okDiv_iff.mpr ⟨by omega, by
  have : j.natAbs.log2 < 64 := log2_lt (by decide) (by omega)
  omega⟩
theorem okDiv_n (h : j ≠ 0) (h2 : j.natAbs < 2 ^ 9000) : okDiv i j = true := okDiv_iff.mpr ⟨h, log2_lt (by decide) h2⟩
@[simp] theorem fdiv_e (h : 0 < j) : i.fdiv j = i / j := Int.fdiv_eq_ediv_of_nonneg i (by omega)
@[simp] theorem okMul_e (h : -18446744073709551616 < i) (h2 : i < 18446744073709551616) : okMul i j = true := okMul_iff.mpr (.inl (.inl ⟨by simpa using h, by simpa using h2⟩))
theorem okMul_n {a b : Nat} (ha : i.natAbs < 2 ^ a) (hb : j.natAbs < 2 ^ b) (h0 : 0 < a) (h1 : 0 < b) (h : a + b ≤ 1000000) : okMul i j = true := okMul_iff.mpr (.inr (wide_mul ha hb h0 h1 h))
@[simp] theorem intD_int : intD (.int i) S = .ok (.int i) S := rfl
@[simp] theorem intD_bl {b : Bool} : intD (.bl b) S = .ok (.int (if b = true then 1 else 0)) S := rfl
@[simp] theorem absD_int : absD (.int i) S = .ok (.int (if i < 0 then -i else i)) S := rfl
@[simp] theorem maxD_int : maxD (.int i) (.int j) S = .ok (.int (if j > i then j else i)) S := rfl
@[simp] theorem minD_int : minD (.int i) (.int j) S = .ok (.int (if j < i then j else i)) S := rfl
theorem eqN_flat {n : Nat} {b : Bool} (h : scalF d e = some b) : eqN S n d e = some b := by
  cases n with
  | zero => exact h
  | succ n => unfold eqN; rw [h]
theorem okTop_flat (h : flatD d = true) : okTop S d = true := by
  cases d <;> first | rfl | (cases h; done)
theorem eqQ_flat {b : Bool} (h : scalF d e = some b) : eqQ d e S = some b := by
  obtain ⟨h1, h2, _⟩ := scalF_some h
  unfold eqQ
  rw [okTop_flat h1, okTop_flat h2, eqN_flat h]
  rfl
theorem eqD_flat {b : Bool} (h : scalF d e = some b) : eqD d e S = .ok (.bl b) S := by
  unfold eqD
  rw [eqQ_flat h]
theorem neD_flat {b : Bool} (h : scalF d e = some b) : neD d e S = .ok (.bl (!b)) S := by
  unfold neD
  rw [eqQ_flat h]
@[simp] theorem eqD_int : eqD (.int i) (.int j) S = .ok (.bl (i == j)) S := eqD_flat rfl
@[simp] theorem neD_int : neD (.int i) (.int j) S = .ok (.bl (!(i == j))) S := neD_flat rfl
@[simp] theorem eqD_str {x y : Str} : eqD (.str x) (.str y) S = .ok (.bl (x == y)) S := eqD_flat rfl
@[simp] theorem neD_str {x y : Str} : neD (.str x) (.str y) S = .ok (.bl (!(x == y))) S := neD_flat rfl
@[simp] theorem eqD_bl {x y : Bool} : eqD (.bl x) (.bl y) S = .ok (.bl (x == y)) S := eqD_flat rfl
@[simp] theorem neD_bl {x y : Bool} : neD (.bl x) (.bl y) S = .ok (.bl (!(x == y))) S := neD_flat rfl
@[simp] theorem eqD_ni : eqD .non (.int j) S = .ok (.bl false) S := eqD_flat rfl
@[simp] theorem eqD_in : eqD (.int j) .non S = .ok (.bl false) S := eqD_flat rfl
@[simp] theorem eqD_ns {x : Str} : eqD .non (.str x) S = .ok (.bl false) S := eqD_flat rfl
@[simp] theorem eqD_sn {x : Str} : eqD (.str x) .non S = .ok (.bl false) S := eqD_flat rfl
@[simp] theorem eqD_is {x : Str} : eqD (.int i) (.str x) S = .ok (.bl false) S := eqD_flat rfl
@[simp] theorem eqD_si {x : Str} : eqD (.str x) (.int i) S = .ok (.bl false) S := eqD_flat rfl
@[simp] theorem neD_ni : neD .non (.int j) S = .ok (.bl true) S := neD_flat (b := false) rfl
@[simp] theorem neD_in : neD (.int j) .non S = .ok (.bl true) S := neD_flat (b := false) rfl
@[simp] theorem neD_is {x : Str} : neD (.int i) (.str x) S = .ok (.bl true) S := neD_flat (b := false) rfl
@[simp] theorem neD_si {x : Str} : neD (.str x) (.int i) S = .ok (.bl true) S := neD_flat (b := false) rfl
/-- all of them, if all can be told -/
def mapO (f : D → Option D) : List D → Option (List D)
  | [] => some []
  | x :: xs => match f x, mapO f xs with
    | some y, some ys => some (y :: ys)
    | _, _ => none
/-- data with its lists written out, n deep at most -/
def cont (S : Sto) : Nat → D → Option D
  | 0, d => if flatD d = true then some d else none
  | n + 1, .tup xs => (mapO (cont S n) xs).map .tup
  | n + 1, .lsc xs => (mapO (cont S n) xs).map .lsc
  | n + 1, .loc l => match S[l]? with
    | some (.lst xs) => (mapO (cont S n) xs).map .lsc
    | some (.ins _ _) => some (.loc l)
    | _ => none
  | _ + 1, d => if flatD d = true then some d else none
theorem mapO_len {f : D → Option D} : ∀ {xs ys : List D}, mapO f xs = some ys → ys.length = xs.length
  | [], _, h => by cases h; rfl
  | x :: xs, ys, h => by
    unfold mapO at h
    cases q : f x with
    | none => simp only [q] at h; cases h
    | some y =>
      cases q2 : mapO f xs with
      | none => simp only [q, q2] at h; cases h
      | some zs =>
        simp only [q, q2] at h
        cases h
        simp [mapO_len q2]
theorem eqAll_cont {f : D → D → Option Bool} {c : D → Option D} (hf : ∀ d e r, c d = some r → c e = some r → f d e = some true) : ∀ {xs ys zs : List D}, mapO c xs = some zs → mapO c ys = some zs → eqAll f xs ys = some true
  | [], ys, _, h, h' => by cases h; cases ys with
    | nil => rfl
    | cons _ _ => have := mapO_len h'; simp at this
  | x :: xs, [], _, h, h' => by cases h'; have := mapO_len h; simp at this
  | x :: xs, y :: ys, zs, h, h' => by
    unfold mapO at h h'
    cases q1 : c x with
    | none => simp only [q1] at h; cases h
    | some u =>
      cases q2 : mapO c xs with
      | none => simp only [q1, q2] at h; cases h
      | some us =>
        cases q3 : c y with
        | none => simp only [q3] at h'; cases h'
        | some w =>
          cases q4 : mapO c ys with
          | none => simp only [q3, q4] at h'; cases h'
          | some ws =>
            simp only [q1, q2] at h
            simp only [q3, q4] at h'
            cases h
            cases h'
            unfold eqAll
            rw [hf x y _ q1 q3, eqAll_cont hf q2 q4]
            rfl
theorem flat_self : flatD d = true → scalF d d = some true := by
  intro h
  cases d <;> first | (cases h; done) | (simp [scalF, flatD, eqF])
theorem cont_shape {n : Nat} {r : D} (h : cont S n d = some r) : (flatD d = true ∧ r = d) ∨ (∃ k xs zs, n = k + 1 ∧ d = .tup xs ∧ mapO (cont S k) xs = some zs ∧ r = .tup zs) ∨ (∃ k xs zs, n = k + 1 ∧ lstS S d = some xs ∧ flatD d = false ∧ (∀ ys, d ≠ .tup ys) ∧ mapO (cont S k) xs = some zs ∧ r = .lsc zs) ∨ (∃ l, d = .loc l ∧ r = .loc l ∧ lstS S d = none ∧ ∃ k, n = k + 1) := by
  cases n with
  | zero =>
    have h2 : (if flatD d = true then some d else none) = some r := by cases d <;> exact h
    split at h2
    · rename_i q; cases h2; exact .inl ⟨q, rfl⟩
    · cases h2
  | succ k =>
    cases d with
    | tup xs =>
      obtain ⟨zs, q, rfl⟩ := Option.map_eq_some_iff.mp (show (mapO (cont S k) xs).map D.tup = some r from h)
      exact .inr (.inl ⟨k, xs, zs, rfl, rfl, q, rfl⟩)
    | lsc xs =>
      obtain ⟨zs, q, rfl⟩ := Option.map_eq_some_iff.mp (show (mapO (cont S k) xs).map D.lsc = some r from h)
      exact .inr (.inr (.inl ⟨k, xs, zs, rfl, rfl, rfl, (by intro _ z; cases z), q, rfl⟩))
    | loc l =>
      unfold cont at h
      cases q0 : S[l]? with
      | none => simp only [q0] at h; cases h
      | some o =>
        simp only [q0] at h
        cases o with
        | lst xs =>
          obtain ⟨zs, q, rfl⟩ := Option.map_eq_some_iff.mp h
          exact .inr (.inr (.inl ⟨k, xs, zs, rfl, by show lstO S[l]? = _; rw [q0]; rfl, rfl, (by intro _ z; cases z), q, rfl⟩))
        | ins c fs => cases h; exact .inr (.inr (.inr ⟨l, rfl, rfl, by show lstO S[l]? = _; rw [q0]; rfl, k, rfl⟩))
        | dct kvs => cases h
    | _ =>
      first
        | (cases h; exact .inl ⟨rfl, rfl⟩)
        | (cases h; done)
theorem eqN_cont (n : Nat) : ∀ {d e r : D}, cont S n d = some r → cont S n e = some r → eqN S n d e = some true := by
  induction n using Nat.strongRecOn with
  | ind n ih =>
    intro d e r h h'
    rcases cont_shape h with ⟨f1, rfl⟩ | ⟨k, xs, zs, rfl, rfl, m1, rfl⟩ | ⟨k, xs, zs, rfl, l1, f1, t1, m1, rfl⟩ | ⟨l, rfl, rfl, l1, k, rfl⟩
    · rcases cont_shape h' with ⟨f2, rfl⟩ | ⟨_, _, _, _, rfl, _, rfl⟩ | ⟨_, _, _, _, _, f2, _, _, rfl⟩ | ⟨l, rfl, rfl, _⟩
      · exact eqN_flat (flat_self f1)
      · cases f1
      · cases f1
      · cases f1
    · rcases cont_shape h' with ⟨f2, e2⟩ | ⟨_, ys, zs', e1, rfl, m2, e2⟩ | ⟨_, _, _, _, _, _, _, _, e2⟩ | ⟨l, _, e2, _⟩
      · subst e2; cases f2
      · cases e1
        cases e2
        show (match scalF (.tup xs) (.tup ys) with
          | some b => some b
          | none => (eqAll (eqN S k) xs ys).map fun b => b && decide (xs.length = ys.length)) = some true
        rw [eqAll_cont (f := eqN S k) (c := cont S k) (fun _ _ _ a b => ih k (Nat.lt_succ_self k) a b) m1 m2]
        have : xs.length = ys.length := by rw [← mapO_len m1, ← mapO_len m2]
        simp [scalF, flatD, this]
      · cases e2
      · cases e2
    · rcases cont_shape h' with ⟨f2, e2⟩ | ⟨_, ys, zs', e1, rfl, m2, e2⟩ | ⟨_, ys, zs', e1, l2, f2, t2, m2, e2⟩ | ⟨l, _, e2, _⟩
      · subst e2; cases f2
      · cases e2
      · cases e1
        cases e2
        have key : eqC (eqN S k) S d e = eqL (eqN S k) S d e := by
          cases d <;> cases e <;> first | rfl | exact absurd rfl (t1 _) | exact absurd rfl (t2 _)
        unfold eqN
        have : scalF d e = none := by unfold scalF; rw [f1]; rfl
        rw [this]
        dsimp only
        rw [key]
        unfold eqL
        simp only [l1, l2]
        rw [if_pos (by rw [← mapO_len m1, ← mapO_len m2])]
        exact eqAll_cont (f := eqN S k) (c := cont S k) (fun _ _ _ a b => ih k (Nat.lt_succ_self k) a b) m1 m2
      · cases e2
    · rcases cont_shape h' with ⟨f2, e2⟩ | ⟨_, _, _, _, _, _, e2⟩ | ⟨_, _, _, _, _, _, _, _, e2⟩ | ⟨l', e1, e2, l2, _⟩
      · subst e2; cases f2
      · cases e2
      · cases e2
      · cases e2
        subst e1
        unfold eqN
        show eqL (eqN S k) S (.loc l) (.loc l) = some true
        unfold eqL
        simp only [l1]
        simp [sameI]
theorem top_cont {n : Nat} {r : D} (h : cont S n d = some r) (hn : ∀ l, r ≠ .loc l) : okTop S d = true := by
  rcases cont_shape h with ⟨f1, rfl⟩ | ⟨k, xs, zs, rfl, rfl, m1, rfl⟩ | ⟨k, xs, zs, rfl, l1, f1, t1, m1, rfl⟩ | ⟨l, rfl, rfl, l1, k, rfl⟩
  · exact okTop_flat f1
  · rfl
  · have : okTop S d = (flatD d || (lstS S d).isSome) := by cases d <;> first | rfl | exact absurd rfl (t1 _)
    rw [this, l1]
    simp
  · exact absurd rfl (hn l)
/-- what is written out alike is equal -/
theorem eq_cont {r : D} (h : cont S 60 d = some r) (h' : cont S 60 e = some r) (hn : ∀ l, r ≠ .loc l) : eqD d e S = .ok (.bl true) S := by
  unfold eqD eqQ
  rw [top_cont h hn, top_cont h' hn, eqN_cont 60 h h']
  rfl
theorem ne_cont {r : D} (h : cont S 60 d = some r) (h' : cont S 60 e = some r) (hn : ∀ l, r ≠ .loc l) : neD d e S = .ok (.bl false) S := by
  unfold neD eqQ
  rw [top_cont h hn, top_cont h' hn, eqN_cont 60 h h']
  rfl
@[simp] theorem mapO_nil {f : D → Option D} : mapO f [] = some [] := rfl
@[simp] theorem mapO_cons {f : D → Option D} {x : D} {xs : List D} : mapO f (x :: xs) = (f x).bind fun y => (mapO f xs).map fun ys => y :: ys := by
  conv => lhs; unfold mapO
  cases f x <;> cases mapO f xs <;> rfl
@[simp] theorem cont_tup {n : Nat} {xs : List D} : cont S (n + 1) (.tup xs) = (mapO (cont S n) xs).map .tup := rfl
@[simp] theorem cont_lsc {n : Nat} {xs : List D} : cont S (n + 1) (.lsc xs) = (mapO (cont S n) xs).map .lsc := rfl
@[simp] theorem cont_int {n : Nat} : cont S n (.int i) = some (.int i) := by cases n <;> rfl
@[simp] theorem cont_str {n : Nat} {x : Str} : cont S n (.str x) = some (.str x) := by cases n <;> rfl
@[simp] theorem cont_bl {n : Nat} {x : Bool} : cont S n (.bl x) = some (.bl x) := by cases n <;> rfl
@[simp] theorem cont_non {n : Nat} : cont S n .non = some .non := by cases n <;> rfl
theorem cont_loc {n l : Nat} : cont S (n + 1) (.loc l) = match S[l]? with
    | some (.lst xs) => (mapO (cont S n) xs).map .lsc
    | some (.ins _ _) => some (.loc l)
    | _ => none := rfl
@[simp] theorem isNone_n : isNone .non .non S = .ok (.bl true) S := rfl
@[simp] theorem isNone_i : isNone (.int i) .non S = .ok (.bl false) S := rfl
@[simp] theorem isNone_s {x : Str} : isNone (.str x) .non S = .ok (.bl false) S := rfl
@[simp] theorem isNone_t {x : List D} : isNone (.tup x) .non S = .ok (.bl false) S := rfl
@[simp] theorem isNone_l {x : Nat} : isNone (.loc x) .non S = .ok (.bl false) S := rfl
@[simp] theorem notNone_n : notNone .non .non S = .ok (.bl false) S := rfl
@[simp] theorem notNone_i : notNone (.int i) .non S = .ok (.bl true) S := rfl
@[simp] theorem notNone_s {x : Str} : notNone (.str x) .non S = .ok (.bl true) S := rfl
@[simp] theorem notNone_t {x : List D} : notNone (.tup x) .non S = .ok (.bl true) S := rfl
@[simp] theorem notNone_l {x : Nat} : notNone (.loc x) .non S = .ok (.bl true) S := rfl
@[simp] theorem getD_tup {xs : List D} : getD (.tup xs) (.int i) S = optD (L2.atI xs i) S := rfl
@[simp] theorem getD_lsc {xs : List D} : getD (.lsc xs) (.int i) S = optD (L2.atI xs i) S := rfl
@[simp] theorem getD_loc {l : Nat} : getD (.loc l) d S = optD (getO d S[l]?) S := rfl
@[simp] theorem getO_lst {xs : List D} : getO (.int i) (some (.lst xs)) = L2.atI xs i := rfl
@[simp] theorem getO_dctI {kvs : List (Key × D)} : getO (.int i) (some (.dct kvs)) = valD kvs (.inl i) := rfl
@[simp] theorem getO_dctS {x : Str} {kvs : List (Key × D)} : getO (.str x) (some (.dct kvs)) = valD kvs (.inr x) := rfl
@[simp] theorem isiD_e {J : TK → TK → Option Bool} : isiD J d e S = optD ((isiQ J d e S).map D.bl) S := rfl
@[simp] theorem fldD_loc {T : FTab} {nm : Str} {l : Nat} : fldD T nm (.loc l) S = optD (fldO T nm S[l]?) S := rfl
@[simp] theorem fldO_ins {T : FTab} {nm : Str} {c : Nat} {fs : List (Str × D)} : fldO T nm (some (.ins c fs)) = if T c nm = true then fs.lookup nm else none := rfl
@[simp] theorem lenD_e : lenD d S = optD (lenQ d S) S := rfl
@[simp] theorem lenQ_tup {xs : List D} : lenQ (.tup xs) S = some (.int xs.length) := rfl
@[simp] theorem lenQ_lsc {xs : List D} : lenQ (.lsc xs) S = some (.int xs.length) := rfl
@[simp] theorem lenQ_loc {l : Nat} : lenQ (.loc l) S = lenO S[l]? := rfl
@[simp] theorem lenO_lst {xs : List D} : lenO (some (.lst xs)) = some (.int xs.length) := rfl
@[simp] theorem lenO_dct {xs : List (Key × D)} : lenO (some (.dct xs)) = some (.int xs.length) := rfl
@[simp] theorem tyQ_non : tyQ .non S = some (.inl "NoneType") := rfl
@[simp] theorem tyQ_bl {b : Bool} : tyQ (.bl b) S = some (.inl "bool") := rfl
@[simp] theorem tyQ_int : tyQ (.int i) S = some (.inl "int") := rfl
@[simp] theorem tyQ_str {x : Str} : tyQ (.str x) S = some (.inl "str") := rfl
@[simp] theorem tyQ_tup {x : List D} : tyQ (.tup x) S = some (.inl "tuple") := rfl
@[simp] theorem tyQ_loc {l : Nat} : tyQ (.loc l) S = tyO S[l]? := rfl
@[simp] theorem tyO_lst {x : List D} : tyO (some (.lst x)) = some (.inl "list") := rfl
@[simp] theorem tyO_dct {x : List (Key × D)} : tyO (some (.dct x)) = some (.inl "dict") := rfl
@[simp] theorem tyO_ins {c : Nat} {x : List (Str × D)} : tyO (some (.ins c x)) = some (.inr c) := rfl
@[simp] theorem clQ_ty {n : String} : clQ (.ty n) = some (.inl n) := rfl
@[simp] theorem clQ_cls {n : Nat} : clQ (.cls n) = some (.inr n) := rfl
@[simp] theorem trD_bl {b : Bool} : trD (.bl b) S = .ok b S := rfl
@[simp] theorem trD_int : trD (.int i) S = .ok (i != 0) S := rfl
@[simp] theorem trD_non : trD .non S = .ok false S := rfl
@[simp] theorem trD_tup {x : List D} : trD (.tup x) S = .ok (!x.isEmpty) S := rfl
@[simp] theorem trD_locs {l : Nat} : trD (.loc l) S = trO S S[l]? := rfl
@[simp] theorem trO_lst {x : List D} : trO S (some (.lst x)) = .ok (!x.isEmpty) S := rfl
@[simp] theorem trO_dct {x : List (Key × D)} : trO S (some (.dct x)) = .ok (!x.isEmpty) S := rfl
@[simp] theorem chk_e {T : String} : chk T d S = if tyD T d S = true then .ok () S else .no := rfl
@[simp] theorem appD_loc {l : Nat} : appD (.loc l) e S = unitQ (appO e l S S[l]?) := rfl
@[simp] theorem appO_lst {l : Nat} {xs : List D} : appO e l S (some (.lst xs)) = if fit (xs.length + 1) = true then some (S.set l (.lst (xs ++ [e]))) else none := rfl
@[simp] theorem unitQ_some : unitQ (some S) = .ok .non S := rfl
/-! ### statements -/
def Fz.sq (r : Fz) (t : DS) : Fz := match r with
  | .nx ρ' S' => t ρ' S'
  | o => o
@[simp] theorem sq_nx : (Fz.nx ρ S).sq t = t ρ S := rfl
@[simp] theorem sq_ret : (Fz.ret d S).sq t = .ret d S := rfl
@[simp] theorem sq_no : Fz.no.sq t = .no := rfl
@[simp] theorem sq_brk : (Fz.brk ρ S).sq t = .brk ρ S := rfl
@[simp] theorem sq_cnt : (Fz.cnt ρ S).sq t = .cnt ρ S := rfl
@[simp] theorem sq_ex {x : Exn} : (Fz.ex x ρ S).sq t = .ex x ρ S := rfl
@[simp] theorem cSeq_e : cSeq s t ρ S = (s ρ S).sq t := by
  unfold cSeq Fz.sq
  rfl
@[simp] theorem cNext_e : cNext ρ S = .nx ρ S := rfl
@[simp] theorem cBrk_e : cBrk ρ S = .brk ρ S := rfl
@[simp] theorem cCnt_e : cCnt ρ S = .cnt ρ S := rfl
@[simp] theorem cExpr_e : cExpr f ρ S = (f ρ S).toF ρ fun _ S1 => .nx ρ S1 := rfl
@[simp] theorem cRet_e : cRet f ρ S = (f ρ S).toF ρ fun d S1 => .ret d S1 := rfl
@[simp] theorem cRetN_e : cRetN ρ S = .ret .non S := rfl
@[simp] theorem cIfS_e : cIfS ft s t ρ S = (ft ρ S).toF ρ fun k S1 => if k = true then s ρ S1 else t ρ S1 := by
  show (ft ρ S).toF ρ _ = _
  congr
  funext k S1
  cases k <;> rfl
@[simp] theorem kName_e {i : Nat} : kName i d ρ S = .nx (ρ.set i (some d)) S := rfl
def Fz.nxO (r : Fz) : Fz := match r with
  | .nx ρ' S' => .nx ρ' S'
  | _ => .no
@[simp] theorem nxO_nx : (Fz.nx ρ S).nxO = .nx ρ S := rfl
@[simp] theorem cAsg_e {k : DG} : cAsg f k ρ S = (f ρ S).toF ρ fun d S1 => (k d ρ S1).nxO := rfl
@[simp] theorem kTup_e {ks : DGs} {n : Nat} {xs : List D} : kTup ks n (.tup xs) ρ S = if xs.length = n then ks xs ρ S else .no := rfl
theorem kTup_l {ks : DGs} {n l : Nat} {xs : List D} (h : S[l]? = some (.lst xs)) : kTup ks n (.loc l) ρ S = if xs.length = n then ks xs ρ S else .no := by
  unfold kTup unS
  simp only [h, unO]
@[simp] theorem kCons_e {k : DG} {ks : DGs} {r : List D} : kCons k ks (d :: r) ρ S = match k d ρ S with
    | .nx ρ' S' => ks r ρ' S'
    | _ => .no := rfl
@[simp] theorem kNil_e : kNil [] ρ S = .nx ρ S := rfl
@[simp] theorem cPar_e {i j : Nat} : cPar i j fs ρ S = (fs ρ S).toF ρ fun ds S1 => match ds with
  | [d, e] => .nx ((ρ.set i (some d)).set j (some e)) S1
  | _ => .no := rfl
@[simp] theorem cSt_e {fo fi fv : DE} : cSt fo fi fv ρ S = (fv ρ S).toF ρ fun v S1 => (fo ρ S1).toF ρ fun o S2 => (fi ρ S2).toF ρ fun i S3 => match stQ o i v S3 with
  | some S4 => .nx ρ S4
  | none => .no := rfl
@[simp] theorem stQ_loc {l : Nat} {i v : D} : stQ (.loc l) i v S = stO i v l S S[l]? := rfl
@[simp] theorem stO_lst {l : Nat} {v : D} {xs : List D} : stO (.int i) v l S (some (.lst xs)) = (L2.ixN xs.length i).map fun j => S.set l (.lst (xs.set j v)) := rfl
@[simp] theorem stO_dctI {l : Nat} {v : D} {kvs : List (Key × D)} : stO (.int i) v l S (some (.dct kvs)) = if fit (kvs.length + 1) = true then some (S.set l (.dct (putD kvs (.inl i) v))) else none := rfl
@[simp] theorem stO_dctS {l : Nat} {v : D} {x : Str} {kvs : List (Key × D)} : stO (.str x) v l S (some (.dct kvs)) = if fit (kvs.length + 1) = true then some (S.set l (.dct (putD kvs (.inr x) v))) else none := rfl
@[simp] theorem cSetF_e {T : FTab} {nm : Str} {fo fv : DE} : cSetF T nm fo fv ρ S = (fv ρ S).toF ρ fun v S1 => (fo ρ S1).toF ρ fun o S2 => match setG T nm v o S2 with
  | some S3 => .nx ρ S3
  | none => .no := rfl
@[simp] theorem setG_loc {T : FTab} {nm : Str} {l : Nat} {v : D} : setG T nm v (.loc l) S = setO T nm v l S S[l]? := rfl
@[simp] theorem few_e {n : Nat} (h : n < 1000) : few n = true := few_iff.mpr h
@[simp] theorem setO_ins {T : FTab} {nm : Str} {l c : Nat} {v : D} {fs : List (Str × D)} : setO T nm v l S (some (.ins c fs)) = if (T c nm && few fs.length) = true then some (S.set l (.ins c (putFD nm v fs))) else none := rfl
@[simp] theorem newI_e {c np : Nat} {F : List D → Mo D} {ds : List D} : newI c np F ds S = (apF np F (.loc S.length :: ds) (S ++ [.ins c []])).andThen fun r S' => match r with
  | .non => .ok (.loc S.length) S'
  | _ => .no := rfl
theorem cFor_e {it : En → Mo Wk} {k : DG} : cFor it k s ρ S = (it ρ S).toF ρ fun w S1 => match w with
  | .items ds => loopI k s ds ρ S1
  | .view nx n => loopV k s nx n 0 ρ S1 := rfl
@[simp] theorem cIt_e : cIt f ρ S = (f ρ S).andThen fun x S1 => itD x S1 := rfl
@[simp] theorem itD_tup {xs : List D} : itD (.tup xs) S = .ok (.items xs) S := rfl
@[simp] theorem itD_lsc {xs : List D} : itD (.lsc xs) S = .ok (.items xs) S := rfl
@[simp] theorem itD_str {x : Str} : itD (.str x) S = .ok (.items (x.cps.toList.map fun c => .str ⟨#[c]⟩)) S := rfl
@[simp] theorem itD_loc {l : Nat} : itD (.loc l) S = match S[l]? with
    | some (.lst xs) => .ok (.view (liveX l) xs.length) S
    | _ => .no := rfl
@[simp] theorem loopI_nil {k : DG} : loopI k s [] ρ S = .nx ρ S := rfl
/-- what a turn leaves to the rest -/
def Fz.tn (r : Fz) (rest : DS) : Fz := match r with
  | .nx ρ' S' => rest ρ' S'
  | .cnt ρ' S' => rest ρ' S'
  | .brk ρ' S' => .nx ρ' S'
  | o => o
@[simp] theorem tn_nx : (Fz.nx ρ S).tn t = t ρ S := rfl
@[simp] theorem tn_cnt : (Fz.cnt ρ S).tn t = t ρ S := rfl
@[simp] theorem tn_brk : (Fz.brk ρ S).tn t = .nx ρ S := rfl
@[simp] theorem tn_ret : (Fz.ret d S).tn t = .ret d S := rfl
@[simp] theorem tn_no : Fz.no.tn t = .no := rfl
theorem loopI_cons {k : DG} {r : List D} : loopI k s (d :: r) ρ S = match k d ρ S with
    | .nx ρ1 S1 => (s ρ1 S1).tn (loopI k s r)
    | _ => .no := by
  conv => lhs; unfold loopI
  cases k d ρ S with
  | nx ρ1 S1 => cases s ρ1 S1 <;> rfl
  | _ => rfl
theorem loopV_end {k : DG} {nx : Nx} {n i : Nat} (h : nx i S = some none) : loopV k s nx n i ρ S = .nx ρ S := by
  cases n with
  | zero => unfold loopV; rw [h]
  | succ n => unfold loopV; rw [h]
theorem loopV_succ {k : DG} {nx : Nx} {i n : Nat} (h : nx i S = some (some d)) : loopV k s nx (n + 1) i ρ S = match k d ρ S with
    | .nx ρ1 S1 => (s ρ1 S1).tn (loopV k s nx n (i + 1))
    | _ => .no := by
  conv => lhs; unfold loopV
  simp only [h]
  cases k d ρ S with
  | nx ρ1 S1 => cases s ρ1 S1 <;> rfl
  | _ => rfl
@[simp] theorem liveX_e {l i : Nat} : liveX l i S = liveO i S[l]? := rfl
@[simp] theorem liveO_lst {i : Nat} {xs : List D} : liveO i (some (.lst xs)) = some xs[i]? := rfl
/-- a loop that keeps an invariant: over items -/
theorem loopI_inv {k : DG} (P : Nat → En → Sto → Prop) {ds : List D} (h : ∀ i d ρ S, ds[i]? = some d → P i ρ S → ∃ ρ1 S1, k d ρ S = .nx ρ1 S1 ∧ ∃ ρ' S', (s ρ1 S1 = .nx ρ' S' ∨ s ρ1 S1 = .cnt ρ' S') ∧ P (i + 1) ρ' S') (h0 : P 0 ρ S) :
    ∃ ρ' S', loopI k s ds ρ S = .nx ρ' S' ∧ P ds.length ρ' S' := by
  suffices ∀ (n : Nat) (r : List D) (ρ : En) (S : Sto), ds.drop n = r → n ≤ ds.length → P n ρ S → ∃ ρ' S', loopI k s r ρ S = .nx ρ' S' ∧ P ds.length ρ' S' from this 0 ds ρ S rfl (Nat.zero_le _) h0
  intro n r
  induction r generalizing n with
  | nil =>
    intro ρ S e hn p
    have : ds.length ≤ n := by simpa using e
    have e2 : n = ds.length := by omega
    subst e2
    exact ⟨ρ, S, rfl, p⟩
  | cons d r ih =>
    intro ρ S e hn p
    have hd : ds[n]? = some d := by
      have := congrArg (fun l => l[0]?) e
      simpa using this
    have hr : ds.drop (n + 1) = r := by
      have := congrArg List.tail e
      simpa using this
    have hlt : n < ds.length := by
      rw [List.getElem?_eq_some_iff] at hd
      exact hd.1
    obtain ⟨ρ1, S1, e1, ρ', S', e2, p2⟩ := h n d ρ S hd p
    obtain ⟨ρ2, S2, e3, p3⟩ := ih (n + 1) ρ' S' hr hlt p2
    refine ⟨ρ2, S2, ?_, p3⟩
    rw [loopI_cons, e1]
    show (s ρ1 S1).tn _ = _
    rcases e2 with e2 | e2 <;> (rw [e2]; exact e3)
/-- .. over things of the store, that stand fast -/
theorem loopV_inv {k : DG} {nx : Nx} {ds : List D} (P : Nat → En → Sto → Prop) (hl : ∀ i ρ S, P i ρ S → nx i S = some ds[i]?) (h : ∀ i d ρ S, ds[i]? = some d → P i ρ S → ∃ ρ1 S1, k d ρ S = .nx ρ1 S1 ∧ ∃ ρ' S', (s ρ1 S1 = .nx ρ' S' ∨ s ρ1 S1 = .cnt ρ' S') ∧ P (i + 1) ρ' S') (h0 : P 0 ρ S) :
    ∃ ρ' S', loopV k s nx ds.length 0 ρ S = .nx ρ' S' ∧ P ds.length ρ' S' := by
  suffices ∀ (m n : Nat) (ρ : En) (S : Sto), n + m = ds.length → P n ρ S → ∃ ρ' S', loopV k s nx m n ρ S = .nx ρ' S' ∧ P ds.length ρ' S' from this ds.length 0 ρ S (by omega) h0
  intro m
  induction m with
  | zero =>
    intro n ρ S e p
    have e2 : n = ds.length := by omega
    subst e2
    exact ⟨ρ, S, loopV_end (by rw [hl _ _ _ p]; simp), p⟩
  | succ m ih =>
    intro n ρ S e p
    have hlt : n < ds.length := by omega
    have hd : ds[n]? = some ds[n] := List.getElem?_eq_getElem hlt
    obtain ⟨ρ1, S1, e1, ρ', S', e2, p2⟩ := h n _ ρ S hd p
    obtain ⟨ρ2, S2, e3, p3⟩ := ih (n + 1) ρ' S' (by omega) p2
    refine ⟨ρ2, S2, ?_, p3⟩
    rw [loopV_succ (by rw [hl _ _ _ p, hd]), e1]
    show (s ρ1 S1).tn _ = _
    rcases e2 with e2 | e2 <;> (rw [e2]; exact e3)
theorem loopL_inv {k : DG} {l : Nat} {ds : List D} (P : Nat → En → Sto → Prop) (hl : ∀ i ρ S, P i ρ S → S[l]? = some (.lst ds)) (h : ∀ i d ρ S, ds[i]? = some d → P i ρ S → ∃ ρ1 S1, k d ρ S = .nx ρ1 S1 ∧ ∃ ρ' S', (s ρ1 S1 = .nx ρ' S' ∨ s ρ1 S1 = .cnt ρ' S') ∧ P (i + 1) ρ' S') (h0 : P 0 ρ S) :
    ∃ ρ' S', loopV k s (liveX l) ds.length 0 ρ S = .nx ρ' S' ∧ P ds.length ρ' S' :=
  loopV_inv P (fun i ρ S p => by rw [liveX_e, hl _ _ _ p]; rfl) h h0
@[simp] theorem toR_nx : (Fz.nx ρ S).toR = .ok .non S := rfl
@[simp] theorem toR_ret : (Fz.ret d S).toR = .ok d S := rfl
@[simp] theorem cDef_e {n : Nat} {ds : List D} : cDef n s ds S = (s (startE n ds) S).toR := rfl
end
end Sm
namespace Sm
open PySem PySem.Spec PyProof.Rows L2
section
variable {S X : Sto} {o : Ob}
@[simp high] theorem get_app0 : (S ++ X)[S.length]? = X[0]? := by
  rw [List.getElem?_append_right (Nat.le_refl _), Nat.sub_self]
@[simp high] theorem get_appk {k : Nat} : (S ++ X)[S.length + k]? = X[k]? := by
  rw [List.getElem?_append_right (by omega)]
  congr 1
  omega
@[simp] theorem set_app0 : (S ++ X).set S.length o = S ++ X.set 0 o := by
  rw [List.set_append_right _ _ (Nat.le_refl _), Nat.sub_self]
@[simp] theorem set_appk {k : Nat} : (S ++ X).set (S.length + k) o = S ++ X.set k o := by
  rw [List.set_append_right _ _ (by omega)]
  congr 2
  omega
theorem get_old {l : Nat} {q : Ob} (h : S[l]? = some q) : (S ++ X)[l]? = some q := by
  rw [List.getElem?_append_left (List.getElem?_eq_some_iff.mp h).1]
  exact h
end
end Sm
namespace Sm
open PySem PySem.Spec PyProof.Rows L2
@[simp] theorem str_inj {a b : String} : (Str.ofString a = Str.ofString b) = (a = b) := by
  refine propext ⟨fun h => ?_, fun h => by rw [h]⟩
  rw [Str.ofString_eq_toList, Str.ofString_eq_toList] at h
  have h2 : (a.toList.map Char.toNat) = b.toList.map Char.toNat := by
    have := congrArg (fun s => s.cps.toList) h
    simpa using this
  have h3 : a.toList = b.toList := by
    have inj : ∀ x y : Char, x.toNat = y.toNat → x = y := fun x y e => Char.ext (UInt32.toNat_inj.mp e)
    exact (List.map_inj_right (fun x y e => inj x y e)).mp h2
  exact String.toList_inj.mp h3
@[simp] theorem str_len {a : String} : (Str.ofString a).length = a.length := by
  rw [Str.ofString_eq_toList]
  show ((a.toList.map Char.toNat).toArray).size = a.length
  simp only [List.size_toArray, List.length_map]
  first | rfl | exact String.length_toList
end Sm
namespace Sm
open PySem PySem.Spec PyProof.Rows L2
section
variable {S X : Sto} {o : Ob} {ρ : En} {d v : D} {i : Int} {k k' : Key}
@[simp] theorem cDict_e {fs : List (DE × DE)} : cDict fs ρ S = (cPairs fs ρ (S ++ [.dct []])).andThen fun ps S' => dispF S.length ps S' := rfl
@[simp] theorem cPairs_nil : cPairs [] ρ S = .ok [] S := rfl
@[simp] theorem cPairs_cons {fk fv : DE} {r : List (DE × DE)} : cPairs ((fk, fv) :: r) ρ S = (fk ρ S).andThen fun k S1 => (fv ρ S1).andThen fun v S2 => (cPairs r ρ S2).andThen fun ps S3 => .ok ((k, v) :: ps) S3 := rfl
@[simp] theorem asKvs_nil : asKvs [] = some [] := rfl
@[simp] theorem asKvs_str {x : Str} {r : List (D × D)} : asKvs ((.str x, v) :: r) = (asKvs r).map fun q => (.inr x, v) :: q := by
  conv => lhs; unfold asKvs
  show (match some (Sum.inr x), asKvs r with
    | some k, some r => some ((k, v) :: r)
    | _, _ => none) = _
  cases asKvs r <;> rfl
@[simp] theorem asKvs_int {r : List (D × D)} : asKvs ((.int i, v) :: r) = (asKvs r).map fun q => (.inl i, v) :: q := by
  conv => lhs; unfold asKvs
  show (match some (Sum.inl i), asKvs r with
    | some k, some r => some ((k, v) :: r)
    | _, _ => none) = _
  cases asKvs r <;> rfl
@[simp] theorem few15_e {n : Nat} (h : n ≤ 15) : few15 n = true := few15_iff.mpr h
theorem dispF_e {n : Nat} {ps : List (D × D)} {kvs : List (Key × D)} (h : asKvs ps = some kvs) (h2 : S[n]? = some (.dct [])) (h3 : kvs.length ≤ 15) : dispF n ps S = .ok (.loc n) (S.set n (.dct (mergeD [] kvs))) := by
  unfold dispF
  rw [h, h2]
  simp only
  rw [if_pos (few15_iff.mpr h3)]
@[simp] theorem valD_nil : valD [] k = none := rfl
@[simp] theorem valD_cons {r : List (Key × D)} : valD ((k', v) :: r) k = if k' = k then some v else valD r k := by
  unfold valD
  rw [List.find?_cons]
  by_cases h : k' = k
  · simp [h]
  · simp [h]
theorem atI_nn {α : Type} {xs : List α} (h : 0 ≤ i) : L2.atI xs i = xs[i.toNat]? := by
  unfold L2.atI L2.ixN
  rw [if_pos h]
  by_cases h2 : i < xs.length
  · rw [if_pos h2]; rfl
  · rw [if_neg h2]
    show none = _
    rw [List.getElem?_eq_none (by omega)]
@[simp] theorem atI_cast {α : Type} {xs : List α} {n : Nat} : L2.atI xs (n : Int) = xs[n]? := atI_nn (by omega)
@[simp] theorem atI_lit {α : Type} {xs : List α} {n : Nat} : L2.atI xs (no_index (OfNat.ofNat n)) = xs[n]? := atI_cast
@[simp] theorem atI_m1 {α : Type} {xs : List α} : L2.atI xs (-1) = xs.getLast? := by
  unfold L2.atI L2.ixN
  rw [if_neg (by omega)]
  cases xs with
  | nil => rfl
  | cons x r =>
    rw [if_pos (by simp; omega)]
    show (x :: r)[((-1 : Int) + ((x :: r).length : Nat)).toNat]? = _
    rw [List.getLast?_eq_getElem?]
    congr 1
    omega
end
end Sm
namespace Sm
open PySem PySem.Spec PyProof.Rows L2
section
variable {S X : Sto} {o : Ob} {ρ : En} {d v : D} {i : Int}
theorem cut_mem {xs : List D} {lo hi : Option Int} {n : Nat} (h : (cutD xs lo hi)[n]? = some d) : d ∈ xs := List.mem_of_mem_drop (List.mem_of_mem_take (List.mem_of_getElem? h))
theorem cut_int {ns : List Int} {lo hi : Option Int} {n : Nat} (h : (cutD (ns.map .int) lo hi)[n]? = some d) : ∃ z, z ∈ ns ∧ d = .int z := by
  obtain ⟨z, h1, h2⟩ := List.mem_map.mp (cut_mem h)
  exact ⟨z, h1, h2.symm⟩
theorem map_int {ns : List Int} {n : Nat} (h : (ns.map D.int)[n]? = some d) : ∃ z, z ∈ ns ∧ d = .int z := by
  obtain ⟨z, h1, h2⟩ := List.mem_map.mp (List.mem_of_getElem? h)
  exact ⟨z, h1, h2.symm⟩
@[simp] theorem slD_lsc {xs : List D} {lo hi : Option Int} : slD lo hi (.lsc xs) S = .ok (.loc S.length) (S ++ [.lst (cutD xs lo hi)]) := rfl
@[simp] theorem slD_tup {xs : List D} {lo hi : Option Int} : slD lo hi (.tup xs) S = .ok (.tup (cutD xs lo hi)) S := rfl
@[simp] theorem slD_loc {l : Nat} {lo hi : Option Int} : slD lo hi (.loc l) S = slO lo hi S S[l]? := rfl
@[simp] theorem slO_lst {xs : List D} {lo hi : Option Int} : slO lo hi S (some (.lst xs)) = .ok (.loc S.length) (S ++ [.lst (cutD xs lo hi)]) := rfl
end
end Sm
end
section
/-! Sm, part Je: enumerate of a tuple (the kit has it of a list and of a text). -/
namespace Sm
open PySem PySem.Spec PyProof.Rows L2
section
variable {prog : Program} {w : World} {A : Around} {E : Value → Shared → Prop} {s : Shared}
theorem meets_enumT (l : Addr) (items : Array Value) (n : Nat) (dct : Option Addr) (sl : Array (Option Value)) :
    Meets (Builtin.«enumerate.__new__» ⟨[.type "enumerate", .ref l], []⟩) (fun _ R s => s.heap.get? l = some { cls := .type "tuple", dict := dct, data := .seq items n, slots := sl } ∧
      R (.ok (.ret (.ref (s.heap.push { cls := .type "tuple_iterator", data := .fields #[.ref l, .int 0 0] }).objs.size)))
        { s with heap := (s.heap.push { cls := .type "tuple_iterator", data := .fields #[.ref l, .int 0 0] }).push { cls := .type "enumerate", data := .fields #[.none, .bool false, .ref s.heap.objs.size, rawInt 0, .none, .none] } }) :=
  .of_wp fun prog w A R s h => by
    obtain ⟨hp, g, d, tk, os⟩ := s; obtain ⟨hl, h⟩ := h
    have hsub := sub_enumerate
    have hT : Heap.IsTuple (Shared.heap ⟨hp, g, d, tk, os⟩) l items := ⟨_, hl, rfl, n, rfl⟩
    wp_walk using AutoSeq1.wpAny_loadPart' hl
    refine wpAny_stack_any fun st => wpAny_pure ?_
    split
    · rename_i c _ _ _ _ _
      cases (c == Value.type "enumerate") <;>
      · wp_walk using AutoSeq1.wpAny_loadPart' hl, wpAny_pyIter_tuple hT
        exact ⟨_, rfl, h⟩
    · wp_walk using AutoSeq1.wpAny_loadPart' hl, wpAny_pyIter_tuple hT
      exact ⟨_, rfl, h⟩
/-- enumerate(t), made -/
theorem call_enumT {l : Addr} {items : Array Value} {Q : Value → Shared → Prop} (hL : s.heap.IsTuple l items)
    (h : ∀ h', IsEnum h' (s.heap.objs.size + 1) s.heap.objs.size 0 .none → h'.IsTupleIter s.heap.objs.size l 0 → h'.objs.size = s.heap.objs.size + 2 →
      (∀ b o, s.heap.get? b = some o → h'.get? b = some o) → Q (.ref (s.heap.objs.size + 1)) { s with heap := h' }) :
    wpAny (model prog w) A (call (.type "enumerate") [.ref l]) Q E s := by
  obtain ⟨⟨c, dct, dt, sl⟩, hl, hc, n, hd⟩ := hL
  obtain rfl : c = .type "tuple" := hc
  obtain rfl : dt = .seq items n := hd
  have hz : (s.heap.push { cls := .type "tuple_iterator", data := .fields #[.ref l, .int 0 0] }).objs.size = s.heap.objs.size + 1 := Heap.size_push ..
  have he : IsEnum ((s.heap.push { cls := .type "tuple_iterator", data := .fields #[.ref l, .int 0 0] }).push
      { cls := .type "enumerate", data := .fields #[.none, .bool false, .ref s.heap.objs.size, rawInt 0, .none, .none] }) (s.heap.objs.size + 1) s.heap.objs.size 0 .none := by
    rw [← hz]; exact Heap.get?_push_size _ rfl
  refine callType_new F.called_enumerate (by decide) (F.typeCall_enumerate_1 _) (F.newCall_enumerate_1 _) (fun obj => F.args_object_init_2 obj _) F.entry_enumerate_new
    (meets_enumT l items n dct sl) ⟨hl, ?_⟩
  show _ ∧ _
  rw [hz]
  exact ⟨⟨_, he, rfl⟩, h _ he ⟨_, Heap.get?_push_of_some _ (Heap.get?_push_size _ rfl), rfl, rfl⟩ (by rw [Heap.size_push, hz]) fun b o x => Heap.get?_push_of_some _ (Heap.get?_push_of_some _ x)⟩
theorem enumT_next {e it l : Addr} {i : Nat} {items : Array Value} {x old : Value} {Q : Value → Shared → Prop}
    (he : IsEnum s.heap e it i old) (hit : s.heap.IsTupleIter it l i) (hl : s.heap.IsTuple l items) (hx : items[i]? = some x) (hne : e ≠ it)
    (hQ : ∀ h', IsEnumOut h' e it ((i : Int) + 1) x s.heap.objs.size → h'.IsTupleIter it l (i + 1) →
      h'.get? s.heap.objs.size = some { cls := .type "tuple", data := .seq #[.int i s.toks, x] } → h'.objs.size = s.heap.objs.size + 1 →
      (∀ b o, b ≠ e → b ≠ it → s.heap.get? b = some o → h'.get? b = some o) → Q (.ref s.heap.objs.size) { s with heap := h', toks := s.toks + 1 }) :
    wpAny (model prog w) A (Builtin.«enumerate.__next__» ⟨[.ref e], []⟩) (fun fin s' => ∃ v, fin = .done (.ret v) ∧ Q v s') E s := by
  obtain ⟨hp, g, d, tk, os⟩ := s
  have hel : e < hp.objs.size := Heap.lt_size he
  have ni : it ≠ e := Ne.symm hne
  refine wpAny_bind (m := field (.ref e) 2) (wpAny_field he rfl (x := .ref it) rfl ?_)
  refine wpAny_bind (RZ.nextOf_tuple_item hit hl hx fun h1 t1 b1 => ?_)
  have b1 : Heap.SameBut it hp h1 := b1
  have e1 : IsEnum h1 e it i old := (b1.2 e hne).trans he
  refine wpAny_bind (m := field (.ref e) 3) (wpAny_field e1 rfl (x := rawInt i) rfl ?_)
  refine wpAny_bind (m := field (.ref e) 4) (wpAny_field e1 rfl (x := .none) rfl ?_)
  refine wpAny_bind (m := mkInt i) (wpAny_mkInt ?_)
  refine wpAny_bind (m := setField (.ref e) 3 (rawInt ((i : Int) + 1))) (wpAny_setField_rec e1 (by simp) fun h2 e2 b2 => ?_)
  have b2 : Heap.SameBut e h1 h2 := b2
  have e2 : IsEnum h2 e it ((i : Int) + 1) old := e2
  refine wpAny_bind (m := setField (.ref e) 4 .none) (wpAny_setField_rec e2 (by simp) fun h3 e3 b3 => ?_)
  have b3 : Heap.SameBut e h2 h3 := b3
  have e3 : IsEnum h3 e it ((i : Int) + 1) old := e3
  refine wpAny_bind (m := newTuple [.int i tk, x]) (wpAny_newTuple ?_)
  have z3 : h3.objs.size = hp.objs.size := by rw [b3.1, b2.1, b1.1]
  rw [z3]
  obtain ⟨h4, q4⟩ : ∃ h4, h4 = h3.push { cls := .type "tuple", data := .seq #[.int i tk, x] } := ⟨_, rfl⟩
  have e4 : IsEnum h4 e it ((i : Int) + 1) old := by rw [q4]; exact Heap.get?_push_of_some _ e3
  have n4 : h4.get? hp.objs.size = some { cls := .type "tuple", data := .seq #[.int i tk, x] } := by rw [q4, ← z3]; exact Heap.get?_push_size _ rfl
  have z4 : h4.objs.size = hp.objs.size + 1 := by rw [q4, Heap.size_push, z3]
  have k4 : ∀ b o, b ≠ e → b ≠ it → hp.get? b = some o → h4.get? b = some o := fun b o u v y => by
    rw [q4]; exact Heap.get?_push_of_some _ (b3.extBut b o u (b2.extBut b o u (b1.extBut b o v y)))
  have t4 : h4.IsTupleIter it l (i + 1) := by
    obtain ⟨o, y, r⟩ := (t1.extBut b2.extBut ni).extBut b3.extBut ni
    rw [q4]; exact ⟨o, Heap.get?_push_of_some _ y, r⟩
  rw [← q4]
  clear q4
  refine wpAny_bind (m := Builtin.SmallTypes.ownedTupleIsFree (.ref e)) ?_
  unfold Builtin.SmallTypes.ownedTupleIsFree
  refine wpAny_bind (wpAny_field e4 rfl (x := .none) rfl (wpAny_pure ?_))
  simp only [if_true]
  refine wpAny_bind (wpAny_rule ?_)
  refine wpAny_bind (wpAny_field e4 rfl (x := old) rfl ?_)
  refine wpAny_bind (wpAny_setField_rec e4 (by simp) fun h5 e5 b5 => ?_)
  have b5 : Heap.SameBut e h4 h5 := b5
  have e5 : IsEnum h5 e it ((i : Int) + 1) x := e5
  refine wpAny_bind (m := Builtin.SmallTypes.ownedTupleHandOut (.ref e) (.ref hp.objs.size)) ?_
  unfold Builtin.SmallTypes.ownedTupleHandOut
  refine wpAny_bind (wpAny_setField_rec e5 (by simp) fun h6 e6 b6 => ?_)
  have b6 : Heap.SameBut e h5 h6 := b6
  have e6 : IsEnumOut h6 e it ((i : Int) + 1) x hp.objs.size := e6
  refine wpAny_setField_rec e6 (by simp) fun h7 e7 b7 => ?_
  have b7 : Heap.SameBut e h6 h7 := b7
  have e7 : IsEnumOut h7 e it ((i : Int) + 1) x hp.objs.size := e7
  have k7 : ∀ b o, b ≠ e → h4.get? b = some o → h7.get? b = some o := fun b o u y => b7.extBut b o u (b6.extBut b o u (b5.extBut b o u y))
  refine wpAny_bind (wpAny_letGo (wpAny_pure ⟨_, rfl, hQ h7 e7 ?_ (k7 _ _ (Nat.ne_of_gt hel) n4) ?_ fun b o u v y => k7 b o u (k4 b o u v y)⟩))
  · exact ((t4.extBut b5.extBut ni).extBut b6.extBut ni).extBut b7.extBut ni
  · rw [b7.1, b6.1, b5.1, z4]
theorem pyNext_enumT {e it l : Addr} {i : Nat} {items : Array Value} {x old : Value} {Q : Option Value → Shared → Prop}
    (he : IsEnum s.heap e it i old) (hit : s.heap.IsTupleIter it l i) (hl : s.heap.IsTuple l items) (hx : items[i]? = some x) (hne : e ≠ it)
    (hQ : ∀ h', IsEnumOut h' e it ((i : Int) + 1) x s.heap.objs.size → h'.IsTupleIter it l (i + 1) →
      h'.get? s.heap.objs.size = some { cls := .type "tuple", data := .seq #[.int i s.toks, x] } → h'.objs.size = s.heap.objs.size + 1 →
      (∀ b o, b ≠ e → b ≠ it → s.heap.get? b = some o → h'.get? b = some o) → Q (some (.ref s.heap.objs.size)) { s with heap := h', toks := s.toks + 1 }) :
    wpAny (model prog w) A (pyNext (.ref e)) Q E s := by
  have hT : s.TypeIs (.ref e) "enumerate" := ⟨_, he, rfl⟩
  unfold pyNext
  exact wpAny_bind (wpAny_attempt (wpAny_callSpecial?_slot (name := Str.ofString "__next__") hT F.slot_enumerate_next
    (wpAny_call_entry F.slot_enumerate_next hT F.entry_enumerate_next (enumT_next he hit hl hx hne fun h' a b c d k => wpAny_pure (hQ h' a b c d k)) (F.args_enumerate_next_1 _))))
theorem pyNext_enumT_end {e it l : Addr} {i : Nat} {items : Array Value} {old : Value} {Q : Option Value → Shared → Prop} (hh : A.handled = none)
    (he : IsEnum s.heap e it i old) (hit : s.heap.IsTupleIter it l i) (hl : s.heap.IsTuple l items) (hx : items[i]? = none)
    (hQ : ∀ h', Heap.ExtBut it s.heap h' → Q none { s with heap := h' }) : wpAny (model prog w) A (pyNext (.ref e)) Q E s := by
  have hT : s.TypeIs (.ref e) "enumerate" := ⟨_, he, rfl⟩
  unfold pyNext
  refine wpAny_bind (wpAny_attempt (wpAny_callSpecial?_slot (name := Str.ofString "__next__") hT F.slot_enumerate_next
    (wpAny_call_entry F.slot_enumerate_next hT F.entry_enumerate_next ?_ (F.args_enumerate_next_1 _))))
  refine wpAny_bind (m := field (.ref e) 2) (wpAny_field he rfl (x := .ref it) rfl ?_)
  refine wpAny_bind (RZ.nextOf_tuple_end hh hit hl hx fun h' x he' ⟨o, ho, hc⟩ => ?_)
  exact wpAny_bind (wpAny_isInstance (T := "StopIteration") (b := true) ⟨o, ho, hc⟩ isSubtype_stop (wpAny_pure (hQ _ he')))
end
/-- the tuple at a, each item in a new pair -/
def IteT (K : PySem.W.Frag) (a : Addr) : It :=
  ⟨fun i H => ∃ (xs : List V) (x : V), SqT K H a xs ∧ xs[i]? = some x, fun i H v H' => ∃ T x, v = .ref T ∧ H T = none ∧ H' = upd H T (.tup [.int (i : Nat), x]) ∧ ∀ xs, SqT K H a xs → xs[i]? = some x, fun i H => ∃ xs : List V, SqT K H a xs ∧ xs.length ≤ i⟩
theorem turn_enumT {P : Program} {w : World} {K : PySem.W.Frag} {elts : List Expr} {kk : Nat} {tpos : Pos} (a e it : Addr) :
    Turn P w K (.Tuple elts kk tpos) (IteT K a) [e, it] e (fun i h => (∃ old, IsEnum h e it ((i : Nat) : Int) old) ∧ h.IsTupleIter it a i ∧ e ≠ it) where
  mem := by simp
  obj := fun i h ⟨⟨old, he⟩, ⟨o, ho, _, hd⟩, _⟩ b hb => by
    have e' : b = e ∨ b = it := by simpa using hb
    rcases e' with rfl | rfl
    · exact ⟨_, he, fun v q => nomatch q⟩
    · exact ⟨o, ho, fun v q => by rw [hd] at q; cases q⟩
  keep := fun i h h' ⟨⟨old, he⟩, ⟨o, ho, r⟩, hne⟩ k => ⟨⟨old, k e (by simp) _ he⟩, ⟨o, k it (by simp) _ ho, r⟩, hne⟩
  item := by
    intro X hP hw hK hc i pins s σ H E I hf st hg
    subst hP hw hK
    obtain ⟨⟨old, he⟩, hit, hne⟩ := st
    obtain ⟨xs, x, hq, hx⟩ := hg
    obtain ⟨its, rv, p, hz⟩ := I.tuple hq
    obtain ⟨u, hu, ru⟩ := rv.get hx
    have hel : e < s.heap.objs.size := Heap.lt_size he
    have hil : it < s.heap.objs.size := by obtain ⟨_, q, _⟩ := hit; exact Heap.lt_size q
    have hlt : ∀ b ∈ [e, it], b < s.heap.objs.size := fun b hb => by
      have e' : b = e ∨ b = it := by simpa using hb
      rcases e' with rfl | rfl
      · exact hel
      · exact hil
    refine pyNext_enumT he hit (show s.heap.IsTuple a its.toArray from p) (x := u) (by simpa using hu) hne fun h' ho hit' hT hsz hk => ?_
    refine ⟨_, rfl, wpAny_letOwnedTupleGo_enum (s := { s with heap := h', toks := s.toks + 1 }) ho fun h'' he' sb => ?_⟩
    have sb : Heap.SameBut e h' h'' := sb
    have hT2 : h''.get? s.heap.objs.size = some { cls := .type "tuple", data := .seq #[.int i s.toks, u] } := (sb.2 _ (Nat.ne_of_gt hel)).trans hT
    have new : ObjOk X.prog X.w (upd H s.heap.objs.size (.tup [.int (i : Nat), x])) h'' s.heap.objs.size (.tup [.int (i : Nat), x]) :=
      ⟨by show 2 ≤ sizeLine; decide, [.int i s.toks, u], .cons ⟨_, rfl⟩ (.cons ru .nil), ⟨_, hT2, rfl, _, rfl⟩⟩
    have I1 : Inv X pins σ (upd H s.heap.objs.size (.tup [.int (i : Nat), x])) { s with heap := h'', toks := s.toks + 1 } :=
      I.turnedNew (ch := [e, it]) (fun b ob hb q => (sb.2 b (fun z => hb (by simp [z]))).trans (hk b ob (fun z => hb (by simp [z])) (fun z => hb (by simp [z])) q)) hf (Nat.le_refl _) new
    have hit2 : h''.IsTupleIter it a (i + 1) := let ⟨o, y, r⟩ := hit'; ⟨o, (sb.2 it (Ne.symm hne)).trans y, r⟩
    have e1 : ((i + 1 : Nat) : Int) = (i : Int) + 1 := by omega
    exact ⟨.ref s.heap.objs.size, _, I1, rfl, ⟨_, x, rfl, I.hok.fresh (Nat.le_refl _), rfl, fun ys hy => by rw [I.tuple_inj hy hq]; exact hx⟩, ⟨⟨u, by rw [e1]; exact he'⟩, hit2, hne⟩, fun b hb => by rw [upd_ne (Nat.ne_of_lt (hlt b hb))]; exact (hf b hb).1⟩
  done := by
    intro X hP hw hK hc i pins s σ H E I hf st hg
    subst hP hw hK
    obtain ⟨⟨old, he⟩, hit, hne⟩ := st
    obtain ⟨xs, hq, hx⟩ := hg
    obtain ⟨its, rv, p, hz⟩ := I.tuple hq
    obtain ⟨f0, f1, f2, f3, f4, f5⟩ := hf it (by simp)
    have hl := rv.length
    exact pyNext_enumT_end (I.ok.hd hc) he hit (show s.heap.IsTuple a its.toArray from p) (by simp; omega) fun h' eb => ⟨rfl, I.turned (t' := s.toks) (fun b o hb q => eb b o hb q) f0 f1 f3 f4 f5⟩
  self := fun A i s Q E ⟨⟨_, he⟩, _⟩ h => wpAny_pyIter_enum he h
/-- enumerate(x): x a list or a tuple -/
def iEnum2 (K : PySem.W.Frag) (ta : TA) : TI := fun σ H R => ta σ H fun vs H1 => ∃ a xs, vs = [.ref a] ∧ ((SqL K H1 a xs ∧ R (Ite K a) H1) ∨ (SqT K H1 a xs ∧ R (IteT K a) H1))
theorem pi_enum2 {X : Cx} {e : Expr} {ta : TA} {p pos tpos : Pos} {elts : List Expr} {kk : Nat} (hg : Gl X "enumerate") (hm : X.mg "enumerate" = none) (ha : PA X [e] ta) (hs : starEach [e] X.env = [(false, eval e X.env)] := by rfl) :
    PI X (.Tuple elts kk tpos) (.Call (.Name "enumerate" p) [e] [] pos) (iEnum2 X.K ta) := by
  refine ⟨fun pins s σ H R I h => ?_⟩
  refine Call_ (ld_blt I hg hm boot_enumerate (PyProof.Rows.callWith_type1 (thn (ha.run pos pins s σ H _ I h) fun us s1 ⟨vs, H1, I1, r1, a, xs, ex, q1⟩ => ?_) hs rfl))
  subst ex
  cases r1 with
  | cons r rr =>
    cases rr
    cases r
    have fp : ∀ b ∈ [s1.heap.objs.size + 1, s1.heap.objs.size], s1.heap.objs.size ≤ b := fun b hb => by
      have e' : b = s1.heap.objs.size + 1 ∨ b = s1.heap.objs.size := by simpa using hb
      rcases e' with z | z
      · rw [z]; exact Nat.le_add_right _ _
      · rw [z]; exact Nat.le_refl _
    rcases q1 with ⟨hq, q⟩ | ⟨hq, q⟩
    · obtain ⟨its, rv, p', hz⟩ := I1.list hq
      refine call_enumerate_list p'.isList fun h' he hit hsz hk => wpAny_pyIter_enum he ?_
      have I2 : Inv X pins σ H1 { s1 with heap := h' } := I1.kept (t' := s1.toks) hk
      exact ⟨s1.heap.objs.size + 1, [s1.heap.objs.size + 1, s1.heap.objs.size], _, _, H1, rfl, I2, turn_enum a (s1.heap.objs.size + 1) s1.heap.objs.size, ⟨⟨.none, he⟩, hit, Nat.succ_ne_self _⟩, fun b hb => I1.fpOk (fp b hb) (I1.hok.fresh (fp b hb)), q⟩
    · obtain ⟨its, rv, p', hz⟩ := I1.tuple hq
      refine call_enumT (show s1.heap.IsTuple a its.toArray from p') fun h' he hit hsz hk => wpAny_pyIter_enum he ?_
      have I2 : Inv X pins σ H1 { s1 with heap := h' } := I1.kept (t' := s1.toks) hk
      exact ⟨s1.heap.objs.size + 1, [s1.heap.objs.size + 1, s1.heap.objs.size], _, _, H1, rfl, I2, turn_enumT a (s1.heap.objs.size + 1) s1.heap.objs.size, ⟨⟨.none, he⟩, hit, Nat.succ_ne_self _⟩, fun b hb => I1.fpOk (fp b hb) (I1.hok.fresh (fp b hb)), q⟩
end Sm
end
section
/-! Sm, part K: list(), tuple(), sorted(), sum(); more methods of lists; zip, enumerate. -/
namespace Sm
open PySem PySem.Spec PyProof.Rows L2
section
variable {X : Cx} {g : Gx} {W : WX} {e o a b : Expr} {es : List Expr} {fs : En → Mo (List D)} {pos : Pos}
/-- the items of a list or a tuple -/
def seqS (S : Sto) : D → Option (List D)
  | .tup xs => some xs
  | d => lstS S d
theorem lstS_of {m : Nat → Addr} {S : Sto} {H : Hp} {d : D} {v : V} {xs : List D} (sr : SR g m H S) (r : VR g m S.length H v d) (h : lstS S d = some xs) : ∃ a vs, v = .ref a ∧ SqL g.K H a vs ∧ VRs g m S.length H vs xs := lstS_ok sr r h
theorem seqS_ok {m : Nat → Addr} {S : Sto} {H : Hp} {d : D} {v : V} {xs : List D} (sr : SR g m H S) (r : VR g m S.length H v d) (h : seqS S d = some xs) : ∃ a vs, v = .ref a ∧ (SqL g.K H a vs ∨ SqT g.K H a vs) ∧ VRs g m S.length H vs xs := by
  by_cases ht : ∃ ys, d = .tup ys
  · obtain ⟨ys, rfl⟩ := ht
    cases h
    cases r with
    | tup a vs _ hq rs => exact ⟨a, vs, rfl, .inr hq, rs⟩
  · have h2 : lstS S d = some xs := by cases d <;> first | exact h | exact absurd ⟨_, rfl⟩ ht
    obtain ⟨a, vs, h1, h3, h4⟩ := lstS_ok sr r h2
    exact ⟨a, vs, h1, .inl h3, h4⟩
/-- a key as data -/
def kD : Key → D
  | .inl i => .int i
  | .inr x => .str x
def keysO : Option Ob → Option (List Key)
  | some (.dct kvs) => some (kvs.map (·.1))
  | _ => none
def keysS (S : Sto) : D → Option (List Key)
  | .loc l => keysO S[l]?
  | _ => none
theorem keysS_ok {m : Nat → Addr} {S : Sto} {H : Hp} {d : D} {v : V} {ks : List Key} (sr : SR g m H S) (r : VR g m S.length H v d) (h : keysS S d = some ks) : ∃ a kvs, v = .ref a ∧ H a = some (.dK kvs) ∧ kvs.map (·.1) = ks := by
  cases r with
  | loc l hl =>
    have h2 : keysO S[l]? = some ks := h
    cases q : S[l]? with
    | none => rw [q] at h2; cases h2
    | some ob =>
      rw [q] at h2
      cases ob with
      | dct kvs =>
        cases h2
        obtain ⟨_, kvs', hv, hk, _⟩ := sr.atD q
        exact ⟨m l, kvs', rfl, hv, hk⟩
      | _ => cases h2
  | _ => cases h
theorem VRs.of_keys {m : Nat → Addr} {n : Nat} {H : Hp} : ∀ ks : List Key, VRs g m n H (ks.map kV) (ks.map kD)
  | [] => .nil
  | .inl i :: r => .cons _ _ _ _ (.int i) (VRs.of_keys r)
  | .inr x :: r => .cons _ _ _ _ (.str x) (VRs.of_keys r)
/-- a new list -/
def mkL (xs : List D) (S : Sto) : Rz D := .ok (.loc S.length) (S ++ [.lst xs])
def listD (d : D) : Mo D := fun S => match seqS S d with
  | some xs => mkL xs S
  | none => match keysS S d with
    | some ks => mkL (ks.map kD) S
    | none => .no
def rListA (K : PySem.W.Frag) : List V → Hp → VK → Prop := fun xs H Q => (∃ p ys, xs = [.ref p] ∧ (SqL K H p ys ∨ SqT K H p ys) ∧ ∀ l, H l = none → Q (.ref l) (upd H l (.lst ys))) ∨
  ∃ (a : Addr) (kvs : List (Key × V)), xs = [.ref a] ∧ Rd H a (.dK kvs) ∧ ∀ p, H p = none → Q (.ref p) (upd H p (.lst (kvs.map fun kv => kV kv.1)))
theorem call_listA (hK : X.K = g.K) (hc : X.calm = true) : CallR X (.type "list") (rListA g.K) := by
  rw [← hK]
  exact call_list_of.or (call_listD hc)
theorem list_ok : SC g (rListA g.K) (ar1 listD) := SC.one fun m S H x d Q W sr rx h => by
  unfold listD at h
  cases q : seqS S d with
  | some xs =>
    rw [q] at h
    obtain ⟨a, vs, rfl, hq, rs⟩ := seqS_ok sr rx q
    exact .inl ⟨a, vs, rfl, hq, lst_new sr rs h⟩
  | none =>
    rw [q] at h
    dsimp only at h
    cases q2 : keysS S d with
    | none => rw [q2] at h; exact h.elim
    | some ks =>
      rw [q2] at h
      obtain ⟨a, kvs, rfl, hv, hk⟩ := keysS_ok sr rx q2
      refine .inr ⟨a, kvs, rfl, .inl hv, ?_⟩
      have e : (kvs.map fun kv => kV kv.1) = ks.map kV := by rw [← hk, List.map_map]; rfl
      rw [e]
      exact lst_new sr (VRs.of_keys ks) h
def tupleD (d : D) : Mo D := fun S => match seqS S d with
  | some xs => .ok (.tup xs) S
  | none => .no
def rTupA (K : PySem.W.Frag) : List V → Hp → VK → Prop := fun xs H Q => ∃ p ys, xs = [.ref p] ∧ ((SqL K H p ys ∧ ∀ l, H l = none → Q (.ref l) (upd H l (.tup ys))) ∨ (SqT K H p ys ∧ Q (.ref p) H))
theorem call_tupA (hK : X.K = g.K) : CallR X (.type "tuple") (rTupA g.K) := by
  rw [← hK]
  exact call_tuple_of
theorem tuple_ok : SC g (rTupA g.K) (ar1 tupleD) := SC.one fun m S H x d Q W sr rx h => by
  unfold tupleD at h
  cases q : seqS S d with
  | none => rw [q] at h; exact h.elim
  | some xs =>
    rw [q] at h
    obtain ⟨a, vs, rfl, hq, rs⟩ := seqS_ok sr rx q
    refine ⟨a, vs, rfl, ?_⟩
    rcases hq with hq | hq
    · exact .inl ⟨hq, tup_new sr rs h⟩
    · exact .inr ⟨hq, h.here sr _ (.tup a vs xs hq rs)⟩

/-! ### sorted ints -/
def intsOf : List D → Option (List Int)
  | [] => some []
  | .int i :: r => (intsOf r).map fun q => i :: q
  | _ :: _ => none
theorem intsOf_eq : ∀ {xs : List D} {ns : List Int}, intsOf xs = some ns → xs = ns.map .int
  | [], _, h => by cases h; rfl
  | .int i :: r, ns, h => by
    obtain ⟨q, h1, rfl⟩ := Option.map_eq_some_iff.mp (show (intsOf r).map (fun q => i :: q) = some ns from h)
    rw [intsOf_eq h1]
    rfl
  | .non :: _, _, h => by cases h
  | .bl _ :: _, _, h => by cases h
  | .str _ :: _, _, h => by cases h
  | .ty _ :: _, _, h => by cases h
  | .cls _ :: _, _, h => by cases h
  | .fnc _ :: _, _, h => by cases h
  | .loc _ :: _, _, h => by cases h
  | .tup _ :: _, _, h => by cases h
  | .lsc _ :: _, _, h => by cases h
@[simp] theorem intsOf_map : ∀ ns : List Int, intsOf (ns.map .int) = some ns
  | [] => rfl
  | n :: r => by
    show (intsOf (r.map D.int)).map (fun q => n :: q) = _
    rw [intsOf_map r]
    rfl
def isort (ns : List Int) : List Int := ns.mergeSort fun a b => decide (a ≤ b)
theorem isort_perm (ns : List Int) : (isort ns).Perm ns := List.mergeSort_perm ns _
theorem isort_sorted (ns : List Int) : (isort ns).Pairwise (· ≤ ·) := by
  have := List.pairwise_mergeSort (le := fun a b : Int => decide (a ≤ b)) (fun a b c h1 h2 => by simp at *; omega) (fun a b => by simp; omega) ns
  exact this.imp fun h => by simpa using h
theorem sorted_uniq : ∀ {xs ys : List Int}, xs.Perm ys → xs.Pairwise (· ≤ ·) → ys.Pairwise (· ≤ ·) → xs = ys
  | [], ys, p, _, _ => (List.Perm.eq_nil p.symm).symm
  | x :: xs, [], p, _, _ => absurd (List.Perm.eq_nil p) (by simp)
  | x :: xs, y :: ys, p, h1, h2 => by
    have e : x = y := by
      have m1 : x ∈ y :: ys := p.mem_iff.mp List.mem_cons_self
      have m2 : y ∈ x :: xs := p.mem_iff.mpr List.mem_cons_self
      rcases List.mem_cons.mp m1 with z | z
      · exact z
      · rcases List.mem_cons.mp m2 with w | w
        · exact w.symm
        · have a := (List.pairwise_cons.mp h1).1 y w
          have b := (List.pairwise_cons.mp h2).1 x z
          omega
    subst e
    rw [sorted_uniq (List.Perm.cons_inv p) (List.pairwise_cons.mp h1).2 (List.pairwise_cons.mp h2).2]
theorem isort_uniq {ns ms : List Int} (p : ms.Perm ns) (h : ms.Pairwise (· ≤ ·)) : ms = isort ns := sorted_uniq (p.trans (isort_perm ns).symm) h (isort_sorted ns)
def intKeys : List Key → Option (List Int)
  | [] => some []
  | .inl i :: r => (intKeys r).map fun q => i :: q
  | .inr _ :: _ => none
theorem intKeys_eq : ∀ {ks : List Key} {ns : List Int}, intKeys ks = some ns → ks = ns.map Sum.inl
  | [], _, h => by cases h; rfl
  | .inl i :: r, ns, h => by
    obtain ⟨q, h1, rfl⟩ := Option.map_eq_some_iff.mp (show (intKeys r).map (fun q => i :: q) = some ns from h)
    rw [intKeys_eq h1]
    rfl
  | .inr _ :: _, _, h => by cases h
@[simp] theorem intKeys_map : ∀ ns : List Int, intKeys (ns.map Sum.inl) = some ns
  | [] => rfl
  | n :: r => by
    show (intKeys (r.map Sum.inl)).map (fun q => n :: q) = _
    rw [intKeys_map r]
    rfl
/-- sorted(d) of a dict whose keys are ints, any number of them -/
def rSortDI : List V → Hp → VK → Prop := fun xs H Q => ∃ (a : Addr) (kvs : List (Key × V)) (ks : List Int), xs = [.ref a] ∧ Rd H a (.dK kvs) ∧ kvs.map (·.1) = ks.map Sum.inl ∧
    ∀ (ys : List Int) (p : Addr), ys.Perm ks → ys.Pairwise (· ≤ ·) → H p = none → Q (.ref p) (upd H p (.lst (ys.map V.int)))
theorem call_sortedDIW (hcalm : X.calm = true) : CallR X (.builtin "sorted") rSortDI := by
  intro pins s σ H xs us Q I r q
  obtain ⟨a, kvs, ks, ex, hd, hks, q⟩ := q
  subst ex
  obtain ⟨u, eu, rx⟩ := vals1 r
  subst eu
  cases rx
  obtain ⟨z, lo, vs, rel, dd⟩ := dk_rd I.hok hd
  obtain ⟨ep, hat⟩ := dd.dictAt
  have hkeys : vs.map (·.1) = ks.map Sum.inl := rel.keys.symm.trans hks
  have hl : vs.length = ks.length := by
    have e := congrArg List.length hkeys
    rw [List.length_map, List.length_map] at e
    exact e
  have h16 : vs.length ≤ sizeLine := by rw [← rel.length]; exact z
  refine Calls.call_function_entry PyProof.Rows.kind_sorted PyProof.Rows.plain_sorted PyProof.Rows.entry_sorted (PyProof.Rows.args_sorted1 _) ?_
  unfold Builtin.«sorted»
  refine wpAny_bind (m := checkCount "sorted" 1 1 _) (wpAny_pure ?_)
  refine wpAny_bind (PySem.W.kdu_collect (A := X.A.in1) (PySem.W.kdl_dict (knd := mixKind X.prog X.w) (kvs := vs) (ep := ep) lo) (I.ok.hd hcalm) hat h16 fun h' tk acc hk hacc => ?_)
  have hal : acc.toList.length = ks.length := by rw [Array.length_toList, hacc.1, hl]
  have hS : IntsAre acc.toList ks := ints_each hal fun j v e => by
    obtain ⟨k, x, e1, e2⟩ := hacc.2 j v (by rw [← Array.getElem?_toList]; exact e)
    have e3 : (vs.map (·.1))[j]? = some k := by rw [List.getElem?_map, e1]; rfl
    rw [hkeys, List.getElem?_map] at e3
    cases e4 : ks[j]? with
    | none => rw [e4] at e3; cases e3
    | some y =>
      rw [e4] at e3
      have e5 : Sum.inl y = k := Option.some.inj e3
      subst e5
      rcases keyIs_shape (show keyIs (Sum.inl y) v = true from e2) with ⟨i, t, ek, ev⟩ | ⟨z, t, ek, ev⟩
      · cases ek
        exact ⟨y, t, rfl, ev⟩
      · cases ek
  have hz2 : acc.toList.length ≤ sizeLine := by rw [hal, ← hl]; exact h16
  have I1 : Inv X pins σ H { s with heap := h', toks := tk } := I.kept hk
  refine wpAny_bind (wpAny_newList ?_ hz2)
  have hoL : (h'.push (seqObj "list" acc.toList.toArray 0)).get? h'.objs.size = some (seqObj "list" acc.toList.toArray 0) := Heap.get?_push_size _ rfl
  show wpAny _ _ _ _ _ { s with heap := h'.push (seqObj "list" acc.toList.toArray 0), toks := tk }
  refine wpAny_bind (wpAny_holding (wpAny_call_entry PyProof.Rows.slot_list_sort ⟨_, hoL, rfl⟩ PyProof.Rows.entry_list_sort
    (SrtO.list_sort_ord (s := { s with heap := h'.push (seqObj "list" acc.toList.toArray 0), toks := tk }) SrtO.swo_int hoL hz2 (fun h2 => SrtO.ints_sortable hS h2) fun out h1 h2 => ⟨_, rfl, ?_⟩)
    (PyProof.Rows.args_list_sort _)))
  obtain ⟨k1, k2, k3⟩ := SrtO.ints_out hS h1 h2
  obtain ⟨e', he'⟩ := PyProof.Rows.sortedHeap_at (vs := acc.toList) (out := out.toArray) hoL
  have hlen : ((out.map SrtO.iv).map V.int).length ≤ sizeLine := by
    rw [List.length_map, k2.length_eq, ← hal]
    exact hz2
  refine wpAny_pure ⟨_, rfl, .ref h'.objs.size, upd H h'.objs.size (.lst ((out.map SrtO.iv).map V.int)), I1.laid (t' := tk) (fun b u e => ?_) (Nat.le_refl _)
    (show ObjOk X.prog X.w _ _ _ (.lst ((out.map SrtO.iv).map V.int)) from ⟨hlen, out, e', vals_of_ints k1, he'⟩), rfl, q _ _ k2 k3 (I1.hok.fresh (Nat.le_refl _))⟩
  have hb : b < h'.objs.size := Heap.lt_size e
  rw [PyProof.Rows.sortedHeap_old (Nat.ne_of_lt hb) (by rw [size_push']; exact Nat.lt_succ_of_lt hb)]
  exact Heap.get?_push_of_some _ e
def sortQ (d : D) (S : Sto) : Option (List Int) := match lstS S d with
  | some xs => intsOf xs
  | none => match keysS S d with
    | some ks => intKeys ks
    | none => none
def sortD (d : D) : Mo D := fun S => match sortQ d S with
  | some ns => mkL ((isort ns).map .int) S
  | none => .no
theorem call_sortA (hK : X.K = g.K) (hc : X.calm = true) : CallR X (.builtin "sorted") (fun xs H Q => rSortedI g.K xs H Q ∨ rSortDI xs H Q) := by
  rw [← hK]
  exact cr_sortedI.or (call_sortedDIW hc)
theorem sort_ok : SC g (fun xs H Q => rSortedI g.K xs H Q ∨ rSortDI xs H Q) (ar1 sortD) := SC.one fun m S H x d Q W sr rx h => by
  unfold sortD sortQ at h
  cases q : lstS S d with
  | some xs =>
    simp only [q] at h
    cases q2 : intsOf xs with
    | none => rw [q2] at h; exact h.elim
    | some ns =>
      rw [q2] at h
      obtain ⟨a, vs, rfl, hq, rs⟩ := lstS_ok sr rx q
      rw [intsOf_eq q2] at rs
      rw [rs.ints] at hq
      refine .inl ⟨a, ns, rfl, hq, fun ns' p hp hs hn => ?_⟩
      rw [isort_uniq hp hs]
      exact lst_new sr (VRs.of_ints _) h p hn
  | none =>
    simp only [q] at h
    cases q1 : keysS S d with
    | none => rw [q1] at h; exact h.elim
    | some ks =>
      simp only [q1] at h
      cases q2 : intKeys ks with
      | none => rw [q2] at h; exact h.elim
      | some ns =>
        rw [q2] at h
        obtain ⟨a, kvs, rfl, hv, hk⟩ := keysS_ok sr rx q1
        refine .inr ⟨a, kvs, ns, rfl, .inl hv, by rw [hk]; exact intKeys_eq q2, fun ns' p hp hs hn => ?_⟩
        rw [isort_uniq hp hs]
        exact lst_new sr (VRs.of_ints _) h p hn
def sumD (d : D) : Mo D := fun S => match lstS S d with
  | some xs => match intsOf xs with
    | some ns => .ok (.int ns.sum) S
    | none => .no
  | none => .no
theorem call_sumA (hK : X.K = g.K) (hc : X.calm = true) : CallR X (.builtin "sum") (rSum g.K) := by
  rw [← hK]
  exact cr_sum hc
theorem sum_ok : SC g (rSum g.K) (ar1 sumD) := SC.one fun m S H x d Q W sr rx h => by
  unfold sumD at h
  cases q : lstS S d with
  | none => rw [q] at h; exact h.elim
  | some xs =>
    simp only [q] at h
    cases q2 : intsOf xs with
    | none => rw [q2] at h; exact h.elim
    | some ns =>
      rw [q2] at h
      obtain ⟨a, vs, rfl, hq, rs⟩ := lstS_ok sr rx q
      rw [intsOf_eq q2] at rs
      rw [rs.ints] at hq
      exact ⟨a, ns, rfl, hq, h.here sr _ (.int _)⟩
def blsOf : List D → Option (List Bool)
  | [] => some []
  | .bl i :: r => (blsOf r).map fun q => i :: q
  | _ :: _ => none
theorem blsOf_rel {m : Nat → Addr} {n : Nat} {H : Hp} : ∀ {xs : List D} {bs : List Bool} {vs : List V}, blsOf xs = some bs → VRs g m n H vs xs → vs = bs.map V.bl
  | [], _, _, h, r => by cases h; cases r; rfl
  | .bl i :: xs, bs, _, h, r => by
    obtain ⟨q, h1, rfl⟩ := Option.map_eq_some_iff.mp (show (blsOf xs).map (fun q => i :: q) = some bs from h)
    cases r with
    | cons _ _ _ _ r1 rs =>
      cases r1
      rw [blsOf_rel h1 rs]
      rfl
  | .non :: _, _, _, h, _ => by cases h
  | .int _ :: _, _, _, h, _ => by cases h
  | .str _ :: _, _, _, h, _ => by cases h
  | .ty _ :: _, _, _, h, _ => by cases h
  | .cls _ :: _, _, _, h, _ => by cases h
  | .fnc _ :: _, _, _, h, _ => by cases h
  | .loc _ :: _, _, _, h, _ => by cases h
  | .tup _ :: _, _, _, h, _ => by cases h
  | .lsc _ :: _, _, _, h, _ => by cases h
@[simp] theorem blsOf_map : ∀ ns : List Bool, blsOf (ns.map .bl) = some ns
  | [] => rfl
  | n :: r => by
    show (blsOf (r.map D.bl)).map (fun q => n :: q) = _
    rw [blsOf_map r]
    rfl
def allD (d : D) : Mo D := fun S => match lstS S d with
  | some xs => match blsOf xs with
    | some bs => .ok (.bl (bs.all id)) S
    | none => .no
  | none => .no
def anyD (d : D) : Mo D := fun S => match lstS S d with
  | some xs => match blsOf xs with
    | some bs => .ok (.bl (bs.any id)) S
    | none => .no
  | none => .no
theorem call_allA (hK : X.K = g.K) (hc : X.calm = true) : CallR X (.builtin "all") (rAll g.K) := by
  rw [← hK]
  exact cr_all hc
theorem call_anyA (hK : X.K = g.K) (hc : X.calm = true) : CallR X (.builtin "any") (rAny g.K) := by
  rw [← hK]
  exact cr_any hc
theorem all_ok : SC g (rAll g.K) (ar1 allD) := SC.one fun m S H x d Q W sr rx h => by
  unfold allD at h
  cases q : lstS S d with
  | none => rw [q] at h; exact h.elim
  | some xs =>
    simp only [q] at h
    cases q2 : blsOf xs with
    | none => rw [q2] at h; exact h.elim
    | some ns =>
      rw [q2] at h
      obtain ⟨a, vs, rfl, hq, rs⟩ := lstS_ok sr rx q
      rw [blsOf_rel q2 rs] at hq
      exact ⟨a, ns, rfl, hq, h.here sr _ (.bl _)⟩
theorem any_ok : SC g (rAny g.K) (ar1 anyD) := SC.one fun m S H x d Q W sr rx h => by
  unfold anyD at h
  cases q : lstS S d with
  | none => rw [q] at h; exact h.elim
  | some xs =>
    simp only [q] at h
    cases q2 : blsOf xs with
    | none => rw [q2] at h; exact h.elim
    | some ns =>
      rw [q2] at h
      obtain ⟨a, vs, rfl, hq, rs⟩ := lstS_ok sr rx q
      rw [blsOf_rel q2 rs] at hq
      exact ⟨a, ns, rfl, hq, h.here sr _ (.bl _)⟩

/-! ### methods of lists -/
theorem extend_tup (l : Addr) (items : Array Value) (n : Nat) (b : Addr) (items2 : Array Value) (n2 : Nat) (dd : Option Addr) (sl : Array (Option Value)) (hs0 : ¬(!items.isEmpty && Builtin.List.listTooLong (items.size + items2.size)) = true) (hs1 : items.size ≤ sizeLine) (hs2 : items.size + items2.size ≤ sizeLine + 1) :
    Meets (Builtin.«list.extend» ⟨[.ref l, .ref b], []⟩) (fun _ R s => s.heap.get? l = some { cls := .type "list", dict := none, data := .seq items n, slots := #[] } ∧ s.heap.get? b = some { cls := .type "tuple", dict := dd, data := .seq items2 n2, slots := sl } ∧ R (.ok (.ret Value.none)) { s with heap := s.heap.update l (Obj.mapSeq fun x => x ++ items2) }) :=
  .of_wp fun prog w A R s h => by
    obtain ⟨hp, g, d, tk, os⟩ := s; obtain ⟨hl, hb, h⟩ := h; have f1 := AutoSeq1.idx_int; have f2 := AutoSeq1.sub_tuple_tuple; have f3 := AutoSeq1.sub_list_list; have f4 := AutoSeq1.sub_tuple_list; have f5 := AutoSeq1.sub_list_tuple
    have hz' : (items ++ items2).size ≤ sizeLine + 1 := by rw [Array.size_append]; exact hs2
    wp_walk using (wpAny_updateSeq hl rfl (hz := hs1) (_hz' := hz')), wpAny_loadPart' hl, wpAny_loadPart' hb; exact ⟨_, rfl, h⟩
def rExtT (K : PySem.W.Frag) : V → List V → Hp → VK → Prop := fun x vs H Q => ∃ l b xs zs, x = .ref l ∧ vs = [.ref b] ∧ H l = some (.lst xs) ∧ SqT K H b zs ∧ xs.length + zs.length ≤ sizeLine ∧ Q .non (upd H l (.lst (xs ++ zs)))
theorem mt_extT : MtM X "list.extend" (rExtT X.K) := by
  intro pins s σ H x vs v us Q I rx rv h
  obtain ⟨l, b, xs, zs, rfl, rfl, hH, hB, hz, q⟩ := h
  cases rx
  obtain ⟨u, rfl, ru⟩ := rv.one
  cases ru
  obtain ⟨z, its, n, r, hl, e⟩ := I.lstM hH
  obtain ⟨its2, r2, pt, hl2⟩ := I.tuple hB
  obtain ⟨⟨cls, dd, data, sl⟩, e2, hc, n2, hd⟩ := pt
  simp only at hc hd
  subst hc hd
  have l2 := r2.length
  have hsz : its.toArray.size + its2.toArray.size ≤ sizeLine := by rw [List.size_toArray, List.size_toArray]; omega
  have hlong : ¬ (!its.toArray.isEmpty && Builtin.List.listTooLong (its.toArray.size + its2.toArray.size)) = true := by
    rw [notLongL hsz, Bool.and_false]
    exact Bool.false_ne_true
  refine call_meets F.slot_list_extend ⟨_, e, rfl⟩ F.entry_list_extend (F.args_list_extend_2 _ _)
    (extend_tup l its.toArray n b its2.toArray n2 dd sl hlong (by rw [List.size_toArray]; omega) (by omega)) ⟨e, e2, ?_⟩
  refine ⟨.non, _, I.lset (its' := its ++ its2) hH e (by simp) (r.append r2) ?_, rfl, q⟩
  rw [List.length_append]
  omega
def lstM : D → Sto → Option (Nat × List D)
  | .loc l, S => (lstO S[l]?).map fun xs => (l, xs)
  | _, _ => none
/-- a list of the store, that may be written -/
theorem lstM_ok {m : Nat → Addr} {S : Sto} {H : Hp} {d : D} {v : V} {l : Nat} {xs : List D} (sr : SR g m H S) (r : VR g m S.length H v d) (h : lstM d S = some (l, xs)) : d = .loc l ∧ l < S.length ∧ v = .ref (m l) ∧ ∃ vs, H (m l) = some (.lst vs) ∧ VRs g m S.length H vs xs := by
  cases r with
  | loc l' hl =>
    have h2 : (lstO S[l']?).map (fun xs => (l', xs)) = some (l, xs) := h
    obtain ⟨ys, h3, h4⟩ := Option.map_eq_some_iff.mp h2
    cases h4
    cases q : S[l]? with
    | none => rw [q] at h3; cases h3
    | some ob =>
      rw [q] at h3
      cases ob with
      | lst zs =>
        cases h3
        obtain ⟨_, vs, hv, rs⟩ := sr.atL q
        exact ⟨rfl, hl, rfl, vs, hv, rs⟩
      | _ => cases h3
  | _ => cases h
/-- the store with a list written -/
theorem lst_wr {m : Nat → Addr} {S : Sto} {H : Hp} {l : Nat} {vs : List V} {xs : List D} (sr : SR g m H S) (hl : l < S.length) (rs : VRs g m S.length H vs xs) : Ev g m S.length H m (S.set l (.lst xs)).length (upd H (m l) (.lst vs)) ∧ SR g m (upd H (m l) (.lst vs)) (S.set l (.lst xs)) := by
  have ew : Ev g m S.length H m S.length (upd H (m l) (.lst vs)) := Ev.wr (sr.canw hl)
  exact ⟨by rw [List.length_set]; exact ew, sr.wr hl ⟨vs, upd_same, rs.ev ew⟩⟩
/-- the items of a tuple or a list of the store -/
def seqM (S : Sto) : D → Option (List D)
  | .tup xs => some xs
  | .loc l => lstO S[l]?
  | _ => none
def extD (x y : D) : Mo D := fun S => match lstM x S, seqM S y with
  | some (l, xs), some ys => if fit (xs.length + ys.length) = true then .ok .non (S.set l (.lst (xs ++ ys))) else .no
  | _, _ => .no
def rExtA (K : PySem.W.Frag) : V → List V → Hp → VK → Prop := fun x vs H Q => rExtend x vs H Q ∨ rExtT K x vs H Q
theorem MtR.or' {id : String} {r r' : V → List V → Hp → VK → Prop} (h : MtR X id r) (h' : MtR X id r') : MtR X id (fun x xs H Q => r x xs H Q ∨ r' x xs H Q) := fun pins s σ H x xs v us Q I rx rs q => q.elim (h pins s σ H x xs v us Q I rx rs) (h' pins s σ H x xs v us Q I rx rs)
theorem mt_extA (hK : X.K = g.K) : MtR X "list.extend" (rExtA g.K) := by
  rw [← hK]
  exact MtR.or' mt_extend mt_extT
theorem ext_ok : SM g (rExtA g.K) (am1 extD) := SM.one fun m S H x y d e Q W sr rx ry h => by
  unfold extD at h
  cases q : lstM d S with
  | none => simp only [q] at h; exact h.elim
  | some p =>
    obtain ⟨l, xs⟩ := p
    cases q2 : seqM S e with
    | none => simp only [q, q2] at h; exact h.elim
    | some ys =>
      simp only [q, q2] at h
      by_cases q3 : fit (xs.length + ys.length) = true
      · rw [if_pos q3] at h
        obtain ⟨rfl, hl, rfl, vs, hv, rs⟩ := lstM_ok sr rx q
        have sz := fit_iff.mp q3
        by_cases ht : ∃ zs, e = .tup zs
        · obtain ⟨zs, rfl⟩ := ht
          cases q2
          cases ry with
          | tup a ws _ hq rs2 =>
            obtain ⟨ew, sw⟩ := lst_wr sr hl (rs.append rs2)
            exact .inr ⟨m l, a, vs, ws, rfl, rfl, hv, hq, by rw [rs.length, rs2.length]; exact sz, h _ _ ew sw _ .non⟩
        · cases ry with
          | loc l' hl' =>
            obtain ⟨_, _, _, ws, hv2, rs2⟩ := lstM_ok (xs := ys) (l := l') sr (.loc l' hl') (by
              have h2 : lstO S[l']? = some ys := q2
              show (lstO S[l']?).map _ = _
              rw [h2]; rfl)
            obtain ⟨ew, sw⟩ := lst_wr sr hl (rs.append rs2)
            exact .inl ⟨m l, m l', vs, ws, rfl, rfl, hv, hv2, by rw [rs.length, rs2.length]; exact sz, h _ _ ew sw _ .non⟩
          | tup a ws zs hq rs2 => exact absurd ⟨_, rfl⟩ ht
          | _ => cases q2
      · rw [if_neg q3] at h; exact h.elim

def popD (x : D) : Mo D := fun S => match lstM x S with
  | some (l, xs) => match xs[xs.length - 1]? with
    | some y => .ok y (S.set l (.lst xs.dropLast))
    | none => .no
  | none => .no
theorem VRs.dropLast {m : Nat → Addr} {n : Nat} {H : Hp} {vs : List V} {ds : List D} (r : VRs g m n H vs ds) : VRs g m n H vs.dropLast ds.dropLast := by
  rw [List.dropLast_eq_take, List.dropLast_eq_take, r.length]
  exact r.take _
theorem pop_ok : SM g rPop (am0 popD) := SM.zero fun m S H x d Q W sr rx h => by
  unfold popD at h
  cases q : lstM d S with
  | none => simp only [q] at h; exact h.elim
  | some p =>
    obtain ⟨l, xs⟩ := p
    simp only [q] at h
    cases q2 : xs[xs.length - 1]? with
    | none => rw [q2] at h; exact h.elim
    | some y =>
      rw [q2] at h
      obtain ⟨rfl, hl, rfl, vs, hv, rs⟩ := lstM_ok sr rx q
      obtain ⟨v, hvi, rv⟩ := rs.get q2
      obtain ⟨ew, sw⟩ := lst_wr sr hl rs.dropLast
      exact ⟨m l, vs, v, rfl, rfl, hv, by rw [rs.length]; exact hvi, h _ _ ew sw _ (rv.ev (by rw [List.length_set] at ew; rw [List.length_set]; exact ew))⟩
def clrD (x : D) : Mo D := fun S => match lstM x S with
  | some (l, _) => .ok .non (S.set l (.lst []))
  | none => .no
theorem clr_ok : SM g rClear (am0 clrD) := SM.zero fun m S H x d Q W sr rx h => by
  unfold clrD at h
  cases q : lstM d S with
  | none => simp only [q] at h; exact h.elim
  | some p =>
    obtain ⟨l, xs⟩ := p
    simp only [q] at h
    obtain ⟨rfl, hl, rfl, vs, hv, rs⟩ := lstM_ok sr rx q
    obtain ⟨ew, sw⟩ := lst_wr sr hl (vs := []) (xs := []) .nil
    exact ⟨m l, vs, rfl, rfl, hv, h _ _ ew sw _ .non⟩
/-- where the first item stands that is equal -/
def idxL (y : D) : List D → Nat → Option Nat
  | [], _ => none
  | x :: r, k => if eqF x y = true then some k else idxL y r (k + 1)
theorem idxL_ok {y : D} : ∀ {xs : List D} {k j : Nat}, idxL y xs k = some j → k ≤ j ∧ ∃ x, xs[j - k]? = some x ∧ eqF x y = true ∧ ∀ i z, i < j - k → xs[i]? = some z → eqF z y = false
  | [], _, _, h => by cases h
  | x :: r, k, j, h => by
    unfold idxL at h
    by_cases q : eqF x y = true
    · rw [if_pos q] at h
      cases h
      exact ⟨Nat.le_refl _, x, by simp, q, fun i z hi => by omega⟩
    · rw [if_neg q] at h
      obtain ⟨h1, z, h2, h3, h4⟩ := idxL_ok h
      refine ⟨by omega, z, ?_, h3, fun i z' hi hz => ?_⟩
      · rw [show j - k = (j - (k + 1)) + 1 by omega]
        simpa using h2
      · cases i with
        | zero => simp at hz; subst hz; simpa using q
        | succ i => exact h4 i z' (by omega) (by simpa using hz)
def indexD (x y : D) : Mo D := fun S => match lstS S x with
  | some xs => if (flatD y && xs.all flatD) = true then match idxL y xs 0 with
    | some j => .ok (.int (j : Nat)) S
    | none => .no else .no
  | none => .no
theorem mt_indexA (hK : X.K = g.K) : MtR X "list.index" (rIndex g.K) := by
  rw [← hK]
  exact mt_index
theorem index_ok : SM g (rIndex g.K) (am1 indexD) := SM.one fun m S H x y d e Q W sr rx ry h => by
  unfold indexD at h
  cases q : lstS S d with
  | none => simp only [q] at h; exact h.elim
  | some xs =>
    simp only [q] at h
    by_cases q2 : (flatD e && xs.all flatD) = true
    · rw [if_pos q2] at h
      rw [Bool.and_eq_true] at q2
      cases q3 : idxL e xs 0 with
      | none => rw [q3] at h; exact h.elim
      | some j =>
        rw [q3] at h
        obtain ⟨a, vs, rfl, hq, rs⟩ := lstS_ok sr rx q
        obtain ⟨_, z, h2, h3, h4⟩ := idxL_ok q3
        simp only [Nat.sub_zero] at h2 h4
        obtain ⟨v, hvi, rv⟩ := rs.get h2
        have fl : ∀ {i : Nat} {z : D}, xs[i]? = some z → flatD z = true := fun hz => List.all_eq_true.mp q2.2 _ (List.mem_of_getElem? hz)
        refine ⟨a, vs, y, j, v, rfl, rfl, hq, flat_rel ry q2.1, flats_rel rs q2.2, hvi, by rw [eqF_rel rv ry (fl h2) q2.1]; exact h3, fun i v' hi hv' => ?_, h.here sr _ (.int _)⟩
        obtain ⟨z', hz', rz⟩ := rs.get' hv'
        rw [eqF_rel rz ry (fl hz') q2.1]
        exact h4 i z' hi hz'
    · rw [if_neg q2] at h; exact h.elim

/-! ### zip, enumerate -/
def zipX (f f' : Sto → Option (List D)) : Nx := fun i S => match f S, f' S with
  | some xs, some ys => match xs[i]?, ys[i]? with
    | some x, some y => some (some (.tup [x, y]))
    | _, _ => some none
  | _, _ => none
def enumX (f : Sto → Option (List D)) : Nx := fun i S => match f S with
  | some xs => some (xs[i]?.map fun x => .tup [.int (i : Nat), x])
  | none => none
/-- a list, told at each turn: locked or of the store -/
def lstF (d : D) : Sto → Option (List D) := fun S => lstS S d
theorem lstF_ok {m m' : Nat → Addr} {n : Nat} {S' : Sto} {H H' : Hp} {d : D} {a : Addr} {xs : List D} (r : VR g m n H (.ref a) d) (e : Ev g m n H m' S'.length H') (sr : SR g m' H' S') (h : lstF d S' = some xs) : ∃ vs, SqL g.K H' a vs ∧ VRs g m' S'.length H' vs xs := by
  obtain ⟨a', vs, e1, h2, h3⟩ := lstS_ok sr (r.ev e) h
  cases e1
  exact ⟨vs, h2, h3⟩
theorem pair_new {m : Nat → Addr} {S : Sto} {H : Hp} {T : Addr} {x y : V} {d e : D} (sr : SR g m H S) (hT : H T = none) (rx : VR g m S.length H x d) (ry : VR g m S.length H y e) :
    Ev g m S.length H m S.length (upd H T (.tup [x, y])) ∧ SR g m (upd H T (.tup [x, y])) S ∧ VR g m S.length (upd H T (.tup [x, y])) (.ref T) (.tup [d, e]) := by
  have ev : Ev g m S.length H m S.length (upd H T (.tup [x, y])) := Ev.new hT
  exact ⟨ev, sr.aside hT, .tup T [x, y] _ (SqT.of upd_same) (.cons _ _ _ _ (rx.ev ev) (.cons _ _ _ _ (ry.ev ev) .nil))⟩
theorem zip_vw {m : Nat → Addr} {n : Nat} {H : Hp} {d e : D} {a a' : Addr} (r : VR g m n H (.ref a) d) (r' : VR g m n H (.ref a') e) : VwOk g (Itz g.K a a') m n H (zipX (lstF d) (lstF e)) := fun i m' H' S' ev sr => by
  unfold zipX
  cases q1 : lstF d S' with
  | none => exact ⟨fun h => (nomatch h), fun _ h => (nomatch h)⟩
  | some xs =>
    cases q2 : lstF e S' with
    | none => exact ⟨fun h => (nomatch h), fun _ h => (nomatch h)⟩
    | some ys =>
      obtain ⟨vs, h1, r1⟩ := lstF_ok r ev sr q1
      obtain ⟨ws, h2, r2⟩ := lstF_ok r' ev sr q2
      dsimp only
      cases z1 : xs[i]? with
      | none => exact ⟨fun _ => ⟨vs, ws, h1, h2, .inl (by rw [r1.length]; exact List.getElem?_eq_none_iff.mp z1)⟩, fun _ h => (nomatch h)⟩
      | some x =>
        cases z2 : ys[i]? with
        | none => exact ⟨fun _ => ⟨vs, ws, h1, h2, .inr (by rw [r2.length]; exact List.getElem?_eq_none_iff.mp z2)⟩, fun _ h => (nomatch h)⟩
        | some y =>
          obtain ⟨v, hv, rv⟩ := r1.get z1
          obtain ⟨w, hw, rw'⟩ := r2.get z2
          refine ⟨fun h => (nomatch h), fun d' hd => ?_⟩
          cases hd
          refine ⟨⟨vs, ws, v, w, h1, h2, hv, hw⟩, fun u H'' yl => ?_⟩
          obtain ⟨T, x', y', rfl, hT, rfl, k1, k2⟩ := yl
          have e1 := k1 vs h1
          rw [hv] at e1; cases e1
          have e2 := k2 ws h2
          rw [hw] at e2; cases e2
          exact pair_new sr hT rv rw'
theorem enum_vw {m : Nat → Addr} {n : Nat} {H : Hp} {d : D} {a : Addr} (r : VR g m n H (.ref a) d) : VwOk g (Ite g.K a) m n H (enumX (lstF d)) := fun i m' H' S' ev sr => by
  unfold enumX
  cases q1 : lstF d S' with
  | none => exact ⟨fun h => (nomatch h), fun _ h => (nomatch h)⟩
  | some xs =>
    obtain ⟨vs, h1, r1⟩ := lstF_ok r ev sr q1
    dsimp only
    cases z1 : xs[i]? with
    | none => exact ⟨fun _ => ⟨vs, h1, by rw [r1.length]; exact List.getElem?_eq_none_iff.mp z1⟩, fun _ h => (nomatch h)⟩
    | some x =>
      obtain ⟨v, hv, rv⟩ := r1.get z1
      refine ⟨fun h => (nomatch h), fun d' hd => ?_⟩
      cases hd
      refine ⟨⟨vs, v, h1, hv⟩, fun u H'' yl => ?_⟩
      obtain ⟨T, x', rfl, hT, rfl, k1⟩ := yl
      have e1 := k1 vs h1
      rw [hv] at e1; cases e1
      exact pair_new sr hT (.int _) rv
/-- a list or a tuple, told at each turn -/
def seqF (d : D) : Sto → Option (List D) := fun S => seqS S d
theorem seq_lst {d : D} (h : ¬ ∃ ys, d = .tup ys) (S : Sto) : seqS S d = lstS S d := by
  cases d <;> first | rfl | exact absurd ⟨_, rfl⟩ h
theorem enumT_vw {m : Nat → Addr} {n : Nat} {H : Hp} {ds : List D} {a : Addr} (r : VR g m n H (.ref a) (.tup ds)) : VwOk g (IteT g.K a) m n H (enumX (seqF (.tup ds))) := fun i m' H' S' ev sr => by
  have h1 : ∃ vs, SqT g.K H' a vs ∧ VRs g m' S'.length H' vs ds := by
    cases r.ev ev with
    | tup _ vs _ hq rs => exact ⟨vs, hq, rs⟩
  obtain ⟨vs, h1, r1⟩ := h1
  have e : enumX (seqF (.tup ds)) i S' = some (ds[i]?.map fun x => .tup [.int (i : Nat), x]) := rfl
  rw [e]
  cases z1 : ds[i]? with
  | none => exact ⟨fun _ => ⟨vs, h1, by rw [r1.length]; exact List.getElem?_eq_none_iff.mp z1⟩, fun _ h => (nomatch h)⟩
  | some x =>
    obtain ⟨v, hv, rv⟩ := r1.get z1
    refine ⟨fun h => (nomatch h), fun d' hd => ?_⟩
    cases hd
    refine ⟨⟨vs, v, h1, hv⟩, fun u H'' yl => ?_⟩
    obtain ⟨T, x', rfl, hT, rfl, k1⟩ := yl
    have e1 := k1 vs h1
    rw [hv] at e1; cases e1
    exact pair_new sr hT (.int _) rv
def lenLs (S : Sto) (d : D) : Nat := ((lstS S d).getD []).length
/-- zip(xs, ys), enumerate(xs) of lists -/
def zipI : List D → Mo Wk
  | [d, e] => fun S => if ((lstS S d).isSome && (lstS S e).isSome) = true then .ok (.view (zipX (lstF d) (lstF e)) (min (lenLs S d) (lenLs S e))) S else .no
  | _ => bad
def enumI : List D → Mo Wk
  | [d] => fun S => if (seqS S d).isSome = true then .ok (.view (enumX (seqF d)) ((seqS S d).getD []).length) S else .no
  | _ => bad
theorem lstS_isSome {m : Nat → Addr} {S : Sto} {H : Hp} {d : D} {v : V} (sr : SR g m H S) (r : VR g m S.length H v d) (h : (lstS S d).isSome = true) : ∃ a vs, v = .ref a ∧ SqL g.K H a vs := by
  obtain ⟨xs, q⟩ := Option.isSome_iff_exists.mp h
  obtain ⟨a, vs, h1, h2, _⟩ := lstS_ok sr r q
  exact ⟨a, vs, h1, h2⟩
theorem di_zip {elts : List Expr} {kk : Nat} {tpos p : Pos} (hK : X.K = g.K) (hm : X.mg "zip" = none) (ha : PA X [a, b] (tDs g W fs)) (hg : Gl X "zip" := by rfl)
    (hs : starEach [a, b] X.env = (false, eval a X.env) :: starEach [b] X.env := by rfl) (hpl : (backTo pos (starEach [b] X.env)).any (·.1) = false := by rfl) :
    PI X (.Tuple elts kk tpos) (.Call (.Name "zip" p) [a, b] [] pos) (tIt g W (cRng zipI fs)) :=
  PI.imp (pi_zip hg hm ha hs hpl) fun σ H R ⟨m, S, ρ, sr, er, h⟩ => tDs.sub sr er h fun ds m1 S1 H1 vs s1 _ _ r1 h1 => by
    cases r1 with
    | nil => exact h1.elim
    | cons x d xs ds rx rs =>
      cases rs with
      | nil => exact h1.elim
      | cons y e ys es ry rs =>
        cases rs with
        | cons _ _ _ _ _ _ => exact h1.elim
        | nil =>
          have h2 : PRx g m1 S1 H1 _ (fun w m1 S1 H1 => ∀ J, ItOk g J m1 S1.length H1 w → R J H1) (if ((lstS S1 d).isSome && (lstS S1 e).isSome) = true then Rz.ok (Wk.view (zipX (lstF d) (lstF e)) (min (lenLs S1 d) (lenLs S1 e))) S1 else .no) := h1
          by_cases q : ((lstS S1 d).isSome && (lstS S1 e).isSome) = true
          · rw [if_pos q] at h2
            rw [Bool.and_eq_true] at q
            obtain ⟨a1, vs1, rfl, q1⟩ := lstS_isSome s1 rx q.1
            obtain ⟨a2, vs2, rfl, q2⟩ := lstS_isSome s1 ry q.2
            rw [hK]
            exact ⟨a1, a2, vs1, vs2, rfl, q1, q2, h2 m1 H1 Ev.refl s1 _ (zip_vw rx ry)⟩
          · rw [if_neg q] at h2; exact h2.elim
theorem di_enum {elts : List Expr} {kk : Nat} {tpos p : Pos} (hK : X.K = g.K) (hm : X.mg "enumerate" = none) (ha : PA X [a] (tDs g W fs)) (hg : Gl X "enumerate" := by rfl)
    (hs : starEach [a] X.env = [(false, eval a X.env)] := by rfl) :
    PI X (.Tuple elts kk tpos) (.Call (.Name "enumerate" p) [a] [] pos) (tIt g W (cRng enumI fs)) :=
  PI.imp (pi_enum2 hg hm ha hs) fun σ H R ⟨m, S, ρ, sr, er, h⟩ => tDs.sub sr er h fun ds m1 S1 H1 vs s1 _ _ r1 h1 => by
    cases r1 with
    | nil => exact h1.elim
    | cons x d xs ds rx rs =>
      cases rs with
      | cons _ _ _ _ _ _ => exact h1.elim
      | nil =>
        have h2 : PRx g m1 S1 H1 _ (fun w m1 S1 H1 => ∀ J, ItOk g J m1 S1.length H1 w → R J H1) (if (seqS S1 d).isSome = true then Rz.ok (Wk.view (enumX (seqF d)) ((seqS S1 d).getD []).length) S1 else .no) := h1
        by_cases q : (seqS S1 d).isSome = true
        · rw [if_pos q] at h2
          by_cases ht : ∃ ys, d = .tup ys
          · obtain ⟨ys, rfl⟩ := ht
            cases rx with
            | tup a1 vs1 _ q1 rs =>
              rw [hK]
              exact ⟨a1, vs1, rfl, .inr ⟨q1, h2 m1 H1 Ev.refl s1 _ (enumT_vw (.tup a1 vs1 _ q1 rs))⟩⟩
          · rw [seq_lst ht] at q
            obtain ⟨a1, vs1, rfl, q1⟩ := lstS_isSome s1 rx q
            have e : seqF d = lstF d := funext fun S => seq_lst ht S
            rw [e] at h2
            rw [hK]
            exact ⟨a1, vs1, rfl, .inl ⟨q1, h2 m1 H1 Ev.refl s1 _ (enum_vw rx)⟩⟩
        · rw [if_neg q] at h2; exact h2.elim
end
end Sm
end
section
/-! Sm, part Ke: more of dicts: d.get(k), d.get(k, x), d.clear(). -/
namespace Sm
open PySem PySem.Spec PyProof.Rows L2
section
variable {g : Gx} {X : Cx}
def rGet : V → List V → Hp → VK → Prop := fun x vs H Q => ∃ (a : Addr) (y d : V) (o : Option V), x = .ref a ∧ (vs = [y] ∧ d = .non ∨ vs = [y, d]) ∧ DGet H a y o ∧ Q (o.getD d) H
theorem mt_get (hu : X.A.units + 1 < cLine) : MtR X "dict.get" rGet := by
  intro pins s σ H x vs v us Q I rx rv h
  obtain ⟨a, y, d, o, rfl, hv, dg, q⟩ := h
  obtain rfl : v = Value.ref a := rx
  rcases hv with ⟨rfl, rfl⟩ | rfl
  · cases rv with
    | cons ry r =>
      cases r
      exact d_get1 hu I dg ry fun w' s' I' rw' => ⟨_, _, I', rw', q⟩
  · cases rv with
    | cons ry r =>
      cases r with
      | cons rd r =>
        cases r
        exact d_get2 hu I dg ry rd fun w' s' I' rw' => ⟨_, _, I', rw', q⟩
/-- the value at a key, or what is handed in -/
def dgetO (k d : D) : Option Ob → Option D
  | some (.dct kvs) => match keyD k with
    | some k => some ((valD kvs k).getD d)
    | none => none
  | _ => none
def dgetM : D → List D → Mo D
  | .loc l, [k] => fun S => match dgetO k .non S[l]? with
    | some z => .ok z S
    | none => .no
  | .loc l, [k, d] => fun S => match dgetO k d S[l]? with
    | some z => .ok z S
    | none => .no
  | _, _ => bad
theorem get_core {m : Nat → Addr} {S : Sto} {H : Hp} {Q : VK} {W : XK} {l : Nat} {x y dv : V} {k d z : D} (sr : SR g m H S) (rx : VR g m S.length H x (.loc l)) (ry : VR g m S.length H y k) (rd : VR g m S.length H dv d) (hz : dgetO k d S[l]? = some z) (h : PRx g m S H W (KD g Q) (.ok z S)) : ∃ (a : Addr) (o : Option V), x = .ref a ∧ DGet H a y o ∧ Q (o.getD dv) H := by
  cases rx with
  | loc l hl =>
    cases q0 : S[l]? with
    | none => rw [q0] at hz; cases hz
    | some ob =>
      rw [q0] at hz
      cases ob with
      | dct kvs =>
        obtain ⟨_, ks', hx, hk, rs⟩ := sr.atD q0
        cases qk : keyD k with
        | none => simp [dgetO, qk] at hz
        | some key =>
          simp only [dgetO, qk, Option.some.injEq] at hz
          subst hz
          obtain rfl := keyD_ok ry qk
          refine ⟨m l, valV ks' key, rfl, DGet.k hx, ?_⟩
          obtain ⟨i1, i2⟩ := valD_rel (k := key) hk rs
          cases e : valD kvs key with
          | none => rw [i2 e]; rw [e] at h; exact h.here sr _ rd
          | some w =>
            obtain ⟨v, hv, rv⟩ := i1 w e
            rw [hv]; rw [e] at h; exact h.here sr _ rv
      | lst ds => cases hz
      | ins c fs => cases hz
theorem get_sm : SM g rGet dgetM := fun m S H x xs d ds Q W sr rx rs h => by
  cases d with
  | loc l =>
    rcases ds with _ | ⟨k, _ | ⟨d2, _ | ⟨d3, r⟩⟩⟩
    · exact h.elim
    · cases rs with
      | cons y _ ys _ ry rr =>
        cases rr
        have h : PRx g m S H W (KD g Q) (match dgetO k .non S[l]? with | some z => .ok z S | none => .no) := h
        split at h
        · rename_i z hz
          obtain ⟨a, o, h1, h2, h3⟩ := get_core sr rx ry (.non) hz h
          exact ⟨a, y, .non, o, h1, .inl ⟨rfl, rfl⟩, h2, h3⟩
        · exact h.elim
    · cases rs with
      | cons y _ ys _ ry rr =>
        cases rr with
        | cons dv _ ys _ rd rr =>
          cases rr
          have h : PRx g m S H W (KD g Q) (match dgetO k d2 S[l]? with | some z => .ok z S | none => .no) := h
          split at h
          · rename_i z hz
            obtain ⟨a, o, h1, h2, h3⟩ := get_core sr rx ry rd hz h
            exact ⟨a, y, dv, o, h1, .inr rfl, h2, h3⟩
          · exact h.elim
    · exact h.elim
  | _ => exact h.elim
def dclrD (x : D) : Mo D := fun S => match x with
  | .loc l => match S[l]? with
    | some (.dct _) => .ok .non (S.set l (.dct []))
    | _ => .no
  | _ => .no
theorem dclr_ok : SM g rDClear (am0 dclrD) := SM.zero fun m S H x d Q W sr rx h => by
  cases rx with
  | loc l hl =>
    have h : PRx g m S H W (KD g Q) (match S[l]? with | some (.dct _) => .ok .non (S.set l (.dct [])) | _ => .no) := h
    cases q0 : S[l]? with
    | none => rw [q0] at h; exact h.elim
    | some ob =>
      rw [q0] at h
      cases ob with
      | dct kvs =>
        obtain ⟨_, ks', hx, hk, rs⟩ := sr.atD q0
        have ew : Ev g m S.length H m S.length (upd H (m l) (.dK [])) := Ev.wr (sr.canw hl)
        have sw := sr.wr (u := .dK []) (o := .dct []) hl ⟨[], upd_same, rfl, .nil⟩
        exact ⟨m l, ks', rfl, rfl, hx, h m _ (by rw [List.length_set]; exact ew) sw _ .non⟩
      | lst ds => exact h.elim
      | ins c fs => exact h.elim
  | _ => exact h.elim
/-- dict(d): a copy -/
def rDictOf : List V → Hp → VK → Prop := fun xs H Q => ∃ (a : Addr) (kvs : List (Key × V)), xs = [.ref a] ∧ H a = some (.dK kvs) ∧ ∀ p, H p = none → Q (.ref p) (upd H p (.dK kvs))
theorem call_dictOf : CallR X (.type "dict") rDictOf := by
  intro pins s σ H xs us Q I rx q
  obtain ⟨a, kvs, rfl, e, q⟩ := q
  cases rx with
  | cons r rr =>
    cases rr
    cases r
    exact d_copyOf I (Rd.of e) fun p s' hp I' => ⟨.ref p, _, I', rfl, q p hp⟩
def dictOfD : List D → Mo D
  | [.loc l] => fun S => match S[l]? with
    | some (.dct kvs) => .ok (.loc S.length) (S ++ [.dct kvs])
    | _ => .no
  | _ => bad
theorem dictOf_sc : SC g rDictOf dictOfD := fun m S H xs ds Q W sr rs h => by
  rcases ds with _ | ⟨d, _ | ⟨d2, r⟩⟩
  · exact h.elim
  · cases d with
    | loc l =>
      cases rs with
      | cons x _ xs _ rx rr =>
        cases rr
        cases rx with
        | loc l hl =>
          have h : PRx g m S H W (KD g Q) (match S[l]? with | some (.dct kvs) => .ok (.loc S.length) (S ++ [.dct kvs]) | _ => .no) := h
          cases q0 : S[l]? with
          | none => rw [q0] at h; exact h.elim
          | some ob =>
            rw [q0] at h
            cases ob with
            | dct kvs =>
              obtain ⟨_, ks', hx, hk, rs⟩ := sr.atD q0
              exact ⟨m l, ks', rfl, hx, dct_new sr hk rs h⟩
            | lst ds => exact h.elim
            | ins c fs => exact h.elim
    | _ => exact h.elim
  · cases d <;> exact h.elim
end
end Sm
end
section
/-! Sm, part L: how denotations are reckoned, on. -/
namespace Sm
open PySem PySem.Spec PyProof.Rows L2
section
variable {S X : Sto} {o : Ob} {ρ ρ' : En} {d e v : D} {i : Int} {s : DS}
@[simp] theorem lstO_lst {xs : List D} : lstO (some (.lst xs)) = some xs := rfl
@[simp] theorem lstO_ins {c : Nat} {fs : List (Str × D)} : lstO (some (.ins c fs)) = none := rfl
@[simp] theorem lstO_dct {fs : List (Key × D)} : lstO (some (.dct fs)) = none := rfl
@[simp] theorem lstS_loc {l : Nat} : lstS S (.loc l) = lstO S[l]? := rfl
@[simp] theorem lstS_lsc {xs : List D} : lstS S (.lsc xs) = some xs := rfl
@[simp] theorem lstS_tup {xs : List D} : lstS S (.tup xs) = none := rfl
@[simp] theorem seqS_loc {l : Nat} : seqS S (.loc l) = lstO S[l]? := rfl
@[simp] theorem seqS_tup {xs : List D} : seqS S (.tup xs) = some xs := rfl
@[simp] theorem seqM_tup {xs : List D} : seqM S (.tup xs) = some xs := rfl
@[simp] theorem seqM_loc {l : Nat} : seqM S (.loc l) = lstO S[l]? := rfl
@[simp] theorem keysS_loc {l : Nat} : keysS S (.loc l) = keysO S[l]? := rfl
@[simp] theorem keysO_dct {kvs : List (Key × D)} : keysO (some (.dct kvs)) = some (kvs.map (·.1)) := rfl
theorem tupleD_e {xs : List D} (h : seqS S d = some xs) : tupleD d S = .ok (.tup xs) S := by unfold tupleD; rw [h]
@[simp] theorem tupleD_loc {l : Nat} {xs : List D} (h : S[l]? = some (.lst xs)) : tupleD (.loc l) S = .ok (.tup xs) S := tupleD_e (by rw [seqS_loc, h]; rfl)
@[simp] theorem tupleD_tup {xs : List D} : tupleD (.tup xs) S = .ok (.tup xs) S := rfl
theorem listD_e {xs : List D} (h : seqS S d = some xs) : listD d S = .ok (.loc S.length) (S ++ [.lst xs]) := by unfold listD; rw [h]; rfl
@[simp] theorem listD_tup {xs : List D} : listD (.tup xs) S = .ok (.loc S.length) (S ++ [.lst xs]) := rfl
@[simp] theorem listD_loc {l : Nat} {xs : List D} (h : S[l]? = some (.lst xs)) : listD (.loc l) S = .ok (.loc S.length) (S ++ [.lst xs]) := listD_e (by rw [seqS_loc, h]; rfl)
theorem sortD_e {ns : List Int} (h : sortQ d S = some ns) : sortD d S = .ok (.loc S.length) (S ++ [.lst ((isort ns).map .int)]) := by unfold sortD; rw [h]; rfl
theorem sortD_loc {l : Nat} {ns : List Int} (h : S[l]? = some (.lst (ns.map .int))) : sortD (.loc l) S = .ok (.loc S.length) (S ++ [.lst ((isort ns).map .int)]) := sortD_e (by unfold sortQ; rw [lstS_loc, h]; exact intsOf_map ns)
theorem sortD_dct {l : Nat} {kvs : List (Key × D)} {ns : List Int} (h : S[l]? = some (.dct kvs)) (hk : kvs.map (·.1) = ns.map Sum.inl) : sortD (.loc l) S = .ok (.loc S.length) (S ++ [.lst ((isort ns).map .int)]) := sortD_e (by unfold sortQ; rw [lstS_loc, keysS_loc, h]; simp [hk])
@[simp] theorem lstM_loc {l : Nat} : lstM (.loc l) S = (lstO S[l]?).map fun xs => (l, xs) := rfl
theorem extD_e {l : Nat} {xs ys : List D} (h : S[l]? = some (.lst xs)) (h2 : seqM S e = some ys) (h3 : xs.length + ys.length ≤ 16777216) : extD (.loc l) e S = .ok .non (S.set l (.lst (xs ++ ys))) := by
  unfold extD
  rw [lstM_loc, h, h2]
  simp only [lstO_lst, Option.map_some]
  rw [if_pos (fit_of h3)]
theorem popD_e {l : Nat} {xs : List D} {y : D} (h : S[l]? = some (.lst (xs ++ [y]))) : popD (.loc l) S = .ok y (S.set l (.lst xs)) := by
  unfold popD
  rw [lstM_loc, h]
  simp
theorem appD_e {l : Nat} {xs : List D} (h : S[l]? = some (.lst xs)) (h3 : xs.length + 1 ≤ 16777216) : appD (.loc l) e S = .ok .non (S.set l (.lst (xs ++ [e]))) := by
  rw [appD_loc, h]
  simp only [appO_lst]
  rw [if_pos (fit_of h3)]
  rfl
@[simp] theorem tyD_lst {l : Nat} {xs : List D} (h : S[l]? = some (.lst xs)) : tyD "list" (.loc l) S = true := by
  unfold tyD
  simp only [h]
  decide
@[simp] theorem cRng_e {h : List D → Mo Wk} {fs : En → Mo (List D)} : cRng h fs ρ S = (fs ρ S).andThen fun xs S1 => h xs S1 := rfl
@[simp] theorem rng1_e (h0 : -4611686018427387904 ≤ i) (h : i < 4611686018427387904) : rng1 [.int i] S = .ok (.items (rgD 0 i.toNat)) S := by
  show (if okR i = true then Rz.ok (Wk.items (rgD 0 i.toNat)) S else .no) = _
  rw [if_pos (okR_iff.mpr ⟨by simpa using h0, by simpa using h⟩)]
theorem rgD_get {lo : Int} {n k : Nat} (h : (rgD lo n)[k]? = some d) : k < n ∧ d = .int (lo + (k : Nat)) := by
  unfold rgD at h
  rw [List.getElem?_map] at h
  obtain ⟨j, h1, h2⟩ := Option.map_eq_some_iff.mp h
  have := List.getElem?_eq_some_iff.mp h1
  obtain ⟨h3, h4⟩ := this
  simp at h3 h4
  subst h4
  exact ⟨h3, h2.symm⟩
@[simp] theorem rgD_len {lo : Int} {n : Nat} : (rgD lo n).length = n := by unfold rgD; simp
@[simp] theorem cMeth_e {c np : Nat} {nm : Str} {F : List D → Mo D} {fo : DE} {fs : En → Mo (List D)} : cMeth c nm np F fo fs ρ S = (fo ρ S).andThen fun x S1 => (chkI c nm x S1).andThen fun _ S2 => (fs ρ S2).andThen fun xs S3 => apF np F (x :: xs) S3 := rfl
@[simp] theorem chkI_ins {l c : Nat} {nm : Str} {fs : List (Str × D)} (h : S[l]? = some (.ins c fs)) (h2 : fs.lookup nm = none) : chkI c nm (.loc l) S = .ok () S := by
  unfold chkI insG
  simp [h, h2]
/-! ### comprehensions -/
theorem cLc_e {it : En → Mo Wk} {t : CT} {tst : En → Mo Bool} {elt : DE} : cLc it t tst elt ρ S = (it ρ S).andThen fun w S1 => match w with
    | .items ds => lcI t tst elt (wipeE ρ t.vs) S1.length ds (S1 ++ [.lst []])
    | .view nx k => lcV t tst elt (wipeE ρ t.vs) S1.length nx k 0 (S1 ++ [.lst []]) := by
  show (it ρ S).andThen _ = _
  congr
theorem lcTurn_t {t : CT} {tst : En → Mo Bool} {elt : DE} {n : Nat} {y : D} {S1 S2 : Sto} {acc : List D} (h1 : t.put ρ d = some ρ') (h2 : tst ρ' S = .ok true S1) (h3 : elt ρ' S1 = .ok y S2) (h4 : S2[n]? = some (.lst acc)) (h5 : acc.length < 16777216) :
    lcTurn t tst elt ρ n d S = some (S2.set n (.lst (acc ++ [y]))) := by
  unfold lcTurn
  simp only [h1, h2, h3]
  unfold pushL
  simp only [h4]
  rw [if_pos (fit_of (by omega))]
theorem lcTurn_f {t : CT} {tst : En → Mo Bool} {elt : DE} {n : Nat} {S1 : Sto} (h1 : t.put ρ d = some ρ') (h2 : tst ρ' S = .ok false S1) : lcTurn t tst elt ρ n d S = some S1 := by
  unfold lcTurn
  simp only [h1, h2]
/-- by an invariant, over things that stand fast -/
theorem lcV_inv {t : CT} {tst : En → Mo Bool} {elt : DE} {n : Nat} {nx : Nx} {ds : List D} (P : Nat → Sto → Prop) (hl : ∀ i S, P i S → nx i S = some ds[i]?) (h : ∀ i d S, ds[i]? = some d → P i S → ∃ S', lcTurn t tst elt ρ n d S = some S' ∧ P (i + 1) S') (h0 : P 0 S) :
    ∃ S', lcV t tst elt ρ n nx ds.length 0 S = .ok (.loc n) S' ∧ P ds.length S' := by
  suffices ∀ (m k : Nat) (S : Sto), k + m = ds.length → P k S → ∃ S', lcV t tst elt ρ n nx m k S = .ok (.loc n) S' ∧ P ds.length S' from this ds.length 0 S (by omega) h0
  intro m
  induction m with
  | zero =>
    intro k S e p
    have e2 : k = ds.length := by omega
    subst e2
    refine ⟨S, ?_, p⟩
    unfold lcV
    rw [hl _ _ p]
    simp
  | succ m ih =>
    intro k S e p
    have hlt : k < ds.length := by omega
    have hd : ds[k]? = some ds[k] := List.getElem?_eq_getElem hlt
    obtain ⟨S1, e1, p1⟩ := h k _ S hd p
    obtain ⟨S2, e2, p2⟩ := ih (k + 1) S1 (by omega) p1
    refine ⟨S2, ?_, p2⟩
    unfold lcV
    rw [hl _ _ p, hd]
    simp only [e1]
    exact e2
theorem lcI_inv {t : CT} {tst : En → Mo Bool} {elt : DE} {n : Nat} {ds : List D} (P : Nat → Sto → Prop) (h : ∀ i d S, ds[i]? = some d → P i S → ∃ S', lcTurn t tst elt ρ n d S = some S' ∧ P (i + 1) S') (h0 : P 0 S) :
    ∃ S', lcI t tst elt ρ n ds S = .ok (.loc n) S' ∧ P ds.length S' := by
  suffices ∀ (r : List D) (k : Nat) (S : Sto), ds.drop k = r → k ≤ ds.length → P k S → ∃ S', lcI t tst elt ρ n r S = .ok (.loc n) S' ∧ P ds.length S' from this ds 0 S rfl (Nat.zero_le _) h0
  intro r
  induction r with
  | nil =>
    intro k S e hk p
    have : ds.length ≤ k := by simpa using e
    have e2 : k = ds.length := by omega
    subst e2
    exact ⟨S, rfl, p⟩
  | cons d r ih =>
    intro k S e hk p
    have hd : ds[k]? = some d := by
      have := congrArg (fun l => l[0]?) e
      simpa using this
    have hr : ds.drop (k + 1) = r := by
      have := congrArg List.tail e
      simpa using this
    have hlt : k < ds.length := by
      rw [List.getElem?_eq_some_iff] at hd
      exact hd.1
    obtain ⟨S1, e1, p1⟩ := h k _ S hd p
    obtain ⟨S2, e2, p2⟩ := ih (k + 1) S1 hr hlt p1
    refine ⟨S2, ?_, p2⟩
    unfold lcI
    simp only [e1]
    exact e2
/-- where nothing else changes: the list of what f gives -/
theorem lcV_map {t : CT} {tst : En → Mo Bool} {elt : DE} {nx : Nx} {ds : List D} (f : D → Option D) (hn : ds.length ≤ 16777216) (hl : ∀ i acc, nx i (S ++ [.lst acc]) = some ds[i]?)
    (h : ∀ d acc, d ∈ ds → ∃ ρ', t.put ρ d = some ρ' ∧ ((∃ y, tst ρ' (S ++ [.lst acc]) = .ok true (S ++ [.lst acc]) ∧ elt ρ' (S ++ [.lst acc]) = .ok y (S ++ [.lst acc]) ∧ f d = some y) ∨ (tst ρ' (S ++ [.lst acc]) = .ok false (S ++ [.lst acc]) ∧ f d = none))) :
    lcV t tst elt ρ S.length nx ds.length 0 (S ++ [.lst []]) = .ok (.loc S.length) (S ++ [.lst (ds.filterMap f)]) := by
  obtain ⟨S', e, p⟩ := lcV_inv (t := t) (tst := tst) (elt := elt) (ρ := ρ) (n := S.length) (nx := nx) (ds := ds) (S := S ++ [.lst []]) (fun i S' => S' = S ++ [.lst ((ds.take i).filterMap f)]) (fun i S' h => by rw [h]; exact hl i _)
    (fun i d S' hd hS => by
      subst hS
      obtain ⟨ρ', h1, h2⟩ := h d ((ds.take i).filterMap f) (List.mem_of_getElem? hd)
      have hlt := (List.getElem?_eq_some_iff.mp hd).1
      have e : ds.take (i + 1) = ds.take i ++ [d] := by rw [List.take_add_one, hd]; rfl
      rcases h2 with ⟨y, h3, h4, h5⟩ | ⟨h3, h5⟩
      · refine ⟨_, lcTurn_t (acc := (ds.take i).filterMap f) h1 h3 h4 (by simp) (Nat.lt_of_le_of_lt (List.length_filterMap_le _ _) (by rw [List.length_take]; omega)), ?_⟩
        rw [e, List.filterMap_append]
        simp [h5]
      · refine ⟨_, lcTurn_f h1 h3, ?_⟩
        rw [e, List.filterMap_append]
        simp [h5]) (by simp)
  rw [e, p]
  simp
theorem lcI_map {t : CT} {tst : En → Mo Bool} {elt : DE} {ds : List D} (f : D → Option D) (hn : ds.length ≤ 16777216)
    (h : ∀ d acc, d ∈ ds → ∃ ρ', t.put ρ d = some ρ' ∧ ((∃ y, tst ρ' (S ++ [.lst acc]) = .ok true (S ++ [.lst acc]) ∧ elt ρ' (S ++ [.lst acc]) = .ok y (S ++ [.lst acc]) ∧ f d = some y) ∨ (tst ρ' (S ++ [.lst acc]) = .ok false (S ++ [.lst acc]) ∧ f d = none))) :
    lcI t tst elt ρ S.length ds (S ++ [.lst []]) = .ok (.loc S.length) (S ++ [.lst (ds.filterMap f)]) := by
  obtain ⟨S', e, p⟩ := lcI_inv (t := t) (tst := tst) (elt := elt) (ρ := ρ) (n := S.length) (ds := ds) (S := S ++ [.lst []]) (fun i S' => S' = S ++ [.lst ((ds.take i).filterMap f)])
    (fun i d S' hd hS => by
      subst hS
      obtain ⟨ρ', h1, h2⟩ := h d ((ds.take i).filterMap f) (List.mem_of_getElem? hd)
      have hlt := (List.getElem?_eq_some_iff.mp hd).1
      have e : ds.take (i + 1) = ds.take i ++ [d] := by rw [List.take_add_one, hd]; rfl
      rcases h2 with ⟨y, h3, h4, h5⟩ | ⟨h3, h5⟩
      · refine ⟨_, lcTurn_t (acc := (ds.take i).filterMap f) h1 h3 h4 (by simp) (Nat.lt_of_le_of_lt (List.length_filterMap_le _ _) (by rw [List.length_take]; omega)), ?_⟩
        rw [e, List.filterMap_append]
        simp [h5]
      · refine ⟨_, lcTurn_f h1 h3, ?_⟩
        rw [e, List.filterMap_append]
        simp [h5]) (by simp)
  rw [e, p]
  simp
@[simp] theorem cTrue_e : cTrue ρ S = .ok true S := rfl
@[simp] theorem put_one {k : Nat} : CT.put ρ (.one k) d = some (ρ.set k (some d)) := rfl
@[simp] theorem vs_one {k : Nat} : CT.vs (.one k) = [k] := rfl
@[simp] theorem vs_many {k : List Nat} : CT.vs (.many k) = k := rfl
theorem put_many {is : List Nat} {ds : List D} (h : ds.length = is.length) : CT.put ρ (.many is) (.tup ds) = some (setAll ρ is ds) := by
  show (if ds.length = is.length then some (setAll ρ is ds) else none) = _
  rw [if_pos h]
@[simp] theorem setAll_nil : setAll ρ [] [] = ρ := rfl
@[simp] theorem setAll_cons {k : Nat} {is : List Nat} {ds : List D} : setAll ρ (k :: is) (d :: ds) = setAll (ρ.set k (some d)) is ds := rfl
@[simp] theorem wipeE_nil : wipeE ρ [] = ρ := rfl
@[simp] theorem wipeE_cons {k : Nat} {is : List Nat} : wipeE ρ (k :: is) = (wipeE ρ is).set k none := rfl
/-! ### while -/
theorem cWhile_step {c : En → Mo Bool} {n : Nat} : cWhile c s (n + 1) ρ S = (c ρ S).toF ρ fun k S1 => if k = true then (s ρ S1).tn (cWhile c s n) else .nx ρ S1 := by
  conv => lhs; unfold cWhile
  congr
  funext k S1
  cases k with
  | false => rfl
  | true => cases s ρ S1 <;> rfl
/-- a while by a measure: P's turns come to an end -/
theorem cWhile_inv {c : En → Mo Bool} (P : Nat → En → Sto → Prop) (Q : En → Sto → Prop) (h : ∀ k ρ S, P k ρ S → (∃ S1, c ρ S = .ok false S1 ∧ Q ρ S1) ∨ (∃ S1 ρ' S' j, c ρ S = .ok true S1 ∧ (s ρ S1 = .nx ρ' S' ∨ s ρ S1 = .cnt ρ' S') ∧ j < k ∧ P j ρ' S')) :
    ∀ k n ρ S, k < n → P k ρ S → ∃ ρ' S', cWhile c s n ρ S = .nx ρ' S' ∧ Q ρ' S' := by
  intro k
  induction k using Nat.strongRecOn with
  | ind k ih =>
    intro n ρ S hn p
    obtain ⟨n, rfl⟩ : ∃ m, n = m + 1 := ⟨n - 1, by omega⟩
    rw [cWhile_step]
    rcases h k ρ S p with ⟨S1, e, q⟩ | ⟨S1, ρ1, S', j, e, e2, hj, p2⟩
    · exact ⟨ρ, S1, by rw [e]; rfl, q⟩
    · obtain ⟨ρ2, S2, e3, q⟩ := ih j hj n ρ1 S' (by omega) p2
      refine ⟨ρ2, S2, ?_, q⟩
      rw [e]
      simp only [toF_ok, if_true]
      rcases e2 with e2 | e2 <;> (rw [e2]; exact e3)
end
end Sm
namespace Sm
open PySem PySem.Spec PyProof.Rows L2
section
variable {S X : Sto} {d e v : D} {i : Int}
theorem mapO_id {f : D → Option D} : ∀ {xs : List D}, (∀ x ∈ xs, f x = some x) → mapO f xs = some xs
  | [], _ => rfl
  | x :: xs, h => by
    rw [mapO_cons, h x List.mem_cons_self, mapO_id fun y hy => h y (List.mem_cons_of_mem _ hy)]
    rfl
theorem str_app_len {x y : Str} : (x ++ y).length = x.length + y.length := by
  show (x.cps ++ y.cps).size = x.cps.size + y.cps.size
  simp
theorem getD_str {z : Str} (hz : z.length ≤ 16777216) (h0 : 0 ≤ i) (h : i < z.length) : ∃ c, getD (.str z) (.int i) S = .ok (.str ⟨#[c]⟩) S := by
  have hl : z.cps.toList.length = z.length := by
    show z.cps.toList.length = z.cps.size
    simp
  have hi : i.toNat < z.cps.toList.length := by omega
  refine ⟨z.cps.toList[i.toNat], ?_⟩
  show optD (if fit z.length = true then (L2.atI z.cps.toList i).map (fun c => D.str ⟨#[c]⟩) else none) S = _
  rw [if_pos (fit_of hz), atI_nn h0, List.getElem?_eq_getElem hi]
  rfl
theorem lenD_str {z : Str} (hz : z.length ≤ 16777216) : lenD (.str z) S = .ok (.int z.length) S := by
  show optD (if fit z.length = true then some (D.int z.length) else none) S = _
  rw [if_pos (fit_of hz)]
  rfl
end
end Sm
namespace Sm
open PySem PySem.Spec PyProof.Rows L2
@[simp] theorem lookup_str {a b : Str} {v : D} {r : List (Str × D)} : List.lookup a ((b, v) :: r) = if a = b then some v else List.lookup a r := by
  rw [List.lookup_cons]
  by_cases h : a = b
  · subst h; simp
  · have : (a == b) = false := by simpa using h
    rw [this, if_neg h]
end Sm
end
section
/-! Sm, part M: sorted(set(xs)) of ints, any number below the model's scan line. -/
namespace Sm
open PySem PySem.Spec PyProof.Rows L2
section
variable {P : Program} {w : World} {A : Around} {E : Value → Shared → Prop} {s : Shared}
abbrev newSetO (w : World) : Obj := { cls := .type "set", dict := none, data := .set #[] 0 (.fresh 0 0 (!w.params.followText "set-order")) }
set_option maxHeartbeats 3200000 in
/-- set(xs) of a list of ints (the library has the tuple's case) -/
theorem set_of_list {l : Addr} {items : Array Value} (ns : List Int) {Q : Value → Shared → Prop} (hh : A.handled = none) (hl : s.heap.IsList l items) (hit : IntsAre items.toList ns) (hb : ns.length + 1 < scanBound)
    (h : ∀ (h' : Heap) (tk c : Nat), SetR w h' s.heap.objs.size (fun j => decide (j ∈ ns)) c → c ≤ ns.length → (∀ b o, s.heap.get? b = some o → h'.get? b = some o) → Q (.ref s.heap.objs.size) { s with heap := h', toks := tk }) :
    wpAny (model P w) A (call (.type "set") [.ref l]) Q E s := by
  have isz : items.size = ns.length := by have q := hit.length; rwa [Array.length_toList] at q
  obtain ⟨cc, tl, mro0⟩ := F.called_set.mro
  have made0 := F.called_set.made
  have sub0 := F.called_set.sub
  have no1 := F.called_set.notType
  have can2 := F.called_set.canCreate
  have tc1 := F.typeCall_set_1 (.ref l)
  refine wpAny_call (codeAny_of_tree ?_)
  show wpAny _ _ (callAny (.type "set") _) _ _ _
  refine wpAny_pure ⟨Code.quiet_builtin _ (by decide +kernel), codeAny_builtin F.entry_type_call ?_⟩
  rw [Around.under_plain (weight_type_call_type "set" [.ref l] []) rfl]
  repeat (any_goals (first | assumption | wp_step))
  refine codeAny_mono (code_set_led1 (.ref l) (E := E) (Q₁ := fun obj s1 => obj = .ref s.heap.objs.size ∧ s1 = { s with heap := s.heap.push (newSetO w) }) ⟨rfl, rfl⟩) fun r s1 hr => ?_
  cases r with
  | error e => exact hr
  | ok fl =>
    cases fl with
    | ret obj =>
      obtain ⟨rfl, rfl⟩ := hr
      have hS : (s.heap.push (newSetO w)).get? s.heap.objs.size = some (newSetO w) := Heap.get?_push_size _ rfl
      have hT : Shared.TypeIs { s with heap := s.heap.push (newSetO w) } (.ref s.heap.objs.size) "set" := ⟨_, hS, rfl⟩
      have li0 := F.called_set.init.lookup
      have bi0 := F.called_set.init.bind (.ref s.heap.objs.size)
      repeat (any_goals (first | assumption | wp_step))
      refine codeAny_mono (codeAny_call_builtin (R := wants (fun r s2 => r = .none ∧ ∃ h' tk c, s2 = { s with heap := h', toks := tk } ∧ SetR w h' s.heap.objs.size (fun j => decide (j ∈ ns)) c ∧ c ≤ ns.length ∧
          (∀ b o, s.heap.get? b = some o → h'.get? b = some o)) E) F.called_set.init.plain F.entry_set_init (check_set_init_1 hT ?_)) fun r2 s2 hr2 => ?_
      · obtain ⟨ol, hol, hcl, nl, hdl⟩ := hl
        obtain ⟨oc, od, oda, osl⟩ := ol
        simp only at hcl hdl
        subst hcl; subst hdl
        have hol' : (s.heap.push (newSetO w)).get? l = some { cls := .type "list", dict := od, data := .seq items nl, slots := osl } := Heap.get?_push_of_some _ hol
        have sl1 := F.sub_list_set
        have sl2 := F.sub_list_frozenset
        have ne1 : (Value.type "list" == Value.type "dict") = false := by decide
        have hl1 : (s.heap.push (newSetO w)).IsList l items := ⟨_, hol', rfl, nl, rfl⟩
        unfold Builtin.«set.__init__» noKeywords Builtin.Frozenset.updateFrom
        generalize hPI : pyIter = PI
        wp_walk
        subst hPI
        refine wpAny_pyIter_list hl1 ?_
        refine wpAny_bind (wpAny_runValue ?_)
        have hlS : l < s.heap.objs.size := Heap.lt_size hol
        have hh3 : A.in1.in1.in1.handled = none := by simp [hh]
        have z1 : (s.heap.push (newSetO w)).objs.size = s.heap.objs.size + 1 := Heap.size_push ..
        have neI : l ≠ (s.heap.push (newSetO w)).objs.size := by rw [z1]; exact Nat.ne_of_lt (Nat.lt_succ_of_lt hlS)
        have hSf : s.heap.objs.size ∉ [(s.heap.push (newSetO w)).objs.size, l] := by
          rw [z1]; simp only [List.mem_cons, List.not_mem_nil, or_false, not_or]
          exact ⟨Nat.ne_of_lt (Nat.lt_succ_self _), Nat.ne_of_gt hlS⟩
        have hval : ∀ (i : Nat) (v : Value), items[i]? = some v → ∃ k t, ns[i]? = some k ∧ v = .int k t := fun i v hv => by
          have hi : i < ns.length := by rw [← isz]; exact (Array.getElem?_eq_some_iff.mp hv).1
          obtain ⟨t, e⟩ := IntsAre.int_at hit i v (by rw [Array.getElem?_toList]; exact hv)
          refine ⟨ns[i], t, List.getElem?_eq_getElem hi, ?_⟩
          rw [e, List.getD_eq_getElem?_getD, List.getElem?_eq_getElem hi] <;> rfl
        refine set_update_ints ((Walks.list hh3 _ l neI items).toS) s.heap.objs.size hSf ns isz hb hval (items.size - 0) 0 _ (by omega) (Nat.zero_le _)
          ⟨⟨_, Heap.get?_push_size _ rfl, rfl, rfl⟩, (hl1.push _)⟩ ⟨0, Nat.le_refl 0, setR_new_at (Heap.get?_push_of_some _ hS)⟩ fun s' c' hm hc' hS' => ?_
        obtain ⟨h', g2, d', tk', os'⟩ := s'
        obtain rfl : g2 = s.gens := hm.gens
        obtain rfl : d' = s.drawn := hm.drawn
        obtain rfl : os' = s.os := hm.os
        show wpAny _ _ _ _ _ _
        refine wpAny_pure ?_
        show wpAny _ _ (ret Value.none) _ _ _
        rw [isz] at hc'
        refine wpAny_pure ⟨rfl, h', tk', c', rfl, hS', hc', fun b o e => ?_⟩
        have b0 : b < s.heap.objs.size := Heap.lt_size e
        refine hm.heap b o ?_ (Heap.get?_push_of_some _ (Heap.get?_push_of_some _ e))
        rw [z1]; simp only [List.mem_cons, List.not_mem_nil, or_false, not_or]
        exact ⟨Nat.ne_of_lt b0, Nat.ne_of_lt (Nat.lt_succ_of_lt b0)⟩
      · cases r2 with
        | error e => exact hr2
        | ok fl2 =>
          cases fl2 with
          | ret r =>
            obtain ⟨rfl, h', tk, c', rfl, hS', hc', hk'⟩ := hr2
            repeat (any_goals (first | assumption | wp_step))
            exact h _ _ _ hS' hc' hk'
          | _ => exact hr2.elim
    | _ => exact hr.elim
end
section
variable {X : Cx} {g : Gx} {W : WX} {e o a b : Expr} {es : List Expr} {fs : En → Mo (List D)} {pos : Pos}
def rSetI (K : PySem.W.Frag) (w : World) : List V → Hp → VK → Prop := fun xs H Q => ∃ (p : Addr) (ns : List Int), xs = [.ref p] ∧ (SqL K H p (ns.map V.int) ∨ SqT K H p (ns.map V.int)) ∧ ns.length + 1 < scanBound ∧
  ∀ (q : Addr) (c : Nat), c ≤ ns.length → H q = none → Q (.ref q) (upd H q (SetO w q (fun j => decide (j ∈ ns)) c))
theorem cr_setI (hc : X.calm = true) : CallR X (.type "set") (rSetI X.K X.w) := by
  intro pins s σ H xs us Q I r h
  obtain ⟨p, ns, rfl, hq, hb, q⟩ := h
  rw [Vals.ref1 r]
  have hd := I.ok.hd hc
  have fin : ∀ (h' : Heap) (tk c : Nat), SetR X.w h' s.heap.objs.size (fun j => decide (j ∈ ns)) c → c ≤ ns.length → (∀ b o, s.heap.get? b = some o → h'.get? b = some o) →
      ∃ v H', Inv X pins σ H' { s with heap := h', toks := tk } ∧ RelV v (.ref s.heap.objs.size) ∧ Q v H' := fun h' tk c R hcn k =>
    ⟨.ref _, _, I.laid (t' := tk) k (Nat.le_refl _) (setO_new R), rfl, q _ c hcn (I.hok.fresh (Nat.le_refl _))⟩
  rcases hq with hq | hq
  · obtain ⟨its, rv, pt, hz⟩ := I.list hq
    exact set_of_list ns hd pt.isList (ints_of_vals rv) hb fin
  · obtain ⟨its, rv, pt, hz⟩ := I.tuple hq
    exact call_set_tupI ns hd (show s.heap.IsTuple p its.toArray from pt) (ints_of_vals rv) hb fin
def rSortSetW (w : World) : List V → Hp → VK → Prop := fun vs H Q => ∃ (a : Addr) (S : Int → Bool) (n : Nat), vs = [V.ref a] ∧ H a = some (SetO w a S n) ∧
  ∀ (ns : List Int) (p : Addr), ns.Pairwise (· < ·) → (∀ k : Int, k ∈ ns ↔ S k = true) → H p = none → Q (.ref p) (upd H p (.lst (ns.map V.int)))
theorem cr_sortSetW (hc : X.calm = true) : CallR X (.builtin "sorted") (rSortSetW X.w) := by
  intro pins s σ H vs us Q I r h
  obtain ⟨a, S, n, rfl, ha, q⟩ := h
  rw [Vals.ref1 r]
  obtain ⟨o, es, ep, t, ho, hex, hdt, g, nd, hm, hb, hf, hn, hr, hl⟩ := setO_get I ha
  refine Calls.call_function_entry kind_sorted plain_sorted entry_sorted (args_sorted1 _) ?_
  unfold Builtin.«sorted»
  refine wpAny_bind (m := checkCount "sorted" 1 1 _) (wpAny_pure ?_)
  refine wpAny_bind (collect_set (A := X.A.in1) (I.ok.hd hc) ⟨o, ho, hex.1, hdt⟩ hf hb hr hl fun s1 ws k1 hz g1 o1 pm => ?_)
  have hI : IntsAre ws (ws.map Builtin.Re.reRawOf) := ints_of ws fun v hv => by
    obtain ⟨e, he, qq⟩ := List.mem_map.mp (pm.mem_iff.mp hv)
    obtain ⟨k, tk, h1, _⟩ := g e he
    exact ⟨k, tk, by rw [← qq]; exact h1⟩
  have pk : (ws.map Builtin.Re.reRawOf).Perm (es.toList.map keyOf) := by
    have qq := pm.map Builtin.Re.reRawOf
    rw [List.map_map] at qq
    exact qq
  have wl : ws.length ≤ sizeLine := by
    rw [pm.length_eq, List.length_map, Array.length_toList]
    exact fits_of_scanBound hb
  refine wpAny_bind (wpAny_newList ?_ wl)
  have hoL : (s1.heap.push (seqObj "list" ws.toArray 0)).get? s1.heap.objs.size = some (seqObj "list" ws.toArray 0) := Heap.get?_push_size _ rfl
  refine wpAny_bind (wpAny_holding (wpAny_call_entry slot_list_sort ⟨_, hoL, rfl⟩ entry_list_sort
    (SrtO.list_sort_ord (s := { s1 with heap := s1.heap.push (seqObj "list" ws.toArray 0) }) SrtO.swo_int hoL wl (fun h2 => SrtO.ints_sortable hI h2) fun out h1 h2 => ⟨_, rfl, ?_⟩)
    (args_list_sort _)))
  obtain ⟨j1, j2, j3⟩ := SrtO.ints_out hI h1 h2
  obtain ⟨e', he'⟩ := sortedHeap_at (vs := ws) (out := out.toArray) hoL
  have pn := j2.trans pk
  have hlen : ((out.map SrtO.iv).map V.int).length ≤ sizeLine := by
    rw [List.length_map, j2.length_eq, List.length_map]
    exact wl
  have hle : s.heap.objs.size ≤ s1.heap.objs.size := hz
  have hnp : H s1.heap.objs.size = none := I.hok.fresh hle
  have kk : ∀ b u, s.heap.get? b = some u → (sortedHeap (s1.heap.push (seqObj "list" ws.toArray 0)) s1.heap.objs.size ws out.toArray).get? b = some u := fun b u e => by
    have q1 := k1 b u e
    have hlt := Heap.lt_size q1
    rw [sortedHeap_old (Nat.ne_of_lt hlt) (by rw [size_push']; exact Nat.lt_succ_of_lt hlt)]
    exact Heap.get?_push_of_some _ q1
  have J : Inv X pins σ (upd H s1.heap.objs.size (.lst ((out.map SrtO.iv).map V.int))) { s with heap := sortedHeap (s1.heap.push (seqObj "list" ws.toArray 0)) s1.heap.objs.size ws out.toArray, gens := s1.gens, drawn := s1.drawn, toks := s1.toks } :=
    I.call (ch := []) (Un.laid kk hle hnp) (I.hok.laid kk hle ⟨hlen, out, e', vals_of_ints j1, he'⟩) (by rw [show s1.gens = s.gens from g1]; exact I.bare) (fun _ z => nomatch z)
  refine wpAny_pure ⟨_, rfl, .ref s1.heap.objs.size, _, ?_, rfl, q _ _ (lt_of_le_nodup _ j3 (pn.nodup_iff.mpr nd)) (fun k => by rw [pn.mem_iff, ← hm k]) hnp⟩
  have e1 : ({ s1 with heap := sortedHeap (s1.heap.push (seqObj "list" ws.toArray 0)) s1.heap.objs.size ws out.toArray } : Shared) = { s with heap := sortedHeap (s1.heap.push (seqObj "list" ws.toArray 0)) s1.heap.objs.size ws out.toArray, gens := s1.gens, drawn := s1.drawn, toks := s1.toks } := by
    cases s1
    cases s
    cases o1
    rfl
  rw [e1]
  exact J
/-- the ints of xs, rising, each once -/
def usort (ns : List Int) : List Int := isort (ns.foldl (fun ks n => if n ∈ ks then ks else ks ++ [n]) [])
theorem fold_mem (ns : List Int) : ∀ (ks : List Int) (k : Int), k ∈ ns.foldl (fun ks n => if n ∈ ks then ks else ks ++ [n]) ks ↔ k ∈ ks ∨ k ∈ ns := by
  induction ns with
  | nil => intro ks k; simp
  | cons n r ih =>
    intro ks k
    rw [List.foldl_cons, ih]
    by_cases h : n ∈ ks
    · rw [if_pos h, List.mem_cons]
      constructor
      · rintro (h1 | h1)
        · exact .inl h1
        · exact .inr (.inr h1)
      · rintro (h1 | rfl | h1)
        · exact .inl h1
        · exact .inl h
        · exact .inr h1
    · rw [if_neg h]; simp [or_assoc]
theorem fold_nd (ns : List Int) : ∀ (ks : List Int), ks.Nodup → (ns.foldl (fun ks n => if n ∈ ks then ks else ks ++ [n]) ks).Nodup := by
  induction ns with
  | nil => intro ks h; exact h
  | cons n r ih =>
    intro ks h
    rw [List.foldl_cons]
    apply ih
    by_cases hn : n ∈ ks
    · rw [if_pos hn]; exact h
    · rw [if_neg hn, List.nodup_append]
      refine ⟨h, List.nodup_cons.mpr ⟨by simp, List.nodup_nil⟩, fun a ha b hb => ?_⟩
      rw [List.mem_singleton.mp hb]
      exact fun z => hn (z ▸ ha)
theorem usort_mem {ns : List Int} {k : Int} : k ∈ usort ns ↔ k ∈ ns := by
  unfold usort
  rw [(isort_perm _).mem_iff, fold_mem]
  simp
theorem usort_sorted (ns : List Int) : (usort ns).Pairwise (· < ·) :=
  lt_of_le_nodup _ (isort_sorted _) ((isort_perm _).nodup_iff.mpr (fold_nd ns [] List.nodup_nil))
theorem lt_uniq {xs ys : List Int} (h1 : xs.Pairwise (· < ·)) (h2 : ys.Pairwise (· < ·)) (h : ∀ k, k ∈ xs ↔ k ∈ ys) : xs = ys := by
  have nd : ∀ {l : List Int}, l.Pairwise (· < ·) → l.Nodup := fun h => h.imp fun q => Int.ne_of_lt q
  have le : ∀ {l : List Int}, l.Pairwise (· < ·) → l.Pairwise (· ≤ ·) := fun h => h.imp fun q => Int.le_of_lt q
  exact sorted_uniq ((List.perm_ext_iff_of_nodup (nd h1) (nd h2)).mpr h) (le h1) (le h2)
theorem usort_uniq {ns ys : List Int} (h : ys.Pairwise (· < ·)) (m : ∀ k, k ∈ ys ↔ k ∈ ns) : ys = usort ns := lt_uniq h (usort_sorted ns) fun k => (m k).trans usort_mem.symm
theorem usort_congr {ns ms : List Int} (h : ∀ k, k ∈ ns ↔ k ∈ ms) : usort ns = usort ms := lt_uniq (usort_sorted _) (usort_sorted _) fun k => usort_mem.trans ((h k).trans usort_mem.symm)
@[irreducible] def scan (n : Nat) : Bool := decide (n + 1 < scanBound)
theorem scan_iff {n : Nat} : scan n = true ↔ n + 1 < scanBound := by unfold scan; exact decide_eq_true_iff
theorem scan_of {n : Nat} (h : n ≤ 4000) : scan n = true := scan_iff.mpr (by unfold scanBound; omega)
/-- sorted(set(d)) -/
def sortSetD (d : D) : Mo D := fun S => match seqS S d with
  | some xs => match intsOf xs with
    | some ns => if scan ns.length = true then mkL ((usort ns).map .int) S else .no
    | none => .no
  | none => .no
theorem sortSet_sub {w : World} : ∀ σ H Q, tD g W (cCall (ar1 sortSetD) fs) σ H Q → tCB (rSortSetW w) (tCons (tCB (rSetI g.K w) (tDs g W fs)) tNil) σ H Q := fun σ H Q ⟨m, S, ρ, sr, er, k⟩ => by
  refine tDs.sub sr er k fun ds m1 S1 H1 vs s1 er1 _ r1 h1 => ?_
  cases r1 with
  | nil => exact h1.elim
  | cons x d xs es rx rs =>
    cases rs with
    | cons _ _ _ _ _ _ => exact h1.elim
    | nil =>
      have h2 : PRx g m1 S1 H1 _ _ (sortSetD d S1) := h1
      unfold sortSetD at h2
      cases q : seqS S1 d with
      | none => simp only [q] at h2; exact h2.elim
      | some ys =>
        simp only [q] at h2
        cases q2 : intsOf ys with
        | none => simp only [q2] at h2; exact h2.elim
        | some ns =>
          simp only [q2] at h2
          by_cases hz : scan ns.length = true
          · rw [if_pos hz] at h2
            obtain ⟨a, us, rfl, hq, rr⟩ := seqS_ok s1 rx q
            rw [intsOf_eq q2] at rr
            rw [rr.ints] at hq
            refine ⟨a, ns, rfl, hq, scan_iff.mp hz, fun p c _ hp => ?_⟩
            have e1 := Ev.new (g := g) (m := m1) (n := S1.length) (o := SetO w p (fun j => decide (j ∈ ns)) c) hp
            refine ⟨p, _, _, rfl, upd_same, fun ys p' hs hm hn => ?_⟩
            have : ys = usort ns := usort_uniq hs fun k => by rw [hm k]; simp
            rw [this]
            exact lst_new (s1.aside hp) (VRs.of_ints _) (h2.ev e1) p' hn
          · rw [if_neg hz] at h2; exact h2.elim
theorem de_sortSet {p p2 : Pos} {pos2 : Pos} (hK : X.K = g.K) (hc : X.calm = true) (hm1 : X.mg "sorted" = none) (hm2 : X.mg "set" = none) (ha : PA X [e] (tDs g W fs)) (hg1 : Gl X "sorted" := by rfl) (hg2 : Gl X "set" := by rfl)
    (he : starEach [e] X.env = (false, eval e X.env) :: starEach [] X.env := by rfl) (he2 : starEach [Expr.Call (.Name "set" p2) [e] [] pos2] X.env = (false, eval (Expr.Call (.Name "set" p2) [e] [] pos2) X.env) :: starEach [] X.env := by rfl) :
    PE X (.Call (.Name "sorted" p) [.Call (.Name "set" p2) [e] [] pos2] [] pos) (tD g W (cCall (ar1 sortSetD) fs)) := by
  have h1 : PE X (.Call (.Name "set" p2) [e] [] pos2) (tCB (rSetI g.K X.w) (tDs g W fs)) := by
    rw [← hK]
    exact pe_callTy (cr_setI hc) hg2 hm2 PyProof.Rows.boot_set ha (he := he) (hpl := by rfl)
  refine PE.imp (pe_callB (cr_sortSetW hc) hg1 hm1 PyProof.Rows.boot_sorted (pa_cons h1 pa_nil he2) (he := he2) (hpl := by rfl)) sortSet_sub
@[simp] theorem sortSetD_e {d : D} {S : Sto} {ns : List Int} (h : seqS S d = some (ns.map .int)) (hl : ns.length ≤ 4000) : sortSetD d S = .ok (.loc S.length) (S ++ [.lst ((usort ns).map .int)]) := by
  unfold sortSetD
  rw [h]
  simp only [intsOf_map]
  rw [if_pos (scan_of hl)]
  rfl
end
end Sm
end
section
/-! Sm, part N: what is wanted of a denotation, step by step (weakest preconditions). -/
namespace Sm
open PySem PySem.Spec PyProof.Rows L2
/-- r ends so: a value, an exception -/
def Wp {α : Type} (r : Rz α) (Q : α → Sto → Prop) (E : Exn → Sto → Prop) : Prop := match r with
  | .ok a S => Q a S
  | .ex e S => E e S
  | .no => False
abbrev noE : Exn → Sto → Prop := fun _ _ => False
structure Kn where
  nx : En → Sto → Prop := fun _ _ => False
  rt : D → Sto → Prop := fun _ _ => False
  bk : En → Sto → Prop := fun _ _ => False
  ct : En → Sto → Prop := fun _ _ => False
  ex : Exn → En → Sto → Prop := fun _ _ _ => False
def Ws (r : Fz) (K : Kn) : Prop := match r with
  | .nx ρ S => K.nx ρ S
  | .brk ρ S => K.bk ρ S
  | .cnt ρ S => K.ct ρ S
  | .ret d S => K.rt d S
  | .ex e ρ S => K.ex e ρ S
  | .no => False
section
variable {α β : Type} {S S' : Sto} {r : Rz α} {Q Q' : α → Sto → Prop} {E E' : Exn → Sto → Prop} {K K' : Kn} {ρ : En} {d : D}
@[simp] theorem wp_ok {a : α} : Wp (.ok a S) Q E = Q a S := rfl
@[simp] theorem wp_ex {e : Exn} : Wp (.ex e S : Rz α) Q E = E e S := rfl
@[simp] theorem wp_no : Wp (.no : Rz α) Q E = False := rfl
@[simp] theorem wp_bind {f : α → Sto → Rz β} {Q2 : β → Sto → Prop} : Wp (r.andThen f) Q2 E = Wp r (fun a S => Wp (f a S) Q2 E) E := by
  cases r <;> rfl
theorem Wp.mono (h : Wp r Q' E') (k : ∀ a S, Q' a S → Q a S) (ke : ∀ e S, E' e S → E e S) : Wp r Q E := by
  cases r with
  | ok a S => exact k a S h
  | ex e S => exact ke e S h
  | no => exact h
/-- a call that raises nothing -/
theorem Wp.to (h : Wp r Q' noE) (k : ∀ a S, Q' a S → Q a S) : Wp r Q E := h.mono k fun _ _ z => z.elim
/-- what is wanted is hidden while the text is reckoned -/
theorem Wp.cps {Q0 : α → Sto → Prop} (h : ∀ Q : α → Sto → Prop, (∀ a S, Q0 a S → Q a S) → Wp r Q E) : Wp r Q0 E := h Q0 fun _ _ z => z
theorem Wp.of {a : α} (e : r = .ok a S) (q : Q a S) : Wp r Q E := by rw [e]; exact q
theorem Wp.get (h : Wp r Q noE) : ∃ a S, r = .ok a S ∧ Q a S := by
  cases r with
  | ok a S => exact ⟨a, S, rfl, h⟩
  | ex e S => exact h.elim
  | no => exact h.elim
@[simp] theorem ws_nx : Ws (.nx ρ S) K = K.nx ρ S := rfl
@[simp] theorem ws_brk : Ws (.brk ρ S) K = K.bk ρ S := rfl
@[simp] theorem ws_cnt : Ws (.cnt ρ S) K = K.ct ρ S := rfl
@[simp] theorem ws_ret : Ws (.ret d S) K = K.rt d S := rfl
@[simp] theorem ws_ex {e : Exn} : Ws (.ex e ρ S) K = K.ex e ρ S := rfl
@[simp] theorem ws_no : Ws .no K = False := rfl
@[simp] theorem ws_sq {f : Fz} {t : DS} : Ws (f.sq t) K = Ws f { K with nx := fun ρ S => Ws (t ρ S) K } := by cases f <;> rfl
@[simp] theorem ws_tn {f : Fz} {t : DS} : Ws (f.tn t) K = Ws f { K with nx := fun ρ S => Ws (t ρ S) K, ct := fun ρ S => Ws (t ρ S) K, bk := K.nx } := by cases f <;> rfl
@[simp] theorem ws_toF {k : α → Sto → Fz} : Ws (r.toF ρ k) K = Wp r (fun a S => Ws (k a S) K) (fun e S => K.ex e ρ S) := by cases r <;> rfl
@[simp] theorem ws_nxO {f : Fz} : Ws f.nxO K = Ws f { nx := K.nx } := by cases f <;> rfl
@[simp] theorem wp_toR {f : Fz} {Q : D → Sto → Prop} : Wp f.toR Q E = Ws f { nx := fun _ S => Q .non S, rt := Q, ex := fun e _ S => E e S } := by cases f <;> rfl
theorem Ws.mono {f : Fz} (h : Ws f K) (h1 : ∀ ρ S, K.nx ρ S → K'.nx ρ S) (h2 : ∀ d S, K.rt d S → K'.rt d S) (h3 : ∀ ρ S, K.bk ρ S → K'.bk ρ S) (h4 : ∀ ρ S, K.ct ρ S → K'.ct ρ S) (h5 : ∀ e ρ S, K.ex e ρ S → K'.ex e ρ S) : Ws f K' := by
  cases f with
  | nx ρ S => exact h1 _ _ h
  | brk ρ S => exact h3 _ _ h
  | cnt ρ S => exact h4 _ _ h
  | ret d S => exact h2 _ _ h
  | ex e ρ S => exact h5 _ _ _ h
  | no => exact h
end
section
variable {S S0 S1 S' : Sto} {K : Kn} {ρ : En} {d : D} {k : DG} {s : DS} {ds : List D} {l n : Nat} {o : Ob}
/-! ### loops -/
theorem ws_loopI (I : Nat → En → Sto → Prop) (h0 : I 0 ρ S) (hs : ∀ i d ρ S, ds[i]? = some d → I i ρ S → Ws (k d ρ S) { nx := fun ρ1 S1 => Ws (s ρ1 S1) { K with nx := I (i + 1), ct := I (i + 1), bk := K.nx } })
    (hd : ∀ ρ S, I ds.length ρ S → K.nx ρ S) : Ws (loopI k s ds ρ S) K := by
  suffices ∀ (r : List D) (n : Nat) (ρ : En) (S : Sto), ds.drop n = r → n ≤ ds.length → I n ρ S → Ws (loopI k s r ρ S) K from this ds 0 ρ S rfl (Nat.zero_le _) h0
  intro r
  induction r with
  | nil =>
    intro n ρ S e hn p
    have : ds.length ≤ n := by simpa using e
    have e2 : n = ds.length := by omega
    subst e2
    exact hd _ _ p
  | cons d r ih =>
    intro n ρ S e hn p
    have hg : ds[n]? = some d := by
      have := congrArg (fun l => l[0]?) e
      simpa using this
    have hr : ds.drop (n + 1) = r := by
      have := congrArg List.tail e
      simpa using this
    have hlt := (List.getElem?_eq_some_iff.mp hg).1
    have h := hs n d ρ S hg p
    rw [loopI_cons]
    cases q : k d ρ S with
    | nx ρ1 S1 =>
      rw [q] at h
      simp only [ws_nx] at h
      show Ws ((s ρ1 S1).tn _) K
      rw [ws_tn]
      exact h.mono (fun ρ S p => ih _ _ _ hr hlt p) (fun _ _ z => z) (fun _ _ z => z) (fun ρ S p => ih _ _ _ hr hlt p) fun _ _ _ z => z
    | _ => rw [q] at h; exact h.elim
theorem ws_loopV {nx : Nx} (I : Nat → En → Sto → Prop) (h0 : I 0 ρ S) (hl : ∀ i ρ S, I i ρ S → nx i S = some ds[i]?) (hs : ∀ i d ρ S, ds[i]? = some d → I i ρ S → Ws (k d ρ S) { nx := fun ρ1 S1 => Ws (s ρ1 S1) { K with nx := I (i + 1), ct := I (i + 1), bk := K.nx } })
    (hd : ∀ ρ S, I ds.length ρ S → K.nx ρ S) : Ws (loopV k s nx ds.length 0 ρ S) K := by
  suffices ∀ (m n : Nat) (ρ : En) (S : Sto), n + m = ds.length → I n ρ S → Ws (loopV k s nx m n ρ S) K from this ds.length 0 ρ S (by omega) h0
  intro m
  induction m with
  | zero =>
    intro n ρ S e p
    have e2 : n = ds.length := by omega
    subst e2
    rw [loopV_end (by rw [hl _ _ _ p]; simp)]
    exact hd _ _ p
  | succ m ih =>
    intro n ρ S e p
    have hlt : n < ds.length := by omega
    have hg : ds[n]? = some ds[n] := List.getElem?_eq_getElem hlt
    have h := hs n _ ρ S hg p
    rw [loopV_succ (by rw [hl _ _ _ p, hg])]
    cases q : k ds[n] ρ S with
    | nx ρ1 S1 =>
      rw [q] at h
      simp only [ws_nx] at h
      show Ws ((s ρ1 S1).tn _) K
      rw [ws_tn]
      exact h.mono (fun ρ S p => ih _ _ _ (by omega) p) (fun _ _ z => z) (fun _ _ z => z) (fun ρ S p => ih _ _ _ (by omega) p) fun _ _ _ z => z
    | _ => rw [q] at h; exact h.elim
/-- .. over a list of the store that stands fast -/
theorem ws_loopL {c : Nat} (I : Nat → En → Sto → Prop) (hc : c = ds.length) (h0 : I 0 ρ S) (hl : ∀ i ρ S, I i ρ S → S[l]? = some (.lst ds)) (hs : ∀ i d ρ S, ds[i]? = some d → I i ρ S → Ws (k d ρ S) { nx := fun ρ1 S1 => Ws (s ρ1 S1) { K with nx := I (i + 1), ct := I (i + 1), bk := K.nx } })
    (hd : ∀ ρ S, I ds.length ρ S → K.nx ρ S) : Ws (loopV k s (liveX l) c 0 ρ S) K := hc ▸ ws_loopV I h0 (fun i ρ S p => by rw [liveX_e, hl _ _ _ p]; rfl) hs hd
theorem ws_while {c : En → Mo Bool} (I : Nat → En → Sto → Prop) (hs : ∀ m ρ S, I m ρ S → Wp (c ρ S) (fun b S1 => (b = true → Ws (s ρ S1) { K with nx := fun ρ' S' => ∃ j, j < m ∧ I j ρ' S', ct := fun ρ' S' => ∃ j, j < m ∧ I j ρ' S', bk := K.nx }) ∧ (b = false → K.nx ρ S1)) (fun e S => K.ex e ρ S)) :
    ∀ m n ρ S, m < n → I m ρ S → Ws (cWhile c s n ρ S) K := by
  intro m
  induction m using Nat.strongRecOn with
  | ind m ih =>
    intro n ρ S hn p
    obtain ⟨n, rfl⟩ : ∃ j, n = j + 1 := ⟨n - 1, by omega⟩
    have h := hs m ρ S p
    rw [cWhile_step, ws_toF]
    refine h.mono (fun b S1 q => ?_) fun _ _ z => z
    cases b with
    | true =>
      rw [if_pos rfl, ws_tn]
      exact (q.1 rfl).mono (fun ρ' S' ⟨j, hj, p⟩ => ih j hj n ρ' S' (by omega) p) (fun _ _ z => z) (fun _ _ z => z) (fun ρ' S' ⟨j, hj, p⟩ => ih j hj n ρ' S' (by omega) p) fun _ _ _ z => z
    | false => rw [if_neg Bool.false_ne_true]; exact q.2 rfl
/-! ### stores that begin with another -/
theorem pre_get (h : S <+: S') (q : S[l]? = some o) : S'[l]? = some o := by
  obtain ⟨X, rfl⟩ := h
  exact get_old q
theorem pre_set (h : S0 <+: S) (hl : S0.length ≤ l) : S0 <+: S.set l o := by
  obtain ⟨X, rfl⟩ := h
  rw [List.set_append_right _ _ hl]
  exact List.prefix_append _ _
theorem pre_app {X : Sto} : S <+: S ++ X := List.prefix_append _ _
theorem pre_len (h : S <+: S') : S.length ≤ S'.length := h.length_le
theorem get_lt (q : S[l]? = some o) : l < S.length := (List.getElem?_eq_some_iff.mp q).1
/-! ### comprehensions -/
variable {α : Type} {Q : D → Sto → Prop} {E : Exn → Sto → Prop} {t : CT} {tst : En → Mo Bool} {elt : DE}
/-- one turn -/
def LcT (t : CT) (tst : En → Mo Bool) (elt : DE) (ρ : En) (n : Nat) (d : D) (S : Sto) (acc : List D) (J : List D → Sto → Prop) : Prop := ∃ ρ', t.put ρ d = some ρ' ∧
  Wp (tst ρ' S) (fun b S1 => (b = true → Wp (elt ρ' S1) (fun y S2 => S2[n]? = some (.lst acc) ∧ J (acc ++ [y]) (S2.set n (.lst (acc ++ [y])))) noE) ∧ (b = false → J acc S1)) noE
theorem lcT_run {acc : List D} {J : List D → Sto → Prop} (hl : acc.length < 16777216) (h : LcT t tst elt ρ n d S acc J) : ∃ acc' S', lcTurn t tst elt ρ n d S = some S' ∧ J acc' S' ∧ acc'.length ≤ acc.length + 1 := by
  obtain ⟨ρ', h1, h2⟩ := h
  obtain ⟨b, S1, e1, h3, h4⟩ := h2.get
  cases b with
  | true =>
    obtain ⟨y, S2, e2, h5, h6⟩ := (h3 rfl).get
    exact ⟨_, _, lcTurn_t h1 e1 e2 h5 hl, h6, by simp⟩
  | false => exact ⟨_, _, lcTurn_f h1 e1, h4 rfl, by omega⟩
theorem wp_lcI (I : Nat → List D → Sto → Prop) (hn : ds.length < 16777216) (h0 : I 0 [] S) (hs : ∀ i d acc S, ds[i]? = some d → I i acc S → LcT t tst elt ρ n d S acc (I (i + 1))) (hd : ∀ acc S, I ds.length acc S → Q (.loc n) S) :
    Wp (lcI t tst elt ρ n ds S) Q E := by
  obtain ⟨S', e, acc, p, _⟩ := lcI_inv (t := t) (tst := tst) (elt := elt) (ρ := ρ) (n := n) (ds := ds) (S := S) (fun i S => ∃ acc, I i acc S ∧ acc.length ≤ i)
    (fun i d S hg ⟨acc, p, hl⟩ => by
      have hi := (List.getElem?_eq_some_iff.mp hg).1
      obtain ⟨acc', S', e, p', hl'⟩ := lcT_run (by omega) (hs i d acc S hg p)
      exact ⟨S', e, acc', p', by omega⟩) ⟨[], h0, Nat.le_refl _⟩
  exact Wp.of e (hd _ _ p)
theorem wp_lcV {nx : Nx} (I : Nat → List D → Sto → Prop) (hn : ds.length < 16777216) (h0 : I 0 [] S) (hl : ∀ i acc S, I i acc S → nx i S = some ds[i]?) (hs : ∀ i d acc S, ds[i]? = some d → I i acc S → LcT t tst elt ρ n d S acc (I (i + 1))) (hd : ∀ acc S, I ds.length acc S → Q (.loc n) S) :
    Wp (lcV t tst elt ρ n nx ds.length 0 S) Q E := by
  obtain ⟨S', e, acc, p, _⟩ := lcV_inv (t := t) (tst := tst) (elt := elt) (ρ := ρ) (n := n) (nx := nx) (ds := ds) (S := S) (fun i S => ∃ acc, I i acc S ∧ acc.length ≤ i)
    (fun i S ⟨acc, p, _⟩ => hl i acc S p)
    (fun i d S hg ⟨acc, p, hl⟩ => by
      have hi := (List.getElem?_eq_some_iff.mp hg).1
      obtain ⟨acc', S', e, p', hl'⟩ := lcT_run (by omega) (hs i d acc S hg p)
      exact ⟨S', e, acc', p', by omega⟩) ⟨[], h0, Nat.le_refl _⟩
  exact Wp.of e (hd _ _ p)
/-- what a turn gives, where nothing that stands is changed -/
def LcP (t : CT) (tst : En → Mo Bool) (elt : DE) (ρ : En) (S0 : Sto) (d : D) (r : Option D) : Prop := ∀ S, S0 <+: S → ∃ ρ', t.put ρ d = some ρ' ∧
  Wp (tst ρ' S) (fun b S1 => S <+: S1 ∧ (b = true → Wp (elt ρ' S1) (fun y S2 => S1 <+: S2 ∧ r = some y) noE) ∧ (b = false → r = none)) noE
theorem lcP_T {i : Nat} {g : D → Option D} (hg : ds[i]? = some d) (h : LcP t tst elt ρ S0 d (g d)) (hn : n = S0.length) (hp : S0 <+: S) (hq : S[n]? = some (.lst ((ds.take i).filterMap g))) :
    LcT t tst elt ρ n d S ((ds.take i).filterMap g) (fun acc S => acc = (ds.take (i + 1)).filterMap g ∧ S0 <+: S ∧ S[n]? = some (.lst acc)) := by
  obtain ⟨ρ', h1, h2⟩ := h S hp
  refine ⟨ρ', h1, h2.to fun b S1 ⟨p1, h3, h4⟩ => ⟨fun hb => (h3 hb).to fun y S2 ⟨p2, hy⟩ => ?_, fun hb => ?_⟩⟩
  · have q2 := pre_get p2 (pre_get p1 hq)
    refine ⟨q2, ?_, pre_set ((hp.trans p1).trans p2) (by omega), ?_⟩
    · rw [List.take_add_one, hg, List.filterMap_append]
      simp [hy]
    · rw [List.getElem?_set_self (get_lt q2)]
  · refine ⟨?_, hp.trans p1, pre_get p1 hq⟩
    rw [List.take_add_one, hg, List.filterMap_append]
    simp [h4 hb]
theorem wp_lcI_map (g : D → Option D) (hn : ds.length < 16777216) (h : ∀ d, d ∈ ds → LcP t tst elt ρ S0 d (g d)) (hd : ∀ S, S0 <+: S → S[S0.length]? = some (.lst (ds.filterMap g)) → Q (.loc S0.length) S) :
    Wp (lcI t tst elt ρ S0.length ds (S0 ++ [.lst []])) Q E := by
  refine wp_lcI (fun i acc S => acc = (ds.take i).filterMap g ∧ S0 <+: S ∧ S[S0.length]? = some (.lst acc)) hn ⟨by simp, pre_app, by simp⟩ (fun i d acc S hg ⟨h1, h2, h3⟩ => ?_) fun acc S ⟨h1, h2, h3⟩ => hd S h2 (by rw [h3, h1]; simp)
  subst h1
  exact lcP_T hg (h d (List.mem_of_getElem? hg)) rfl h2 h3
theorem wp_lcV_map {nx : Nx} (g : D → Option D) (hn : ds.length < 16777216) (hl : ∀ i S, S0 <+: S → nx i S = some ds[i]?) (h : ∀ d, d ∈ ds → LcP t tst elt ρ S0 d (g d)) (hd : ∀ S, S0 <+: S → S[S0.length]? = some (.lst (ds.filterMap g)) → Q (.loc S0.length) S) :
    Wp (lcV t tst elt ρ S0.length nx ds.length 0 (S0 ++ [.lst []])) Q E := by
  refine wp_lcV (fun i acc S => acc = (ds.take i).filterMap g ∧ S0 <+: S ∧ S[S0.length]? = some (.lst acc)) hn ⟨by simp, pre_app, by simp⟩ (fun i acc S p => hl i S p.2.1) (fun i d acc S hg ⟨h1, h2, h3⟩ => ?_) fun acc S ⟨h1, h2, h3⟩ => hd S h2 (by rw [h3, h1]; simp)
  subst h1
  exact lcP_T hg (h d (List.mem_of_getElem? hg)) rfl h2 h3
theorem wp_lcL_map {c : Nat} (g : D → Option D) (hc : c = ds.length) (hn : ds.length < 16777216) (hl : S0[l]? = some (.lst ds)) (h : ∀ d, d ∈ ds → LcP t tst elt ρ S0 d (g d)) (hd : ∀ S, S0 <+: S → S[S0.length]? = some (.lst (ds.filterMap g)) → Q (.loc S0.length) S) :
    Wp (lcV t tst elt ρ S0.length (liveX l) c 0 (S0 ++ [.lst []])) Q E := hc ▸ wp_lcV_map g hn (fun i S p => by rw [liveX_e, pre_get p hl]; rfl) h hd
end
end Sm
end
section
/-! Sm, part O: x += y. -/
namespace Sm
open PySem PySem.Spec PyProof.Rows L2
section
variable {X : Cx} {g : Gx} {S : Sto} {i j : Int} {x y : Str}
def iaddD : D → D → Mo D
  | .int i, .int j => fun S => .ok (.int (i + j)) S
  | .str x, .str y => fun S => if fit (x.length + y.length) = true then .ok (.str (x ++ y)) S else .no
  | _, _ => bad
def rIAdd : R2 := fun x y H Q => (∃ i j, x = .int i ∧ y = .int j ∧ Q (.int (i + j)) H) ∨ (∃ i j, x = .str i ∧ y = .str j ∧ i.length + j.length ≤ sizeLine ∧ Q (.str (i ++ j)) H)
theorem iop_addA : OpR X (inplaceOp .Add) rIAdd := iop_add.or iop_add_str
theorem iadd_ok : S2 g rIAdd iaddD := fun m S H x y d e Q W sr rx ry h => by
  cases rx with
  | int i =>
    cases ry with
    | int j => exact .inl ⟨i, j, rfl, rfl, h m H Ev.refl sr _ (.int _)⟩
    | _ => exact h.elim
  | str i =>
    cases ry with
    | str j =>
      have h2 : PRx g m S H _ _ (if fit (i.length + j.length) = true then (Rz.ok (D.str (i ++ j)) S : Rz D) else .no) := h
      by_cases hz : fit (i.length + j.length) = true
      · rw [if_pos hz] at h2
        exact .inr ⟨i, j, rfl, rfl, fit_iff.mp hz, h2 m H Ev.refl sr _ (.str _)⟩
      · rw [if_neg hz] at h2; exact h2.elim
    | _ => exact h.elim
  | _ => exact h.elim
@[simp] theorem iaddD_int : iaddD (.int i) (.int j) S = .ok (.int (i + j)) S := rfl
@[simp] theorem iaddD_str : iaddD (.str x) (.str y) S = if fit (x.length + y.length) = true then .ok (.str (x ++ y)) S else .no := rfl
abbrev addI : D → D → Mo D := intOp0 fun i j => .int (i + j)
theorem in_addI : InOp X .Add (rI0 fun i j => .int (i + j)) := in_add
theorem in_subI : InOp X .Sub (rI0 fun i j => .int (i - j)) := in_sub
theorem addI_ok : S2 g (rI0 fun i j => .int (i + j)) addI := intOp0_ok fun _ _ _ _ _ => .int _
theorem subI_ok : S2 g (rI0 fun i j => .int (i - j)) subD := intOp0_ok fun _ _ _ _ _ => .int _
end
section
variable {S : Sto} {ρ : En} {f fo fv : DE} {i : Nat}
@[simp] theorem cAug_e {h : D → D → Mo D} : cAug i h f ρ S = (match ρ[i]? with
    | some (some x) => (f ρ S).toF ρ fun y S1 => (h x y S1).toF ρ fun z S2 => .nx (ρ.set i (some z)) S2
    | _ => .no) := rfl
@[simp] theorem cAugF_e {T : FTab} {nm : Str} {h : D → D → Mo D} : cAugF T nm h fo fv ρ S = (fo ρ S).toF ρ fun o S1 => match fldG T nm o S1 with
  | some x => (fv ρ S1).toF ρ fun y S2 => (h x y S2).toF ρ fun z S3 => if clsD o S1 = clsD o S3 then match setG T nm z o S3 with
    | some S4 => .nx ρ S4
    | none => .no else .no
  | none => .no := rfl
end
end Sm
end
section
/-! Sm, part Ox: faults of the program's own (made with one field, raised, caught, the field read), and defs with defaults. -/
namespace Sm
open PySem PySem.Spec PyProof.Rows L2

/-! ### an __init__ that says Base.__init__(self, ..); self.f = x -/
/-- the base class: Base.__init__ is ValueError's -/
structure BaT (K : PySem.W.Frag) (mg : Str → Option Value) (nm : Str) : Type where
  B : Addr
  m : mg nm = some (.ref B)
  rd : PySem.W.readsIn K B (.type "type") = true
  ga : PySem.W.specialIn K (.ref B) "__getattribute__" = some (some (.builtin "type.__getattribute__"))
  vV : PySem.W.findCls K (.ref B) (.type "type") "__init__" = some (.val (.builtin "ValueError.__init__"))
theorem handed_vei : PySem.W.handedIn (.builtin "ValueError.__init__") = true := by decide +kernel
section
variable {X : Cx} {e : Expr} {es : List Expr} {ta : TA} {p1 p2 pos : Pos} {xb : Str}
theorem pe_binit {pl : Sem Bool} (T : BaT X.K X.mg xb) (hg : Gl X xb) (ha : PA X (e :: es) ta) (hdb : (xb == ("__debug__" : Str)) = false := by decide)
    (hc : eval (.Call (.Attribute (.Name xb p1) "__init__" p2) (e :: es) [] pos) X.env = (do
      let ov ← eval (.Name xb p1) X.env
      standAt p2.atName
      let (f, first) ← holding [ov] (getMethod ov "__init__" pl)
      callWith pos f first (backTo pos (starEach (e :: es) X.env)) (backToKw pos (keywordEach [] X.env))) := by rfl)
    (he : starEach (e :: es) X.env = (false, eval e X.env) :: starEach es X.env := by rfl) (hpl : (backTo pos (starEach es X.env)).any (·.1) = false := by rfl) :
    PE X (.Call (.Attribute (.Name xb p1) "__init__" p2) (e :: es) [] pos) (tVeI X.K ta) := by
  refine ⟨fun pins s σ H Q I h => ?_⟩
  refine PySem.W.methodCall_KW (ld_glob I hg T.m ?_ hdb) hc
  refine PySem.W.method_cls I.kIn T.ga (PySem.W.cls_value I.kIn T.rd T.vV handed_vei ?_)
  show wpAny _ _ (callWith pos (Value.builtin "ValueError.__init__") [] (backTo pos (starEach (e :: es) X.env)) []) _ _ _
  refine PyProof.Rows.callWith_method1 (thn (ha.run pos pins _ σ H _ (I.tok _) h) fun us s1 ⟨vs, H1, I1, r1, a, C, ws, ev, hl, T, ea, q⟩ => ?_) he hpl
  subst ev
  cases r1 with
  | @cons _ u0 _ ur ra rw' =>
    obtain rfl : u0 = Value.ref a := ra
    have hlen : ur.length ≤ sizeLine := by
      rw [← Paired.length rw', sizeLine_eq]
      omega
    exact oinit_ok T I1 ea hlen fun s' J => ⟨.non, H1, J, rfl, q⟩
end
/-- what such an __init__ keeps -/
def spX (C : Addr) (f : Str) : Sp := fun vs H Q _ => ∃ (a : Addr) (y : V), vs = [.ref a, y] ∧ H a = some (exo a C none) ∧
  ∀ dx, H dx = none → dx ≠ a → Q .non (upd (upd H dx (exd dx [(f, y)])) a (exo a C (some dx)))
/-- a fault's class, with its __init__ -/
structure XnT (K : PySem.W.Frag) (mg : Str → Option Value) (C : Addr) (nm qual : Str) (st : Stmt) (pn f : Str) : Type where
  fn : Addr
  fd : FuncData
  F : L2.Fun K "__init__" qual st fn fd
  b : Binds K fd ["self", pn] []
  T : OexC K C
  iC : PySem.W.findIn K (.ref C) "__init__" = some (some (.ref fn))
  tI : PySem.W.typeIn K (.ref fn) = some (.type "function")
  nf : PySem.W.findIn K (.ref C) f = some none
  xf : XfC K C
  em : PySem.W.exmOne K (.ref C) (.ref C) = some true
  m : mg nm = some (.ref C)
theorem oexC_mk {K : PySem.W.Frag} {C : Addr} {nm q : Str} {N : Addr} {bs bm : List Value} {sn : List Str} {sub : List Value} {ab : Bool} {col : Option Bool} {dd : Option Addr} {k0 k1 k2 k3 k5 : Option Value}
    (l : K.lookup C = some (excClassObj nm q C N bs bm true sn sub ab col dd k0 k1 k2 k3 k5 "ValueError.__new__")) (r : PySem.HandSPX.refsVE bm = true)
    (sa : PySem.W.findIn K (.ref C) "__setattr__" = some (some (.builtin "object.__setattr__"))) (exC : PySem.W.subIn K (.ref C) (.type "BaseException") = some true) (tyC : PySem.W.typeIn K (.ref C) = some (.type "type")) (kC : PySem.W.keepIn K (.ref C) = true) : OexC K C :=
  ⟨⟨nm, q, N, bs, bm, sn, sub, ab, col, dd, k0, k1, k2, k3, k5, l, r⟩, sa, exC, tyC, kC⟩
section
variable {P : Program} {w : World} {K : PySem.W.Frag} {mg : Str → Option Value} {base : Heap} {C : Addr} {nm qual pn f xb : Str} {st : Stmt}
/-- the body: Base.__init__(self, text); self.f = p -/
theorem ok_xinit {k : Nat} {m : Str} (T : XnT K mg C nm qual st pn f) (S : FnScope ["self", pn] ["self", pn] (defScope st))
    (h1 : ∀ cdv A outer (s0 : Shared) H E, PSs (cxOf (L2.CX P w) P w K mg base ["self", pn] qual (defScope st) T.fn cdv A outer s0 H E) (defBody st)
      (tSeq (tDrop (tVeI K (tCons (tVar 0) (tCons (tC (.str m)) tNil)))) (tOst K f (tVar 0) (tVar 1)))) :
    FnOk P w K mg base (L2.CX P w) (k + 1) T.fn T.fd ["self", pn] (spX C f) := by
  refine T.F.okX S (fun vs H Q E h => by obtain ⟨a, y, rfl, _⟩ := h; rfl) fun cdv A outer s0 H vs Q E hr h => ⟨_, h1 cdv A outer s0 H E, ?_⟩
  obtain ⟨a, y, rfl, ea, q⟩ := h
  refine ⟨_, rfl, a, C, [.str m], rfl, by simp, T.T, ea, ?_⟩
  exact ⟨_, rfl, _, rfl, a, C, rfl, T.T, T.nf, .inl ⟨ea, fun dx n ne => q dx n ne⟩⟩
end

/-! ### raise C(e) -/
def cRaise (c : Nat) (f : Str) (fe : DE) : DS := fun ρ S => (fe ρ S).toF ρ fun d S' => .ex (c, [(f, d)]) ρ S'
section
variable {X : Cx} {g : Gx} {W : WX} {e : Expr} {fe : DE} {p pos pos' : Pos} {nm qual pn f : Str} {st : Stmt} {c k : Nat}
theorem del_upd {H1 : Hp} {a dx : Addr} {o1 o2 o3 o4 : HO} (ha : H1 a = none) (ne : dx ≠ a) : upd (del (upd (upd (upd H1 a o1) dx o2) a o3) a) dx o4 = upd H1 dx o4 := by
  funext b
  by_cases h1 : b = dx
  · subst h1; rw [upd_same, upd_same]
  · rw [upd_ne h1, upd_ne h1]
    by_cases h2 : b = a
    · subst h2; rw [del_same, ha]
    · rw [del_ne h2, upd_ne h2, upd_ne h1, upd_ne h2]
theorem ds_raise (T : XnT X.K X.mg (g.ct c) nm qual st pn f) (F1 : FnOk X.prog X.w X.K X.mg X.base (L2.CX X.prog X.w) k T.fn T.fd ["self", pn] (spX (g.ct c) f)) (hc : X.calm = true) (tk : Takes X W) (hr : Room (k + 1) X.A) (he : PE X e (tD g W fe))
    (hg : Gl X nm := by rfl) (hdb : (nm == ("__debug__" : Str)) = false := by decide) (hst : starEach [e] X.env = (false, eval e X.env) :: starEach [] X.env := by rfl) (hpl : (backTo pos' (starEach [] X.env)).any (·.1) = false := by rfl) :
    PS X (.Raise (some (.Call (.Name nm p) [e] [] pos')) none pos) (tS g W (cRaise c f fe)) := by
  refine PS.imp (ps_raise hc tk (pmk_oex (ds := []) (dvs := []) T.T T.iC T.tI F1 hr T.b .nil (passes_call tk fun _ _ _ _ h => h.elim) hg T.m (pa_cons he pa_nil hst) hdb hst hpl)) fun E σ H ⟨m, S, ρ, sr, er, h⟩ => ?_
  refine tD.subF sr er h fun d m1 S1 H1 v s1 er1 e1 r1 h1 => ?_
  show _ ∧ _
  refine ⟨by simp, fun a na => ⟨a, v, by simp, upd_same, fun dx ndx ne => ⟨rfl, dx, [(f, v)], upd_same, by rw [upd_ne ne]; exact upd_same, ?_, ?_⟩⟩⟩
  · rw [upd_ne ne] at ndx; exact ndx
  · rw [upd_ne ne] at ndx
    rw [del_upd na ne]
    have e2 : Ev g m1 S1.length H1 m1 S1.length (upd H1 dx (.xd [(f, v)])) := Ev.new ndx
    exact h1 _ _ σ m1 _ e2 (s1.aside ndx) (er1.ev e2) ⟨rfl, .inr ⟨dx, [(f, v)], rfl, upd_same, rfl, .cons _ _ _ _ (r1.ev e2) .nil⟩⟩

/-! ### try: body; except C as n: v = n.f -/
def cTryF (c i j : Nat) (f : Str) (s : DS) : DS := fun ρ S => match s ρ S with
  | .ex e ρ' S' => if e.1 = c ∧ i < ρ'.length then (match e.2.lookup f with
      | some d => .nx (((ρ'.set i none).set j (some d)).set i none) S'
      | none => .no) else .no
  | r => r
def tsX (X : Cx) (i j : Nat) (C : Addr) (f : Str) (a : Addr) (cls : Value) (d : Option Addr) : TS := tAsg (tXf a cls d C f (tVar i)) (gName j)
theorem ds_tryF (i j : Nat) {body : List Stmt} {n v : Str} {np pv' pn' pa pb pos1 : Pos} {s : DS} (T : XnT X.K X.mg (g.ct c) nm qual st pn f) (hK : X.K = g.K) (hs : X.stack = X.env :: X.outer) (hf : X.env.frame = some X.env.locals) (hN : X.N.Nodup) (tk : Takes X W)
    (hb : ∀ (W' : WX) (pn : List (Addr × Obj)) (xe : Value → Shared → Prop), Takes (X.tr pn xe) W' → PassesOwn (model X.prog X.w) X.A X.env xe → PSs (X.tr pn xe) body (tS g W' s))
    (hi : X.N[i]? = some n := by rfl) (hj : X.N[j]? = some v := by rfl) (hln : X.env.kindOf n = some .local := by rfl) (hlv : Loc X.env.scope v := by first | exact Or.inl rfl | exact Or.inr rfl) (hv : Vis X.env.scope n := by first | exact Or.inl rfl | exact Or.inr (Or.inl rfl) | exact Or.inr (Or.inr rfl))
    (hg : Gl X nm := by rfl) (hdb : (nm == ("__debug__" : Str)) = false := by decide) (hdn : (n == ("__debug__" : Str)) = false := by decide) (hcn : (n == ("__classdict__" : Str)) = false := by decide)
    (hsw : ∀ a pn, swapsWith (.Attribute (.Name n pn') f pa) (some (.Name v pv')) pb.line (X.suite a pn).env = pure false := by intro _ _; rfl)
    (hab : ∀ a pn, attributeBase (.Name n pn') f (X.suite a pn).env (eval (.Name n pn') (X.suite a pn).env) = eval (.Name n pn') (X.suite a pn).env := by intro _ _; rfl)
    (hfv : X.fn v = true ∨ X.env.scope.names.lookup v = some .local := by first | exact .inl rfl | exact .inr rfl) :
    PS X (.Try body [.ExceptHandler (some (.Name nm np)) (some n) [.Assign [.Name v pv'] (.Attribute (.Name n pn') f pa) pb] pos1] [] [] pos) (tS g W (cTryF c i j f s)) := by
  refine PS.imp (ps_try_as (c := .ref (g.ct c)) (i := i) (tb := fun W' => tS g W' s) (ts := tsX X i j (g.ct c) f) (Wout := W) hs hf hN hi hln ⟨hg, hdb, .inl T.m⟩ tk hb fun a oe cls d pn hz hd => ?_) fun E σ H ⟨m, S, ρ, sr, er, h⟩ => ?_
  · exact pss_one (ps_set hN hj hlv (pe_xf T.xf T.nf hz hd (pe_var (X := X.suite a ((a, oe) :: pn)) hi hv hdn hcn) (hab a ((a, oe) :: pn))) (hsw a ((a, oe) :: pn)) hfv)
  · refine ⟨m, S, ρ, sr, er, ?_⟩
    unfold cTryF at h
    cases q : s ρ S with
    | nx ρ1 S1 => rw [q] at h; exact h
    | brk ρ1 S1 => rw [q] at h; exact h
    | cnt ρ1 S1 => rw [q] at h; exact h
    | ret d S1 => rw [q] at h; exact h
    | no => rw [q] at h; exact h
    | ex x ρ1 S1 =>
      rw [q] at h
      intro cv dv σ1 m1 H1 e1 s1 er1 x1
      simp only at h
      by_cases hx : x.1 = c ∧ i < ρ1.length
      · rw [if_pos hx] at h
        cases hl : x.2.lookup f with
        | none => rw [hl] at h; exact h.elim
        | some d =>
          rw [hl] at h
          obtain ⟨rfl, hc2⟩ := x1
          rcases hc2 with hc2 | ⟨dd, fs', rfl, hdd, hk, rs⟩
          · rw [hc2] at hl; cases hl
          obtain ⟨v0, hv0, rv0⟩ := lookup_rel hk rs hl
          refine ⟨true, by rw [hx.1]; exact T.em, fun _ a na => ?_, fun z => by cases z⟩
          have lenN : σ1.length = ρ1.length := er1.len
          refine ⟨.ref a, ?_, rfl, by rw [hx.1], dd, fs', v0, rfl, hdd, hv0, ?_⟩
          · rw [List.getElem?_set_self (by rw [lenN]; exact hx.2)]
          · have er2 := (((er1.unset (i := i) (o := some (.ref a))).set (i := j) rv0).unset (i := i) (o := none))
            exact h _ m1 H1 e1 s1 er2
      · rw [if_neg hx] at h; exact h.elim
end

/-! ### a def with defaults -/
structure FunX (K : PySem.W.Frag) (nm qual : Str) (st : Stmt) (fn : Addr) (fd : FuncData) (dV : Value) : Prop where
  ex : ∃ (oc : Value) (od : Option Addr) (kV doc pm : Value) (an : Option Addr) (cdv ct : Value) (osl : Array (Option Value)),
    fd = PySem.W.fnOf nm qual (defArgs st) (defBody st) (defScope st) dV kV doc pm an cdv ct ∧ K.lookup fn = some ⟨oc, od, .func fd, osl⟩ ∧ PySem.W.codeIn K cdv qual = true
  kp : PySem.W.keepIn K (.ref fn) = true
section
variable {P : Program} {w : World} {K : PySem.W.Frag} {mg : Str → Option Value} {base : Heap} {g : Gx}
theorem funX_mk {x qual : Str} {st : Stmt} {f : Addr} {oc : Value} {od an : Option Addr} {osl : Array (Option Value)} {dV kV doc pm cdv ct : Value} (l : K.lookup f = some ⟨oc, od, .func (PySem.W.fnOf x qual (defArgs st) (defBody st) (defScope st) dV kV doc pm an cdv ct), osl⟩)
    (c : PySem.W.codeIn K cdv qual = true) (k : PySem.W.keepIn K (.ref f) = true) : FunX K x qual st f (PySem.W.fnOf x qual (defArgs st) (defBody st) (defScope st) dV kV doc pm an cdv ct) dV := ⟨⟨oc, od, kV, doc, pm, an, cdv, ct, osl, rfl, l, c⟩, k⟩
theorem fn_doX {nm qual : Str} {st : Stmt} {fn : Addr} {fd : FuncData} {dV : Value} {N ps : List Str} {k np n : Nat} {s : DS} (F : FunX K nm qual st fn fd dV) (S : FnScope N ps (defScope st)) (hp : ps.length = np := by rfl) (hn : N.length = n := by rfl)
    (hbody : ∀ (cdv : Value) (A : Around) (outer : List Env) (s0 : Shared) (H : Hp) (E : XK), Room k (A.deeper (envOfC qual (defScope st) s0.heap.objs.size fn cdv)) →
      PSs (cxOf (L2.CX P w) P w K mg base N qual (defScope st) fn cdv A outer s0 H E) (defBody st) (tS g (fun cls d _ H => E cls d H) s)) :
    FnOk P w K mg base (L2.CX P w) (k + 1) fn fd ps (spF g np (cDef n s)) := by
  subst hp
  subst hn
  obtain ⟨oc, od, kV, doc, pm, an, cdv, ct, osl, rfl, lk, hcd⟩ := F.ex
  refine fn_of lk hcd S (fun vs H Q E h => h.1) fun A outer s0 H vs Q E hr h => ⟨_, hbody cdv A outer s0 H E hr, ?_⟩
  obtain ⟨_, m, S0, ds, sr, r, q⟩ := h
  refine ⟨m, S0, startE N.length ds, sr, start_er r, ?_⟩
  unfold cDef at q
  cases z : s (startE N.length ds) S0 with
  | nx ρ1 S1 => rw [z] at q; exact fun _ m1 H1 e1 s1 _ => q m1 H1 e1 s1 .non .non
  | ret d S1 => rw [z] at q; exact fun v m1 H1 e1 s1 r1 => q m1 H1 e1 s1 v r1
  | ex e ρ1 S1 => rw [z] at q; exact fun c d _ m1 H1 e1 s1 _ x1 => q c d m1 H1 e1 s1 x1
  | brk ρ1 S1 => rw [z] at q; exact q.elim
  | cnt ρ1 S1 => rw [z] at q; exact q.elim
  | no => rw [z] at q; exact q.elim
/-- the last d parameters are filled up out of the defaults' tuple: n values are written, j defaults are left out -/
theorem bindsX {nm qual : Str} {st : Stmt} {kV doc pm cdv ct oc : Value} {an od : Option Addr} {T : Addr} {osl : Array (Option Value)} {its : List Value} {m : Nat} {dvs : List V} {ps : List Str} (n j : Nat)
    (lT : K.lookup T = some ⟨oc, od, .seq its.toArray m, osl⟩) (r : Vals dvs its) (hn : n + (dvs.length - j) = ps.length)
    (h : ∀ us : List Value, us.length = n → ∃ k, bindArgs (PySem.W.fnOf nm qual (defArgs st) (defBody st) (defScope st) (.ref T) kV doc pm an cdv ct) ⟨us, []⟩ = seqItems? (.ref T) >>= k ∧ k (some its.toArray) = pure (ps.zip (us ++ its.drop j))) :
    Binds K (PySem.W.fnOf nm qual (defArgs st) (defBody st) (defScope st) (.ref T) kV doc pm an cdv ct) ps (its.drop j) := by
  refine fun s us X hlen => ?_
  have l1 : its.length = dvs.length := r.length.symm
  have l2 : us.length = n := by
    rw [List.length_append, List.length_drop, l1] at hlen
    omega
  obtain ⟨k, e1, e2⟩ := h us l2
  refine BindsTo.of_looks fun M => ?_
  rw [e1]
  exact looks_items X lT rfl (.of_pure e2)
/-- a class whose __init__ has defaults: dvs, as many as are left out -/
structure InX (K : PySem.W.Frag) (mg : Str → Option Value) (C : Addr) (nm qual : Str) (st : Stmt) (ps : List Str) (dvs : List V) : Type where
  fn : Addr
  fd : FuncData
  dV : Value
  F : FunX K "__init__" qual st fn fd dV
  b : Binds K fd ps []
  b1 : ∃ ds, Vals dvs ds ∧ Binds K fd ps ds
  M : Mk K C fn
  cl : Cls K C
  m : mg nm = some (.ref C)
end
end Sm
end
section
/-! Sm, part P: values. Lists, dicts and things by value; what is owned may be changed, what is not stands fast. -/
namespace Sm
open PySem PySem.Spec PyProof.Rows L2
inductive Y where
  | non | bl (b : Bool) | int (i : Int) | str (x : Str) | ty (n : String) | cls (c : Nat) | fnc (i : Nat)
  | tup (xs : List Y) | lsc (xs : List Y) | lst (o : Bool) (xs : List Y) | dct (o : Bool) (kvs : List (Key × Y)) | ins (o : Bool) (c : Nat) (fs : List (Str × Y))
mutual
/-- d stands for y in S; P: what stands fast; f: what is owned -/
inductive Own (P : Nat → Prop) (S : Sto) : D → Y → List Nat → Prop
  | non : Own P S .non .non []
  | bl (b : Bool) : Own P S (.bl b) (.bl b) []
  | int (i : Int) : Own P S (.int i) (.int i) []
  | str (x : Str) : Own P S (.str x) (.str x) []
  | ty (n : String) : Own P S (.ty n) (.ty n) []
  | cls (c : Nat) : Own P S (.cls c) (.cls c) []
  | fnc (i : Nat) : Own P S (.fnc i) (.fnc i) []
  | tup (ds : List D) (ys : List Y) : Owns P S ds ys [] → Own P S (.tup ds) (.tup ys) []
  | lsc (ds : List D) (ys : List Y) : Owns P S ds ys [] → Own P S (.lsc ds) (.lsc ys) []
  | lstF (l : Nat) (ds : List D) (ys : List Y) : P l → S[l]? = some (.lst ds) → Owns P S ds ys [] → Own P S (.loc l) (.lst false ys) []
  | lstO (l : Nat) (ds : List D) (ys : List Y) : ¬ P l → S[l]? = some (.lst ds) → Owns P S ds ys [] → Own P S (.loc l) (.lst true ys) [l]
  | dctF (l : Nat) (kvs : List (Key × D)) (kys : List (Key × Y)) : P l → S[l]? = some (.dct kvs) → kvs.map (·.1) = kys.map (·.1) → Owns P S (kvs.map (·.2)) (kys.map (·.2)) [] → Own P S (.loc l) (.dct false kys) []
  | dctO (l : Nat) (kvs : List (Key × D)) (kys : List (Key × Y)) (f : List Nat) : ¬ P l → l ∉ f → S[l]? = some (.dct kvs) → kvs.map (·.1) = kys.map (·.1) → Owns P S (kvs.map (·.2)) (kys.map (·.2)) f → Own P S (.loc l) (.dct true kys) (l :: f)
  | insF (l c : Nat) (kvs : List (Str × D)) (kys : List (Str × Y)) : P l → S[l]? = some (.ins c kvs) → kvs.map (·.1) = kys.map (·.1) → Owns P S (kvs.map (·.2)) (kys.map (·.2)) [] → Own P S (.loc l) (.ins false c kys) []
  | insO (l c : Nat) (kvs : List (Str × D)) (kys : List (Str × Y)) (f : List Nat) : ¬ P l → l ∉ f → S[l]? = some (.ins c kvs) → kvs.map (·.1) = kys.map (·.1) → Owns P S (kvs.map (·.2)) (kys.map (·.2)) f → Own P S (.loc l) (.ins true c kys) (l :: f)
inductive Owns (P : Nat → Prop) (S : Sto) : List D → List Y → List Nat → Prop
  | nil : Owns P S [] [] []
  | cons (d : D) (y : Y) (ds : List D) (ys : List Y) (f f' : List Nat) : Own P S d y f → Owns P S ds ys f' → (∀ l ∈ f, l ∉ f') → Owns P S (d :: ds) (y :: ys) (f ++ f')
end
section
variable {P P' P'' : Nat → Prop} {S S' S'' : Sto} {d : D} {y : Y} {ds : List D} {ys : List Y} {f f' : List Nat} {U U' : Nat → Prop}
theorem lt_of_get {l : Nat} {o : Ob} (q : S[l]? = some o) : l < S.length := (List.getElem?_eq_some_iff.mp q).1
mutual
theorem Own.fp : ∀ {d : D} {y : Y} {f : List Nat}, Own P S d y f → ∀ l ∈ f, ¬ P l ∧ l < S.length
  | _, _, _, .non => fun _ h => by cases h
  | _, _, _, .bl _ => fun _ h => by cases h
  | _, _, _, .int _ => fun _ h => by cases h
  | _, _, _, .str _ => fun _ h => by cases h
  | _, _, _, .ty _ => fun _ h => by cases h
  | _, _, _, .cls _ => fun _ h => by cases h
  | _, _, _, .fnc _ => fun _ h => by cases h
  | _, _, _, .tup _ _ _ => fun _ h => by cases h
  | _, _, _, .lsc _ _ _ => fun _ h => by cases h
  | _, _, _, .lstF _ _ _ _ _ _ => fun _ h => by cases h
  | _, _, _, .lstO _ _ _ n q _ => fun k h => by rw [List.mem_singleton.mp h]; exact ⟨n, lt_of_get q⟩
  | _, _, _, .dctF _ _ _ _ _ _ _ => fun _ h => by cases h
  | _, _, _, .dctO _ _ _ _ n _ q _ r => fun k h => by
    rcases List.mem_cons.mp h with rfl | h
    · exact ⟨n, lt_of_get q⟩
    · exact Owns.fp r k h
  | _, _, _, .insF _ _ _ _ _ _ _ _ => fun _ h => by cases h
  | _, _, _, .insO _ _ _ _ _ n _ q _ r => fun k h => by
    rcases List.mem_cons.mp h with rfl | h
    · exact ⟨n, lt_of_get q⟩
    · exact Owns.fp r k h
theorem Owns.fp : ∀ {d : List D} {y : List Y} {f : List Nat}, Owns P S d y f → ∀ l ∈ f, ¬ P l ∧ l < S.length
  | _, _, _, .nil => fun _ h => by cases h
  | _, _, _, .cons _ _ _ _ _ _ r t _ => fun k h => by
    rcases List.mem_append.mp h with h | h
    · exact Own.fp r k h
    · exact Owns.fp t k h
end
/-- what was owned or stood fast is as it was -/
structure Kp (P : Nat → Prop) (S : Sto) (f : List Nat) (P' : Nat → Prop) (S' : Sto) : Prop where
  mono : ∀ l, P l → P' l
  own : ∀ l ∈ f, ¬ P' l
  get : ∀ l o, (P l ∨ l ∈ f) → S[l]? = some o → S'[l]? = some o
theorem Kp.sub (k : Kp P S f P' S') (h : ∀ l ∈ f', l ∈ f) : Kp P S f' P' S' := ⟨k.mono, fun l q => k.own l (h l q), fun l o q => k.get l o (q.imp id (h l))⟩
mutual
theorem Own.kp : ∀ {d : D} {y : Y} {f : List Nat}, Own P S d y f → Kp P S f P' S' → Own P' S' d y f
  | _, _, _, .non, _ => .non
  | _, _, _, .bl _, _ => .bl _
  | _, _, _, .int _, _ => .int _
  | _, _, _, .str _, _ => .str _
  | _, _, _, .ty _, _ => .ty _
  | _, _, _, .cls _, _ => .cls _
  | _, _, _, .fnc _, _ => .fnc _
  | _, _, _, .tup _ _ r, k => .tup _ _ (Owns.kp r k)
  | _, _, _, .lsc _ _ r, k => .lsc _ _ (Owns.kp r k)
  | _, _, _, .lstF l _ _ p q r, k => .lstF l _ _ (k.mono l p) (k.get l _ (.inl p) q) (Owns.kp r k)
  | _, _, _, .lstO l _ _ _ q r, k => .lstO l _ _ (k.own l (List.mem_singleton.mpr rfl)) (k.get l _ (.inr (List.mem_singleton.mpr rfl)) q) (Owns.kp r (k.sub fun _ h => by cases h))
  | _, _, _, .dctF l _ _ p q e r, k => .dctF l _ _ (k.mono l p) (k.get l _ (.inl p) q) e (Owns.kp r k)
  | _, _, _, .dctO l _ _ _ _ n q e r, k => .dctO l _ _ _ (k.own l List.mem_cons_self) n (k.get l _ (.inr List.mem_cons_self) q) e (Owns.kp r (k.sub fun _ h => List.mem_cons_of_mem _ h))
  | _, _, _, .insF l _ _ _ p q e r, k => .insF l _ _ _ (k.mono l p) (k.get l _ (.inl p) q) e (Owns.kp r k)
  | _, _, _, .insO l _ _ _ _ _ n q e r, k => .insO l _ _ _ _ (k.own l List.mem_cons_self) n (k.get l _ (.inr List.mem_cons_self) q) e (Owns.kp r (k.sub fun _ h => List.mem_cons_of_mem _ h))
theorem Owns.kp : ∀ {d : List D} {y : List Y} {f : List Nat}, Owns P S d y f → Kp P S f P' S' → Owns P' S' d y f
  | _, _, _, .nil, _ => .nil
  | _, _, _, .cons _ _ _ _ _ _ r t n, k => .cons _ _ _ _ _ _ (Own.kp r (k.sub fun _ h => List.mem_append_left _ h)) (Owns.kp t (k.sub fun _ h => List.mem_append_right _ h)) n
end
/-! ### to let go -/
mutual
def frz : Y → Y
  | .lst _ xs => .lst false xs
  | .dct _ kvs => .dct false (frzK kvs)
  | .ins _ c fs => .ins false c (frzF fs)
  | y => y
def frzK : List (Key × Y) → List (Key × Y)
  | [] => []
  | (k, y) :: r => (k, frz y) :: frzK r
def frzF : List (Str × Y) → List (Str × Y)
  | [] => []
  | (k, y) :: r => (k, frz y) :: frzF r
end
theorem frzK_keys : ∀ kys : List (Key × Y), (frzK kys).map (·.1) = kys.map (·.1)
  | [] => by simp [frzK]
  | (k, y) :: r => by simp [frzK, frzK_keys r]
theorem frzF_keys : ∀ kys : List (Str × Y), (frzF kys).map (·.1) = kys.map (·.1)
  | [] => by simp [frzF]
  | (k, y) :: r => by simp [frzF, frzF_keys r]
theorem frzK_vals : ∀ kys : List (Key × Y), (frzK kys).map (·.2) = (kys.map (·.2)).map frz
  | [] => by simp [frzK]
  | (k, y) :: r => by simp [frzK, frzK_vals r]
theorem frzF_vals : ∀ kys : List (Str × Y), (frzF kys).map (·.2) = (kys.map (·.2)).map frz
  | [] => by simp [frzF]
  | (k, y) :: r => by simp [frzF, frzF_vals r]
mutual
theorem Own.frz : ∀ {d : D} {y : Y} {f : List Nat}, Own P S d y f → (∀ l, P l → P' l) → (∀ l ∈ f, P' l) → Own P' S d (frz y) []
  | _, _, _, .non, _, _ => .non
  | _, _, _, .bl _, _, _ => .bl _
  | _, _, _, .int _, _, _ => .int _
  | _, _, _, .str _, _, _ => .str _
  | _, _, _, .ty _, _, _ => .ty _
  | _, _, _, .cls _, _, _ => .cls _
  | _, _, _, .fnc _, _, _ => .fnc _
  | _, _, _, .tup ds ys r, m, _ => .tup ds ys (r.kp ⟨m, fun _ h => (by cases h), fun _ _ _ q => q⟩)
  | _, _, _, .lsc ds ys r, m, _ => .lsc ds ys (r.kp ⟨m, fun _ h => (by cases h), fun _ _ _ q => q⟩)
  | _, _, _, .lstF l ds ys p q r, m, _ => .lstF l ds ys (m l p) q (r.kp ⟨m, fun _ h => (by cases h), fun _ _ _ q => q⟩)
  | _, _, _, .lstO l ds ys _ q r, m, h => .lstF l ds ys (h l (List.mem_singleton.mpr rfl)) q (r.kp ⟨m, fun _ h => (by cases h), fun _ _ _ q => q⟩)
  | _, _, _, .dctF l kvs kys p q e r, m, _ => .dctF l kvs (frzK kys) (m l p) q (by rw [frzK_keys]; exact e) (by rw [frzK_vals]; exact Owns.frz r m fun _ h => by cases h)
  | _, _, _, .dctO l kvs kys f _ _ q e r, m, h => .dctF l kvs (frzK kys) (h l List.mem_cons_self) q (by rw [frzK_keys]; exact e) (by rw [frzK_vals]; exact Owns.frz r m fun k z => h k (List.mem_cons_of_mem _ z))
  | _, _, _, .insF l c kvs kys p q e r, m, _ => .insF l c kvs (frzF kys) (m l p) q (by rw [frzF_keys]; exact e) (by rw [frzF_vals]; exact Owns.frz r m fun _ h => by cases h)
  | _, _, _, .insO l c kvs kys f _ _ q e r, m, h => .insF l c kvs (frzF kys) (h l List.mem_cons_self) q (by rw [frzF_keys]; exact e) (by rw [frzF_vals]; exact Owns.frz r m fun k z => h k (List.mem_cons_of_mem _ z))
theorem Owns.frz : ∀ {d : List D} {y : List Y} {f : List Nat}, Owns P S d y f → (∀ l, P l → P' l) → (∀ l ∈ f, P' l) → Owns P' S d (y.map frz) []
  | _, _, _, .nil, _, _ => .nil
  | _, _, _, .cons d y ds ys f f' r t n, m, h => by
    have a := Own.frz r m fun l z => h l (List.mem_append_left _ z)
    have b := Owns.frz t m fun l z => h l (List.mem_append_right _ z)
    exact .cons d _ ds _ [] [] a b fun _ z => by cases z
end
/-- frozen right at the top -/
def isF : Y → Bool
  | .lst o _ => !o
  | .dct o _ => !o
  | .ins o _ _ => !o
  | _ => true
theorem Own.isF (h : Own P S d y f) (q : isF y = true) : f = [] := by
  cases h <;> first | rfl | cases q

mutual
def flY : Y → Bool
  | .non => true
  | .bl _ => true
  | .int _ => true
  | .str _ => true
  | .tup ys => flYs ys
  | _ => false
def flYs : List Y → Bool
  | [] => true
  | y :: r => flY y && flYs r
end
theorem flYs_eq : ∀ ys : List Y, flYs ys = ys.all flY
  | [] => by simp [flYs]
  | y :: r => by simp [flYs, flYs_eq r]
theorem flY_tup {ys : List Y} : flY (.tup ys) = ys.all flY := by rw [flY, flYs_eq]
mutual
theorem Own.fl : ∀ {d : D} {y : Y} {f : List Nat}, Own P S d y f → flY y = true → Own P' S' d y []
  | _, _, _, .non, _ => .non
  | _, _, _, .bl _, _ => .bl _
  | _, _, _, .int _, _ => .int _
  | _, _, _, .str _, _ => .str _
  | _, _, _, .tup ds ys r, h => .tup ds ys (Owns.fl r fun y hy => List.all_eq_true.mp (flY_tup ▸ h) y hy)
  | _, _, _, .ty _, h => by simp [flY] at h
  | _, _, _, .cls _, h => by simp [flY] at h
  | _, _, _, .fnc _, h => by simp [flY] at h
  | _, _, _, .lsc _ _ _, h => by simp [flY] at h
  | _, _, _, .lstF _ _ _ _ _ _, h => by simp [flY] at h
  | _, _, _, .lstO _ _ _ _ _ _, h => by simp [flY] at h
  | _, _, _, .dctF _ _ _ _ _ _ _, h => by simp [flY] at h
  | _, _, _, .dctO _ _ _ _ _ _ _ _ _, h => by simp [flY] at h
  | _, _, _, .insF _ _ _ _ _ _ _ _, h => by simp [flY] at h
  | _, _, _, .insO _ _ _ _ _ _ _ _ _ _, h => by simp [flY] at h
theorem Owns.fl : ∀ {d : List D} {y : List Y} {f : List Nat}, Owns P S d y f → (∀ z ∈ y, flY z = true) → Owns P' S' d y []
  | _, _, _, .nil, _ => .nil
  | _, _, _, .cons d y ds ys f f' r t n, h => .cons d y ds ys [] [] (Own.fl r (h y List.mem_cons_self)) (Owns.fl t fun z hz => h z (List.mem_cons_of_mem _ hz)) fun _ z => by cases z
end
/-! ### rows of data -/
theorem Owns.length : ∀ {d : List D} {y : List Y} {f : List Nat}, Owns P S d y f → d.length = y.length
  | _, _, _, .nil => rfl
  | _, _, _, .cons _ _ _ _ _ _ _ t _ => congrArg (· + 1) (Owns.length t)
theorem Owns.cons0 {d : D} {y : Y} (h : Own P S d y []) (t : Owns P S ds ys []) : Owns P S (d :: ds) (y :: ys) [] := .cons d y ds ys [] [] h t fun _ z => by cases z
theorem Owns.inv {d : D} {y : Y} (h : Owns P S (d :: ds) (y :: ys) f) : ∃ a b, Own P S d y a ∧ Owns P S ds ys b ∧ f = a ++ b ∧ ∀ l ∈ a, l ∉ b := by
  cases h with
  | cons _ _ _ _ a b r t n => exact ⟨a, b, r, t, rfl, n⟩
theorem Owns.inv0 {d : D} {y : Y} (h : Owns P S (d :: ds) (y :: ys) []) : Own P S d y [] ∧ Owns P S ds ys [] := by
  obtain ⟨a, b, r, t, e, n⟩ := h.inv
  obtain ⟨rfl, rfl⟩ := List.append_eq_nil_iff.mp e.symm
  exact ⟨r, t⟩
theorem Owns.inv1 {d : D} (h : Owns P S (d :: ds) ys f) : ∃ y r, ys = y :: r := by cases h; exact ⟨_, _, rfl⟩
theorem Owns.inv2 {y : Y} (h : Owns P S ds (y :: ys) f) : ∃ d r, ds = d :: r := by cases h; exact ⟨_, _, rfl⟩
theorem Owns.app0 : ∀ {d d' : List D} {y y' : List Y}, Owns P S d y [] → Owns P S d' y' [] → Owns P S (d ++ d') (y ++ y') []
  | [], _, _, _, .nil, s => s
  | _ :: _, _, _, _, h, s => by
    obtain ⟨y, r, rfl⟩ := h.inv1
    obtain ⟨a, b⟩ := h.inv0
    exact .cons0 a (Owns.app0 b s)
theorem Owns.get : ∀ {d : List D} {y : List Y} {f : List Nat} {i : Nat} {x : Y}, Owns P S d y f → y[i]? = some x → ∃ u g, d[i]? = some u ∧ Own P S u x g ∧ ∀ l ∈ g, l ∈ f
  | _, _, _, _, _, .nil, e => by simp at e
  | _, _, _, 0, _, .cons d y ds ys f f' r t n, e => by simp at e; subst e; exact ⟨d, f, rfl, r, fun l h => List.mem_append_left _ h⟩
  | _, _, _, i + 1, x, .cons d y ds ys f f' r t n, e => by
    obtain ⟨u, g, h1, h2, h3⟩ := Owns.get (i := i) (x := x) t (by simpa using e)
    exact ⟨u, g, by simpa using h1, h2, fun l h => List.mem_append_right _ (h3 l h)⟩
theorem Owns.get0 {i : Nat} {x : Y} (h : Owns P S ds ys []) (e : ys[i]? = some x) : ∃ u, ds[i]? = some u ∧ Own P S u x [] := by
  obtain ⟨u, g, h1, h2, h3⟩ := h.get e
  have : g = [] := List.eq_nil_iff_forall_not_mem.mpr fun l q => by cases h3 l q
  subst this
  exact ⟨u, h1, h2⟩
theorem Owns.get' {i : Nat} {u : D} (h : Owns P S ds ys f) (e : ds[i]? = some u) : ∃ x, ys[i]? = some x := by
  have := h.length
  have hl := (List.getElem?_eq_some_iff.mp e).1
  exact ⟨_, List.getElem?_eq_getElem (by omega)⟩
theorem Owns.take0 : ∀ {d : List D} {y : List Y} (n : Nat), Owns P S d y [] → Owns P S (d.take n) (y.take n) []
  | [], y, n, h => by cases h; simp; exact .nil
  | _ :: _, y, 0, h => by simp; exact .nil
  | _ :: _, y, n + 1, h => by
    obtain ⟨y, r, rfl⟩ := h.inv1
    obtain ⟨a, b⟩ := h.inv0
    simp only [List.take_succ_cons]
    exact .cons0 a (Owns.take0 n b)
theorem Owns.drop0 : ∀ {d : List D} {y : List Y} (n : Nat), Owns P S d y [] → Owns P S (d.drop n) (y.drop n) []
  | [], y, n, h => by cases h; simp; exact .nil
  | _ :: _, y, 0, h => by simpa using h
  | _ :: _, y, n + 1, h => by
    obtain ⟨y, r, rfl⟩ := h.inv1
    obtain ⟨a, b⟩ := h.inv0
    simp only [List.drop_succ_cons]
    exact Owns.drop0 n b
theorem Owns.set0 : ∀ {d : List D} {y : List Y} (n : Nat) {u : D} {x : Y}, Owns P S d y [] → Own P S u x [] → Owns P S (d.set n u) (y.set n x) []
  | [], y, n, _, _, h, _ => by cases h; simp; exact .nil
  | _ :: _, y, 0, _, _, h, q => by
    obtain ⟨y, r, rfl⟩ := h.inv1
    exact .cons0 q h.inv0.2
  | _ :: _, y, n + 1, _, _, h, q => by
    obtain ⟨y, r, rfl⟩ := h.inv1
    obtain ⟨a, b⟩ := h.inv0
    exact .cons0 a (Owns.set0 n b q)
/-- one of a row put anew -/
theorem Owns.put : ∀ {d : List D} {y : List Y} {f : List Nat} {i : Nat} {x : Y}, Owns P S d y f → y[i]? = some x → ∃ u g, d[i]? = some u ∧ Own P S u x g ∧ (∀ l ∈ g, l ∈ f) ∧
    ∀ (P' : Nat → Prop) (S' : Sto) (u' : D) (x' : Y) (g' : List Nat), (∀ l, P l → P' l) → (∀ l ∈ f, l ∉ g → ¬ P' l) → (∀ l o, (P l ∨ (l ∈ f ∧ l ∉ g)) → S[l]? = some o → S'[l]? = some o) → Own P' S' u' x' g' → (∀ l ∈ g', l ∈ g ∨ l ∉ f) →
      ∃ f', Owns P' S' (d.set i u') (y.set i x') f' ∧ ∀ l ∈ f', l ∈ f ∨ l ∈ g'
  | _, _, _, _, _, .nil, e => by simp at e
  | _, _, _, 0, _, .cons d y ds ys f f' r t n, e => by
    simp at e; subst e
    refine ⟨d, f, rfl, r, fun l h => List.mem_append_left _ h, fun P' S' u' x' g' m1 m2 m3 o m4 => ?_⟩
    have t' : Owns P' S' ds ys f' := t.kp ⟨m1, fun l h => m2 l (List.mem_append_right _ h) fun z => n l z h, fun l o q => m3 l o (q.imp id fun h => ⟨List.mem_append_right _ h, fun z => n l z h⟩)⟩
    refine ⟨g' ++ f', .cons _ _ _ _ _ _ o t' fun l h z => ?_, fun l h => ?_⟩
    · rcases m4 l h with q | q
      · exact n l q z
      · exact q (List.mem_append_right _ z)
    · rcases List.mem_append.mp h with q | q
      · exact .inr q
      · exact .inl (List.mem_append_right _ q)
  | _, _, _, i + 1, x, .cons d y ds ys f f' r t n, e => by
    obtain ⟨u, g, h1, h2, h3, h4⟩ := Owns.put (i := i) (x := x) t (by simpa using e)
    refine ⟨u, g, by simpa using h1, h2, fun l h => List.mem_append_right _ (h3 l h), fun P' S' u' x' g' m1 m2 m3 o m4 => ?_⟩
    have hng : ∀ l ∈ f, l ∉ g := fun l h z => n l h (h3 l z)
    have r' : Own P' S' d y f := r.kp ⟨m1, fun l h => m2 l (List.mem_append_left _ h) (hng l h), fun l o q => m3 l o (q.imp id fun h => ⟨List.mem_append_left _ h, hng l h⟩)⟩
    obtain ⟨f1, k1, k2⟩ := h4 P' S' u' x' g' m1 (fun l h z => m2 l (List.mem_append_right _ h) z) (fun l o q => m3 l o (q.imp id fun h => ⟨List.mem_append_right _ h.1, h.2⟩)) o (fun l h => (m4 l h).imp id fun z q => z (List.mem_append_right _ q))
    refine ⟨f ++ f1, .cons _ _ _ _ _ _ r' k1 fun l h z => ?_, fun l h => ?_⟩
    · rcases k2 l z with q | q
      · exact n l h q
      · rcases m4 l q with q2 | q2
        · exact hng l h q2
        · exact q2 (List.mem_append_left _ h)
    · rcases List.mem_append.mp h with q | q
      · exact .inl (List.mem_append_left _ q)
      · exact (k2 l q).imp (List.mem_append_right _) id
end
end Sm
end
section
/-! Sm, part Q: frames of values; expressions that change nothing. -/
namespace Sm
open PySem PySem.Spec PyProof.Rows L2
abbrev VEn := List (Option Y)
abbrev NoU : Nat → Prop := fun _ => False
def Uf (φ : Nat → List Nat) : Nat → Prop := fun l => ∃ i, l ∈ φ i
structure Fr (O : List Nat) (P : Nat → Prop) (S : Sto) (ρ : En) (σ : VEn) (φ : Nat → List Nat) : Prop where
  len : ρ.length = σ.length
  at_ : ∀ i y, σ[i]? = some (some y) → ∃ d, ρ[i]? = some (some d) ∧ Own P S d y (φ i)
  val : ∀ i, i ∉ O → φ i = []
  emp : ∀ i, (∀ y, σ[i]? ≠ some (some y)) → φ i = []
  dis : ∀ i j, i ≠ j → ∀ l ∈ φ i, l ∉ φ j
def Bd (P : Nat → Prop) (S : Sto) : Prop := ∀ l, P l → l < S.length
/-- a step that changes at most U -/
structure Stp (P : Nat → Prop) (S : Sto) (U : Nat → Prop) (P' : Nat → Prop) (S' : Sto) : Prop where
  len : S.length ≤ S'.length
  keep : ∀ l, l < S.length → ¬ U l → S'[l]? = S[l]?
  mono : ∀ l, P l → P' l
  new : ∀ l, P' l → P l ∨ U l ∨ S.length ≤ l
  bnd : Bd P' S'
section
variable {O : List Nat} {P P' P'' : Nat → Prop} {S S' S'' : Sto} {ρ : En} {σ : VEn} {φ : Nat → List Nat} {d e : D} {x y z : Y} {ds : List D} {xs ys : List Y} {f f' : List Nat} {U U' U'' : Nat → Prop}
theorem Stp.refl (b : Bd P S) : Stp P S U P S := ⟨Nat.le_refl _, fun _ _ _ => rfl, fun _ h => h, fun _ h => .inl h, b⟩
theorem Stp.trans (a : Stp P S U P' S') (c : Stp P' S' U' P'' S'') (h : ∀ l, U' l → U l ∨ S.length ≤ l) : Stp P S U P'' S'' := by
  refine ⟨Nat.le_trans a.len c.len, fun l hl hu => ?_, fun l h => c.mono l (a.mono l h), fun l q => ?_, c.bnd⟩
  · rw [c.keep l (Nat.lt_of_lt_of_le hl a.len) fun z => (h l z).elim hu fun w => by omega, a.keep l hl hu]
  · rcases c.new l q with q | q | q
    · exact a.new l q
    · exact .inr (h l q)
    · exact .inr (.inr (Nat.le_trans a.len q))
theorem Stp.weak (a : Stp P S U P' S') (h : ∀ l, U l → U' l) : Stp P S U' P' S' := ⟨a.len, fun l hl hu => a.keep l hl fun z => hu (h l z), a.mono, fun l q => (a.new l q).imp id fun z => z.imp (h l) id, a.bnd⟩
theorem Stp.up (a : Stp P S NoU P' S') : Stp P S U P' S' := a.weak fun _ z => z.elim
theorem Stp.tr0 (a : Stp P S NoU P' S') (c : Stp P' S' NoU P'' S'') : Stp P S NoU P'' S'' := a.trans c fun _ z => z.elim
theorem Stp.kp (a : Stp P S U P' S') (b : Bd P S) (hU : ∀ l, U l → ¬ P l) (h1 : ∀ l ∈ f, ¬ P l ∧ l < S.length) (h2 : ∀ l ∈ f, ¬ U l) : Kp P S f P' S' := by
  refine ⟨a.mono, fun l hl q => ?_, fun l o q g => ?_⟩
  · obtain ⟨n1, n2⟩ := h1 l hl
    rcases a.new l q with q | q | q
    · exact n1 q
    · exact h2 l hl q
    · omega
  · rcases q with q | q
    · rw [a.keep l (b l q) fun z => hU l z q]; exact g
    · rw [a.keep l (h1 l q).2 (h2 l q)]; exact g
theorem Stp.kp0 (a : Stp P S NoU P' S') (b : Bd P S) (h1 : ∀ l ∈ f, ¬ P l ∧ l < S.length) : Kp P S f P' S' := a.kp b (fun _ z => z.elim) h1 fun _ _ z => z
theorem Own.st0 (h : Own P S d y f) (a : Stp P S NoU P' S') (b : Bd P S) : Own P' S' d y f := h.kp (a.kp0 b h.fp)
theorem Owns.st0 (h : Owns P S ds ys f) (a : Stp P S NoU P' S') (b : Bd P S) : Owns P' S' ds ys f := h.kp (a.kp0 b h.fp)
theorem Own.st (h : Own P S d y []) (a : Stp P S U P' S') (b : Bd P S) (hU : ∀ l, U l → ¬ P l) : Own P' S' d y [] := h.kp (a.kp b hU (fun _ z => by cases z) fun _ z => by cases z)
theorem Owns.st (h : Owns P S ds ys []) (a : Stp P S U P' S') (b : Bd P S) (hU : ∀ l, U l → ¬ P l) : Owns P' S' ds ys [] := h.kp (a.kp b hU (fun _ z => by cases z) fun _ z => by cases z)
theorem Fr.fp (h : Fr O P S ρ σ φ) : ∀ l, Uf φ l → ¬ P l ∧ l < S.length := by
  rintro l ⟨i, hi⟩
  by_cases q : ∃ y, σ[i]? = some (some y)
  · obtain ⟨y, q⟩ := q
    obtain ⟨d, _, o⟩ := h.at_ i y q
    exact o.fp l hi
  · rw [h.emp i fun y z => q ⟨y, z⟩] at hi
    cases hi
theorem Fr.st (h : Fr O P S ρ σ φ) (a : Stp P S U P' S') (b : Bd P S) (hU : ∀ l, U l → ¬ P l) (hd : ∀ l, Uf φ l → ¬ U l) : Fr O P' S' ρ σ φ :=
  ⟨h.len, fun i y q => by
    obtain ⟨d, e, o⟩ := h.at_ i y q
    exact ⟨d, e, o.kp (a.kp b hU (fun l z => h.fp l ⟨i, z⟩) fun l z => hd l ⟨i, z⟩)⟩, h.val, h.emp, h.dis⟩
theorem Fr.st0 (h : Fr O P S ρ σ φ) (a : Stp P S NoU P' S') (b : Bd P S) : Fr O P' S' ρ σ φ := h.st a b (fun _ z => z.elim) fun _ _ z => z
/-! ### judgements -/
def XB (O : List Nat) (f : DE) (g : VEn → Option Y) : Prop := ∀ P S ρ σ φ, Bd P S → Fr O P S ρ σ φ → ∀ y, g σ = some y → ∃ d S' P' a, f ρ S = .ok d S' ∧ Stp P S NoU P' S' ∧ Own P' S' d y a ∧ ∀ l ∈ a, Uf φ l
def XV (O : List Nat) (f : DE) (g : VEn → Option Y) : Prop := ∀ P S ρ σ φ, Bd P S → Fr O P S ρ σ φ → ∀ y, g σ = some y → ∃ d S' P', f ρ S = .ok d S' ∧ Stp P S NoU P' S' ∧ Own P' S' d y []
def XVs (O : List Nat) (f : En → Mo (List D)) (g : VEn → Option (List Y)) : Prop := ∀ P S ρ σ φ, Bd P S → Fr O P S ρ σ φ → ∀ y, g σ = some y → ∃ d S' P', f ρ S = .ok d S' ∧ Stp P S NoU P' S' ∧ Owns P' S' d y []
def XT (O : List Nat) (f : En → Mo Bool) (g : VEn → Option Bool) : Prop := ∀ P S ρ σ φ, Bd P S → Fr O P S ρ σ φ → ∀ b, g σ = some b → ∃ S' P', f ρ S = .ok b S' ∧ Stp P S NoU P' S'
theorem XV.b {f : DE} {g : VEn → Option Y} (h : XV O f g) : XB O f g := fun P S ρ σ φ b r y e => by
  obtain ⟨d, S', P', h1, h2, h3⟩ := h P S ρ σ φ b r y e
  exact ⟨d, S', P', [], h1, h2, h3, fun _ z => by cases z⟩
/-- borrowed, but it stands fast -/
def vF (g : VEn → Option Y) : VEn → Option Y := fun σ => (g σ).bind fun y => if isF y = true then some y else none
theorem XB.v {f : DE} {g : VEn → Option Y} (h : XB O f g) : XV O f (vF g) := fun P S ρ σ φ b r y e => by
  obtain ⟨z, h1, h2⟩ := Option.bind_eq_some_iff.mp e
  split at h2
  · rename_i q
    cases h2
    obtain ⟨d, S', P', a, k1, k2, k3, _⟩ := h P S ρ σ φ b r _ h1
    have := k3.isF q
    subst this
    exact ⟨d, S', P', k1, k2, k3⟩
  · cases h2
/-! ### names, constants -/
def vVar (i : Nat) : VEn → Option Y := fun σ => match σ[i]? with
  | some (some y) => some y
  | _ => none
theorem xb_var {i : Nat} : XB O (cVar i) (vVar i) := fun P S ρ σ φ b r y e => by
  have q : σ[i]? = some (some y) := by
    unfold vVar at e
    split at e
    · rename_i q; cases e; exact q
    · cases e
  obtain ⟨d, h1, h2⟩ := r.at_ i y q
  exact ⟨d, S, P, φ i, by simp [h1], .refl b, h2, fun l z => ⟨i, z⟩⟩
theorem xv_var {i : Nat} (hi : i ∉ O) : XV O (cVar i) (vVar i) := fun P S ρ σ φ b r y e => by
  have q : σ[i]? = some (some y) := by
    unfold vVar at e
    split at e
    · rename_i q; cases e; exact q
    · cases e
  obtain ⟨d, h1, h2⟩ := r.at_ i y q
  rw [r.val i hi] at h2
  exact ⟨d, S, P, by simp [h1], .refl b, h2⟩
def vC (y : Y) : VEn → Option Y := fun _ => some y
theorem xv_c (h : ∀ P S, Own P S d y []) : XV O (cC d) (vC y) := fun P S ρ σ φ b r z e => by
  cases e
  exact ⟨d, S, P, rfl, .refl b, h P S⟩
theorem xv_int {i : Int} : XV O (cC (.int i)) (vC (.int i)) := xv_c fun _ _ => .int i
theorem xv_str {i : Str} : XV O (cC (.str i)) (vC (.str i)) := xv_c fun _ _ => .str i
theorem xv_bl {i : Bool} : XV O (cC (.bl i)) (vC (.bl i)) := xv_c fun _ _ => .bl i
theorem xv_non : XV O (cC .non) (vC .non) := xv_c fun _ _ => .non
theorem xv_ty {i : String} : XV O (cC (.ty i)) (vC (.ty i)) := xv_c fun _ _ => .ty i
theorem xv_cls {i : Nat} : XV O (cC (.cls i)) (vC (.cls i)) := xv_c fun _ _ => .cls i
/-! ### rows -/
def vNil : VEn → Option (List Y) := fun _ => some []
def vCons (g : VEn → Option Y) (gs : VEn → Option (List Y)) : VEn → Option (List Y) := fun σ => (g σ).bind fun y => (gs σ).bind fun ys => some (y :: ys)
theorem xvs_nil : XVs O cNil vNil := fun P S ρ σ φ b r y e => by
  cases e
  exact ⟨[], S, P, rfl, .refl b, .nil⟩
theorem xvs_cons {f : DE} {g : VEn → Option Y} {fs : En → Mo (List D)} {gs : VEn → Option (List Y)} (h : XV O f g) (hs : XVs O fs gs) : XVs O (cCons f fs) (vCons g gs) := fun P S ρ σ φ b r y e => by
  obtain ⟨y1, e1, e2⟩ := Option.bind_eq_some_iff.mp e
  obtain ⟨ys, e3, e4⟩ := Option.bind_eq_some_iff.mp e2
  cases e4
  obtain ⟨d, S1, P1, h1, h2, h3⟩ := h P S ρ σ φ b r _ e1
  obtain ⟨ds, S2, P2, k1, k2, k3⟩ := hs P1 S1 ρ σ φ h2.bnd (r.st0 h2 b) _ e3
  exact ⟨d :: ds, S2, P2, by simp [h1, k1], h2.tr0 k2, .cons0 (h3.st0 k2 h2.bnd) k3⟩
/-! ### operations -/
def B1 (h : D → Mo D) (hY : Y → Option Y) : Prop := ∀ P S d x f, Bd P S → Own P S d x f → ∀ y, hY x = some y → ∃ r S' P', h d S = .ok r S' ∧ Stp P S NoU P' S' ∧ Own P' S' r y []
def B2 (h : D → D → Mo D) (hY : Y → Y → Option Y) : Prop := ∀ P S d e x z f f', Bd P S → Own P S d x f → Own P S e z f' → ∀ y, hY x z = some y → ∃ r S' P', h d e S = .ok r S' ∧ Stp P S NoU P' S' ∧ Own P' S' r y []
def vUn (h : Y → Option Y) (g : VEn → Option Y) : VEn → Option Y := fun σ => (g σ).bind h
def vOp (h : Y → Y → Option Y) (g g' : VEn → Option Y) : VEn → Option Y := fun σ => (g σ).bind fun x => (g' σ).bind fun y => h x y
theorem xv_un {h : D → Mo D} {hY : Y → Option Y} {f : DE} {g : VEn → Option Y} (H : B1 h hY) (hf : XB O f g) : XV O (cUn h f) (vUn hY g) := fun P S ρ σ φ b r y e => by
  obtain ⟨y1, e1, e2⟩ := Option.bind_eq_some_iff.mp e
  obtain ⟨d, S1, P1, a, h1, h2, h3, h4⟩ := hf P S ρ σ φ b r _ e1
  obtain ⟨u, S2, P2, k1, k2, k3⟩ := H P1 S1 d y1 a h2.bnd h3 y e2
  exact ⟨u, S2, P2, by simp [h1, k1], h2.tr0 k2, k3⟩
theorem xv_call1 {h : D → Mo D} {hY : Y → Option Y} {f : DE} {g : VEn → Option Y} (H : B1 h hY) (hf : XB O f g) : XV O (cCall (ar1 h) (cCons f cNil)) (vUn hY g) := fun P S ρ σ φ b r y e => by
  obtain ⟨d, S1, P1, h1, h2⟩ := xv_un H hf P S ρ σ φ b r y e
  refine ⟨d, S1, P1, ?_, h2⟩
  rw [← h1]
  simp
  cases f ρ S <;> rfl
theorem xv_op {h : D → D → Mo D} {hY : Y → Y → Option Y} {f f' : DE} {g g' : VEn → Option Y} (H : B2 h hY) (hf : XB O f g) (hf' : XB O f' g') : XV O (cOp h f f') (vOp hY g g') := fun P S ρ σ φ b r y e => by
  obtain ⟨y1, e1, e2⟩ := Option.bind_eq_some_iff.mp e
  obtain ⟨y2, e3, e4⟩ := Option.bind_eq_some_iff.mp e2
  obtain ⟨d, S1, P1, a, h1, h2, h3, h4⟩ := hf P S ρ σ φ b r _ e1
  obtain ⟨d2, S2, P2, a2, k1, k2, k3, k4⟩ := hf' P1 S1 ρ σ φ h2.bnd (r.st0 h2 b) _ e3
  obtain ⟨u, S3, P3, j1, j2, j3⟩ := H P2 S2 d d2 y1 y2 a a2 k2.bnd (h3.st0 k2 h2.bnd) k3 y e4
  exact ⟨u, S3, P3, by simp [h1, k1, j1], (h2.tr0 k2).tr0 j2, j3⟩
theorem xv_call2 {h : D → D → Mo D} {hY : Y → Y → Option Y} {f f' : DE} {g g' : VEn → Option Y} (H : B2 h hY) (hf : XB O f g) (hf' : XB O f' g') : XV O (cCall (ar2 h) (cCons f (cCons f' cNil))) (vOp hY g g') := fun P S ρ σ φ b r y e => by
  obtain ⟨d, S1, P1, h1, h2⟩ := xv_op H hf hf' P S ρ σ φ b r y e
  refine ⟨d, S1, P1, ?_, h2⟩
  rw [← h1]
  simp
  cases f ρ S with
  | ok a T => simp; cases f' ρ T <;> rfl
  | _ => rfl
def vTup (gs : VEn → Option (List Y)) : VEn → Option Y := fun σ => (gs σ).bind fun ys => if fit ys.length = true then some (.tup ys) else none
theorem xv_tup {fs : En → Mo (List D)} {gs : VEn → Option (List Y)} (h : XVs O fs gs) : XV O (cTup fs) (vTup gs) := fun P S ρ σ φ b r y e => by
  obtain ⟨ys, e1, e2⟩ := Option.bind_eq_some_iff.mp e
  split at e2
  · rename_i q
    cases e2
    obtain ⟨ds, S1, P1, h1, h2, h3⟩ := h P S ρ σ φ b r _ e1
    refine ⟨.tup ds, S1, P1, ?_, h2, .tup _ _ h3⟩
    simp only [cTup_e, h1, andThen_ok, h3.length, q, if_true]
  · cases e2
/-- a new list that stands fast; that is owned -/
theorem new_F (b : Bd P S) (h : Owns P S ds ys []) : Stp P S NoU (fun l => P l ∨ l = S.length) (S ++ [.lst ds]) ∧ Own (fun l => P l ∨ l = S.length) (S ++ [.lst ds]) (.loc S.length) (.lst false ys) [] := by
  have st : Stp P S NoU (fun l => P l ∨ l = S.length) (S ++ [.lst ds]) := ⟨by simp, fun l hl _ => List.getElem?_append_left hl, fun l h => .inl h, fun l h => h.imp id fun z => .inr (by omega), fun l h => by
    rcases h with h | h
    · have := b l h; simp; omega
    · simp; omega⟩
  exact ⟨st, .lstF _ ds ys (.inr rfl) (by simp) (h.st0 st b)⟩
theorem new_O (b : Bd P S) (h : Owns P S ds ys []) : Stp P S NoU P (S ++ [.lst ds]) ∧ Own P (S ++ [.lst ds]) (.loc S.length) (.lst true ys) [S.length] := by
  have st : Stp P S NoU P (S ++ [.lst ds]) := ⟨by simp, fun l hl _ => List.getElem?_append_left hl, fun l h => h, fun l h => .inl h, fun l h => by have := b l h; simp; omega⟩
  exact ⟨st, .lstO _ ds ys (fun z => by have := b _ z; omega) (by simp) (h.st0 st b)⟩
def vLst (gs : VEn → Option (List Y)) : VEn → Option Y := fun σ => (gs σ).bind fun ys => if fit ys.length = true then some (.lst false ys) else none
theorem xv_lst {fs : En → Mo (List D)} {gs : VEn → Option (List Y)} (h : XVs O fs gs) : XV O (cLst fs) (vLst gs) := fun P S ρ σ φ b r y e => by
  obtain ⟨ys, e1, e2⟩ := Option.bind_eq_some_iff.mp e
  split at e2
  · rename_i q
    cases e2
    obtain ⟨ds, S1, P1, h1, h2, h3⟩ := h P S ρ σ φ b r _ e1
    obtain ⟨k1, k2⟩ := new_F h2.bnd h3
    refine ⟨.loc S1.length, S1 ++ [.lst ds], _, ?_, h2.tr0 k1, k2⟩
    simp only [cLst_e, h1, andThen_ok]
    unfold newL
    rw [h3.length, if_pos q]
  · cases e2
/-! ### truths -/
def vTest (g : VEn → Option Y) : VEn → Option Bool := fun σ => match g σ with
  | some (.bl b) => some b
  | _ => none
theorem xt_test {f : DE} {g : VEn → Option Y} (h : XV O f g) : XT O (cTest f) (vTest g) := fun P S ρ σ φ b r k e => by
  unfold vTest at e
  split at e
  · rename_i q
    cases e
    obtain ⟨d, S1, P1, h1, h2, h3⟩ := h P S ρ σ φ b r _ q
    cases h3
    exact ⟨S1, P1, by simp [h1], h2⟩
  · cases e
def trY : Y → Option Bool
  | .non => some false
  | .bl b => some b
  | .int i => some (i != 0)
  | .str y => if fit y.length = true then some ((y.length : Int) != 0) else none
  | .tup xs => some (!xs.isEmpty)
  | .lsc xs => some (!xs.isEmpty)
  | .lst _ xs => some (!xs.isEmpty)
  | .dct _ xs => some (!xs.isEmpty)
  | _ => none
theorem Owns.emp (h : Owns P S ds ys f) : ds.isEmpty = ys.isEmpty := by cases h <;> rfl
theorem keys_emp {α β γ : Type} {xs : List (α × β)} {ys : List (α × γ)} (h : xs.map (·.1) = ys.map (·.1)) : xs.isEmpty = ys.isEmpty := by
  cases xs <;> cases ys <;> first | rfl | simp at h
theorem trY_ok {b : Bool} (h : Own P S d y f) (e : trY y = some b) : trD d S = .ok b S := by
  cases h with
  | str x =>
    have e : (if fit x.length = true then some ((x.length : Int) != 0) else none) = some b := e
    split at e
    · rename_i q
      cases e
      show (if fit x.length = true then _ else _) = _
      rw [if_pos q]
    · cases e
  | tup ds ys r => cases e; show Rz.ok _ S = _; rw [r.emp]
  | lsc ds ys r => cases e; show Rz.ok _ S = _; rw [r.emp]
  | lstF l ds ys p q r => cases e; show trO S S[l]? = _; rw [q, ← r.emp]; rfl
  | lstO l ds ys p q r => cases e; show trO S S[l]? = _; rw [q, ← r.emp]; rfl
  | dctF l kvs kys p q k r => cases e; show trO S S[l]? = _; rw [q, ← keys_emp k]; rfl
  | dctO l kvs kys f p n q k r => cases e; show trO S S[l]? = _; rw [q, ← keys_emp k]; rfl
  | _ => first | (cases e; rfl) | cases e
def vTru (g : VEn → Option Y) : VEn → Option Bool := fun σ => (g σ).bind trY
theorem xt_tru {f : DE} {g : VEn → Option Y} (h : XB O f g) : XT O (cTru f) (vTru g) := fun P S ρ σ φ b r k e => by
  obtain ⟨y, e1, e2⟩ := Option.bind_eq_some_iff.mp e
  obtain ⟨d, S1, P1, a, h1, h2, h3, _⟩ := h P S ρ σ φ b r _ e1
  exact ⟨S1, P1, by simp [h1, trY_ok h3 e2], h2⟩
def vNotT (g : VEn → Option Bool) : VEn → Option Bool := fun σ => (g σ).map (!·)
theorem xt_not {f : En → Mo Bool} {g : VEn → Option Bool} (h : XT O f g) : XT O (cNotT f) (vNotT g) := fun P S ρ σ φ b r k e => by
  obtain ⟨y, e1, e2⟩ := Option.map_eq_some_iff.mp e
  obtain ⟨S1, P1, h1, h2⟩ := h P S ρ σ φ b r _ e1
  exact ⟨S1, P1, by simp [h1, e2], h2⟩
def vAndT (g g' : VEn → Option Bool) : VEn → Option Bool := fun σ => (g σ).bind fun k => if k = true then g' σ else some false
def vOrT (g g' : VEn → Option Bool) : VEn → Option Bool := fun σ => (g σ).bind fun k => if k = true then some true else g' σ
theorem xt_and {f f' : En → Mo Bool} {g g' : VEn → Option Bool} (h : XT O f g) (h' : XT O f' g') : XT O (cAndT f f') (vAndT g g') := fun P S ρ σ φ b r k e => by
  obtain ⟨y, e1, e2⟩ := Option.bind_eq_some_iff.mp e
  obtain ⟨S1, P1, h1, h2⟩ := h P S ρ σ φ b r _ e1
  cases y with
  | true =>
    obtain ⟨S2, P2, k1, k2⟩ := h' P1 S1 ρ σ φ h2.bnd (r.st0 h2 b) _ e2
    exact ⟨S2, P2, by simp [h1, k1], h2.tr0 k2⟩
  | false => cases e2; exact ⟨S1, P1, by simp [h1], h2⟩
theorem xt_or {f f' : En → Mo Bool} {g g' : VEn → Option Bool} (h : XT O f g) (h' : XT O f' g') : XT O (cOrT f f') (vOrT g g') := fun P S ρ σ φ b r k e => by
  obtain ⟨y, e1, e2⟩ := Option.bind_eq_some_iff.mp e
  obtain ⟨S1, P1, h1, h2⟩ := h P S ρ σ φ b r _ e1
  cases y with
  | false =>
    obtain ⟨S2, P2, k1, k2⟩ := h' P1 S1 ρ σ φ h2.bnd (r.st0 h2 b) _ e2
    exact ⟨S2, P2, by simp [h1, k1], h2.tr0 k2⟩
  | true => cases e2; exact ⟨S1, P1, by simp [h1], h2⟩
def vTt : VEn → Option Bool := fun _ => some true
theorem xt_true : XT O cTrue vTt := fun P S ρ σ φ b r k e => by cases e; exact ⟨S, P, rfl, .refl b⟩
def vIf (t : VEn → Option Bool) (g g' : VEn → Option Y) : VEn → Option Y := fun σ => (t σ).bind fun k => if k = true then g σ else g' σ
theorem xv_if {ft : En → Mo Bool} {gt : VEn → Option Bool} {f f' : DE} {g g' : VEn → Option Y} (ht : XT O ft gt) (h : XV O f g) (h' : XV O f' g') : XV O (cIf ft f f') (vIf gt g g') := fun P S ρ σ φ b r y e => by
  obtain ⟨k, e1, e2⟩ := Option.bind_eq_some_iff.mp e
  obtain ⟨S1, P1, h1, h2⟩ := ht P S ρ σ φ b r _ e1
  cases k with
  | true =>
    obtain ⟨d, S2, P2, k1, k2, k3⟩ := h P1 S1 ρ σ φ h2.bnd (r.st0 h2 b) _ e2
    exact ⟨d, S2, P2, by simp [h1, k1], h2.tr0 k2, k3⟩
  | false =>
    obtain ⟨d, S2, P2, k1, k2, k3⟩ := h' P1 S1 ρ σ φ h2.bnd (r.st0 h2 b) _ e2
    exact ⟨d, S2, P2, by simp [h1, k1], h2.tr0 k2, k3⟩
def vAnd (g g' : VEn → Option Y) : VEn → Option Y := fun σ => (g σ).bind fun x => (trY x).bind fun k => if k = true then g' σ else some x
def vOr (g g' : VEn → Option Y) : VEn → Option Y := fun σ => (g σ).bind fun x => (trY x).bind fun k => if k = true then some x else g' σ
theorem xv_and {f f' : DE} {g g' : VEn → Option Y} (h : XV O f g) (h' : XV O f' g') : XV O (cAnd f f') (vAnd g g') := fun P S ρ σ φ b r y e => by
  obtain ⟨x, e1, e2⟩ := Option.bind_eq_some_iff.mp e
  obtain ⟨k, e3, e4⟩ := Option.bind_eq_some_iff.mp e2
  obtain ⟨d, S1, P1, h1, h2, h3⟩ := h P S ρ σ φ b r _ e1
  cases k with
  | true =>
    obtain ⟨d2, S2, P2, k1, k2, k3⟩ := h' P1 S1 ρ σ φ h2.bnd (r.st0 h2 b) _ e4
    exact ⟨d2, S2, P2, by simp [h1, k1, trY_ok h3 e3], h2.tr0 k2, k3⟩
  | false => cases e4; exact ⟨d, S1, P1, by simp [h1, trY_ok h3 e3], h2, h3⟩
theorem xv_or {f f' : DE} {g g' : VEn → Option Y} (h : XV O f g) (h' : XV O f' g') : XV O (cOr f f') (vOr g g') := fun P S ρ σ φ b r y e => by
  obtain ⟨x, e1, e2⟩ := Option.bind_eq_some_iff.mp e
  obtain ⟨k, e3, e4⟩ := Option.bind_eq_some_iff.mp e2
  obtain ⟨d, S1, P1, h1, h2, h3⟩ := h P S ρ σ φ b r _ e1
  cases k with
  | false =>
    obtain ⟨d2, S2, P2, k1, k2, k3⟩ := h' P1 S1 ρ σ φ h2.bnd (r.st0 h2 b) _ e4
    exact ⟨d2, S2, P2, by simp [h1, k1, trY_ok h3 e3], h2.tr0 k2, k3⟩
  | true => cases e4; exact ⟨d, S1, P1, by simp [h1, trY_ok h3 e3], h2, h3⟩
def vNot (g : VEn → Option Y) : VEn → Option Y := fun σ => (g σ).bind fun x => (trY x).map fun k => .bl (!k)
theorem xv_not {f : DE} {g : VEn → Option Y} (h : XB O f g) : XV O (cNot f) (vNot g) := fun P S ρ σ φ b r y e => by
  obtain ⟨x, e1, e2⟩ := Option.bind_eq_some_iff.mp e
  obtain ⟨k, e3, e4⟩ := Option.map_eq_some_iff.mp e2
  obtain ⟨d, S1, P1, a, h1, h2, h3, _⟩ := h P S ρ σ φ b r _ e1
  subst e4
  exact ⟨.bl (!k), S1, P1, by simp [h1, trY_ok h3 e3], h2, .bl _⟩
def vChain (h h' : Y → Y → Option Y) (ga gb gc : VEn → Option Y) : VEn → Option Y := fun σ => (ga σ).bind fun x => (gb σ).bind fun y => match h x y with
  | some (.bl true) => (gc σ).bind fun u => h' y u
  | some (.bl false) => some (.bl false)
  | _ => none
theorem xv_chain {h h' : D → D → Mo D} {hY hY' : Y → Y → Option Y} {fa fb fc : DE} {ga gb gc : VEn → Option Y} (H : B2 h hY) (H' : B2 h' hY') (ha : XB O fa ga) (hb : XB O fb gb) (hc : XB O fc gc) : XV O (cChain h h' fa fb fc) (vChain hY hY' ga gb gc) := fun P S ρ σ φ b r y e => by
  obtain ⟨y1, e1, e2⟩ := Option.bind_eq_some_iff.mp e
  obtain ⟨y2, e3, e4⟩ := Option.bind_eq_some_iff.mp e2
  obtain ⟨d, S1, P1, a, h1, h2, h3, h4⟩ := ha P S ρ σ φ b r _ e1
  obtain ⟨d2, S2, P2, a2, k1, k2, k3, k4⟩ := hb P1 S1 ρ σ φ h2.bnd (r.st0 h2 b) _ e3
  split at e4
  · rename_i q
    obtain ⟨u, S3, P3, j1, j2, j3⟩ := H P2 S2 d d2 y1 y2 a a2 k2.bnd (h3.st0 k2 h2.bnd) k3 _ q
    cases j3
    obtain ⟨y3, e5, e6⟩ := Option.bind_eq_some_iff.mp e4
    have s3 := (h2.tr0 k2).tr0 j2
    obtain ⟨d4, S4, P4, a4, i1, i2, i3, i4⟩ := hc P3 S3 ρ σ φ j2.bnd (r.st0 s3 b) _ e5
    obtain ⟨u, S5, P5, m1, m2, m3⟩ := H' P4 S4 d2 d4 y2 y3 a2 a4 i2.bnd (k3.st0 (j2.tr0 i2) k2.bnd) i3 y e6
    exact ⟨u, S5, P5, by simp [h1, k1, j1, i1, m1], (s3.tr0 i2).tr0 m2, m3⟩
  · rename_i q
    cases e4
    obtain ⟨u, S3, P3, j1, j2, j3⟩ := H P2 S2 d d2 y1 y2 a a2 k2.bnd (h3.st0 k2 h2.bnd) k3 _ q
    cases j3
    exact ⟨.bl false, S3, P3, by simp [h1, k1, j1], (h2.tr0 k2).tr0 j2, .bl _⟩
  · cases e4
end
end Sm
end
section
/-! Sm, part R: operations on values. -/
namespace Sm
open PySem PySem.Spec PyProof.Rows L2
section
variable {O : List Nat} {P P' P'' : Nat → Prop} {S S' S'' : Sto} {ρ : En} {σ : VEn} {φ : Nat → List Nat} {d e : D} {x y z k : Y} {ds : List D} {xs ys : List Y} {f f' : List Nat} {U U' U'' : Nat → Prop}
def intY (C : Int → Int → Bool) (f : Int → Int → Y) : Y → Y → Option Y
  | .int i, .int j => if C i j = true then some (f i j) else none
  | _, _ => none
def intY0 (f : Int → Int → Y) : Y → Y → Option Y
  | .int i, .int j => some (f i j)
  | _, _ => none
theorem b2_int {C : Int → Int → Bool} {g : Int → Int → D} {gY : Int → Int → Y} (h : ∀ P S i j, Own P S (g i j) (gY i j) []) : B2 (intOp C g) (intY C gY) := fun P S d e x z f f' b hx hz y q => by
  unfold intY at q
  split at q
  · cases hx; cases hz
    split at q
    · rename_i c
      cases q
      exact ⟨_, S, P, by unfold intOp; simp [c], .refl b, h P S _ _⟩
    · cases q
  · cases q
theorem b2_int0 {g : Int → Int → D} {gY : Int → Int → Y} (h : ∀ P S i j, Own P S (g i j) (gY i j) []) : B2 (intOp0 g) (intY0 gY) := fun P S d e x z f f' b hx hz y q => by
  unfold intY0 at q
  split at q
  · cases hx; cases hz; cases q
    exact ⟨_, S, P, rfl, .refl b, h P S _ _⟩
  · cases q
abbrev subY := intY0 fun i j => .int (i - j)
abbrev mulY := intY okMul fun i j => .int (i * j)
abbrev fdivY := intY okDiv fun i j => .int (i.fdiv j)
abbrev modY := intY okMod fun i j => .int (i % j)
abbrev powY := intY okPow fun i j => .int (i ^ j.toNat)
abbrev shrY := intY okShr fun i j => .int (i / 2 ^ j.toNat)
abbrev andY := intY0 fun i j => .int (Builtin.bitAnd i j)
abbrev ltY := intY0 fun i j => .bl (decide (i < j))
abbrev leY := intY0 fun i j => .bl (decide (i ≤ j))
abbrev gtY := intY0 fun i j => .bl (decide (j < i))
abbrev geY := intY0 fun i j => .bl (decide (j ≤ i))
theorem b_sub : B2 subD subY := b2_int0 fun _ _ _ _ => .int _
theorem b_mul : B2 mulD mulY := b2_int fun _ _ _ _ => .int _
theorem b_fdiv : B2 fdivD fdivY := b2_int fun _ _ _ _ => .int _
theorem b_mod : B2 modD modY := b2_int fun _ _ _ _ => .int _
theorem b_pow : B2 powD powY := b2_int fun _ _ _ _ => .int _
theorem b_shr : B2 shrD shrY := b2_int fun _ _ _ _ => .int _
theorem b_and : B2 andD andY := b2_int0 fun _ _ _ _ => .int _
theorem b_lt : B2 ltI ltY := b2_int0 fun _ _ _ _ => .bl _
theorem b_le : B2 leI leY := b2_int0 fun _ _ _ _ => .bl _
theorem b_gt : B2 gtI gtY := b2_int0 fun _ _ _ _ => .bl _
theorem b_ge : B2 geI geY := b2_int0 fun _ _ _ _ => .bl _
def lstY : Y → Option (List Y)
  | .lsc xs => some xs
  | .lst _ xs => some xs
  | _ => none
def seqY : Y → Option (List Y)
  | .tup xs => some xs
  | y => lstY y
theorem lstY_ok (h : Own P S d x f) (e : lstY x = some xs) : ∃ ds, lstS S d = some ds ∧ Owns P S ds xs [] := by
  cases h with
  | lsc ds ys r => cases e; exact ⟨ds, rfl, r⟩
  | lstF l ds ys p q r => cases e; exact ⟨ds, by rw [lstS_loc, q]; rfl, r⟩
  | lstO l ds ys p q r => cases e; exact ⟨ds, by rw [lstS_loc, q]; rfl, r⟩
  | _ => cases e
theorem seqY_ok (h : Own P S d x f) (e : seqY x = some xs) : ∃ ds, seqS S d = some ds ∧ Owns P S ds xs [] := by
  cases h with
  | tup ds ys r => cases e; exact ⟨ds, rfl, r⟩
  | lsc ds ys r => cases e; exact ⟨ds, rfl, r⟩
  | lstF l ds ys p q r => cases e; exact ⟨ds, by rw [seqS_loc, q]; rfl, r⟩
  | lstO l ds ys p q r => cases e; exact ⟨ds, by rw [seqS_loc, q]; rfl, r⟩
  | _ => cases e
def addY : Y → Y → Option Y
  | .int i, .int j => some (.int (i + j))
  | .str x, .str y => if fit (x.length + y.length) = true then some (.str (x ++ y)) else none
  | .tup xs, .tup ys => if fit (xs.length + ys.length) = true then some (.tup (xs ++ ys)) else none
  | .lst _ xs, .lst _ ys => if fit (xs.length + ys.length) = true then some (.lst false (xs ++ ys)) else none
  | _, _ => none
theorem own_lst {o : Bool} (h : Own P S d (.lst o xs) f) : ∃ l ds, d = .loc l ∧ S[l]? = some (.lst ds) ∧ Owns P S ds xs [] := by
  cases h with
  | lstF l ds _ p q r => exact ⟨l, ds, rfl, q, r⟩
  | lstO l ds _ p q r => exact ⟨l, ds, rfl, q, r⟩
/-- two lists joined -/
theorem add_lst {o o' : Bool} (hx : Own P S d (.lst o xs) f) (hz : Own P S e (.lst o' ys) f') (q : fit (xs.length + ys.length) = true) : ∃ rs, addD d e S = .ok (.loc S.length) (S ++ [.lst rs]) ∧ Owns P S rs (xs ++ ys) [] := by
  obtain ⟨l, ds, rfl, h1, h2⟩ := own_lst hx
  obtain ⟨l', ds', rfl, h3, h4⟩ := own_lst hz
  refine ⟨ds ++ ds', ?_, h2.app0 h4⟩
  rw [addD_loc, h1, h3]
  show joinL _ _ _ = _
  unfold joinL
  rw [h2.length, h4.length, if_pos q]
theorem b_add : B2 addD addY := fun P S d e x z f f' b hx hz y q => by
  unfold addY at q
  split at q
  · cases hx; cases hz; cases q; exact ⟨_, S, P, rfl, .refl b, .int _⟩
  · split at q
    · rename_i c
      cases hx; cases hz; cases q; exact ⟨_, S, P, by simp [c], .refl b, .str _⟩
    · cases q
  · split at q
    · rename_i c
      cases q
      cases hx with
      | tup ds _ r => cases hz with
        | tup ds' _ r' => exact ⟨.tup (ds ++ ds'), S, P, by simp [r.length, r'.length, c], .refl b, .tup _ _ (r.app0 r')⟩
    · cases q
  · split at q
    · rename_i c
      cases q
      obtain ⟨rs, h1, h2⟩ := add_lst hx hz c
      obtain ⟨k1, k2⟩ := new_F b h2
      exact ⟨_, _, _, h1, k1, k2⟩
    · cases q
  · cases q
/-! ### sameness -/
def flatY : Y → Bool
  | .non => true
  | .bl _ => true
  | .int _ => true
  | .str _ => true
  | _ => false
def eqFY : Y → Y → Bool
  | .non, .non => true
  | .bl a, .bl b => a == b
  | .bl a, .int b => (if a then 1 else 0) == b
  | .int a, .bl b => a == (if b then 1 else 0)
  | .int a, .int b => a == b
  | .str a, .str b => a == b
  | _, _ => false
def isTp : Y → Option (List Y)
  | .tup xs => some xs
  | _ => none
def eqAllY (f : Y → Y → Option Bool) : List Y → List Y → Option Bool
  | x :: xs, y :: ys => match f x y, eqAllY f xs ys with
    | some a, some b => some (a && b)
    | _, _ => none
  | _, _ => some true
def eqLY (f : Y → Y → Option Bool) (d e : Y) : Option Bool := match lstY d, lstY e with
  | some xs, some ys => if xs.length = ys.length then eqAllY f xs ys else some false
  | some _, none => if flatY e = true then some false else none
  | none, some _ => if flatY d = true then some false else none
  | none, none => none
def eqCY (f : Y → Y → Option Bool) (d e : Y) : Option Bool := match isTp d, isTp e with
  | some xs, some ys => (eqAllY f xs ys).map fun b => b && decide (xs.length = ys.length)
  | some _, none => if (flatY e || (lstY e).isSome) = true then some false else none
  | none, some _ => if (flatY d || (lstY d).isSome) = true then some false else none
  | none, none => eqLY f d e
def eqNY : Nat → Y → Y → Option Bool
  | 0, d, e => if (flatY d && flatY e) = true then some (eqFY d e) else none
  | n + 1, d, e => if (flatY d && flatY e) = true then some (eqFY d e) else eqCY (eqNY n) d e
theorem own_flat (h : Own P S d x f) : flatD d = flatY x := by cases h <;> rfl
theorem own_eqF (h : Own P S d x f) (h' : Own P S e y f') (q : (flatY x && flatY y) = true) : eqF d e = eqFY x y := by
  cases h <;> first | (cases q; done) | (cases h' <;> first | rfl | (cases q; done))
theorem own_lstS (h : Own P S d x f) : (lstS S d).isSome = (lstY x).isSome := by
  cases h with
  | lstF l ds ys p q r => rw [lstS_loc, q]; rfl
  | lstO l ds ys p q r => rw [lstS_loc, q]; rfl
  | dctF l ds ys p q _ r => rw [lstS_loc, q]; rfl
  | dctO l ds ys _ p _ q _ r => rw [lstS_loc, q]; rfl
  | insF l c ds ys p q _ r => rw [lstS_loc, q]; rfl
  | insO l c ds ys _ p _ q _ r => rw [lstS_loc, q]; rfl
  | _ => rfl
theorem own_tp (h : Own P S d x f) (q : isTp x = some xs) : ∃ ds, d = .tup ds ∧ Owns P S ds xs [] := by
  cases h <;> first | (cases q; exact ⟨_, rfl, by assumption⟩) | (cases q; done)
theorem own_ntp (h : Own P S d x f) (q : isTp x = none) : ∀ ds, d ≠ .tup ds := by
  cases h <;> first | (intro _ z; cases z; done) | (cases q; done)
theorem eqAllY_ok {n : Nat} (ih : ∀ d e x y b, Own P S d x [] → Own P S e y [] → eqNY n x y = some b → eqN S n d e = some b) : ∀ (ds es : List D) (xs ys : List Y) (b : Bool), Owns P S ds xs [] → Owns P S es ys [] → eqAllY (eqNY n) xs ys = some b → eqAll (eqN S n) ds es = some b
  | [], es, xs, ys, b, h, h', q => by
    cases h
    cases ys <;> (cases q; cases es <;> rfl)
  | d :: ds, [], xs, ys, b, h, h', q => by
    cases h'
    obtain ⟨x, r, rfl⟩ := h.inv1
    cases q
    rfl
  | d :: ds, e :: es, xs, ys, b, h, h', q => by
    obtain ⟨x, r, rfl⟩ := h.inv1
    obtain ⟨y, r', rfl⟩ := h'.inv1
    obtain ⟨a1, a2⟩ := h.inv0
    obtain ⟨b1, b2⟩ := h'.inv0
    unfold eqAllY at q
    cases q1 : eqNY n x y with
    | none => simp only [q1] at q; cases q
    | some u =>
      cases q2 : eqAllY (eqNY n) r r' with
      | none => simp only [q1, q2] at q; cases q
      | some w =>
        simp only [q1, q2] at q
        cases q
        unfold eqAll
        rw [ih _ _ _ _ _ a1 b1 q1, eqAllY_ok ih ds es r r' w a2 b2 q2]
theorem eqC_tt {g : D → D → Option Bool} {xs ys : List D} : eqC g S (.tup xs) (.tup ys) = (eqAll g xs ys).map fun b => b && decide (xs.length = ys.length) := rfl
theorem eqC_tn {g : D → D → Option Bool} {xs : List D} (h : ∀ ys, e ≠ .tup ys) : eqC g S (.tup xs) e = if (flatD e || (lstS S e).isSome) = true then some false else none := by
  cases e <;> first | rfl | exact absurd rfl (h _)
theorem eqC_nt {g : D → D → Option Bool} {xs : List D} (h : ∀ ys, d ≠ .tup ys) : eqC g S d (.tup xs) = if (flatD d || (lstS S d).isSome) = true then some false else none := by
  cases d <;> first | rfl | exact absurd rfl (h _)
theorem eqC_nn {g : D → D → Option Bool} (h : ∀ ys, d ≠ .tup ys) (h' : ∀ ys, e ≠ .tup ys) : eqC g S d e = eqL g S d e := by
  cases d <;> first | exact absurd rfl (h _) | (cases e <;> first | rfl | exact absurd rfl (h' _))
theorem eqNY_ok : ∀ (n : Nat) (d e : D) (x y : Y) (f f' : List Nat) (b : Bool), Own P S d x f → Own P S e y f' → eqNY n x y = some b → eqN S n d e = some b := by
  intro n
  induction n with
  | zero =>
    intro d e x y f f' b h h' q
    unfold eqNY at q
    unfold eqN scalF
    rw [own_flat h, own_flat h']
    split at q
    · rename_i c
      cases q
      rw [if_pos c, own_eqF h h' c]
    · cases q
  | succ n ih =>
    intro d e x y f f' b h h' q
    unfold eqNY at q
    unfold eqN scalF
    rw [own_flat h, own_flat h']
    split at q
    · rename_i c
      cases q
      rw [if_pos c, own_eqF h h' c]
    · rename_i c
      rw [if_neg c]
      simp only
      unfold eqCY at q
      split at q
      · rename_i xs ys t1 t2
        obtain ⟨ds, rfl, o1⟩ := own_tp h t1
        obtain ⟨es, rfl, o2⟩ := own_tp h' t2
        obtain ⟨w, w1, w2⟩ := Option.map_eq_some_iff.mp q
        rw [eqC_tt, eqAllY_ok (fun d e x y b a1 a2 => ih d e x y [] [] b a1 a2) ds es xs ys w o1 o2 w1, o1.length, o2.length]
        exact congrArg some w2
      · rename_i xs t1 t2
        obtain ⟨ds, rfl, o1⟩ := own_tp h t1
        rw [eqC_tn (own_ntp h' t2), own_flat h', own_lstS h']
        exact q
      · rename_i xs t1 t2
        obtain ⟨ds, rfl, o1⟩ := own_tp h' t2
        rw [eqC_nt (own_ntp h t1), own_flat h, own_lstS h]
        exact q
      · rename_i t1 t2
        rw [eqC_nn (own_ntp h t1) (own_ntp h' t2)]
        unfold eqLY at q
        unfold eqL
        split at q
        · rename_i xs ys l1 l2
          obtain ⟨ds, k1, o1⟩ := lstY_ok h l1
          obtain ⟨es, k2, o2⟩ := lstY_ok h' l2
          rw [k1, k2]
          simp only
          rw [o1.length, o2.length]
          split at q
          · rename_i c2
            rw [if_pos c2]
            exact eqAllY_ok (fun d e x y b a1 a2 => ih d e x y [] [] b a1 a2) ds es xs ys b o1 o2 q
          · rename_i c2
            rw [if_neg c2]
            exact q
        · rename_i xs l1 l2
          obtain ⟨ds, k1, o1⟩ := lstY_ok h l1
          have k2 : lstS S e = none := by
            have := own_lstS h'
            rw [l2] at this
            cases q3 : lstS S e with
            | none => rfl
            | some _ => rw [q3] at this; cases this
          rw [k1, k2]
          simp only
          rw [own_flat h']
          exact q
        · rename_i ys l1 l2
          obtain ⟨es, k1, o1⟩ := lstY_ok h' l2
          have k2 : lstS S d = none := by
            have := own_lstS h
            rw [l1] at this
            cases q3 : lstS S d with
            | none => rfl
            | some _ => rw [q3] at this; cases this
          rw [k1, k2]
          simp only
          rw [own_flat h]
          exact q
        · cases q
def okTopY (x : Y) : Bool := (isTp x).isSome || flatY x || (lstY x).isSome
theorem own_top (h : Own P S d x f) (q : okTopY x = true) : okTop S d = true := by
  have h1 := own_flat h
  have h2 := own_lstS h
  unfold okTopY at q
  cases t : isTp x with
  | some xs =>
    obtain ⟨ds, rfl, _⟩ := own_tp h t
    rfl
  | none =>
    rw [t] at q
    have e : okTop S d = (flatD d || (lstS S d).isSome) := by cases d <;> first | rfl | exact absurd rfl (own_ntp h t _)
    rw [e, h1, h2]
    exact q
def eqQY (x y : Y) : Option Bool := if (okTopY x && okTopY y) = true then eqNY 60 x y else none
def eqY (x y : Y) : Option Y := (eqQY x y).map .bl
def neY (x y : Y) : Option Y := (eqQY x y).map fun b => .bl (!b)
theorem eqQY_ok {b : Bool} (h : Own P S d x f) (h' : Own P S e y f') (q : eqQY x y = some b) : eqQ d e S = some b := by
  unfold eqQY at q
  split at q
  · rename_i c
    rw [Bool.and_eq_true] at c
    unfold eqQ
    rw [own_top h c.1, own_top h' c.2]
    exact eqNY_ok 60 d e x y f f' b h h' q
  · cases q
theorem b_eq : B2 eqD eqY := fun P S d e x z f f' b hx hz y q => by
  obtain ⟨w, h1, rfl⟩ := Option.map_eq_some_iff.mp q
  exact ⟨.bl w, S, P, by unfold eqD; rw [eqQY_ok hx hz h1], .refl b, .bl _⟩
theorem b_ne : B2 neD neY := fun P S d e x z f f' b hx hz y q => by
  obtain ⟨w, h1, rfl⟩ := Option.map_eq_some_iff.mp q
  exact ⟨.bl (!w), S, P, by unfold neD; rw [eqQY_ok hx hz h1], .refl b, .bl _⟩
def isNoneY : Y → Y → Option Y
  | .non, .non => some (.bl true)
  | .ins _ _ _, .non => none
  | .dct _ _, .non => some (.bl false)
  | _, .non => some (.bl false)
  | _, _ => none
theorem b_isN : B2 isNone isNoneY := fun P S d e x z f f' b hx hz y q => by
  cases hz with
  | non => cases hx <;> first | (cases q; exact ⟨_, S, P, rfl, .refl b, .bl _⟩) | (cases q; done)
  | _ => cases hx <;> cases q
def notNoneY (x y : Y) : Option Y := match isNoneY x y with
  | some (.bl b) => some (.bl (!b))
  | _ => none
theorem b_nisN : B2 notNone notNoneY := fun P S d e x z f f' b hx hz y q => by
  unfold notNoneY at q
  split at q
  · rename_i w h1
    cases q
    obtain ⟨r, S1, P1, k1, k2, k3⟩ := b_isN P S d e x z f f' b hx hz _ h1
    cases k3
    exact ⟨.bl (!w), S1, P1, by unfold notNone; show (isNone d e S).andThen _ = _; rw [k1]; rfl, k2, .bl _⟩
  · cases q
/-! ### keys -/
def keyY : Y → Option Key
  | .int i => some (.inl i)
  | .str x => some (.inr x)
  | _ => none
theorem keyY_ok {c : Key} (h : Own P S d x f) (e : keyY x = some c) : keyD d = some c := by
  cases h <;> first | (cases e; rfl) | cases e
def valY (kys : List (Key × Y)) (k : Key) : Option Y := (kys.find? fun kv => decide (kv.1 = k)).map (·.2)
theorem find_idx {α : Type} {c : Key} : ∀ {kys : List (Key × α)} {y : α}, (kys.find? fun kv => decide (kv.1 = c)).map (·.2) = some y → ∃ i, (kys.map (·.2))[i]? = some y ∧ (kys.map (·.1))[i]? = some c ∧ ∀ j : Nat, j < i → (kys.map (·.1))[j]? ≠ some c
  | [], y, h => by simp at h
  | (k, v) :: r, y, h => by
    rw [List.find?_cons] at h
    by_cases q : k = c
    · simp [q] at h
      subst h
      exact ⟨0, by simp, by simp [q], fun j z => by omega⟩
    · simp [q] at h
      obtain ⟨i, h1, h2, h3⟩ := find_idx (kys := r) (y := y) (by simpa using h)
      refine ⟨i + 1, by simpa using h1, by simpa using h2, fun j z => ?_⟩
      cases j with
      | zero => simp [q]
      | succ j => simpa using h3 j (by omega)
theorem idx_find {α : Type} {c : Key} : ∀ {kys : List (Key × α)} {y : α} {i : Nat}, (kys.map (·.2))[i]? = some y → (kys.map (·.1))[i]? = some c → (∀ j : Nat, j < i → (kys.map (·.1))[j]? ≠ some c) → (kys.find? fun kv => decide (kv.1 = c)).map (·.2) = some y
  | [], y, i, h, _, _ => by simp at h
  | (k, v) :: r, y, 0, h1, h2, h3 => by
    simp at h1 h2
    subst h1; subst h2
    simp
  | (k, v) :: r, y, i + 1, h1, h2, h3 => by
    have q : k ≠ c := by simpa using h3 0 (by omega)
    rw [List.find?_cons]
    simp [q]
    simpa using idx_find (kys := r) (y := y) (i := i) (by simpa using h1) (by simpa using h2) fun j z => by simpa using h3 (j + 1) (by omega)
theorem valY_ok {kvs : List (Key × D)} {kys : List (Key × Y)} {c : Key} (hk : kvs.map (·.1) = kys.map (·.1)) (h : Owns P S (kvs.map (·.2)) (kys.map (·.2)) f) (e : valY kys c = some y) : ∃ d a, valD kvs c = some d ∧ Own P S d y a ∧ ∀ l ∈ a, l ∈ f := by
  obtain ⟨i, h1, h2, h3⟩ := find_idx e
  obtain ⟨d, a, k1, k2, k3⟩ := h.get h1
  exact ⟨d, a, idx_find k1 (by rw [hk]; exact h2) (by rw [hk]; exact h3), k2, k3⟩
theorem val_some {α : Type} {kvs : List (Key × α)} {c : Key} : ((kvs.find? fun kv => decide (kv.1 = c)).map (·.2)).isSome = (kvs.map (·.1)).any fun k => decide (k = c) := by
  induction kvs with
  | nil => rfl
  | cons kv r ih =>
    rw [List.find?_cons]
    by_cases q : kv.1 = c
    · simp [q]
    · simp only [q, decide_false]
      rw [ih]
      simp [q]
/-! ### parts -/
def atY (xs : List Y) : Y → Option Y
  | .int i => atI xs i
  | _ => none
def getY : Y → Y → Option Y
  | .tup xs, k => atY xs k
  | .lsc xs, k => atY xs k
  | .lst _ xs, k => atY xs k
  | .str z, .int i => if fit z.length = true then (atI z.cps.toList i).map fun c => .str ⟨#[c]⟩ else none
  | .dct _ kvs, k => match keyY k with
    | some c => valY kvs c
    | none => none
  | _, _ => none
theorem atI_ok {i : Int} (h : Owns P S ds xs []) (e : atI xs i = some y) : ∃ d, atI ds i = some d ∧ Own P S d y [] := by
  unfold L2.atI at e ⊢
  rw [h.length]
  cases q : ixN xs.length i with
  | none => rw [q] at e; cases e
  | some j =>
    rw [q] at e
    exact h.get0 e
theorem atY_ok (h : Owns P S ds xs []) (hk : Own P S e k f') (q : atY xs k = some y) : ∃ d, atD ds e = some d ∧ Own P S d y [] := by
  unfold atY at q
  split at q
  · cases hk
    exact atI_ok h q
  · cases q
theorem getY_ok (h : Own P S d x f) (hk : Own P S e k f') (q : getY x k = some y) : ∃ r a, getD d e S = .ok r S ∧ Own P S r y a ∧ ∀ l ∈ a, l ∈ f := by
  cases h with
  | tup ds ys r =>
    obtain ⟨r, h1, h2⟩ := atY_ok r hk q
    exact ⟨r, [], by show optD (atD ds e) S = _; rw [h1]; rfl, h2, fun _ z => by cases z⟩
  | lsc ds ys r =>
    obtain ⟨r, h1, h2⟩ := atY_ok r hk q
    exact ⟨r, [], by show optD (atD ds e) S = _; rw [h1]; rfl, h2, fun _ z => by cases z⟩
  | lstF l ds ys p g r =>
    obtain ⟨r, h1, h2⟩ := atY_ok r hk q
    exact ⟨r, [], by show optD (getO e S[l]?) S = _; rw [g]; show optD (atD ds e) S = _; rw [h1]; rfl, h2, fun _ z => by cases z⟩
  | lstO l ds ys p g r =>
    obtain ⟨r, h1, h2⟩ := atY_ok r hk q
    exact ⟨r, [], by show optD (getO e S[l]?) S = _; rw [g]; show optD (atD ds e) S = _; rw [h1]; rfl, h2, fun _ z => by cases z⟩
  | str z =>
    unfold getY at q
    cases hk with
    | int i =>
      simp only at q
      split at q
      · rename_i c
        obtain ⟨u, h1, rfl⟩ := Option.map_eq_some_iff.mp q
        exact ⟨.str ⟨#[u]⟩, [], by show optD (if fit z.length = true then _ else none) S = _; rw [if_pos c, h1]; rfl, .str _, fun _ z => by cases z⟩
      · cases q
    | _ => cases q
  | dctF l kvs kys p g c r =>
    unfold getY at q
    simp only at q
    split at q
    · rename_i kk e1
      obtain ⟨r, a, h1, h2, h3⟩ := valY_ok c r q
      refine ⟨r, a, ?_, h2, h3⟩
      show optD (getO e S[l]?) S = _
      rw [g]
      show optD (match keyD e with | some k => valD kvs k | none => none) S = _
      rw [keyY_ok hk e1]
      simp only [h1]
      rfl
    · cases q
  | dctO l kvs kys f n p g c r =>
    unfold getY at q
    simp only at q
    split at q
    · rename_i kk e1
      obtain ⟨r, a, h1, h2, h3⟩ := valY_ok c r q
      refine ⟨r, a, ?_, h2, fun l z => List.mem_cons_of_mem _ (h3 l z)⟩
      show optD (getO e S[l]?) S = _
      rw [g]
      show optD (match keyD e with | some k => valD kvs k | none => none) S = _
      rw [keyY_ok hk e1]
      simp only [h1]
      rfl
    · cases q
  | _ => first | (cases q; done) | (unfold getY at q; cases q; done)
/-- a part that stands fast -/
def getV (x k : Y) : Option Y := match x with
  | .dct true _ => (getY x k).bind fun y => if isF y = true then some y else none
  | _ => getY x k
theorem b_get : B2 getD getV := fun P S d e x z f f' b hx hz y q => by
  have key : ∀ y, getY x z = some y → (f = [] ∨ isF y = true ∨ ∀ l ∈ f, ∃ xs, x = .lst true xs) → getV x z = some y → ∃ r S' P', getD d e S = .ok r S' ∧ Stp P S NoU P' S' ∧ Own P' S' r y [] := by
    intro y q h _
    obtain ⟨r, a, h1, h2, h3⟩ := getY_ok hx hz q
    have : a = [] ∨ ∃ xs, x = .lst true xs := by
      rcases h with h | h | h
      · subst h; exact .inl (List.eq_nil_iff_forall_not_mem.mpr fun l z => by cases h3 l z)
      · exact .inl (h2.isF h)
      · cases a with
        | nil => exact .inl rfl
        | cons l a => exact .inr (h l (h3 l List.mem_cons_self))
    rcases this with rfl | ⟨xs, rfl⟩
    · exact ⟨r, S, P, h1, .refl b, h2⟩
    · cases hx with
      | lstO l ds ys p g r =>
        obtain ⟨u, k1, k2⟩ := atY_ok r hz q
        exact ⟨u, S, P, by show optD (getO e S[l]?) S = _; rw [g]; show optD (atD ds e) S = _; rw [k1]; rfl, .refl b, k2⟩
  have q0 := q
  unfold getV at q
  split at q
  · obtain ⟨w, h1, h2⟩ := Option.bind_eq_some_iff.mp q
    split at h2
    · rename_i c
      cases h2
      exact key _ h1 (.inr (.inl c)) q0
    · cases h2
  · rename_i hn
    refine key y q ?_ q0
    cases hx with
    | dctO => exact absurd rfl (hn _)
    | lstO l ds ys => exact .inr (.inr fun _ _ => ⟨_, rfl⟩)
    | insO => cases q
    | _ => exact .inl rfl
def vGet (g g' : VEn → Option Y) : VEn → Option Y := fun σ => (g σ).bind fun x => (g' σ).bind fun k => getY x k
theorem xb_get {fa fb : DE} {g g' : VEn → Option Y} (h : XB O fa g) (h' : XB O fb g') : XB O (cOp getD fa fb) (vGet g g') := fun P S ρ σ φ b r y e => by
  obtain ⟨y1, e1, e2⟩ := Option.bind_eq_some_iff.mp e
  obtain ⟨y2, e3, e4⟩ := Option.bind_eq_some_iff.mp e2
  obtain ⟨d, S1, P1, a, h1, h2, h3, h4⟩ := h P S ρ σ φ b r _ e1
  obtain ⟨d2, S2, P2, a2, k1, k2, k3, k4⟩ := h' P1 S1 ρ σ φ h2.bnd (r.st0 h2 b) _ e3
  obtain ⟨u, c, j1, j2, j3⟩ := getY_ok (h3.st0 k2 h2.bnd) k3 e4
  exact ⟨u, S2, P2, c, by simp [h1, k1, j1], h2.tr0 k2, j2, fun l z => h4 l (j3 l z)⟩
/-! ### fields -/
def fldY (T : FTab) (nm : Str) : Y → Option Y
  | .ins _ c fs => if T c nm = true then fs.lookup nm else none
  | _ => none
theorem look_ok {nm : Str} : ∀ {kvs : List (Str × D)} {kys : List (Str × Y)} {f : List Nat}, kvs.map (·.1) = kys.map (·.1) → Owns P S (kvs.map (·.2)) (kys.map (·.2)) f → kys.lookup nm = some y → ∃ d a, kvs.lookup nm = some d ∧ Own P S d y a ∧ ∀ l ∈ a, l ∈ f
  | [], [], f, hk, h, e => by cases e
  | [], (_, _) :: _, f, hk, h, e => by simp at hk
  | (_, _) :: _, [], f, hk, h, e => by simp at hk
  | (a, d) :: r, (a', v) :: r', f, hk, h, e => by
    simp only [List.map_cons, List.cons.injEq] at hk
    obtain ⟨rfl, hk⟩ := hk
    simp only [List.map_cons] at h
    obtain ⟨f1, f2, o1, o2, rfl, _⟩ := h.inv
    rw [List.lookup_cons] at e ⊢
    cases q : nm == a with
    | true =>
      rw [q] at e
      cases e
      exact ⟨d, f1, rfl, o1, fun l z => List.mem_append_left _ z⟩
    | false =>
      rw [q] at e
      obtain ⟨u, c, k1, k2, k3⟩ := look_ok hk o2 e
      exact ⟨u, c, k1, k2, fun l z => List.mem_append_right _ (k3 l z)⟩
theorem fldY_ok {T : FTab} {nm : Str} (h : Own P S d x f) (q : fldY T nm x = some y) : ∃ r a, fldG T nm d S = some r ∧ Own P S r y a ∧ ∀ l ∈ a, l ∈ f := by
  cases h with
  | insF l c kvs kys p g kk r =>
    unfold fldY at q
    simp only at q
    split at q
    · rename_i t
      obtain ⟨u, a, k1, k2, k3⟩ := look_ok kk r q
      exact ⟨u, a, by show fldO T nm S[l]? = _; rw [g]; show (if T c nm = true then _ else none) = _; rw [if_pos t, k1], k2, k3⟩
    · cases q
  | insO l c kvs kys f n p g kk r =>
    unfold fldY at q
    simp only at q
    split at q
    · rename_i t
      obtain ⟨u, a, k1, k2, k3⟩ := look_ok kk r q
      exact ⟨u, a, by show fldO T nm S[l]? = _; rw [g]; show (if T c nm = true then _ else none) = _; rw [if_pos t, k1], k2, fun l z => List.mem_cons_of_mem _ (k3 l z)⟩
    · cases q
  | _ => cases q
def vFld (T : FTab) (nm : Str) (g : VEn → Option Y) : VEn → Option Y := fun σ => (g σ).bind (fldY T nm)
theorem xb_fld {T : FTab} {nm : Str} {fo : DE} {g : VEn → Option Y} (h : XB O fo g) : XB O (cFld T nm fo) (vFld T nm g) := fun P S ρ σ φ b r y e => by
  obtain ⟨y1, e1, e2⟩ := Option.bind_eq_some_iff.mp e
  obtain ⟨d, S1, P1, a, h1, h2, h3, h4⟩ := h P S ρ σ φ b r _ e1
  obtain ⟨u, c, j1, j2, j3⟩ := fldY_ok h3 e2
  exact ⟨u, S1, P1, c, by simp [h1, fldD, j1], h2, j2, fun l z => h4 l (j3 l z)⟩
/-! ### in -/
def inLY (x : Y) (xs : List Y) : Option Bool := if (flatY x && xs.all flatY) = true then some (xs.any fun y => eqFY y x) else none
def inQY : Y → Y → Option Bool
  | x, .tup xs => inLY x xs
  | x, .lsc xs => inLY x xs
  | x, .lst _ xs => inLY x xs
  | .str x, .str z => some (inS x z)
  | x, .dct _ kvs => match keyY x with
    | some k => some (valY kvs k).isSome
    | none => none
  | _, _ => none
theorem inLY_ok {b : Bool} (h : Own P S d x f) : ∀ {es : List D} {ys : List Y}, Owns P S es ys [] → inLY x ys = some b → inL d es = some b := by
  have h1 : ∀ {es : List D} {ys : List Y}, Owns P S es ys [] → es.all flatD = ys.all flatY := fun {es} => by
    induction es with
    | nil => intro ys o; cases o; rfl
    | cons e es ih =>
      intro ys o
      obtain ⟨y, r, rfl⟩ := o.inv1
      obtain ⟨a1, a2⟩ := o.inv0
      rw [List.all_cons, List.all_cons, own_flat a1, ih a2]
  have h2 : ∀ {es : List D} {ys : List Y}, Owns P S es ys [] → flatY x = true → ys.all flatY = true → (es.any fun y => eqF y d) = ys.any fun y => eqFY y x := fun {es} => by
    induction es with
    | nil => intro ys o _ _; cases o; rfl
    | cons e es ih =>
      intro ys o c1 c2
      obtain ⟨y, r, rfl⟩ := o.inv1
      obtain ⟨a1, a2⟩ := o.inv0
      rw [List.all_cons, Bool.and_eq_true] at c2
      rw [List.any_cons, List.any_cons, own_eqF a1 h (by rw [c1, c2.1]; rfl), ih a2 c1 c2.2]
  intro es ys o q
  unfold inLY at q
  unfold inL
  rw [own_flat h, h1 o]
  split at q
  · rename_i c
    rw [if_pos c]
    rw [Bool.and_eq_true] at c
    rw [h2 o c.1 c.2]
    exact q
  · cases q
theorem inQY_ok {b : Bool} (h : Own P S d x f) (h' : Own P S e y f') (q : inQY x y = some b) : inQ d e S = some b := by
  cases h' with
  | tup ds ys r =>
    have q : inLY x ys = some b := by cases h <;> exact q
    have : inQ d (.tup ds) S = inL d ds := by cases h <;> rfl
    rw [this]
    exact inLY_ok h r q
  | lsc ds ys r =>
    have q : inLY x ys = some b := by cases h <;> exact q
    have : inQ d (.lsc ds) S = inL d ds := by cases h <;> rfl
    rw [this]
    exact inLY_ok h r q
  | lstF l ds ys p g r =>
    have q : inLY x ys = some b := by cases h <;> exact q
    have : inQ d (.loc l) S = inO d S[l]? := by cases h <;> rfl
    rw [this, g]
    exact inLY_ok h r q
  | lstO l ds ys p g r =>
    have q : inLY x ys = some b := by cases h <;> exact q
    have : inQ d (.loc l) S = inO d S[l]? := by cases h <;> rfl
    rw [this, g]
    exact inLY_ok h r q
  | str z => cases h <;> first | (cases q; rfl) | (cases q; done)
  | dctF l kvs kys p g c r =>
    have q : (match keyY x with | some k => some (valY kys k).isSome | none => none) = some b := by cases h <;> exact q
    have : inQ d (.loc l) S = inO d S[l]? := by cases h <;> rfl
    rw [this, g]
    show (match keyD d with | some k => some (valD kvs k).isSome | none => none) = _
    split at q
    · rename_i kk e1
      rw [keyY_ok h e1, ← q]
      unfold valD valY
      simp only [val_some, c]
    · cases q
  | dctO l kvs kys f n p g c r =>
    have q : (match keyY x with | some k => some (valY kys k).isSome | none => none) = some b := by cases h <;> exact q
    have : inQ d (.loc l) S = inO d S[l]? := by cases h <;> rfl
    rw [this, g]
    show (match keyD d with | some k => some (valD kvs k).isSome | none => none) = _
    split at q
    · rename_i kk e1
      rw [keyY_ok h e1, ← q]
      unfold valD valY
      simp only [val_some, c]
    · cases q
  | _ => cases h <;> cases q
def inY (x y : Y) : Option Y := (inQY x y).map .bl
def ninY (x y : Y) : Option Y := (inQY x y).map fun b => .bl (!b)
theorem b_in : B2 inD inY := fun P S d e x z f f' b hx hz y q => by
  obtain ⟨w, h1, rfl⟩ := Option.map_eq_some_iff.mp q
  exact ⟨.bl w, S, P, by unfold inD; rw [inQY_ok hx hz h1]; rfl, .refl b, .bl _⟩
theorem b_nin : B2 ninD ninY := fun P S d e x z f f' b hx hz y q => by
  obtain ⟨w, h1, rfl⟩ := Option.map_eq_some_iff.mp q
  exact ⟨.bl (!w), S, P, by unfold ninD; rw [inQY_ok hx hz h1]; rfl, .refl b, .bl _⟩
end
end Sm
end
section
/-! Sm, part S: more operations on values; what is walked; comprehensions; calls that change nothing. -/
namespace Sm
open PySem PySem.Spec PyProof.Rows L2
section
variable {O : List Nat} {P P' P'' : Nat → Prop} {S S' S'' : Sto} {ρ : En} {σ : VEn} {φ : Nat → List Nat} {d e : D} {x y z k : Y} {ds : List D} {xs ys : List Y} {f f' : List Nat} {U U' U'' : Nat → Prop}
def lenY : Y → Option Y
  | .tup xs => some (.int xs.length)
  | .lsc xs => some (.int xs.length)
  | .lst _ xs => some (.int xs.length)
  | .dct _ xs => some (.int xs.length)
  | .str z => if fit z.length = true then some (.int z.length) else none
  | _ => none
theorem keys_len {α β γ : Type} {xs : List (α × β)} {ys : List (α × γ)} (h : xs.map (·.1) = ys.map (·.1)) : xs.length = ys.length := by
  have := congrArg List.length h
  simpa using this
theorem b_len : B1 lenD lenY := fun P S d x f b hx y q => by
  cases hx with
  | tup ds ys r => cases q; exact ⟨_, S, P, by unfold lenD; show optD (some (D.int ds.length)) S = _; rw [r.length]; rfl, .refl b, .int _⟩
  | lsc ds ys r => cases q; exact ⟨_, S, P, by unfold lenD; show optD (some (D.int ds.length)) S = _; rw [r.length]; rfl, .refl b, .int _⟩
  | lstF l ds ys p g r => cases q; exact ⟨_, S, P, by unfold lenD; show optD (lenO S[l]?) S = _; rw [g]; show optD (some (D.int ds.length)) S = _; rw [r.length]; rfl, .refl b, .int _⟩
  | lstO l ds ys p g r => cases q; exact ⟨_, S, P, by unfold lenD; show optD (lenO S[l]?) S = _; rw [g]; show optD (some (D.int ds.length)) S = _; rw [r.length]; rfl, .refl b, .int _⟩
  | dctF l ds ys p g k r => cases q; exact ⟨_, S, P, by unfold lenD; show optD (lenO S[l]?) S = _; rw [g]; show optD (some (D.int ds.length)) S = _; rw [keys_len k]; rfl, .refl b, .int _⟩
  | dctO l ds ys _ p _ g k r => cases q; exact ⟨_, S, P, by unfold lenD; show optD (lenO S[l]?) S = _; rw [g]; show optD (some (D.int ds.length)) S = _; rw [keys_len k]; rfl, .refl b, .int _⟩
  | str z =>
    have q : (if fit z.length = true then some (Y.int z.length) else none) = some y := q
    split at q
    · rename_i c; cases q; exact ⟨_, S, P, by unfold lenD; show optD (if fit z.length = true then _ else _) S = _; rw [if_pos c]; rfl, .refl b, .int _⟩
    · cases q
  | _ => cases q
def intY1 : Y → Option Y
  | .int i => some (.int i)
  | .bl b => some (.int (if b then 1 else 0))
  | _ => none
theorem b_intD : B1 intD intY1 := fun P S d x f b hx y q => by
  cases hx <;> first | (cases q; exact ⟨_, S, P, rfl, .refl b, .int _⟩) | (cases q; done)
def absY : Y → Option Y
  | .int i => some (.int (if i < 0 then -i else i))
  | _ => none
theorem b_abs : B1 absD absY := fun P S d x f b hx y q => by
  cases hx <;> first | (cases q; exact ⟨_, S, P, rfl, .refl b, .int _⟩) | (cases q; done)
def negY : Y → Option Y
  | .int i => some (.int (-i))
  | _ => none
theorem b_neg : B1 negD negY := fun P S d x f b hx y q => by
  cases hx <;> first | (cases q; exact ⟨_, S, P, rfl, .refl b, .int _⟩) | (cases q; done)
abbrev maxY := intY0 fun i j => .int (if j > i then j else i)
abbrev minY := intY0 fun i j => .int (if j < i then j else i)
theorem b_max : B2 maxD maxY := fun P S d e x z f f' b hx hz y q => by
  unfold maxY intY0 at q
  split at q
  · cases hx; cases hz; cases q; exact ⟨_, S, P, rfl, .refl b, .int _⟩
  · cases q
theorem b_min : B2 minD minY := fun P S d e x z f f' b hx hz y q => by
  unfold minY intY0 at q
  split at q
  · cases hx; cases hz; cases q; exact ⟨_, S, P, rfl, .refl b, .int _⟩
  · cases q
/-! ### new lists -/
def NL1 (h : D → Mo D) (hL : Y → Option (List Y)) : Prop := ∀ P S d x f, Own P S d x f → ∀ ys, hL x = some ys → ∃ ds, h d S = .ok (.loc S.length) (S ++ [.lst ds]) ∧ Owns P S ds ys []
def NL2 (h : D → D → Mo D) (hL : Y → Y → Option (List Y)) : Prop := ∀ P S d e x z f f', Own P S d x f → Own P S e z f' → ∀ ys, hL x z = some ys → ∃ ds, h d e S = .ok (.loc S.length) (S ++ [.lst ds]) ∧ Owns P S ds ys []
def frL (hL : Y → Option (List Y)) : Y → Option Y := fun x => (hL x).map (.lst false)
theorem NL1.b {h : D → Mo D} {hL : Y → Option (List Y)} (H : NL1 h hL) : B1 h (frL hL) := fun P S d x f b hx y q => by
  obtain ⟨ys, h1, rfl⟩ := Option.map_eq_some_iff.mp q
  obtain ⟨ds, k1, k2⟩ := H P S d x f hx ys h1
  obtain ⟨s1, s2⟩ := new_F b k2
  exact ⟨_, _, _, k1, s1, s2⟩
def addL2 : Y → Y → Option (List Y)
  | .lst _ xs, .lst _ ys => if fit (xs.length + ys.length) = true then some (xs ++ ys) else none
  | _, _ => none
theorem nl_add : NL2 addD addL2 := fun P S d e x z f f' hx hz ys q => by
  unfold addL2 at q
  split at q
  · split at q
    · rename_i c
      cases q
      exact add_lst hx hz c
    · cases q
  · cases q
def kY : Key → Y
  | .inl i => .int i
  | .inr x => .str x
theorem Owns.ofKeys : ∀ ks : List Key, Owns P S (ks.map kD) (ks.map kY) []
  | [] => .nil
  | .inl i :: r => .cons0 (.int i) (Owns.ofKeys r)
  | .inr i :: r => .cons0 (.str i) (Owns.ofKeys r)
def keysY : Y → Option (List Key)
  | .dct _ kvs => some (kvs.map (·.1))
  | _ => none
theorem keysY_ok {ks : List Key} (h : Own P S d x f) (e : keysY x = some ks) : keysS S d = some ks := by
  cases h with
  | dctF l kvs kys p g c r => cases e; rw [keysS_loc, g]; simp [c]
  | dctO l kvs kys f n p g c r => cases e; rw [keysS_loc, g]; simp [c]
  | _ => cases e
theorem keysY_seq {ks : List Key} (h : Own P S d x f) (e : keysY x = some ks) : seqS S d = none := by
  cases h with
  | dctF l kvs kys p g c r => rw [seqS_loc, g]; rfl
  | dctO l kvs kys f n p g c r => rw [seqS_loc, g]; rfl
  | _ => cases e
def listL (x : Y) : Option (List Y) := match seqY x with
  | some xs => some xs
  | none => (keysY x).map fun ks => ks.map kY
theorem nl_list : NL1 listD listL := fun P S d x f hx ys q => by
  unfold listL at q
  split at q
  · rename_i xs h1
    cases q
    obtain ⟨ds, k1, k2⟩ := seqY_ok hx h1
    exact ⟨ds, by unfold listD; rw [k1]; rfl, k2⟩
  · obtain ⟨ks, h1, rfl⟩ := Option.map_eq_some_iff.mp q
    exact ⟨ks.map kD, by unfold listD; rw [keysY_seq hx h1, keysY_ok hx h1]; rfl, .ofKeys ks⟩
def intsY : List Y → Option (List Int)
  | [] => some []
  | .int i :: r => (intsY r).map fun q => i :: q
  | _ :: _ => none
@[simp] theorem intsY_map : ∀ ns : List Int, intsY (ns.map .int) = some ns
  | [] => rfl
  | n :: r => by rw [List.map_cons, intsY, intsY_map r]; rfl
theorem intsY_ok : ∀ {ds : List D} {ys : List Y} {ns : List Int}, Owns P S ds ys [] → intsY ys = some ns → intsOf ds = some ns
  | [], ys, ns, h, q => by cases h; exact q
  | d :: ds, ys, ns, h, q => by
    obtain ⟨y, r, rfl⟩ := h.inv1
    obtain ⟨a1, a2⟩ := h.inv0
    cases a1 with
    | int i =>
      obtain ⟨ms, h1, rfl⟩ := Option.map_eq_some_iff.mp (show (intsY r).map _ = some ns from q)
      unfold intsOf
      rw [intsY_ok a2 h1]
      rfl
    | _ => cases q
theorem Owns.ofInts : ∀ ns : List Int, Owns P S (ns.map .int) (ns.map .int) []
  | [] => .nil
  | n :: r => .cons0 (.int n) (Owns.ofInts r)
theorem lstS_seq {xs : List D} (h : lstS S d = some xs) : seqS S d = some xs := by
  cases d <;> first | exact h | cases h
def sortL (x : Y) : Option (List Y) := match lstY x with
  | some xs => (intsY xs).map fun ns => (isort ns).map .int
  | none => match keysY x with
    | some ks => (intKeys ks).map fun ns => (isort ns).map .int
    | none => none
theorem keysY_lst {ks : List Key} (h : Own P S d x f) (e : keysY x = some ks) : lstS S d = none := by
  cases h with
  | dctF l kvs kys p g c r => rw [lstS_loc, g]; rfl
  | dctO l kvs kys f n p g c r => rw [lstS_loc, g]; rfl
  | _ => cases e
theorem nl_sort : NL1 sortD sortL := fun P S d x f hx ys q => by
  unfold sortL at q
  split at q
  · rename_i xs h1
    obtain ⟨ns, h2, rfl⟩ := Option.map_eq_some_iff.mp q
    obtain ⟨ds, k1, k2⟩ := lstY_ok hx h1
    exact ⟨_, sortD_e (by unfold sortQ; rw [k1]; exact intsY_ok k2 h2), .ofInts _⟩
  · split at q
    · rename_i ks h1
      obtain ⟨ns, h2, rfl⟩ := Option.map_eq_some_iff.mp q
      exact ⟨_, sortD_e (by unfold sortQ; rw [keysY_lst hx h1, keysY_ok hx h1]; exact h2), .ofInts _⟩
    · cases q
def sortSetL (x : Y) : Option (List Y) := match seqY x with
  | some xs => match intsY xs with
    | some ns => if scan ns.length = true then some ((usort ns).map .int) else none
    | none => none
  | none => none
theorem nl_sortSet : NL1 sortSetD sortSetL := fun P S d x f hx ys q => by
  unfold sortSetL at q
  split at q
  · rename_i xs h1
    split at q
    · rename_i ns h2
      split at q
      · rename_i c
        cases q
        obtain ⟨ds, k1, k2⟩ := seqY_ok hx h1
        refine ⟨_, ?_, .ofInts _⟩
        unfold sortSetD
        rw [k1]
        simp only [intsY_ok k2 h2, c, if_true]
        rfl
      · cases q
    · cases q
  · cases q
def tupleY (x : Y) : Option Y := (seqY x).map .tup
theorem b_tuple : B1 tupleD tupleY := fun P S d x f b hx y q => by
  obtain ⟨xs, h1, rfl⟩ := Option.map_eq_some_iff.mp q
  obtain ⟨ds, k1, k2⟩ := seqY_ok hx h1
  exact ⟨_, S, P, tupleD_e k1, .refl b, .tup _ _ k2⟩
def sumY (x : Y) : Option Y := match lstY x with
  | some xs => (intsY xs).map fun ns => .int ns.sum
  | none => none
theorem b_sum : B1 sumD sumY := fun P S d x f b hx y q => by
  unfold sumY at q
  split at q
  · rename_i xs h1
    obtain ⟨ns, h2, rfl⟩ := Option.map_eq_some_iff.mp q
    obtain ⟨ds, k1, k2⟩ := lstY_ok hx h1
    exact ⟨_, S, P, by unfold sumD; rw [k1]; simp only [intsY_ok k2 h2], .refl b, .int _⟩
  · cases q
def blsY : List Y → Option (List Bool)
  | [] => some []
  | .bl i :: r => (blsY r).map fun q => i :: q
  | _ :: _ => none
@[simp] theorem blsY_map : ∀ ns : List Bool, blsY (ns.map .bl) = some ns
  | [] => rfl
  | n :: r => by rw [List.map_cons, blsY, blsY_map r]; rfl
theorem blsY_ok : ∀ {ds : List D} {ys : List Y} {ns : List Bool}, Owns P S ds ys [] → blsY ys = some ns → blsOf ds = some ns
  | [], ys, ns, h, q => by cases h; exact q
  | d :: ds, ys, ns, h, q => by
    obtain ⟨y, r, rfl⟩ := h.inv1
    obtain ⟨a1, a2⟩ := h.inv0
    cases a1 with
    | bl i =>
      obtain ⟨ms, h1, rfl⟩ := Option.map_eq_some_iff.mp (show (blsY r).map _ = some ns from q)
      unfold blsOf
      rw [blsY_ok a2 h1]
      rfl
    | _ => cases q
def allY (x : Y) : Option Y := match lstY x with
  | some xs => (blsY xs).map fun ns => .bl (ns.all id)
  | none => none
def anyY (x : Y) : Option Y := match lstY x with
  | some xs => (blsY xs).map fun ns => .bl (ns.any id)
  | none => none
theorem b_all : B1 allD allY := fun P S d x f b hx y q => by
  unfold allY at q
  split at q
  · rename_i xs h1
    obtain ⟨ns, h2, rfl⟩ := Option.map_eq_some_iff.mp q
    obtain ⟨ds, k1, k2⟩ := lstY_ok hx h1
    exact ⟨_, S, P, by unfold allD; rw [k1]; simp only [blsY_ok k2 h2], .refl b, .bl _⟩
  · cases q
theorem b_any : B1 anyD anyY := fun P S d x f b hx y q => by
  unfold anyY at q
  split at q
  · rename_i xs h1
    obtain ⟨ns, h2, rfl⟩ := Option.map_eq_some_iff.mp q
    obtain ⟨ds, k1, k2⟩ := lstY_ok hx h1
    exact ⟨_, S, P, by unfold anyD; rw [k1]; simp only [blsY_ok k2 h2], .refl b, .bl _⟩
  · cases q
def tyY : Y → Option TK
  | .non => some (.inl "NoneType")
  | .bl _ => some (.inl "bool")
  | .int _ => some (.inl "int")
  | .str _ => some (.inl "str")
  | .tup _ => some (.inl "tuple")
  | .lst _ _ => some (.inl "list")
  | .dct _ _ => some (.inl "dict")
  | .ins _ c _ => some (.inr c)
  | _ => none
theorem tyY_ok {t : TK} (h : Own P S d x f) (e : tyY x = some t) : tyQ d S = some t := by
  cases h with
  | lstF l ds ys p g r => cases e; show tyO S[l]? = _; rw [g]; rfl
  | lstO l ds ys p g r => cases e; show tyO S[l]? = _; rw [g]; rfl
  | dctF l ds ys p g k r => cases e; show tyO S[l]? = _; rw [g]; rfl
  | dctO l ds ys _ p _ g k r => cases e; show tyO S[l]? = _; rw [g]; rfl
  | insF l c ds ys p g k r => cases e; show tyO S[l]? = _; rw [g]; rfl
  | insO l c ds ys _ p _ g k r => cases e; show tyO S[l]? = _; rw [g]; rfl
  | _ => first | (cases e; rfl) | cases e
def clY : Y → Option TK
  | .ty n => some (.inl n)
  | .cls c => some (.inr c)
  | _ => none
def isiY (J : TK → TK → Option Bool) (x c : Y) : Option Y := match tyY x, clY c with
  | some t, some k => (J t k).map .bl
  | _, _ => none
theorem b_isi {J : TK → TK → Option Bool} : B2 (isiD J) (isiY J) := fun P S d e x z f f' b hx hz y q => by
  unfold isiY at q
  split at q
  · rename_i t k h1 h2
    obtain ⟨w, h3, rfl⟩ := Option.map_eq_some_iff.mp q
    have h4 : clQ e = some k := by cases hz <;> first | exact h2 | cases h2
    refine ⟨.bl w, S, P, ?_, .refl b, .bl _⟩
    unfold isiD isiQ
    rw [tyY_ok hx h1, h4]
    simp only [h3]
    rfl
  · cases q
/-! ### slices -/
def cutG {α : Type} (xs : List α) (lo hi : Option Int) : List α := (xs.drop (HT.sIx xs.length 0 lo)).take (HT.sIx xs.length xs.length hi - HT.sIx xs.length 0 lo)
theorem cut_ok {lo hi : Option Int} (h : Owns P S ds ys []) : Owns P S (Sm.cutD ds lo hi) (cutG ys lo hi) [] := by
  unfold Sm.cutD cutG
  rw [h.length]
  exact (h.drop0 _).take0 _
def XPt (O : List Nat) (f : En → Mo (Option Int)) (g : VEn → Option (Option Int)) : Prop := ∀ P S ρ σ φ, Bd P S → Fr O P S ρ σ φ → ∀ y, g σ = some y → ∃ S' P', f ρ S = .ok y S' ∧ Stp P S NoU P' S'
def vPt0 : VEn → Option (Option Int) := fun _ => some none
def vPt (g : VEn → Option Y) : VEn → Option (Option Int) := fun σ => match g σ with
  | some (.int i) => some (some i)
  | _ => none
theorem xp_none : XPt O (cPart none) vPt0 := fun P S ρ σ φ b r y e => by cases e; exact ⟨S, P, rfl, .refl b⟩
theorem xp_some {f : DE} {g : VEn → Option Y} (h : XV O f g) : XPt O (cPart (some f)) (vPt g) := fun P S ρ σ φ b r y e => by
  unfold vPt at e
  split at e
  · rename_i i q
    cases e
    obtain ⟨d, S1, P1, h1, h2, h3⟩ := h P S ρ σ φ b r _ q
    cases h3
    exact ⟨S1, P1, by simp [h1], h2⟩
  · cases e
def slY (lo hi : Option Int) : Y → Option Y
  | .tup xs => some (.tup (cutG xs lo hi))
  | .lsc xs => some (.lst false (cutG xs lo hi))
  | .lst _ xs => some (.lst false (cutG xs lo hi))
  | .str z => if fit z.length = true then some (.str (cutS z lo hi)) else none
  | _ => none
def slL (lo hi : Option Int) : Y → Option (List Y)
  | .lsc xs => some (cutG xs lo hi)
  | .lst _ xs => some (cutG xs lo hi)
  | _ => none
theorem nl_sl {lo hi : Option Int} : NL1 (slD lo hi) (slL lo hi) := fun P S d x f hx ys q => by
  cases hx with
  | lsc ds ys r => cases q; exact ⟨_, rfl, cut_ok r⟩
  | lstF l ds ys p g r => cases q; exact ⟨_, by show slO lo hi S S[l]? = _; rw [g]; rfl, cut_ok r⟩
  | lstO l ds ys p g r => cases q; exact ⟨_, by show slO lo hi S S[l]? = _; rw [g]; rfl, cut_ok r⟩
  | _ => cases q
theorem b_sl {lo hi : Option Int} : B1 (slD lo hi) (slY lo hi) := fun P S d x f b hx y q => by
  cases hx with
  | tup ds ys r => cases q; exact ⟨_, S, P, rfl, .refl b, .tup _ _ (cut_ok r)⟩
  | lsc ds ys r => cases q; exact (nl_sl (lo := lo) (hi := hi)).b P S _ _ _ b (.lsc ds ys r) _ rfl
  | lstF l ds ys p g r => cases q; exact (nl_sl (lo := lo) (hi := hi)).b P S _ _ _ b (.lstF l ds ys p g r) _ rfl
  | lstO l ds ys p g r => cases q; exact (nl_sl (lo := lo) (hi := hi)).b P S _ _ _ b (.lstO l ds ys p g r) _ rfl
  | str z =>
    have q : (if fit z.length = true then some (Y.str (cutS z lo hi)) else none) = some y := q
    split at q
    · rename_i c; cases q; exact ⟨_, S, P, by show (if fit z.length = true then _ else _) = _; rw [if_pos c], .refl b, .str _⟩
    · cases q
  | _ => cases q
def vSl (g : VEn → Option Y) (gl gh : VEn → Option (Option Int)) : VEn → Option Y := fun σ => (g σ).bind fun x => (gl σ).bind fun l => (gh σ).bind fun h => slY l h x
theorem xv_sl {f : DE} {g : VEn → Option Y} {fl fh : En → Mo (Option Int)} {gl gh : VEn → Option (Option Int)} (h : XB O f g) (hl : XPt O fl gl) (hh : XPt O fh gh) : XV O (cSl f fl fh) (vSl g gl gh) := fun P S ρ σ φ b r y e => by
  obtain ⟨y1, e1, e2⟩ := Option.bind_eq_some_iff.mp e
  obtain ⟨lo, e3, e4⟩ := Option.bind_eq_some_iff.mp e2
  obtain ⟨hi, e5, e6⟩ := Option.bind_eq_some_iff.mp e4
  obtain ⟨d, S1, P1, a, h1, h2, h3, h4⟩ := h P S ρ σ φ b r _ e1
  obtain ⟨S2, P2, k1, k2⟩ := hl P1 S1 ρ σ φ h2.bnd (r.st0 h2 b) _ e3
  obtain ⟨S3, P3, j1, j2⟩ := hh P2 S2 ρ σ φ k2.bnd (r.st0 (h2.tr0 k2) b) _ e5
  obtain ⟨u, S4, P4, i1, i2, i3⟩ := b_sl P3 S3 d y1 a j2.bnd (h3.st0 (k2.tr0 j2) h2.bnd) y e6
  exact ⟨u, S4, P4, by simp [h1, k1, j1, i1], ((h2.tr0 k2).tr0 j2).tr0 i2, i3⟩
/-! ### index -/
def idxY (y : Y) : List Y → Nat → Option Nat
  | [], _ => none
  | x :: r, k => if eqFY x y = true then some k else idxY y r (k + 1)
def indexY (x y : Y) : Option Y := match lstY x with
  | some xs => if (flatY y && xs.all flatY) = true then (idxY y xs 0).map fun j => .int (j : Nat) else none
  | none => none
theorem all_flat : ∀ {es : List D} {ys : List Y}, Owns P S es ys [] → es.all flatD = ys.all flatY
  | [], ys, o => by cases o; rfl
  | e :: es, ys, o => by
    obtain ⟨y, r, rfl⟩ := o.inv1
    obtain ⟨a1, a2⟩ := o.inv0
    rw [List.all_cons, List.all_cons, own_flat a1, all_flat a2]
theorem idxY_ok (h : Own P S d x f) (c : flatY x = true) : ∀ {es : List D} {ys : List Y} {n : Nat}, Owns P S es ys [] → ys.all flatY = true → idxL d es n = idxY x ys n
  | [], ys, n, o, _ => by cases o; rfl
  | e :: es, ys, n, o, c2 => by
    obtain ⟨y, r, rfl⟩ := o.inv1
    obtain ⟨a1, a2⟩ := o.inv0
    rw [List.all_cons, Bool.and_eq_true] at c2
    unfold idxL idxY
    rw [own_eqF a1 h (by rw [c2.1, c]; rfl), idxY_ok h c a2 c2.2]
theorem b_index : B2 indexD indexY := fun P S d e x z f f' b hx hz y q => by
  unfold indexY at q
  split at q
  · rename_i xs h1
    split at q
    · rename_i c
      obtain ⟨j, h2, rfl⟩ := Option.map_eq_some_iff.mp q
      obtain ⟨ds, k1, k2⟩ := lstY_ok hx h1
      refine ⟨.int (j : Nat), S, P, ?_, .refl b, .int _⟩
      unfold indexD
      rw [k1]
      simp only
      rw [own_flat hz, all_flat k2, if_pos c]
      rw [Bool.and_eq_true] at c
      rw [idxY_ok hz c.1 k2 c.2, h2]
    · cases q
  · cases q
/-! ### what is walked -/
def WkR (P : Nat → Prop) (S : Sto) (w : Wk) (ys : List Y) : Prop := ∃ ds, Owns P S ds ys [] ∧ match w with
  | .items es => es = ds
  | .view nx n => n = ds.length ∧ ∀ S'', (∀ l, P l → S''[l]? = S[l]?) → ∀ i, nx i S'' = some ds[i]?
def XI (O : List Nat) (f : En → Mo Wk) (g : VEn → Option (List Y)) : Prop := ∀ P S ρ σ φ, Bd P S → Fr O P S ρ σ φ → ∀ y, g σ = some y → ∃ w S' P', f ρ S = .ok w S' ∧ Stp P S NoU P' S' ∧ WkR P' S' w y
def itY : Y → Option (List Y)
  | .tup xs => some xs
  | .lsc xs => some xs
  | .lst false xs => some xs
  | .str x => some (x.cps.toList.map fun c => .str ⟨#[c]⟩)
  | _ => none
theorem Owns.ofStrs : ∀ ns : List Nat, Owns P S (ns.map fun c => D.str ⟨#[c]⟩) (ns.map fun c => Y.str ⟨#[c]⟩) []
  | [] => .nil
  | n :: r => .cons0 (.str _) (Owns.ofStrs r)
theorem itY_ok (h : Own P S d x f) (q : itY x = some ys) : ∃ w, itD d S = .ok w S ∧ WkR P S w ys := by
  cases h with
  | tup ds _ r => cases q; exact ⟨_, rfl, ds, r, rfl⟩
  | lsc ds _ r => cases q; exact ⟨_, rfl, ds, r, rfl⟩
  | str x => cases q; exact ⟨_, rfl, _, .ofStrs _, rfl⟩
  | lstF l ds _ p g r => cases q; exact ⟨.view (liveX l) ds.length, by rw [itD_loc, g], ds, r, rfl, fun S'' h i => by rw [liveX_e, h l p, g]; rfl⟩
  | _ => cases q
def vIt (g : VEn → Option Y) : VEn → Option (List Y) := fun σ => (g σ).bind itY
theorem xi_it {fe : DE} {g : VEn → Option Y} (h : XV O fe g) : XI O (cIt fe) (vIt g) := fun P S ρ σ φ b r y e => by
  obtain ⟨y1, e1, e2⟩ := Option.bind_eq_some_iff.mp e
  obtain ⟨d, S1, P1, h1, h2, h3⟩ := h P S ρ σ φ b r _ e1
  obtain ⟨w, k1, k2⟩ := itY_ok h3 e2
  exact ⟨w, S1, P1, by simp [h1, k1], h2, k2⟩
def rgY (lo : Int) (n : Nat) : List Y := (List.range n).map fun i => Y.int (lo + (i : Nat))
theorem rg_own {lo : Int} {n : Nat} : Owns P S (rgD lo n) (rgY lo n) [] := by
  unfold rgD rgY
  generalize List.range n = l
  induction l with
  | nil => exact .nil
  | cons a r ih => exact .cons0 (.int _) ih
def rng1Y : List Y → Option (List Y)
  | [.int j] => if okR j = true then some (rgY 0 j.toNat) else none
  | _ => none
def rng2Y : List Y → Option (List Y)
  | [.int i, .int j] => if (okR i && okR j) = true then some (rgY i (j - i).toNat) else none
  | _ => none
def vRng (h : List Y → Option (List Y)) (gs : VEn → Option (List Y)) : VEn → Option (List Y) := fun σ => (gs σ).bind h
def WL (h : List D → Mo Wk) (hY : List Y → Option (List Y)) : Prop := ∀ P S ds xs, Bd P S → Owns P S ds xs [] → ∀ ys, hY xs = some ys → ∃ w, h ds S = .ok w S ∧ WkR P S w ys
theorem w_rng1 : WL rng1 rng1Y := fun P S ds xs b h ys q => by
  unfold rng1Y at q
  split at q
  · split at q
    · rename_i c
      cases q
      obtain ⟨d, r, rfl⟩ := h.inv2
      obtain ⟨a1, a2⟩ := h.inv0
      cases a1; cases a2
      exact ⟨_, by show (if okR _ = true then _ else _) = _; rw [if_pos c], _, rg_own, rfl⟩
    · cases q
  · cases q
theorem w_rng2 : WL rng2 rng2Y := fun P S ds xs b h ys q => by
  unfold rng2Y at q
  split at q
  · split at q
    · rename_i c
      cases q
      obtain ⟨d, r, rfl⟩ := h.inv2
      obtain ⟨a1, a2⟩ := h.inv0
      obtain ⟨d, r, rfl⟩ := a2.inv2
      obtain ⟨b1, b2⟩ := a2.inv0
      cases a1; cases b1; cases b2
      exact ⟨_, by show (if (okR _ && okR _) = true then _ else _) = _; rw [if_pos c], _, rg_own, rfl⟩
    · cases q
  · cases q
/-- a list that stands fast, later -/
theorem lstS_fast (h : Own P S d x []) (q : lstY x = some xs) : ∃ ds, Owns P S ds xs [] ∧ lstS S d = some ds ∧ ∀ S'', (∀ l, P l → S''[l]? = S[l]?) → lstS S'' d = some ds := by
  cases h with
  | lsc ds ys r => cases q; exact ⟨ds, r, rfl, fun _ _ => rfl⟩
  | lstF l ds ys p g r => cases q; exact ⟨ds, r, by rw [lstS_loc, g]; rfl, fun S'' h => by rw [lstS_loc, h l p, g]; rfl⟩
  | _ => cases q
def enumFrom (n : Nat) : List Y → List Y
  | [] => []
  | x :: r => .tup [.int (n : Nat), x] :: enumFrom (n + 1) r
def enumD (n : Nat) : List D → List D
  | [] => []
  | x :: r => .tup [.int (n : Nat), x] :: enumD (n + 1) r
theorem enumD_get : ∀ {ds : List D} {n i : Nat}, (enumD n ds)[i]? = ds[i]?.map fun x => .tup [.int ((n + i : Nat) : Int), x]
  | [], n, i => by simp [enumD]
  | d :: ds, n, 0 => by simp [enumD]
  | d :: ds, n, i + 1 => by
    simp only [enumD, List.getElem?_cons_succ]
    rw [enumD_get]
    congr 1
    funext x
    rw [show n + 1 + i = n + (i + 1) by omega]
theorem enumD_len : ∀ {ds : List D} {n : Nat}, (enumD n ds).length = ds.length
  | [], _ => rfl
  | d :: ds, n => by simp [enumD, enumD_len]
theorem enum_own : ∀ {ds : List D} {ys : List Y} {n : Nat}, Owns P S ds ys [] → Owns P S (enumD n ds) (enumFrom n ys) []
  | [], ys, n, h => by cases h; exact .nil
  | d :: ds, ys, n, h => by
    obtain ⟨y, r, rfl⟩ := h.inv1
    obtain ⟨a1, a2⟩ := h.inv0
    exact .cons0 (.tup _ _ (.cons0 (.int _) (.cons0 a1 .nil))) (enum_own a2)
def enumY : List Y → Option (List Y)
  | [x] => (seqY x).map (enumFrom 0)
  | _ => none
theorem seqS_fast {d : D} {x : Y} {xs : List Y} (h : Own P S d x []) (q : seqY x = some xs) : ∃ ds, Owns P S ds xs [] ∧ seqS S d = some ds ∧ ∀ S'', (∀ l, P l → S''[l]? = S[l]?) → seqS S'' d = some ds := by
  cases h with
  | tup ds ys r => cases q; exact ⟨ds, r, rfl, fun _ _ => rfl⟩
  | lsc ds ys r => cases q; exact ⟨ds, r, rfl, fun _ _ => rfl⟩
  | lstF l ds ys p g r => cases q; exact ⟨ds, r, by show lstO S[l]? = _; rw [g]; rfl, fun S'' h => by show lstO S''[l]? = _; rw [h l p, g]; rfl⟩
  | _ => cases q
theorem w_enum : WL enumI enumY := fun P S ds xs b h ys q => by
  unfold enumY at q
  split at q
  · obtain ⟨zs, h1, rfl⟩ := Option.map_eq_some_iff.mp q
    obtain ⟨d, r, rfl⟩ := h.inv2
    obtain ⟨a1, a2⟩ := h.inv0
    cases a2
    obtain ⟨es, k1, k2, k3⟩ := seqS_fast a1 h1
    refine ⟨.view (enumX (seqF d)) ((seqS S d).getD []).length, ?_, enumD 0 es, enum_own k1, ?_, fun S'' hs i => ?_⟩
    · show (if (seqS S d).isSome = true then _ else _) = _
      rw [k2]; rfl
    · rw [k2, enumD_len]; rfl
    · unfold enumX seqF
      rw [k3 S'' hs, enumD_get]
      simp
  · cases q
def zipT : List Y → List Y → List Y
  | x :: xs, y :: ys => .tup [x, y] :: zipT xs ys
  | _, _ => []
def zipD : List D → List D → List D
  | x :: xs, y :: ys => .tup [x, y] :: zipD xs ys
  | _, _ => []
theorem zipD_get : ∀ {xs ys : List D} {i : Nat}, (zipD xs ys)[i]? = match xs[i]?, ys[i]? with
    | some x, some y => some (.tup [x, y])
    | _, _ => none
  | [], ys, i => by simp [zipD]
  | x :: xs, [], i => by cases i <;> simp [zipD]
  | x :: xs, y :: ys, 0 => by simp [zipD]
  | x :: xs, y :: ys, i + 1 => by simp [zipD]; exact zipD_get
theorem zipD_len : ∀ {xs ys : List D}, (zipD xs ys).length = min xs.length ys.length
  | [], ys => by simp [zipD]
  | x :: xs, [] => by simp [zipD]
  | x :: xs, y :: ys => by simp [zipD, zipD_len]
theorem zip_own : ∀ {ds es : List D} {xs ys : List Y}, Owns P S ds xs [] → Owns P S es ys [] → Owns P S (zipD ds es) (zipT xs ys) []
  | [], es, xs, ys, h, _ => by cases h; exact .nil
  | d :: ds, [], xs, ys, h, h' => by
    cases h'
    obtain ⟨y, r, rfl⟩ := h.inv1
    exact .nil
  | d :: ds, e :: es, xs, ys, h, h' => by
    obtain ⟨y, r, rfl⟩ := h.inv1
    obtain ⟨a1, a2⟩ := h.inv0
    obtain ⟨y, r, rfl⟩ := h'.inv1
    obtain ⟨b1, b2⟩ := h'.inv0
    exact .cons0 (.tup _ _ (.cons0 a1 (.cons0 b1 .nil))) (zip_own a2 b2)
def zipY : List Y → Option (List Y)
  | [x, y] => (lstY x).bind fun xs => (lstY y).map (zipT xs)
  | _ => none
theorem w_zip : WL zipI zipY := fun P S ds xs b h ys q => by
  unfold zipY at q
  split at q
  · obtain ⟨zs, h1, h2⟩ := Option.bind_eq_some_iff.mp q
    obtain ⟨zs', h3, rfl⟩ := Option.map_eq_some_iff.mp h2
    obtain ⟨d, r, rfl⟩ := h.inv2
    obtain ⟨a1, a2⟩ := h.inv0
    obtain ⟨d', r, rfl⟩ := a2.inv2
    obtain ⟨b1, b2⟩ := a2.inv0
    cases b2
    obtain ⟨es, k1, k2, k3⟩ := lstS_fast a1 h1
    obtain ⟨es', j1, j2, j3⟩ := lstS_fast b1 h3
    refine ⟨.view (zipX (lstF d) (lstF d')) (min (lenLs S d) (lenLs S d')), ?_, zipD es es', zip_own k1 j1, ?_, fun S'' hs i => ?_⟩
    · show (if ((lstS S d).isSome && (lstS S d').isSome) = true then _ else _) = _
      rw [k2, j2]; rfl
    · unfold lenLs; rw [k2, j2, zipD_len]
      first | done | rfl
    · unfold zipX lstF
      rw [k3 S'' hs, j3 S'' hs, zipD_get]
      simp only
      cases es[i]? <;> cases es'[i]? <;> rfl
  · cases q
theorem xi_rng {h : List D → Mo Wk} {hY : List Y → Option (List Y)} {fs : En → Mo (List D)} {gs : VEn → Option (List Y)} (H : WL h hY) (hs : XVs O fs gs) : XI O (cRng h fs) (vRng hY gs) := fun P S ρ σ φ b r y e => by
  obtain ⟨y1, e1, e2⟩ := Option.bind_eq_some_iff.mp e
  obtain ⟨d, S1, P1, h1, h2, h3⟩ := hs P S ρ σ φ b r _ e1
  obtain ⟨w, k1, k2⟩ := H P1 S1 d y1 h2.bnd h3 y e2
  exact ⟨w, S1, P1, by simp [h1, k1], h2, k2⟩
end
end Sm
end
section
/-! Sm, part T: comprehensions; calls that change nothing; expressions that change what is owned. -/
namespace Sm
open PySem PySem.Spec PyProof.Rows L2
section
variable {O : List Nat} {P P' P'' : Nat → Prop} {S S' S'' : Sto} {ρ ρ' : En} {σ σ' : VEn} {φ : Nat → List Nat} {d e : D} {x y z k : Y} {ds : List D} {xs ys : List Y} {f f' : List Nat} {U U' U'' : Nat → Prop}
/-! ### frames changed -/
def fset (φ : Nat → List Nat) (i : Nat) (a : List Nat) : Nat → List Nat := fun j => if j = i then a else φ j
theorem fset_self {i : Nat} {a : List Nat} : fset φ i a i = a := if_pos rfl
theorem fset_ne {i j : Nat} {a : List Nat} (h : j ≠ i) : fset φ i a j = φ j := if_neg h
theorem Fr.set (h : Fr O P S ρ σ φ) {i : Nat} {a : List Nat} (o : Own P S d y a) (ha : ∀ j, j ≠ i → ∀ l ∈ a, l ∉ φ j) (hi : i ∈ O ∨ a = []) :
    ∃ φ', Fr O P S (ρ.set i (some d)) (σ.set i (some y)) φ' ∧ ∀ l, Uf φ' l → Uf φ l ∨ l ∈ a := by
  by_cases hl : i < σ.length
  · refine ⟨fset φ i a, ⟨by simp [h.len], fun j z q => ?_, fun j hj => ?_, fun j q => ?_, fun j k hjk l hl1 hl2 => ?_⟩, ?_⟩
    · by_cases hj : j = i
      · subst hj
        rw [List.getElem?_set_self hl] at q
        cases q
        rw [fset_self]
        exact ⟨d, List.getElem?_set_self (by rw [h.len]; exact hl), o⟩
      · rw [List.getElem?_set_ne (fun z => hj z.symm)] at q
        rw [fset_ne hj, List.getElem?_set_ne (fun z => hj z.symm)]
        exact h.at_ j z q
    · by_cases hj2 : j = i
      · subst hj2
        rw [fset_self]
        exact hi.resolve_left hj
      · rw [fset_ne hj2]; exact h.val j hj
    · by_cases hj : j = i
      · subst hj
        exact absurd (List.getElem?_set_self hl) (q y)
      · rw [fset_ne hj]
        refine h.emp j fun z w => q z ?_
        rw [List.getElem?_set_ne (fun z => hj z.symm)]; exact w
    · by_cases hj : j = i
      · subst hj
        rw [fset_self] at hl1
        rw [fset_ne (fun z => hjk z.symm)] at hl2
        exact ha k (fun z => hjk z.symm) l hl1 hl2
      · rw [fset_ne hj] at hl1
        by_cases hk : k = i
        · subst hk
          rw [fset_self] at hl2
          exact ha j hj l hl2 hl1
        · rw [fset_ne hk] at hl2
          exact h.dis j k hjk l hl1 hl2
    · rintro l ⟨j, hj⟩
      by_cases hji : j = i
      · subst hji; rw [fset_self] at hj; exact .inr hj
      · rw [fset_ne hji] at hj; exact .inl ⟨j, hj⟩
  · refine ⟨φ, ?_, fun l q => .inl q⟩
    have hr := h.len
    rw [List.set_eq_of_length_le (show ρ.length ≤ i by omega), List.set_eq_of_length_le (show σ.length ≤ i by omega)]
    exact h
theorem Fr.set0 (h : Fr O P S ρ σ φ) {i : Nat} (hi : i ∉ O) (o : Own P S d y []) : Fr O P S (ρ.set i (some d)) (σ.set i (some y)) φ := by
  have h0 := h.val i hi
  refine ⟨by simp [h.len], fun j z q => ?_, h.val, fun j q => ?_, h.dis⟩
  · by_cases hj : j = i
    · subst hj
      have hl : j < σ.length := by
        have := (List.getElem?_eq_some_iff.mp q).1
        simpa using this
      rw [List.getElem?_set_self hl] at q
      cases q
      rw [h0]
      exact ⟨d, List.getElem?_set_self (by rw [h.len]; exact hl), o⟩
    · rw [List.getElem?_set_ne (fun z => hj z.symm)] at q
      rw [List.getElem?_set_ne (fun z => hj z.symm)]
      exact h.at_ j z q
  · by_cases hj : j = i
    · subst hj; exact h0
    · refine h.emp j fun z w => q z ?_
      rw [List.getElem?_set_ne (fun z => hj z.symm)]; exact w
/-- names forgotten; rows that agree else -/
def wipeV (σ : VEn) : List Nat → VEn
  | [] => σ
  | v :: vs => (wipeV σ vs).set v none
theorem wipeV_len : ∀ vs : List Nat, (wipeV σ vs).length = σ.length
  | [] => rfl
  | v :: vs => by simp [wipeV, wipeV_len vs]
theorem wipeV_get {i : Nat} : ∀ {vs : List Nat}, (wipeV σ vs)[i]? = some (some y) → σ[i]? = some (some y) ∧ i ∉ vs
  | [], h => ⟨h, by simp⟩
  | v :: vs, h => by
    unfold wipeV at h
    by_cases hv : i = v
    · subst hv
      have hl := (List.getElem?_eq_some_iff.mp h).1
      rw [List.length_set] at hl
      rw [List.getElem?_set_self hl] at h
      cases h
    · rw [List.getElem?_set_ne (fun z => hv z.symm)] at h
      obtain ⟨h1, h2⟩ := wipeV_get h
      exact ⟨h1, by simp [hv, h2]⟩
theorem Fr.wipe (h : Fr O P S ρ σ φ) {vs : List Nat} (hv : ∀ i ∈ vs, i ∉ O) (hl : ρ'.length = ρ.length) (ha : ∀ i, i ∉ vs → ρ'[i]? = ρ[i]?) : Fr O P S ρ' (wipeV σ vs) φ := by
  refine ⟨by rw [hl, h.len, wipeV_len], fun i y q => ?_, h.val, fun i q => ?_, h.dis⟩
  · obtain ⟨h1, h2⟩ := wipeV_get q
    rw [ha i h2]
    exact h.at_ i y h1
  · by_cases hi : i ∈ vs
    · exact h.val i (hv i hi)
    · refine h.emp i fun y w => q y ?_
      have : ∀ {vs : List Nat}, i ∉ vs → (wipeV σ vs)[i]? = σ[i]? := fun {vs} => by
        induction vs with
        | nil => intro _; rfl
        | cons v vs ih =>
          intro hn
          simp at hn
          unfold wipeV
          rw [List.getElem?_set_ne (fun z => hn.1 z.symm)]
          exact ih hn.2
      rw [this hi]; exact w
theorem wipeE_len : ∀ vs : List Nat, (wipeE ρ vs).length = ρ.length
  | [] => rfl
  | v :: vs => by simp [wipeE, wipeE_len vs]
theorem wipeE_out {i : Nat} : ∀ {vs : List Nat}, i ∉ vs → (wipeE ρ vs)[i]? = ρ[i]?
  | [], _ => rfl
  | v :: vs, h => by
    simp at h
    unfold wipeE
    rw [List.getElem?_set_ne (fun z => h.1 z.symm)]
    exact wipeE_out h.2
def setAllV (σ : VEn) : List Nat → List Y → VEn
  | i :: is, y :: ys => setAllV (σ.set i (some y)) is ys
  | _, _ => σ
def putV (σ : VEn) : CT → Y → Option VEn
  | .one i, y => some (σ.set i (some y))
  | .many is, .tup ys => if ys.length = is.length then some (setAllV σ is ys) else none
  | .many _, _ => none
theorem setAll_ok : ∀ {is : List Nat} {ρ : En} {σ : VEn} {ds : List D} {ys : List Y}, Fr O P S ρ σ φ → (∀ i ∈ is, i ∉ O) → Owns P S ds ys [] → Fr O P S (setAll ρ is ds) (setAllV σ is ys) φ
  | [], _, _, _, _, h, _, _ => h
  | i :: is, _, _, [], ys, h, _, o => by cases o; exact h
  | i :: is, ρ, σ, d :: ds, ys, h, hi, o => by
    obtain ⟨y, r, rfl⟩ := o.inv1
    obtain ⟨a1, a2⟩ := o.inv0
    show Fr O P S (setAll (ρ.set i (some d)) is ds) (setAllV (σ.set i (some y)) is r) φ
    exact setAll_ok (h.set0 (hi i List.mem_cons_self) a1) (fun j hj => hi j (List.mem_cons_of_mem _ hj)) a2
theorem setAll_len : ∀ {is : List Nat} {ρ : En} {ds : List D}, (setAll ρ is ds).length = ρ.length
  | [], _, _ => rfl
  | i :: is, ρ, [] => rfl
  | i :: is, ρ, d :: ds => by
    show (setAll (ρ.set i (some d)) is ds).length = _
    rw [setAll_len, List.length_set]
theorem setAll_out {i : Nat} : ∀ {is : List Nat} {ρ : En} {ds : List D}, i ∉ is → (setAll ρ is ds)[i]? = ρ[i]?
  | [], _, _, _ => rfl
  | j :: is, ρ, [], _ => rfl
  | j :: is, ρ, d :: ds, h => by
    simp at h
    show (setAll (ρ.set j (some d)) is ds)[i]? = _
    rw [setAll_out h.2, List.getElem?_set_ne (fun z => h.1 z.symm)]
theorem put_ok {t : CT} (h : Fr O P S ρ σ φ) (hv : ∀ i ∈ t.vs, i ∉ O) (o : Own P S d y []) (q : putV σ t y = some σ') : ∃ ρ', t.put ρ d = some ρ' ∧ Fr O P S ρ' σ' φ ∧ ρ'.length = ρ.length ∧ ∀ i, i ∉ t.vs → ρ'[i]? = ρ[i]? := by
  cases t with
  | one i =>
    cases q
    exact ⟨_, rfl, h.set0 (hv i (by simp [CT.vs])) o, by simp, fun j hj => List.getElem?_set_ne (fun z => hj (by simp [CT.vs, z]))⟩
  | many is =>
    cases o with
    | tup ds ys r =>
      have q : (if ys.length = is.length then some (setAllV σ is ys) else none) = some σ' := q
      split at q
      · rename_i c
        cases q
        exact ⟨_, by show (if ds.length = is.length then some (setAll ρ is ds) else none) = _; rw [r.length, if_pos c], setAll_ok h hv r, setAll_len, fun j hj => setAll_out hj⟩
      · cases q
    | _ => cases q
/-! ### effects -/
def XE (O : List Nat) (f : DE) (g : VEn → Option (Y × VEn)) : Prop := ∀ P S ρ σ φ, Bd P S → Fr O P S ρ σ φ → ∀ y σ', g σ = some (y, σ') → ∃ d S' P' φ' a, f ρ S = .ok d S' ∧ Stp P S (Uf φ) P' S' ∧ Fr O P' S' ρ σ' φ' ∧ Own P' S' d y a ∧ (∀ l ∈ a, ¬ Uf φ' l) ∧ (∀ l, Uf φ' l ∨ l ∈ a → Uf φ l ∨ S.length ≤ l)
def XEV (O : List Nat) (f : DE) (g : VEn → Option (Y × VEn)) : Prop := ∀ P S ρ σ φ, Bd P S → Fr O P S ρ σ φ → ∀ y σ', g σ = some (y, σ') → ∃ d S' P' φ', f ρ S = .ok d S' ∧ Stp P S (Uf φ) P' S' ∧ Fr O P' S' ρ σ' φ' ∧ Own P' S' d y [] ∧ (∀ l, Uf φ' l → Uf φ l ∨ S.length ≤ l)
def XEVs (O : List Nat) (f : En → Mo (List D)) (g : VEn → Option (List Y × VEn)) : Prop := ∀ P S ρ σ φ, Bd P S → Fr O P S ρ σ φ → ∀ y σ', g σ = some (y, σ') → ∃ d S' P' φ', f ρ S = .ok d S' ∧ Stp P S (Uf φ) P' S' ∧ Fr O P' S' ρ σ' φ' ∧ Owns P' S' d y [] ∧ (∀ l, Uf φ' l → Uf φ l ∨ S.length ≤ l)
def XTE (O : List Nat) (f : En → Mo Bool) (g : VEn → Option (Bool × VEn)) : Prop := ∀ P S ρ σ φ, Bd P S → Fr O P S ρ σ φ → ∀ y σ', g σ = some (y, σ') → ∃ S' P' φ', f ρ S = .ok y S' ∧ Stp P S (Uf φ) P' S' ∧ Fr O P' S' ρ σ' φ' ∧ (∀ l, Uf φ' l → Uf φ l ∨ S.length ≤ l)
def vL {α : Type} (g : VEn → Option α) : VEn → Option (α × VEn) := fun σ => (g σ).map fun y => (y, σ)
theorem XV.ef {f : DE} {g : VEn → Option Y} (h : XV O f g) : XEV O f (vL g) := fun P S ρ σ φ b r y σ' e => by
  obtain ⟨z, h1, h2⟩ := Option.map_eq_some_iff.mp e
  cases h2
  obtain ⟨d, S1, P1, k1, k2, k3⟩ := h P S ρ σ φ b r _ h1
  exact ⟨d, S1, P1, φ, k1, k2.up, r.st0 k2 b, k3, fun l q => .inl q⟩
theorem XVs.ef {f : En → Mo (List D)} {g : VEn → Option (List Y)} (h : XVs O f g) : XEVs O f (vL g) := fun P S ρ σ φ b r y σ' e => by
  obtain ⟨z, h1, h2⟩ := Option.map_eq_some_iff.mp e
  cases h2
  obtain ⟨d, S1, P1, k1, k2, k3⟩ := h P S ρ σ φ b r _ h1
  exact ⟨d, S1, P1, φ, k1, k2.up, r.st0 k2 b, k3, fun l q => .inl q⟩
theorem XT.ef {f : En → Mo Bool} {g : VEn → Option Bool} (h : XT O f g) : XTE O f (vL g) := fun P S ρ σ φ b r y σ' e => by
  obtain ⟨z, h1, h2⟩ := Option.map_eq_some_iff.mp e
  cases h2
  obtain ⟨S1, P1, k1, k2⟩ := h P S ρ σ φ b r _ h1
  exact ⟨S1, P1, φ, k1, k2.up, r.st0 k2 b, fun l q => .inl q⟩
theorem XEV.o {f : DE} {g : VEn → Option (Y × VEn)} (h : XEV O f g) : XE O f g := fun P S ρ σ φ b r y σ' e => by
  obtain ⟨d, S1, P1, φ1, k1, k2, k3, k4, k5⟩ := h P S ρ σ φ b r y σ' e
  exact ⟨d, S1, P1, φ1, [], k1, k2, k3, k4, (fun _ z => by cases z), fun l q => q.elim (k5 l) fun z => by cases z⟩
/-- let go -/
def vFz (g : VEn → Option (Y × VEn)) : VEn → Option (Y × VEn) := fun σ => (g σ).map fun p => (frz p.1, p.2)
theorem add_P {a : List Nat} (st : Stp P S U P' S') (ha : ∀ l ∈ a, (U l ∨ S.length ≤ l) ∧ l < S'.length) : Stp P S U (fun l => P' l ∨ l ∈ a) S' := ⟨st.len, st.keep, fun l h => .inl (st.mono l h), fun l h => h.elim (st.new l) fun z => .inr (ha l z).1, fun l h => h.elim (st.bnd l) fun z => (ha l z).2⟩
theorem Fr.addP (h : Fr O P S ρ σ φ) {a : List Nat} (ha : ∀ l ∈ a, ¬ Uf φ l) : Fr O (fun l => P l ∨ l ∈ a) S ρ σ φ :=
  ⟨h.len, fun i y q => by
    obtain ⟨d, e, o⟩ := h.at_ i y q
    exact ⟨d, e, o.kp ⟨fun l z => .inl z, fun l z w => w.elim (h.fp l ⟨i, z⟩).1 fun w => ha l w ⟨i, z⟩, fun _ _ _ q => q⟩⟩, h.val, h.emp, h.dis⟩
theorem XE.v {f : DE} {g : VEn → Option (Y × VEn)} (h : XE O f g) : XEV O f (vFz g) := fun P S ρ σ φ b r y σ' e => by
  obtain ⟨⟨z, σ1⟩, h1, h2⟩ := Option.map_eq_some_iff.mp e
  cases h2
  obtain ⟨d, S1, P1, φ1, a, k1, k2, k3, k4, k5, k6⟩ := h P S ρ σ φ b r _ _ h1
  exact ⟨d, S1, fun l => P1 l ∨ l ∈ a, φ1, k1, add_P k2 fun l q => ⟨k6 l (.inr q), (k4.fp l q).2⟩, k3.addP k5, k4.frz (fun l q => .inl q) fun l q => .inr q, fun l q => k6 l (.inl q)⟩
theorem Fr.hU (h : Fr O P S ρ σ φ) : ∀ l, Uf φ l → ¬ P l := fun l q => (h.fp l q).1
/-- one behind the other -/
theorem XEV.seq {f : DE} {g : VEn → Option (Y × VEn)} (h : XEV O f g) {P1 : Nat → Prop} {S1 : Sto} {φ1 : Nat → List Nat} (st : Stp P S (Uf φ) P1 S1) (fr : Fr O P1 S1 ρ σ φ1) (hs : ∀ l, Uf φ1 l → Uf φ l ∨ S.length ≤ l) (q : g σ = some (y, σ')) :
    ∃ d S' P' φ', f ρ S1 = .ok d S' ∧ Stp P S (Uf φ) P' S' ∧ Fr O P' S' ρ σ' φ' ∧ Own P' S' d y [] ∧ (∀ l, Uf φ' l → Uf φ l ∨ S.length ≤ l) ∧ (∀ u x, Own P1 S1 u x [] → Own P' S' u x []) ∧ (∀ u x, Owns P1 S1 u x [] → Owns P' S' u x []) := by
  obtain ⟨d, S2, P2, φ2, k1, k2, k3, k4, k5⟩ := h P1 S1 ρ σ φ1 st.bnd fr _ _ q
  refine ⟨d, S2, P2, φ2, k1, st.trans k2 hs, k3, k4, fun l z => ?_, fun u x o => o.st k2 st.bnd fr.hU, fun u x o => o.st k2 st.bnd fr.hU⟩
  rcases k5 l z with w | w
  · exact hs l w
  · exact .inr (Nat.le_trans st.len w)
theorem XEVs.seq {f : En → Mo (List D)} {g : VEn → Option (List Y × VEn)} (h : XEVs O f g) {P1 : Nat → Prop} {S1 : Sto} {φ1 : Nat → List Nat} (st : Stp P S (Uf φ) P1 S1) (fr : Fr O P1 S1 ρ σ φ1) (hs : ∀ l, Uf φ1 l → Uf φ l ∨ S.length ≤ l) (q : g σ = some (ys, σ')) :
    ∃ d S' P' φ', f ρ S1 = .ok d S' ∧ Stp P S (Uf φ) P' S' ∧ Fr O P' S' ρ σ' φ' ∧ Owns P' S' d ys [] ∧ (∀ l, Uf φ' l → Uf φ l ∨ S.length ≤ l) ∧ (∀ u x, Own P1 S1 u x [] → Own P' S' u x []) ∧ (∀ u x, Owns P1 S1 u x [] → Owns P' S' u x []) := by
  obtain ⟨d, S2, P2, φ2, k1, k2, k3, k4, k5⟩ := h P1 S1 ρ σ φ1 st.bnd fr _ _ q
  refine ⟨d, S2, P2, φ2, k1, st.trans k2 hs, k3, k4, fun l z => ?_, fun u x o => o.st k2 st.bnd fr.hU, fun u x o => o.st k2 st.bnd fr.hU⟩
  rcases k5 l z with w | w
  · exact hs l w
  · exact .inr (Nat.le_trans st.len w)
theorem XTE.seq {f : En → Mo Bool} {g : VEn → Option (Bool × VEn)} {b : Bool} (h : XTE O f g) {P1 : Nat → Prop} {S1 : Sto} {φ1 : Nat → List Nat} (st : Stp P S (Uf φ) P1 S1) (fr : Fr O P1 S1 ρ σ φ1) (hs : ∀ l, Uf φ1 l → Uf φ l ∨ S.length ≤ l) (q : g σ = some (b, σ')) :
    ∃ S' P' φ', f ρ S1 = .ok b S' ∧ Stp P S (Uf φ) P' S' ∧ Fr O P' S' ρ σ' φ' ∧ (∀ l, Uf φ' l → Uf φ l ∨ S.length ≤ l) ∧ (∀ u x, Own P1 S1 u x [] → Own P' S' u x []) ∧ (∀ u x, Owns P1 S1 u x [] → Owns P' S' u x []) := by
  obtain ⟨S2, P2, φ2, k1, k2, k3, k5⟩ := h P1 S1 ρ σ φ1 st.bnd fr _ _ q
  refine ⟨S2, P2, φ2, k1, st.trans k2 hs, k3, fun l z => ?_, fun u x o => o.st k2 st.bnd fr.hU, fun u x o => o.st k2 st.bnd fr.hU⟩
  rcases k5 l z with w | w
  · exact hs l w
  · exact .inr (Nat.le_trans st.len w)
def eNil : VEn → Option (List Y × VEn) := fun σ => some ([], σ)
def eCons (g : VEn → Option (Y × VEn)) (gs : VEn → Option (List Y × VEn)) : VEn → Option (List Y × VEn) := fun σ => (g σ).bind fun p => (gs p.2).map fun q => (p.1 :: q.1, q.2)
theorem xes_nil : XEVs O cNil eNil := fun P S ρ σ φ b r y σ' e => by
  cases e
  exact ⟨[], S, P, φ, rfl, .refl b, r, .nil, fun l q => .inl q⟩
theorem xes_cons {f : DE} {g : VEn → Option (Y × VEn)} {fs : En → Mo (List D)} {gs : VEn → Option (List Y × VEn)} (h : XEV O f g) (hs : XEVs O fs gs) : XEVs O (cCons f fs) (eCons g gs) := fun P S ρ σ φ b r y σ' e => by
  obtain ⟨⟨y1, σ1⟩, e1, e2⟩ := Option.bind_eq_some_iff.mp e
  obtain ⟨⟨ys, σ2⟩, e3, e4⟩ := Option.map_eq_some_iff.mp e2
  cases e4
  obtain ⟨d, S1, P1, φ1, h1, h2, h3, h4, h5⟩ := h P S ρ σ φ b r _ _ e1
  obtain ⟨ds, S2, P2, φ2, k1, k2, k3, k4, k5, k6, _⟩ := hs.seq h2 h3 h5 e3
  exact ⟨d :: ds, S2, P2, φ2, by simp [h1, k1], k2, k3, .cons0 (k6 _ _ h4) k4, k5⟩
def eUn (h : Y → Option Y) (g : VEn → Option (Y × VEn)) : VEn → Option (Y × VEn) := fun σ => (g σ).bind fun p => (h p.1).map fun y => (y, p.2)
def eOp (h : Y → Y → Option Y) (g g' : VEn → Option (Y × VEn)) : VEn → Option (Y × VEn) := fun σ => (g σ).bind fun p => (g' p.2).bind fun q => (h p.1 q.1).map fun y => (y, q.2)
theorem xe_un {h : D → Mo D} {hY : Y → Option Y} {f : DE} {g : VEn → Option (Y × VEn)} (H : B1 h hY) (hf : XEV O f g) : XEV O (cUn h f) (eUn hY g) := fun P S ρ σ φ b r y σ' e => by
  obtain ⟨⟨y1, σ1⟩, e1, e2⟩ := Option.bind_eq_some_iff.mp e
  obtain ⟨z, e3, e4⟩ := Option.map_eq_some_iff.mp e2
  cases e4
  obtain ⟨d, S1, P1, φ1, h1, h2, h3, h4, h5⟩ := hf P S ρ σ φ b r _ _ e1
  obtain ⟨u, S2, P2, k1, k2, k3⟩ := H P1 S1 d y1 [] h2.bnd h4 y e3
  exact ⟨u, S2, P2, φ1, by simp [h1, k1], h2.trans k2 fun _ z => z.elim, h3.st0 k2 h2.bnd, k3, h5⟩
theorem xe_call1 {h : D → Mo D} {hY : Y → Option Y} {f : DE} {g : VEn → Option (Y × VEn)} (H : B1 h hY) (hf : XEV O f g) : XEV O (cCall (ar1 h) (cCons f cNil)) (eUn hY g) := fun P S ρ σ φ b r y σ' e => by
  obtain ⟨d, S1, P1, φ1, h1, h2⟩ := xe_un H hf P S ρ σ φ b r y σ' e
  refine ⟨d, S1, P1, φ1, ?_, h2⟩
  rw [← h1]
  simp
  cases f ρ S <;> rfl
theorem xe_op {h : D → D → Mo D} {hY : Y → Y → Option Y} {f f' : DE} {g g' : VEn → Option (Y × VEn)} (H : B2 h hY) (hf : XEV O f g) (hf' : XEV O f' g') : XEV O (cOp h f f') (eOp hY g g') := fun P S ρ σ φ b r y σ' e => by
  obtain ⟨⟨y1, σ1⟩, e1, e2⟩ := Option.bind_eq_some_iff.mp e
  obtain ⟨⟨y2, σ2⟩, e3, e4⟩ := Option.bind_eq_some_iff.mp e2
  obtain ⟨z, e5, e6⟩ := Option.map_eq_some_iff.mp e4
  cases e6
  obtain ⟨d, S1, P1, φ1, h1, h2, h3, h4, h5⟩ := hf P S ρ σ φ b r _ _ e1
  obtain ⟨d2, S2, P2, φ2, k1, k2, k3, k4, k5, k6, _⟩ := hf'.seq h2 h3 h5 e3
  obtain ⟨u, S3, P3, j1, j2, j3⟩ := H P2 S2 d d2 y1 y2 [] [] k2.bnd (k6 _ _ h4) k4 y e5
  exact ⟨u, S3, P3, φ2, by simp [h1, k1, j1], k2.trans j2 fun _ z => z.elim, k3.st0 j2 k2.bnd, j3, k5⟩
theorem xe_call2 {h : D → D → Mo D} {hY : Y → Y → Option Y} {f f' : DE} {g g' : VEn → Option (Y × VEn)} (H : B2 h hY) (hf : XEV O f g) (hf' : XEV O f' g') : XEV O (cCall (ar2 h) (cCons f (cCons f' cNil))) (eOp hY g g') := fun P S ρ σ φ b r y σ' e => by
  obtain ⟨d, S1, P1, φ1, h1, h2⟩ := xe_op H hf hf' P S ρ σ φ b r y σ' e
  refine ⟨d, S1, P1, φ1, ?_, h2⟩
  rw [← h1]
  simp
  cases f ρ S with
  | ok a T => simp; cases f' ρ T <;> rfl
  | _ => rfl
def eTup (gs : VEn → Option (List Y × VEn)) : VEn → Option (Y × VEn) := fun σ => (gs σ).bind fun p => if fit p.1.length = true then some (.tup p.1, p.2) else none
theorem xe_tup {fs : En → Mo (List D)} {gs : VEn → Option (List Y × VEn)} (h : XEVs O fs gs) : XEV O (cTup fs) (eTup gs) := fun P S ρ σ φ b r y σ' e => by
  obtain ⟨⟨ys, σ1⟩, e1, e2⟩ := Option.bind_eq_some_iff.mp e
  split at e2
  · rename_i q
    cases e2
    obtain ⟨ds, S1, P1, φ1, h1, h2, h3, h4, h5⟩ := h P S ρ σ φ b r _ _ e1
    refine ⟨.tup ds, S1, P1, φ1, ?_, h2, h3, .tup _ _ h4, h5⟩
    simp only [cTup_e, h1, andThen_ok, h4.length]
    simp at q
    simp [q]
  · cases e2
/-- a new list, owned -/
theorem own_new {P1 : Nat → Prop} {S1 : Sto} {φ1 : Nat → List Nat} (st : Stp P S (Uf φ) P1 S1) (fr : Fr O P1 S1 ρ σ φ1) (hs : ∀ l, Uf φ1 l → Uf φ l ∨ S.length ≤ l) (o : Owns P1 S1 ds ys []) :
    Stp P S (Uf φ) P1 (S1 ++ [.lst ds]) ∧ Fr O P1 (S1 ++ [.lst ds]) ρ σ φ1 ∧ Own P1 (S1 ++ [.lst ds]) (.loc S1.length) (.lst true ys) [S1.length] ∧ (∀ l ∈ [S1.length], ¬ Uf φ1 l) ∧ (∀ l, Uf φ1 l ∨ l ∈ [S1.length] → Uf φ l ∨ S.length ≤ l) := by
  obtain ⟨s1, s2⟩ := new_O st.bnd o
  refine ⟨st.trans s1 fun _ z => z.elim, fr.st0 s1 st.bnd, s2, fun l hl z => ?_, fun l q => ?_⟩
  · rw [List.mem_singleton.mp hl] at z
    have := (fr.fp _ z).2
    omega
  · rcases q with q | q
    · exact hs l q
    · rw [List.mem_singleton.mp q]; exact .inr st.len
def eLst (gs : VEn → Option (List Y × VEn)) : VEn → Option (Y × VEn) := fun σ => (gs σ).bind fun p => if fit p.1.length = true then some (.lst true p.1, p.2) else none
theorem xe_lst {fs : En → Mo (List D)} {gs : VEn → Option (List Y × VEn)} (h : XEVs O fs gs) : XE O (cLst fs) (eLst gs) := fun P S ρ σ φ b r y σ' e => by
  obtain ⟨⟨ys, σ1⟩, e1, e2⟩ := Option.bind_eq_some_iff.mp e
  split at e2
  · rename_i q
    cases e2
    obtain ⟨ds, S1, P1, φ1, h1, h2, h3, h4, h5⟩ := h P S ρ σ φ b r _ _ e1
    obtain ⟨k1, k2, k3, k4, k5⟩ := own_new h2 h3 h5 h4
    refine ⟨.loc S1.length, S1 ++ [.lst ds], P1, φ1, _, ?_, k1, k2, k3, k4, k5⟩
    simp only [cLst_e, h1, andThen_ok]
    unfold newL
    rw [h4.length]
    simp at q
    simp [q]
  · cases e2
/-- list(x), sorted(x), .. owned -/
def oNL (h : Y → Option (List Y)) (g : VEn → Option Y) : VEn → Option (Y × VEn) := fun σ => (g σ).bind fun x => (h x).map fun ys => (.lst true ys, σ)
theorem xo_nl {h : D → Mo D} {hL : Y → Option (List Y)} {f : DE} {g : VEn → Option Y} (H : NL1 h hL) (hf : XB O f g) : XE O (cCall (ar1 h) (cCons f cNil)) (oNL hL g) := fun P S ρ σ φ b r y σ' e => by
  obtain ⟨x, e1, e2⟩ := Option.bind_eq_some_iff.mp e
  obtain ⟨ys, e3, e4⟩ := Option.map_eq_some_iff.mp e2
  cases e4
  obtain ⟨d, S1, P1, a, h1, h2, h3, _⟩ := hf P S ρ σ φ b r _ e1
  obtain ⟨ds, j1, j2⟩ := H P1 S1 d x a h3 ys e3
  obtain ⟨k1, k2, k3, k4, k5⟩ := own_new (φ := φ) h2.up (r.st0 h2 b) (fun l q => .inl q) j2
  exact ⟨_, _, P1, φ, _, by simp [h1, j1], k1, k2, k3, k4, k5⟩
def oNL2 (h : Y → Y → Option (List Y)) (g g' : VEn → Option Y) : VEn → Option (Y × VEn) := fun σ => (g σ).bind fun x => (g' σ).bind fun z => (h x z).map fun ys => (.lst true ys, σ)
theorem xo_nl2 {h : D → D → Mo D} {hL : Y → Y → Option (List Y)} {f f' : DE} {g g' : VEn → Option Y} (H : NL2 h hL) (hf : XB O f g) (hf' : XB O f' g') : XE O (cOp h f f') (oNL2 hL g g') := fun P S ρ σ φ b r y σ' e => by
  obtain ⟨x, e1, e2⟩ := Option.bind_eq_some_iff.mp e
  obtain ⟨z, e3, e4⟩ := Option.bind_eq_some_iff.mp e2
  obtain ⟨ys, e5, e6⟩ := Option.map_eq_some_iff.mp e4
  cases e6
  obtain ⟨d, S1, P1, a, h1, h2, h3, _⟩ := hf P S ρ σ φ b r _ e1
  obtain ⟨d2, S2, P2, a2, i1, i2, i3, _⟩ := hf' P1 S1 ρ σ φ h2.bnd (r.st0 h2 b) _ e3
  obtain ⟨ds, j1, j2⟩ := H P2 S2 d d2 x z a a2 (h3.st0 i2 h2.bnd) i3 ys e5
  obtain ⟨k1, k2, k3, k4, k5⟩ := own_new (φ := φ) (h2.tr0 i2).up (r.st0 (h2.tr0 i2) b) (fun l q => .inl q) j2
  exact ⟨_, _, P2, φ, _, by simp [h1, i1, j1], k1, k2, k3, k4, k5⟩
/-- .. the second one with effects -/
def eNL2 (h : Y → Y → Option (List Y)) (g g' : VEn → Option (Y × VEn)) : VEn → Option (Y × VEn) := fun σ => (g σ).bind fun p => (g' p.2).bind fun q => (h p.1 q.1).map fun ys => (.lst true ys, q.2)
theorem xe_nl2 {h : D → D → Mo D} {hL : Y → Y → Option (List Y)} {f f' : DE} {g g' : VEn → Option (Y × VEn)} (H : NL2 h hL) (hf : XEV O f g) (hf' : XEV O f' g') : XE O (cOp h f f') (eNL2 hL g g') := fun P S ρ σ φ b r y σ' e => by
  obtain ⟨⟨x, σ1⟩, e1, e2⟩ := Option.bind_eq_some_iff.mp e
  obtain ⟨⟨z, σ2⟩, e3, e4⟩ := Option.bind_eq_some_iff.mp e2
  obtain ⟨ys, e5, e6⟩ := Option.map_eq_some_iff.mp e4
  cases e6
  obtain ⟨d, S1, P1, φ1, h1, h2, h3, h4, h5⟩ := hf P S ρ σ φ b r _ _ e1
  obtain ⟨d2, S2, P2, φ2, i1, i2, i3, i4, i5, i6, _⟩ := hf'.seq h2 h3 h5 e3
  obtain ⟨ds, j1, j2⟩ := H P2 S2 d d2 x z [] [] (i6 _ _ h4) i4 ys e5
  obtain ⟨k1, k2, k3, k4, k5⟩ := own_new i2 i3 i5 j2
  exact ⟨_, _, P2, φ2, _, by simp [h1, i1, j1], k1, k2, k3, k4, k5⟩
def oSl (g : VEn → Option Y) (gl gh : VEn → Option (Option Int)) : VEn → Option (Y × VEn) := fun σ => (g σ).bind fun x => (gl σ).bind fun l => (gh σ).bind fun h => (slL l h x).map fun ys => (.lst true ys, σ)
theorem xo_sl {f : DE} {g : VEn → Option Y} {fl fh : En → Mo (Option Int)} {gl gh : VEn → Option (Option Int)} (h : XB O f g) (hl : XPt O fl gl) (hh : XPt O fh gh) : XE O (cSl f fl fh) (oSl g gl gh) := fun P S ρ σ φ b r y σ' e => by
  obtain ⟨y1, e1, e2⟩ := Option.bind_eq_some_iff.mp e
  obtain ⟨lo, e3, e4⟩ := Option.bind_eq_some_iff.mp e2
  obtain ⟨hi, e5, e6⟩ := Option.bind_eq_some_iff.mp e4
  obtain ⟨ys, e7, e8⟩ := Option.map_eq_some_iff.mp e6
  cases e8
  obtain ⟨d, S1, P1, a, h1, h2, h3, h4⟩ := h P S ρ σ φ b r _ e1
  obtain ⟨S2, P2, k1, k2⟩ := hl P1 S1 ρ σ φ h2.bnd (r.st0 h2 b) _ e3
  obtain ⟨S3, P3, j1, j2⟩ := hh P2 S2 ρ σ φ k2.bnd (r.st0 (h2.tr0 k2) b) _ e5
  obtain ⟨ds, i1, i2⟩ := nl_sl P3 S3 d y1 a (h3.st0 (k2.tr0 j2) h2.bnd) ys e7
  have st := (h2.tr0 k2).tr0 j2
  obtain ⟨m1, m2, m3, m4, m5⟩ := own_new (φ := φ) st.up (r.st0 st b) (fun l q => .inl q) i2
  exact ⟨_, _, P3, φ, _, by simp [h1, k1, j1, i1], m1, m2, m3, m4, m5⟩
def oDct : VEn → Option (Y × VEn) := fun σ => some (.dct true [], σ)
theorem xo_dct : XE O (fun _ => newDct) oDct := fun P S ρ σ φ b r y σ' e => by
  cases e
  have st : Stp P S NoU P (S ++ [.dct []]) := ⟨by simp, fun l hl _ => List.getElem?_append_left hl, fun l h => h, fun l h => .inl h, fun l h => by have := b l h; simp; omega⟩
  refine ⟨.loc S.length, _, P, φ, [S.length], rfl, st.up, r.st0 st b, .dctO _ [] [] [] (fun z => by have := b _ z; omega) (by simp) (by simp) rfl .nil, fun l hl z => ?_, fun l q => ?_⟩
  · rw [List.mem_singleton.mp hl] at z
    have := (r.fp _ z).2
    omega
  · rcases q with q | q
    · exact .inl q
    · rw [List.mem_singleton.mp q]; exact .inr (Nat.le_refl _)
/-! ### truths with effects -/
def eTest (g : VEn → Option (Y × VEn)) : VEn → Option (Bool × VEn) := fun σ => match g σ with
  | some (.bl b, σ') => some (b, σ')
  | _ => none
theorem xte_test {f : DE} {g : VEn → Option (Y × VEn)} (h : XEV O f g) : XTE O (cTest f) (eTest g) := fun P S ρ σ φ b r k σ' e => by
  unfold eTest at e
  split at e
  · rename_i q
    cases e
    obtain ⟨d, S1, P1, φ1, h1, h2, h3, h4, h5⟩ := h P S ρ σ φ b r _ _ q
    cases h4
    exact ⟨S1, P1, φ1, by simp [h1], h2, h3, h5⟩
  · cases e
def eTru (g : VEn → Option (Y × VEn)) : VEn → Option (Bool × VEn) := fun σ => (g σ).bind fun p => (trY p.1).map fun k => (k, p.2)
theorem xte_tru {f : DE} {g : VEn → Option (Y × VEn)} (h : XEV O f g) : XTE O (cTru f) (eTru g) := fun P S ρ σ φ b r k σ' e => by
  obtain ⟨⟨y, σ1⟩, e1, e2⟩ := Option.bind_eq_some_iff.mp e
  obtain ⟨k', e3, e4⟩ := Option.map_eq_some_iff.mp e2
  cases e4
  obtain ⟨d, S1, P1, φ1, h1, h2, h3, h4, h5⟩ := h P S ρ σ φ b r _ _ e1
  exact ⟨S1, P1, φ1, by simp [h1, trY_ok h4 e3], h2, h3, h5⟩
def eNotT (g : VEn → Option (Bool × VEn)) : VEn → Option (Bool × VEn) := fun σ => (g σ).map fun p => (!p.1, p.2)
theorem xte_not {f : En → Mo Bool} {g : VEn → Option (Bool × VEn)} (h : XTE O f g) : XTE O (cNotT f) (eNotT g) := fun P S ρ σ φ b r k σ' e => by
  obtain ⟨⟨y, σ1⟩, e1, e2⟩ := Option.map_eq_some_iff.mp e
  cases e2
  obtain ⟨S1, P1, φ1, h1, h2⟩ := h P S ρ σ φ b r _ _ e1
  exact ⟨S1, P1, φ1, by simp [h1], h2⟩
def eAndT (g g' : VEn → Option (Bool × VEn)) : VEn → Option (Bool × VEn) := fun σ => (g σ).bind fun p => if p.1 = true then g' p.2 else some (false, p.2)
def eOrT (g g' : VEn → Option (Bool × VEn)) : VEn → Option (Bool × VEn) := fun σ => (g σ).bind fun p => if p.1 = true then some (true, p.2) else g' p.2
theorem xte_and {f f' : En → Mo Bool} {g g' : VEn → Option (Bool × VEn)} (h : XTE O f g) (h' : XTE O f' g') : XTE O (cAndT f f') (eAndT g g') := fun P S ρ σ φ b r k σ' e => by
  obtain ⟨⟨y, σ1⟩, e1, e2⟩ := Option.bind_eq_some_iff.mp e
  obtain ⟨S1, P1, φ1, h1, h2, h3, h5⟩ := h P S ρ σ φ b r _ _ e1
  cases y with
  | true =>
    obtain ⟨S2, P2, φ2, k1, k2, k3, k5, _⟩ := h'.seq h2 h3 h5 (show g' σ1 = some (k, σ') from e2)
    exact ⟨S2, P2, φ2, by simp [h1, k1], k2, k3, k5⟩
  | false => cases e2; exact ⟨S1, P1, φ1, by simp [h1], h2, h3, h5⟩
theorem xte_or {f f' : En → Mo Bool} {g g' : VEn → Option (Bool × VEn)} (h : XTE O f g) (h' : XTE O f' g') : XTE O (cOrT f f') (eOrT g g') := fun P S ρ σ φ b r k σ' e => by
  obtain ⟨⟨y, σ1⟩, e1, e2⟩ := Option.bind_eq_some_iff.mp e
  obtain ⟨S1, P1, φ1, h1, h2, h3, h5⟩ := h P S ρ σ φ b r _ _ e1
  cases y with
  | false =>
    obtain ⟨S2, P2, φ2, k1, k2, k3, k5, _⟩ := h'.seq h2 h3 h5 (show g' σ1 = some (k, σ') from e2)
    exact ⟨S2, P2, φ2, by simp [h1, k1], k2, k3, k5⟩
  | true => cases e2; exact ⟨S1, P1, φ1, by simp [h1], h2, h3, h5⟩
def eIf (t : VEn → Option (Bool × VEn)) (g g' : VEn → Option (Y × VEn)) : VEn → Option (Y × VEn) := fun σ => (t σ).bind fun p => if p.1 = true then g p.2 else g' p.2
theorem xe_if {ft : En → Mo Bool} {gt : VEn → Option (Bool × VEn)} {f f' : DE} {g g' : VEn → Option (Y × VEn)} (ht : XTE O ft gt) (h : XEV O f g) (h' : XEV O f' g') : XEV O (cIf ft f f') (eIf gt g g') := fun P S ρ σ φ b r y σ' e => by
  obtain ⟨⟨k, σ1⟩, e1, e2⟩ := Option.bind_eq_some_iff.mp e
  obtain ⟨S1, P1, φ1, h1, h2, h3, h5⟩ := ht P S ρ σ φ b r _ _ e1
  cases k with
  | true =>
    obtain ⟨d, S2, P2, φ2, k1, k2, k3, k4, k5, _⟩ := h.seq h2 h3 h5 (show g σ1 = some (y, σ') from e2)
    exact ⟨d, S2, P2, φ2, by simp [h1, k1], k2, k3, k4, k5⟩
  | false =>
    obtain ⟨d, S2, P2, φ2, k1, k2, k3, k4, k5, _⟩ := h'.seq h2 h3 h5 (show g' σ1 = some (y, σ') from e2)
    exact ⟨d, S2, P2, φ2, by simp [h1, k1], k2, k3, k4, k5⟩
/-! ### walks with effects ahead -/
def XIE (O : List Nat) (f : En → Mo Wk) (g : VEn → Option (List Y × VEn)) : Prop := ∀ P S ρ σ φ, Bd P S → Fr O P S ρ σ φ → ∀ y σ', g σ = some (y, σ') → ∃ w S' P' φ', f ρ S = .ok w S' ∧ Stp P S (Uf φ) P' S' ∧ Fr O P' S' ρ σ' φ' ∧ WkR P' S' w y ∧ (∀ l, Uf φ' l → Uf φ l ∨ S.length ≤ l)
theorem XI.ef {f : En → Mo Wk} {g : VEn → Option (List Y)} (h : XI O f g) : XIE O f (vL g) := fun P S ρ σ φ b r y σ' e => by
  obtain ⟨z, h1, h2⟩ := Option.map_eq_some_iff.mp e
  cases h2
  obtain ⟨d, S1, P1, k1, k2, k3⟩ := h P S ρ σ φ b r _ h1
  exact ⟨d, S1, P1, φ, k1, k2.up, r.st0 k2 b, k3, fun l q => .inl q⟩
def eRng (h : List Y → Option (List Y)) (gs : VEn → Option (List Y × VEn)) : VEn → Option (List Y × VEn) := fun σ => (gs σ).bind fun p => (h p.1).map fun ys => (ys, p.2)
theorem xie_rng {h : List D → Mo Wk} {hY : List Y → Option (List Y)} {fs : En → Mo (List D)} {gs : VEn → Option (List Y × VEn)} (H : WL h hY) (hs : XEVs O fs gs) : XIE O (cRng h fs) (eRng hY gs) := fun P S ρ σ φ b r y σ' e => by
  obtain ⟨⟨y1, σ1⟩, e1, e2⟩ := Option.bind_eq_some_iff.mp e
  obtain ⟨ys, e3, e4⟩ := Option.map_eq_some_iff.mp e2
  cases e4
  obtain ⟨d, S1, P1, φ1, h1, h2, h3, h4, h5⟩ := hs P S ρ σ φ b r _ _ e1
  obtain ⟨w, k1, k2⟩ := H P1 S1 d y1 h2.bnd h4 y e3
  exact ⟨w, S1, P1, φ1, by simp [h1, k1], h2, h3, k2, h5⟩
def eIt (g : VEn → Option (Y × VEn)) : VEn → Option (List Y × VEn) := fun σ => (g σ).bind fun p => (itY p.1).map fun ys => (ys, p.2)
theorem xie_it {f : DE} {g : VEn → Option (Y × VEn)} (hs : XEV O f g) : XIE O (cIt f) (eIt g) := fun P S ρ σ φ b r y σ' e => by
  obtain ⟨⟨y1, σ1⟩, e1, e2⟩ := Option.bind_eq_some_iff.mp e
  obtain ⟨ys, e3, e4⟩ := Option.map_eq_some_iff.mp e2
  cases e4
  obtain ⟨d, S1, P1, φ1, h1, h2, h3, h4, h5⟩ := hs P S ρ σ φ b r _ _ e1
  obtain ⟨w, k1, k2⟩ := itY_ok h4 e3
  exact ⟨w, S1, P1, φ1, by simp [h1, k1], h2, h3, k2, h5⟩
end
end Sm
end
section
/-! Sm, part U: comprehensions and calls on values. -/
namespace Sm
open PySem PySem.Spec PyProof.Rows L2
theorem fit_mono {m n : Nat} (h : fit n = true) (hm : m ≤ n) : fit m = true := fit_iff.mpr (Nat.le_trans hm (fit_iff.mp h))
section
variable {O : List Nat} {P P' P'' : Nat → Prop} {S S' S'' : Sto} {ρ ρ' : En} {σ σ' : VEn} {φ : Nat → List Nat} {d : D} {x y z k : Y} {ds : List D} {xs ys : List Y} {f f' : List Nat} {U U' U'' : Nat → Prop}
/-! ### comprehensions -/
def lcY (t : CT) (gt : VEn → Option Bool) (ge : VEn → Option Y) (σ : VEn) : List Y → Option (List Y)
  | [] => some []
  | y :: r => (putV σ t y).bind fun σ' => (gt σ').bind fun b => if b = true then (ge σ').bind fun z => (lcY t gt ge σ r).map fun q => z :: q else lcY t gt ge σ r
/-- how a walk goes on: what is left, the place -/
structure Run (t : CT) (tst : En → Mo Bool) (elt : DE) (ρ : En) (n : Nat) (D0 : List D) (P0 : Nat → Prop) (S0 : Sto) (run : List D → Nat → Sto → Rz D) : Prop where
  nil : ∀ i S, D0.drop i = [] → (∀ l, P0 l → S[l]? = S0[l]?) → run [] i S = .ok (.loc n) S
  cons : ∀ d r i S, D0.drop i = d :: r → (∀ l, P0 l → S[l]? = S0[l]?) → run (d :: r) i S = match lcTurn t tst elt ρ n d S with
    | some S' => run r (i + 1) S'
    | none => .no
theorem run_I {t : CT} {tst : En → Mo Bool} {elt : DE} {n : Nat} {P0 : Nat → Prop} {S0 : Sto} : Run t tst elt ρ n ds P0 S0 (fun r _ S => lcI t tst elt ρ n r S) :=
  ⟨fun _ _ _ _ => rfl, fun _ _ _ _ _ _ => rfl⟩
theorem run_V {t : CT} {tst : En → Mo Bool} {elt : DE} {n : Nat} {P0 : Nat → Prop} {S0 : Sto} {nx : Nx} (h : ∀ S'', (∀ l, P0 l → S''[l]? = S0[l]?) → ∀ i, nx i S'' = some ds[i]?) : Run t tst elt ρ n ds P0 S0 (fun r i S => lcV t tst elt ρ n nx r.length i S) := by
  refine ⟨fun i S hd ha => ?_, fun d r i S hd ha => ?_⟩
  · have : nx i S = some none := by
      rw [h S ha i, List.getElem?_eq_none (by simpa using hd)]
    show lcV t tst elt ρ n nx 0 i S = _
    unfold lcV
    rw [this]
  · have : nx i S = some (some d) := by
      rw [h S ha i]
      have := congrArg (fun l => l[0]?) hd
      simpa using this
    show lcV t tst elt ρ n nx (r.length + 1) i S = _
    conv => lhs; unfold lcV
    simp only [this]
    all_goals (cases lcTurn t tst elt ρ n d S <;> rfl)
theorem drop_next {α : Type} {D0 : List α} {i : Nat} {d : α} {r : List α} (h : D0.drop i = d :: r) : D0.drop (i + 1) = r := by
  have := congrArg List.tail h
  simpa using this
theorem push_stp {n : Nat} {o : Ob} (b : Bd P S) (hn : n < S.length) : Stp P S (fun l => l = n) P (S.set n o) := ⟨by simp, fun l _ hl => List.getElem?_set_ne fun z => hl z.symm, fun _ h => h, fun _ h => .inl h, fun l h => by have := b l h; simpa using this⟩
theorem lc_core {t : CT} {tst : En → Mo Bool} {gt : VEn → Option Bool} {elt : DE} {ge : VEn → Option Y} (ht : XT O tst gt) (he : XV O elt ge) (hv : ∀ i ∈ t.vs, i ∉ O) {n : Nat} {D0 : List D} {P0 : Nat → Prop} {S0 : Sto} {run : List D → Nat → Sto → Rz D} (R : Run t tst elt ρ n D0 P0 S0 run) :
    ∀ (ds : List D) (ys out : List Y) (acc : List D) (accY : List Y) (P : Nat → Prop) (S : Sto) (i : Nat), D0.drop i = ds → Owns P S ds ys [] → Bd P S → Fr O P S ρ σ φ → S[n]? = some (.lst acc) → ¬ P n → ¬ Uf φ n → (∀ l, P0 l → (l < S.length ∧ l ≠ n) ∧ S[l]? = S0[l]?) → Owns P S acc accY [] →
      lcY t gt ge σ ys = some out → fit (accY.length + out.length) = true → ∃ S' P' es, run ds i S = .ok (.loc n) S' ∧ Stp P S (fun l => l = n) P' S' ∧ ¬ P' n ∧ S'[n]? = some (.lst es) ∧ Owns P' S' es (accY ++ out) []
  | [], ys, out, acc, accY, P, S, i, hd, o, b, r, g, nP, nU, hA, oa, q, ft => by
    cases o
    cases q
    exact ⟨S, P, acc, R.nil i S hd fun l z => (hA l z).2, .refl b, nP, g, by rw [List.append_nil]; exact oa⟩
  | d :: ds, ys, out, acc, accY, P, S, i, hd, o, b, r, g, nP, nU, hA, oa, q, ft => by
    obtain ⟨y, ys, rfl⟩ := o.inv1
    obtain ⟨o1, o2⟩ := o.inv0
    obtain ⟨σ1, q1, q⟩ := Option.bind_eq_some_iff.mp q
    obtain ⟨c, q2, q⟩ := Option.bind_eq_some_iff.mp q
    obtain ⟨ρ1, p1, r1, _, _⟩ := put_ok r hv o1 q1
    obtain ⟨S1, P1, t1, t2⟩ := ht P S ρ1 σ1 φ b r1 c q2
    have hn := lt_of_get g
    have g1 : S1[n]? = some (.lst acc) := by rw [t2.keep n hn fun z => z]; exact g
    have nP1 : ¬ P1 n := fun z => (t2.new n z).elim nP fun w => w.elim (fun w => w) fun w => by omega
    have hA1 : ∀ l, P0 l → (l < S1.length ∧ l ≠ n) ∧ S1[l]? = S0[l]? := fun l z => ⟨⟨Nat.lt_of_lt_of_le (hA l z).1.1 t2.len, (hA l z).1.2⟩, by rw [t2.keep l (hA l z).1.1 fun w => w]; exact (hA l z).2⟩
    cases c with
    | false =>
      obtain ⟨S', P', es, k1, k2, k3, k4, k5⟩ := lc_core ht he hv R ds ys out acc accY P1 S1 (i + 1) (drop_next hd) (o2.st0 t2 b) t2.bnd (r.st0 t2 b) g1 nP1 nU hA1 (oa.st0 t2 b) q ft
      refine ⟨S', P', es, ?_, t2.up.trans k2 fun l z => .inl z, k3, k4, k5⟩
      rw [R.cons d ds i S hd fun l z => (hA l z).2, lcTurn_f p1 t1]
      exact k1
    | true =>
      obtain ⟨z, q3, q⟩ := Option.bind_eq_some_iff.mp q
      obtain ⟨rest, q4, rfl⟩ := Option.map_eq_some_iff.mp q
      obtain ⟨u, S2, P2, e1, e2, e3⟩ := he P1 S1 ρ1 σ1 φ t2.bnd (r1.st0 t2 b) z q3
      have hn1 := lt_of_get g1
      have g2 : S2[n]? = some (.lst acc) := by rw [e2.keep n hn1 fun z => z]; exact g1
      have nP2 : ¬ P2 n := fun z => (e2.new n z).elim nP1 fun w => w.elim (fun w => w) fun w => by omega
      have st := t2.tr0 e2
      have ps : Stp P2 S2 (fun l => l = n) P2 (S2.set n (.lst (acc ++ [u]))) := push_stp e2.bnd (lt_of_get g2)
      have hU : ∀ l, l = n → ¬ P2 l := fun l z => z ▸ nP2
      have al : acc.length = accY.length := oa.length
      obtain ⟨S', P', es, k1, k2, k3, k4, k5⟩ := lc_core ht he hv R ds ys rest (acc ++ [u]) (accY ++ [z]) P2 (S2.set n (.lst (acc ++ [u]))) (i + 1) (drop_next hd) ((o2.st0 st b).st ps e2.bnd hU) ps.bnd
        ((r.st0 st b).st ps e2.bnd hU fun l w v => nU (v ▸ w)) (List.getElem?_set_self (lt_of_get g2)) nP2 nU (fun l w => ⟨⟨by rw [List.length_set]; exact Nat.lt_of_lt_of_le (hA1 l w).1.1 e2.len, (hA1 l w).1.2⟩, by
          rw [List.getElem?_set_ne fun v : n = l => (hA1 l w).1.2 v.symm, e2.keep l (hA1 l w).1.1 fun w => w]; exact (hA1 l w).2⟩)
        (((oa.st0 st b).app0 (.cons0 e3 .nil)).st ps e2.bnd hU) q4 (by simp only [List.length_append, List.length_cons, List.length_nil] at ft ⊢; rw [show accY.length + (0 + 1) + rest.length = accY.length + (rest.length + 1) by omega]; exact ft)
      refine ⟨S', P', es, ?_, st.up.trans (ps.trans k2 fun l z => .inl z) fun l z => .inl z, k3, k4, by rw [List.append_assoc] at k5; exact k5⟩
      rw [R.cons d ds i S hd fun l z => (hA l z).2]
      unfold lcTurn
      rw [p1]
      simp only [t1, e1]
      unfold pushL
      rw [g2]
      simp only
      rw [if_pos (fit_mono ft (by rw [al]; simp))]
      exact k1
def vLcL (gi : VEn → Option (List Y)) (t : CT) (gt : VEn → Option Bool) (ge : VEn → Option Y) : VEn → Option (List Y) := fun σ => (gi σ).bind fun ys => (lcY t gt ge (wipeV σ t.vs) ys).bind fun out => if fit out.length = true then some out else none
theorem lc_pure {it : En → Mo Wk} {gi : VEn → Option (List Y)} {t : CT} {tst : En → Mo Bool} {gt : VEn → Option Bool} {elt : DE} {ge : VEn → Option Y} (hi : XI O it gi) (ht : XT O tst gt) (he : XV O elt ge) (hv : ∀ i ∈ t.vs, i ∉ O) (b : Bd P S) (r : Fr O P S ρ σ φ) (q : vLcL gi t gt ge σ = some ys) :
    ∃ n S' P' es, cLc it t tst elt ρ S = .ok (.loc n) S' ∧ Stp P S NoU P' S' ∧ ¬ P' n ∧ S'[n]? = some (.lst es) ∧ Owns P' S' es ys [] ∧ S.length ≤ n := by
  obtain ⟨zs, e1, e2⟩ := Option.bind_eq_some_iff.mp q
  obtain ⟨out, e3, e4⟩ := Option.bind_eq_some_iff.mp e2
  split at e4
  · rename_i ft
    cases e4
    obtain ⟨w, S1, P1, h1, h2, ds, h3, h4⟩ := hi P S ρ σ φ b r _ e1
    have st : Stp P1 S1 NoU P1 (S1 ++ [.lst []]) := ⟨by simp, fun l hl _ => List.getElem?_append_left hl, fun l h => h, fun l h => .inl h, fun l h => by have := h2.bnd l h; simp; omega⟩
    have nP : ¬ P1 S1.length := fun z => by have := h2.bnd _ z; omega
    have r1 := r.st0 (h2.tr0 st) b
    have nU : ¬ Uf φ S1.length := fun z => by have := (r.st0 h2 b).fp _ z; omega
    have r2 : Fr O P1 (S1 ++ [.lst []]) (wipeE ρ t.vs) (wipeV σ t.vs) φ := r1.wipe hv (wipeE_len _) fun i hi => wipeE_out hi
    have core := fun (run : List D → Nat → Sto → Rz D) (R : Run t tst elt (wipeE ρ t.vs) S1.length ds P1 S1 run) => lc_core ht he hv R ds zs ys [] [] P1 (S1 ++ [.lst []]) 0 rfl (h3.st0 st h2.bnd) st.bnd r2 (by simp) nP nU (fun l z => ⟨⟨by have := h2.bnd l z; simp; omega, fun v => by have := h2.bnd l z; omega⟩, List.getElem?_append_left (h2.bnd l z)⟩) .nil e3 (by simpa using ft)
    have fin : ∀ S' P', Stp P1 (S1 ++ [.lst []]) (fun l => l = S1.length) P' S' → Stp P S NoU P' S' := fun S' P' k => by
      have := h2.tr0 st
      refine (this.up (U := fun l => l = S1.length)).trans k (fun l z => .inl z) |> fun a => ⟨a.len, fun l hl _ => a.keep l hl fun z => ?_, a.mono, fun l z => ?_, a.bnd⟩
      · have := h2.len; omega
      · rcases a.new l z with w | w | w
        · exact .inl w
        · have := h2.len; exact .inr (.inr (by omega))
        · exact .inr (.inr w)
    cases w with
    | items es =>
      have h4 : es = ds := h4
      subst h4
      obtain ⟨S', P', es', k1, k2, k3, k4, k5⟩ := core _ run_I
      exact ⟨S1.length, S', P', es', by rw [cLc_e, h1]; exact k1, fin S' P' k2, k3, k4, k5, h2.len⟩
    | view nx m =>
      obtain ⟨h5, h6⟩ : m = ds.length ∧ ∀ S'', (∀ l, P1 l → S''[l]? = S1[l]?) → ∀ i, nx i S'' = some ds[i]? := h4
      subst h5
      obtain ⟨S', P', es', k1, k2, k3, k4, k5⟩ := core _ (run_V h6)
      exact ⟨S1.length, S', P', es', by rw [cLc_e, h1]; exact k1, fin S' P' k2, k3, k4, k5, h2.len⟩
  · cases e4
def vLc (gi : VEn → Option (List Y)) (t : CT) (gt : VEn → Option Bool) (ge : VEn → Option Y) : VEn → Option Y := fun σ => (vLcL gi t gt ge σ).map (.lst false)
theorem xv_lc {it : En → Mo Wk} {gi : VEn → Option (List Y)} {t : CT} {tst : En → Mo Bool} {gt : VEn → Option Bool} {elt : DE} {ge : VEn → Option Y} (hi : XI O it gi) (ht : XT O tst gt) (he : XV O elt ge) (hv : ∀ i ∈ t.vs, i ∉ O) : XV O (cLc it t tst elt) (vLc gi t gt ge) := fun P S ρ σ φ b r y e => by
  obtain ⟨ys, e1, rfl⟩ := Option.map_eq_some_iff.mp e
  obtain ⟨n, S', P', es, k1, k2, k3, k4, k5, k6⟩ := lc_pure hi ht he hv b r e1
  exact ⟨.loc n, S', fun l => P' l ∨ l ∈ [n], k1, add_P k2 (fun l z => by rw [List.mem_singleton.mp z]; exact ⟨.inr k6, lt_of_get k4⟩), .lstF n es ys (.inr (by simp)) k4 (k5.kp ⟨fun _ z => .inl z, (fun _ z => by cases z), fun _ _ _ z => z⟩)⟩
/-- [.. for x in h ..] over a list of ours -/
def vLcH (h : Nat) (t : CT) (gt : VEn → Option Bool) (ge : VEn → Option Y) : VEn → Option Y := fun σ => match σ[h]? with
  | some (some (.lst true ys)) => (lcY t gt ge (wipeV σ t.vs) ys).bind fun out => if fit out.length = true then some (.lst false out) else none
  | _ => none
theorem xv_lcH {h : Nat} {t : CT} {tst : En → Mo Bool} {gt : VEn → Option Bool} {elt : DE} {ge : VEn → Option Y} (ht : XT O tst gt) (he : XV O elt ge) (hv : ∀ i ∈ t.vs, i ∉ O) : XV O (cLc (cIt (cVar h)) t tst elt) (vLcH h t gt ge) := fun P S ρ σ φ b r y e => by
  unfold vLcH at e
  split at e
  · rename_i zs q0
    obtain ⟨out, e3, e4⟩ := Option.bind_eq_some_iff.mp e
    split at e4
    · rename_i ft
      cases e4
      obtain ⟨d, g1, o1⟩ := r.at_ h _ q0
      generalize hφ : φ h = fh at o1
      cases o1 with
      | lstO lf ds _ nPf gg o =>
        have hl := lt_of_get gg
        have st : Stp P S NoU P (S ++ [.lst []]) := ⟨by simp, fun l hl _ => List.getElem?_append_left hl, fun l h => h, fun l h => .inl h, fun l h => by have := b l h; simp; omega⟩
        have nP : ¬ P S.length := fun z => by have := b _ z; omega
        have nU : ¬ Uf φ S.length := fun z => by have := r.fp _ z; omega
        have r2 : Fr O P (S ++ [.lst []]) (wipeE ρ t.vs) (wipeV σ t.vs) φ := (r.st0 st b).wipe hv (wipeE_len _) fun i hi => wipeE_out hi
        have nxt : ∀ S'' : Sto, (∀ l, l = lf → S''[l]? = S[l]?) → ∀ i, liveX lf i S'' = some ds[i]? := fun S'' hs i => by rw [liveX_e, hs lf rfl, gg]; rfl
        obtain ⟨S', P', es', k1, k2, k3, k4, k5⟩ := lc_core ht he hv (run_V nxt) ds zs out [] [] P (S ++ [.lst []]) 0 rfl (o.st0 st b) st.bnd r2 (by simp) nP nU (fun l z => ⟨⟨by rw [z]; simp; omega, by rw [z]; omega⟩, by rw [z]; exact List.getElem?_append_left hl⟩) .nil e3 (by simpa using ft)
        have fin : Stp P S NoU P' S' := (st.up (U := fun l => l = S.length)).trans k2 (fun l z => .inl z) |> fun a => ⟨a.len, fun l hl _ => a.keep l hl fun z => by omega, a.mono, fun l z => by
          rcases a.new l z with w | w | w
          · exact .inl w
          · exact .inr (.inr (by omega))
          · exact .inr (.inr w), a.bnd⟩
        have ev : cIt (cVar h) ρ S = .ok (.view (liveX lf) ds.length) S := by
          simp [cIt_e, g1, itD_loc, gg]
        refine ⟨.loc S.length, S', fun l => P' l ∨ l ∈ [S.length], by rw [cLc_e, ev]; exact k1, add_P fin (fun l z => by rw [List.mem_singleton.mp z]; exact ⟨.inr (Nat.le_refl _), lt_of_get k4⟩), .lstF S.length es' _ (.inr (by simp)) k4 (k5.kp ⟨fun _ z => .inl z, (fun _ z => by cases z), fun _ _ _ z => z⟩)⟩
    · cases e4
  · cases e
def oLc (gi : VEn → Option (List Y)) (t : CT) (gt : VEn → Option Bool) (ge : VEn → Option Y) : VEn → Option (Y × VEn) := fun σ => (vLcL gi t gt ge σ).map fun ys => (.lst true ys, σ)
theorem xo_lc {it : En → Mo Wk} {gi : VEn → Option (List Y)} {t : CT} {tst : En → Mo Bool} {gt : VEn → Option Bool} {elt : DE} {ge : VEn → Option Y} (hi : XI O it gi) (ht : XT O tst gt) (he : XV O elt ge) (hv : ∀ i ∈ t.vs, i ∉ O) : XE O (cLc it t tst elt) (oLc gi t gt ge) := fun P S ρ σ φ b r y σ' e => by
  obtain ⟨ys, e1, e2⟩ := Option.map_eq_some_iff.mp e
  cases e2
  obtain ⟨n, S', P', es, k1, k2, k3, k4, k5, k6⟩ := lc_pure hi ht he hv b r e1
  refine ⟨.loc n, S', P', φ, [n], k1, k2.up, r.st0 k2 b, .lstO n es ys k3 k4 k5, fun l hl z => ?_, fun l q => ?_⟩
  · rw [List.mem_singleton.mp hl] at z
    have := (r.fp _ z).2
    omega
  · rcases q with q | q
    · exact .inl q
    · rw [List.mem_singleton.mp q]; exact .inr k6
/-! .. with effects -/
def lcE (t : CT) (gt : VEn → Option (Bool × VEn)) (ge : VEn → Option (Y × VEn)) : List Y → VEn → Option (List Y × VEn)
  | [], σ => some ([], σ)
  | y :: r, σ => (putV (wipeV σ t.vs) t y).bind fun σ1 => (gt σ1).bind fun p => if p.1 = true then (ge p.2).bind fun q => (lcE t gt ge r q.2).map fun w => (q.1 :: w.1, w.2) else lcE t gt ge r p.2
theorem lcE_core {t : CT} {tst : En → Mo Bool} {gt : VEn → Option (Bool × VEn)} {elt : DE} {ge : VEn → Option (Y × VEn)} (ht : XTE O tst gt) (he : XEV O elt ge) (hv : ∀ i ∈ t.vs, i ∉ O) {n : Nat} {D0 : List D} {P0 : Nat → Prop} {S0 : Sto} {run : List D → Nat → Sto → Rz D} (R : Run t tst elt ρ n D0 P0 S0 run) :
    ∀ (ds : List D) (ys out : List Y) (acc : List D) (accY : List Y) (P : Nat → Prop) (S : Sto) (i : Nat) (ρc : En) (σ σ' : VEn) (φ : Nat → List Nat), D0.drop i = ds → Owns P S ds ys [] → Bd P S → Fr O P S ρc σ φ → ρc.length = ρ.length → (∀ j, j ∉ t.vs → ρc[j]? = ρ[j]?) → S[n]? = some (.lst acc) → ¬ P n → ¬ Uf φ n → (∀ l, P0 l → P l ∧ S[l]? = S0[l]?) → Owns P S acc accY [] →
      lcE t gt ge ys σ = some (out, σ') → fit (accY.length + out.length) = true → ∃ S' P' es φ' ρe, run ds i S = .ok (.loc n) S' ∧ Stp P S (fun l => Uf φ l ∨ l = n) P' S' ∧ Fr O P' S' ρe σ' φ' ∧ ρe.length = ρ.length ∧ (∀ j, j ∉ t.vs → ρe[j]? = ρ[j]?) ∧ ¬ P' n ∧ ¬ Uf φ' n ∧ S'[n]? = some (.lst es) ∧ Owns P' S' es (accY ++ out) [] ∧ (∀ l, Uf φ' l → Uf φ l ∨ S.length ≤ l)
  | [], ys, out, acc, accY, P, S, i, ρc, σ, σ', φ, hd, o, b, r, hl, hag, g, nP, nU, hA, oa, q, ft => by
    cases o
    cases q
    exact ⟨S, P, acc, φ, ρc, R.nil i S hd fun l z => (hA l z).2, .refl b, r, hl, hag, nP, nU, g, by rw [List.append_nil]; exact oa, fun l z => .inl z⟩
  | d :: ds, ys, out, acc, accY, P, S, i, ρc, σ, σ', φ, hd, o, b, r, hl, hag, g, nP, nU, hA, oa, q, ft => by
    obtain ⟨y, ys, rfl⟩ := o.inv1
    obtain ⟨o1, o2⟩ := o.inv0
    obtain ⟨σ1, q1, q⟩ := Option.bind_eq_some_iff.mp q
    obtain ⟨⟨c, σ2⟩, q2, q⟩ := Option.bind_eq_some_iff.mp q
    have rw0 : Fr O P S ρ (wipeV σ t.vs) φ := r.wipe hv hl.symm fun j hj => (hag j hj).symm
    obtain ⟨ρ1, p1, r1, pl, pa⟩ := put_ok rw0 hv o1 q1
    obtain ⟨S1, P1, φ1, t1, t2, t3, t4⟩ := ht P S ρ1 σ1 φ b r1 c σ2 q2
    have hn := lt_of_get g
    have g1 : S1[n]? = some (.lst acc) := by rw [t2.keep n hn nU]; exact g
    have nP1 : ¬ P1 n := fun z => (t2.new n z).elim nP fun w => w.elim nU fun w => by omega
    have nU1 : ¬ Uf φ1 n := fun z => (t4 n z).elim nU fun w => by omega
    have hA1 : ∀ l, P0 l → P1 l ∧ S1[l]? = S0[l]? := fun l z => ⟨t2.mono l (hA l z).1, by rw [t2.keep l (b l (hA l z).1) fun w => r.hU l w (hA l z).1]; exact (hA l z).2⟩
    cases c with
    | false =>
      obtain ⟨S', P', es, φ', ρe, k1, k2, k3, k4, k5, k6, k7, k8, k9, k10⟩ := lcE_core ht he hv R ds ys out acc accY P1 S1 (i + 1) ρ1 σ2 σ' φ1 (drop_next hd) (o2.st t2 b r.hU) t2.bnd t3 pl pa g1 nP1 nU1 hA1 (oa.st t2 b r.hU) q ft
      refine ⟨S', P', es, φ', ρe, ?_, (t2.weak fun l z => .inl z).trans k2 fun l z => ?_, k3, k4, k5, k6, k7, k8, k9, fun l z => ?_⟩
      · rw [R.cons d ds i S hd fun l z => (hA l z).2]
        unfold lcTurn
        rw [p1]
        simp only [t1]
        exact k1
      · rcases z with z | z
        · exact (t4 l z).imp .inl id
        · exact .inl (.inr z)
      · rcases k10 l z with w | w
        · exact t4 l w
        · exact .inr (Nat.le_trans t2.len w)
    | true =>
      obtain ⟨⟨z, σ3⟩, q3, q⟩ := Option.bind_eq_some_iff.mp q
      obtain ⟨⟨rest, σ4⟩, q4, q5⟩ := Option.map_eq_some_iff.mp q
      cases q5
      obtain ⟨u, S2, P2, φ2, e1, e2, e3, e4, e5⟩ := he P1 S1 ρ1 σ2 φ1 t2.bnd t3 z σ3 q3
      have hn1 := lt_of_get g1
      have g2 : S2[n]? = some (.lst acc) := by rw [e2.keep n hn1 nU1]; exact g1
      have nP2 : ¬ P2 n := fun z => (e2.new n z).elim nP1 fun w => w.elim nU1 fun w => by omega
      have nU2 : ¬ Uf φ2 n := fun z => (e5 n z).elim nU1 fun w => by omega
      have st : Stp P S (Uf φ) P2 S2 := t2.trans e2 t4
      have ps : Stp P2 S2 (fun l => l = n) P2 (S2.set n (.lst (acc ++ [u]))) := push_stp e2.bnd (lt_of_get g2)
      have hU : ∀ l, l = n → ¬ P2 l := fun l z => z ▸ nP2
      have al : acc.length = accY.length := oa.length
      have hs : ∀ l, Uf φ2 l → Uf φ l ∨ S.length ≤ l := fun l z => by
        rcases e5 l z with w | w
        · exact t4 l w
        · exact .inr (Nat.le_trans t2.len w)
      obtain ⟨S', P', es, φ', ρe, k1, k2, k3, k4, k5, k6, k7, k8, k9, k10⟩ := lcE_core ht he hv R ds ys rest (acc ++ [u]) (accY ++ [z]) P2 (S2.set n (.lst (acc ++ [u]))) (i + 1) ρ1 σ3 σ4 φ2 (drop_next hd) ((o2.st st b r.hU).st ps e2.bnd hU) ps.bnd
        (e3.st ps e2.bnd hU fun l w v => nU2 (v ▸ w)) pl pa (List.getElem?_set_self (lt_of_get g2)) nP2 nU2 (fun l w => ⟨e2.mono l (hA1 l w).1, by
          rw [List.getElem?_set_ne fun v : n = l => nP1 (by rw [v]; exact (hA1 l w).1), e2.keep l (t2.bnd l (hA1 l w).1) fun v => t3.hU l v (hA1 l w).1]; exact (hA1 l w).2⟩)
        (((oa.st st b r.hU).app0 (.cons0 e4 .nil)).st ps e2.bnd hU) q4 (by simp only [List.length_append, List.length_cons, List.length_nil] at ft ⊢; rw [show accY.length + (0 + 1) + rest.length = accY.length + (rest.length + 1) by omega]; exact ft)
      refine ⟨S', P', es, φ', ρe, ?_, (st.weak fun l z => .inl z).trans ((ps.weak fun l z => .inr z).trans k2 fun l z => .inl z) fun l z => ?_, k3, k4, k5, k6, k7, k8, by rw [List.append_assoc] at k9; exact k9, fun l z => ?_⟩
      · rw [R.cons d ds i S hd fun l z => (hA l z).2]
        unfold lcTurn
        rw [p1]
        simp only [t1, e1]
        unfold pushL
        rw [g2]
        simp only
        rw [if_pos (fit_mono ft (by rw [al]; simp))]
        exact k1
      · rcases z with z | z
        · exact (hs l z).imp .inl id
        · exact .inl (.inr z)
      · rcases k10 l z with w | w
        · exact hs l w
        · have := st.len
          simp at w
          exact .inr (by omega)
def eLc (gi : VEn → Option (List Y × VEn)) (t : CT) (gt : VEn → Option (Bool × VEn)) (ge : VEn → Option (Y × VEn)) : VEn → Option (Y × VEn) := fun σ => (gi σ).bind fun p => (lcE t gt ge p.1 p.2).bind fun q => if fit q.1.length = true then some (.lst true q.1, wipeV q.2 t.vs) else none
theorem xe_lc {it : En → Mo Wk} {gi : VEn → Option (List Y × VEn)} {t : CT} {tst : En → Mo Bool} {gt : VEn → Option (Bool × VEn)} {elt : DE} {ge : VEn → Option (Y × VEn)} (hi : XIE O it gi) (ht : XTE O tst gt) (he : XEV O elt ge) (hv : ∀ i ∈ t.vs, i ∉ O) : XE O (cLc it t tst elt) (eLc gi t gt ge) := fun P S ρ σ φ b r y σ' e => by
  obtain ⟨⟨zs, σ1⟩, e1, e2⟩ := Option.bind_eq_some_iff.mp e
  obtain ⟨⟨out, σ2⟩, e3, e4⟩ := Option.bind_eq_some_iff.mp e2
  split at e4
  · rename_i ft
    cases e4
    obtain ⟨w, S1, P1, φ1, h1, h2, r0, ⟨ds, h3, h4⟩, hs⟩ := hi P S ρ σ φ b r _ _ e1
    have st : Stp P1 S1 NoU P1 (S1 ++ [.lst []]) := ⟨by simp, fun l hl _ => List.getElem?_append_left hl, fun l h => h, fun l h => .inl h, fun l h => by have := h2.bnd l h; simp; omega⟩
    have nP : ¬ P1 S1.length := fun z => by have := h2.bnd _ z; omega
    have r1 := r0.st0 st h2.bnd
    have nU : ¬ Uf φ1 S1.length := fun z => by have := r0.fp _ z; omega
    have r2 : Fr O P1 (S1 ++ [.lst []]) (wipeE ρ t.vs) (wipeV σ1 t.vs) φ1 := r1.wipe hv (wipeE_len _) fun i hi => wipeE_out hi
    have core := fun (run : List D → Nat → Sto → Rz D) (R : Run t tst elt (wipeE ρ t.vs) S1.length ds P1 S1 run) => lcE_core ht he hv R ds zs out [] [] P1 (S1 ++ [.lst []]) 0 ρ σ1 σ2 φ1 rfl (h3.st0 st h2.bnd) st.bnd r1 (wipeE_len _).symm (fun j hj => (wipeE_out hj).symm) (by simp) nP nU (fun l z => ⟨z, List.getElem?_append_left (h2.bnd l z)⟩) .nil e3 (by simpa using ft)
    have fin : ∀ S' P' φ' es' ρe, Stp P1 (S1 ++ [.lst []]) (fun l => Uf φ1 l ∨ l = S1.length) P' S' → Fr O P' S' ρe σ2 φ' → ρe.length = (wipeE ρ t.vs).length → (∀ j, j ∉ t.vs → ρe[j]? = (wipeE ρ t.vs)[j]?) → ¬ P' S1.length → ¬ Uf φ' S1.length → S'[S1.length]? = some (.lst es') → Owns P' S' es' ([] ++ out) [] → (∀ l, Uf φ' l → Uf φ1 l ∨ (S1 ++ [Ob.lst []]).length ≤ l) → cLc it t tst elt ρ S = .ok (.loc S1.length) S' →
        ∃ d S' P' φ' a, cLc it t tst elt ρ S = .ok d S' ∧ Stp P S (Uf φ) P' S' ∧ Fr O P' S' ρ (wipeV σ2 t.vs) φ' ∧ Own P' S' d (.lst true out) a ∧ (∀ l ∈ a, ¬ Uf φ' l) ∧ (∀ l, Uf φ' l ∨ l ∈ a → Uf φ l ∨ S.length ≤ l) := fun S' P' φ' es' ρe k2 k3 k4 k5 k6 k7 k8 k9 k10 k1 => by
      have a : Stp P S (fun l => Uf φ l ∨ l = S1.length) P' S' := (h2.weak fun l z => .inl z).trans ((st.up (U := fun l => Uf φ1 l ∨ l = S1.length)).trans k2 fun l z => .inl z) fun l z => by
        rcases z with z | z
        · exact (hs l z).imp .inl id
        · exact .inl (.inr z)
      refine ⟨_, S', P', φ', [S1.length], k1, ⟨a.len, fun l hl hu => a.keep l hl fun z => z.elim hu fun z => ?_, a.mono, fun l z => ?_, a.bnd⟩, k3.wipe hv (by rw [k4, wipeE_len]) (fun j hj => by rw [k5 j hj, wipeE_out hj]), .lstO _ es' out k6 k8 k9, fun l z w => ?_, fun l z => ?_⟩
      · have := h2.len; omega
      · rcases a.new l z with w | (w | w) | w
        · exact .inl w
        · exact .inr (.inl w)
        · have := h2.len; exact .inr (.inr (by omega))
        · exact .inr (.inr w)
      · rw [List.mem_singleton.mp z] at w; exact k7 w
      · rcases z with z | z
        · rcases k10 l z with w | w
          · exact hs l w
          · have := h2.len
            simp at w
            exact .inr (by omega)
        · rw [List.mem_singleton.mp z]; exact .inr h2.len
    cases w with
    | items es =>
      have h4 : es = ds := h4
      subst h4
      obtain ⟨S', P', es', φ', ρe, k1, k2, k3, k4, k5, k6, k7, k8, k9, k10⟩ := core _ run_I
      exact fin S' P' φ' es' ρe k2 k3 k4 k5 k6 k7 k8 k9 k10 (by rw [cLc_e, h1]; exact k1)
    | view nx m =>
      obtain ⟨h5, h6⟩ : m = ds.length ∧ ∀ S'', (∀ l, P1 l → S''[l]? = S1[l]?) → ∀ i, nx i S'' = some ds[i]? := h4
      subst h5
      obtain ⟨S', P', es', φ', ρe, k1, k2, k3, k4, k5, k6, k7, k8, k9, k10⟩ := core _ (run_V h6)
      exact fin S' P' φ' es' ρe k2 k3 k4 k5 k6 k7 k8 k9 k10 (by rw [cLc_e, h1]; exact k1)
  · cases e4
end
end Sm
end
section
/-! Sm, part V: calls on values. -/
namespace Sm
open PySem PySem.Spec PyProof.Rows L2
section
variable {O K : List Nat} {P P' P'' : Nat → Prop} {S S' S'' : Sto} {ρ ρ' : En} {σ σ' : VEn} {φ : Nat → List Nat} {d : D} {x y z k : Y} {ds : List D} {xs ys : List Y} {f f' : List Nat} {U U' U'' : Nat → Prop} {F : List D → Mo D} {np : Nat}
/-- a def that changes nothing that was there -/
def RefP (F : List D → Mo D) (G : List Y → Option Y) : Prop := ∀ P S ds ys, Bd P S → Owns P S ds ys [] → ∀ y, G ys = some y → ∃ d S' P' a, F ds S = .ok d S' ∧ Stp P S NoU P' S' ∧ Own P' S' d y a ∧ (∀ l ∈ a, S.length ≤ l)
/-- a def that changes what it is handed at K -/
def RefE (K : List Nat) (F : List D → Mo D) (G : List Y → Option (Y × VEn)) : Prop := ∀ P S ds ys φ, Bd P S → Fr K P S (ds.map some) (ys.map some) φ → ∀ y us, G ys = some (y, us) → ∃ d S' P' φ' a, F ds S = .ok d S' ∧ Stp P S (Uf φ) P' S' ∧ Fr K P' S' (ds.map some) us φ' ∧ Own P' S' d y a ∧ (∀ l ∈ a, ¬ Uf φ' l) ∧ (∀ l, Uf φ' l ∨ l ∈ a → Uf φ l ∨ S.length ≤ l)
def vCall (np : Nat) (G : List Y → Option Y) (gs : VEn → Option (List Y)) : VEn → Option Y := fun σ => (gs σ).bind fun ys => if ys.length = np then (G ys).map frz else none
theorem xv_call {G : List Y → Option Y} {fs : En → Mo (List D)} {gs : VEn → Option (List Y)} (H : RefP F G) (hs : XVs O fs gs) : XV O (cCall (apF np F) fs) (vCall np G gs) := fun P S ρ σ φ b r y e => by
  obtain ⟨ys, e1, e2⟩ := Option.bind_eq_some_iff.mp e
  split at e2
  · rename_i c
    obtain ⟨z, e3, rfl⟩ := Option.map_eq_some_iff.mp e2
    obtain ⟨ds, S1, P1, h1, h2, h3⟩ := hs P S ρ σ φ b r _ e1
    obtain ⟨u, S2, P2, a, k1, k2, k3, k4⟩ := H P1 S1 ds ys h2.bnd h3 z e3
    refine ⟨u, S2, fun l => P2 l ∨ l ∈ a, ?_, add_P (h2.tr0 k2) (fun l q => ⟨.inr (Nat.le_trans h2.len (k4 l q)), (k3.fp l q).2⟩), k3.frz (fun l q => .inl q) fun l q => .inr q⟩
    simp only [cCall_e, h1, andThen_ok, apF_e, h3.length, c, if_true, k1]
  · cases e2
def eCall (np : Nat) (G : List Y → Option Y) (gs : VEn → Option (List Y × VEn)) : VEn → Option (Y × VEn) := fun σ => (gs σ).bind fun p => if p.1.length = np then (G p.1).map fun y => (y, p.2) else none
theorem xe_call {G : List Y → Option Y} {fs : En → Mo (List D)} {gs : VEn → Option (List Y × VEn)} (H : RefP F G) (hs : XEVs O fs gs) : XE O (cCall (apF np F) fs) (eCall np G gs) := fun P S ρ σ φ b r y σ' e => by
  obtain ⟨⟨ys, σ1⟩, e1, e2⟩ := Option.bind_eq_some_iff.mp e
  split at e2
  · rename_i c
    obtain ⟨z, e3, e4⟩ := Option.map_eq_some_iff.mp e2
    cases e4
    obtain ⟨ds, S1, P1, φ1, h1, h2, h3, h4, h5⟩ := hs P S ρ σ φ b r _ _ e1
    obtain ⟨u, S2, P2, a, k1, k2, k3, k4⟩ := H P1 S1 ds ys h2.bnd h4 y e3
    refine ⟨u, S2, P2, φ1, a, ?_, h2.trans k2 (fun _ z => z.elim), h3.st0 k2 h2.bnd, k3, fun l q z => ?_, fun l q => ?_⟩
    · have c : ys.length = np := c
      simp only [cCall_e, h1, andThen_ok, apF_e, h4.length, c, if_true, k1]
    · have := (h3.fp l z).2
      have := k4 l q
      omega
    · rcases q with q | q
      · exact h5 l q
      · exact .inr (Nat.le_trans h2.len (k4 l q))
  · cases e2
/-! ### something owned handed to a def that does not change it -/
def XBs (O : List Nat) (f : En → Mo (List D)) (g : VEn → Option (List Y)) : Prop := ∀ P S ρ σ φ, Bd P S → Fr O P S ρ σ φ → ∀ y, g σ = some y → ∃ d S' P', f ρ S = .ok d S' ∧ Stp P S NoU P' S' ∧ Owns (fun l => P' l ∨ Uf φ l) S' d y []
theorem own_weak {a : List Nat} (h : Own P S d y a) (m : ∀ l, P l → P' l) (h2 : ∀ l ∈ a, ¬ P' l) : Own P' S d y a := h.kp ⟨m, h2, fun _ _ _ q => q⟩
theorem own_weak0 (h : Own P S d y []) (m : ∀ l, P l → P' l) : Own P' S d y [] := h.kp ⟨m, (fun _ z => by cases z), fun _ _ _ q => q⟩
theorem owns_weak0 (h : Owns P S ds ys []) (m : ∀ l, P l → P' l) : Owns P' S ds ys [] := h.kp ⟨m, (fun _ z => by cases z), fun _ _ _ q => q⟩
theorem xbs_nil : XBs O cNil vNil := fun P S ρ σ φ b r y e => by
  cases e
  exact ⟨[], S, P, rfl, .refl b, .nil⟩
theorem xbs_v {f : DE} {g : VEn → Option Y} {fs : En → Mo (List D)} {gs : VEn → Option (List Y)} (h : XV O f g) (hs : XBs O fs gs) : XBs O (cCons f fs) (vCons g gs) := fun P S ρ σ φ b r y e => by
  obtain ⟨y1, e1, e2⟩ := Option.bind_eq_some_iff.mp e
  obtain ⟨ys, e3, e4⟩ := Option.bind_eq_some_iff.mp e2
  cases e4
  obtain ⟨d, S1, P1, h1, h2, h3⟩ := h P S ρ σ φ b r _ e1
  obtain ⟨ds, S2, P2, k1, k2, k3⟩ := hs P1 S1 ρ σ φ h2.bnd (r.st0 h2 b) _ e3
  exact ⟨d :: ds, S2, P2, by simp [h1, k1], h2.tr0 k2, .cons0 (own_weak0 (h3.st0 k2 h2.bnd) fun _ z => .inl z) k3⟩
def vFrz (g : VEn → Option Y) : VEn → Option Y := fun σ => (g σ).map frz
theorem xbs_b {f : DE} {g : VEn → Option Y} {fs : En → Mo (List D)} {gs : VEn → Option (List Y)} (h : XB O f g) (hs : XBs O fs gs) : XBs O (cCons f fs) (vCons (vFrz g) gs) := fun P S ρ σ φ b r y e => by
  obtain ⟨y1, e1, e2⟩ := Option.bind_eq_some_iff.mp e
  obtain ⟨ys, e3, e4⟩ := Option.bind_eq_some_iff.mp e2
  obtain ⟨z, e5, rfl⟩ := Option.map_eq_some_iff.mp e1
  cases e4
  obtain ⟨d, S1, P1, a, h1, h2, h3, h4⟩ := h P S ρ σ φ b r _ e5
  obtain ⟨ds, S2, P2, k1, k2, k3⟩ := hs P1 S1 ρ σ φ h2.bnd (r.st0 h2 b) _ e3
  exact ⟨d :: ds, S2, P2, by simp [h1, k1], h2.tr0 k2, .cons0 ((h3.st0 k2 h2.bnd).frz (fun _ z => .inl z) fun l z => .inr (h4 l z)) k3⟩
def vCallB (np : Nat) (G : List Y → Option Y) (gs : VEn → Option (List Y)) : VEn → Option Y := fun σ => (gs σ).bind fun ys => if ys.length = np then (G ys).bind fun y => if flY y = true then some y else none else none
theorem call_b {G : List Y → Option Y} (H : RefP F G) {P1 : Nat → Prop} {S1 : Sto} (st : Stp P S NoU P1 S1) (r : Fr O P1 S1 ρ σ φ) (o : Owns (fun l => P1 l ∨ Uf φ l) S1 ds ys []) (e : G ys = some y) (c : flY y = true) :
    ∃ d S' P', F ds S1 = .ok d S' ∧ Stp P S NoU P' S' ∧ Own P' S' d y [] := by
  obtain ⟨u, S2, P2, a, k1, k2, k3, k4⟩ := H _ S1 ds ys (fun l z => z.elim (st.bnd l) fun z => (r.fp l z).2) o y e
  refine ⟨u, S2, P1, k1, st.tr0 ⟨k2.len, k2.keep, fun _ z => z, fun _ z => .inl z, fun l z => Nat.lt_of_lt_of_le (st.bnd l z) k2.len⟩, k3.fl c⟩
theorem xv_callB {G : List Y → Option Y} {fs : En → Mo (List D)} {gs : VEn → Option (List Y)} (H : RefP F G) (hs : XBs O fs gs) : XV O (cCall (apF np F) fs) (vCallB np G gs) := fun P S ρ σ φ b r y e => by
  obtain ⟨ys, e1, e2⟩ := Option.bind_eq_some_iff.mp e
  split at e2
  · rename_i c
    obtain ⟨z, e3, e4⟩ := Option.bind_eq_some_iff.mp e2
    split at e4
    · rename_i c2
      cases e4
      obtain ⟨ds, S1, P1, h1, h2, h3⟩ := hs P S ρ σ φ b r _ e1
      obtain ⟨u, S2, P2, k1, k2, k3⟩ := call_b H h2 (r.st0 h2 b) h3 e3 c2
      exact ⟨u, S2, P2, by simp only [cCall_e, h1, andThen_ok, apF_e, h3.length, c, if_true, k1], k2, k3⟩
    · cases e4
  · cases e2
/-! ### something owned handed to a def that changes it -/
inductive AR (P : Nat → Prop) (S : Sto) (ρ : En) (σ : VEn) : List D → List Y → List (Option Nat) → Prop
  | nil : AR P S ρ σ [] [] []
  | v (d : D) (y : Y) (ds : List D) (ys : List Y) (os : List (Option Nat)) : Own P S d y [] → AR P S ρ σ ds ys os → AR P S ρ σ (d :: ds) (y :: ys) (none :: os)
  | o (i : Nat) (d : D) (y : Y) (ds : List D) (ys : List Y) (os : List (Option Nat)) : ρ[i]? = some (some d) → σ[i]? = some (some y) → AR P S ρ σ ds ys os → AR P S ρ σ (d :: ds) (y :: ys) (some i :: os)
def XAs (O : List Nat) (f : En → Mo (List D)) (g : VEn → Option (List Y)) (os : List (Option Nat)) : Prop := ∀ P S ρ σ φ, Bd P S → Fr O P S ρ σ φ → ∀ y, g σ = some y → ∃ d S' P', f ρ S = .ok d S' ∧ Stp P S NoU P' S' ∧ AR P' S' ρ σ d y os
theorem xas_nil : XAs O cNil vNil [] := fun P S ρ σ φ b r y e => by
  cases e
  exact ⟨[], S, P, rfl, .refl b, .nil⟩
theorem xas_v {f : DE} {g : VEn → Option Y} {fs : En → Mo (List D)} {gs : VEn → Option (List Y)} {os : List (Option Nat)} (h : XV O f g) (hs : XAs O fs gs os) : XAs O (cCons f fs) (vCons g gs) (none :: os) := fun P S ρ σ φ b r y e => by
  obtain ⟨y1, e1, e2⟩ := Option.bind_eq_some_iff.mp e
  obtain ⟨ys, e3, e4⟩ := Option.bind_eq_some_iff.mp e2
  cases e4
  obtain ⟨d, S1, P1, h1, h2, h3⟩ := h P S ρ σ φ b r _ e1
  obtain ⟨ds, S2, P2, k1, k2, k3⟩ := hs P1 S1 ρ σ φ h2.bnd (r.st0 h2 b) _ e3
  exact ⟨d :: ds, S2, P2, by simp [h1, k1], h2.tr0 k2, .v _ _ _ _ _ (h3.st0 k2 h2.bnd) k3⟩
theorem vVar_some {i : Nat} (e : vVar i σ = some y) : σ[i]? = some (some y) := by
  unfold vVar at e
  split at e
  · rename_i q; cases e; exact q
  · cases e
theorem xas_o {i : Nat} {fs : En → Mo (List D)} {gs : VEn → Option (List Y)} {os : List (Option Nat)} (hs : XAs O fs gs os) : XAs O (cCons (cVar i) fs) (vCons (vVar i) gs) (some i :: os) := fun P S ρ σ φ b r y e => by
  obtain ⟨y1, e1, e2⟩ := Option.bind_eq_some_iff.mp e
  obtain ⟨ys, e3, e4⟩ := Option.bind_eq_some_iff.mp e2
  cases e4
  obtain ⟨d, h1, h2⟩ := r.at_ i y1 (vVar_some e1)
  obtain ⟨ds, S2, P2, k1, k2, k3⟩ := hs P S ρ σ φ b r _ e3
  exact ⟨d :: ds, S2, P2, by simp [h1, k1], k2, .o i d y1 ds ys os h1 (vVar_some e1) k3⟩
theorem AR.len {os : List (Option Nat)} : ∀ {ds : List D} {ys : List Y} {os : List (Option Nat)}, AR P S ρ σ ds ys os → ds.length = ys.length ∧ os.length = ys.length
  | _, _, _, .nil => ⟨rfl, rfl⟩
  | _, _, _, .v _ _ _ _ _ _ t => by have := AR.len (os := []) t; simp [this.1, this.2]
  | _, _, _, .o _ _ _ _ _ _ _ _ t => by have := AR.len (os := []) t; simp [this.1, this.2]
theorem AR.get {k : Nat} : ∀ {ds : List D} {ys : List Y} {os : List (Option Nat)} {k : Nat}, AR P S ρ σ ds ys os → ys[k]? = some y → ∃ d, ds[k]? = some d ∧ ((os[k]? = some none ∧ Own P S d y []) ∨ ∃ i, os[k]? = some (some i) ∧ ρ[i]? = some (some d) ∧ σ[i]? = some (some y))
  | _, _, _, _, .nil, e => by simp at e
  | _, _, _, 0, .v d _ _ _ _ w t, e => by simp at e; subst e; exact ⟨d, rfl, .inl ⟨rfl, w⟩⟩
  | _, _, _, 0, .o i d _ _ _ _ h1 h2 t, e => by simp at e; subst e; exact ⟨d, rfl, .inr ⟨i, rfl, h1, h2⟩⟩
  | _, _, _, k + 1, .v d _ _ _ _ w t, e => by
    obtain ⟨d, h1, h2⟩ := AR.get (k := k) t (by simpa using e)
    exact ⟨d, by simpa using h1, by simpa using h2⟩
  | _, _, _, k + 1, .o i d _ _ _ _ _ _ t, e => by
    obtain ⟨d, h1, h2⟩ := AR.get (k := k) t (by simpa using e)
    exact ⟨d, by simpa using h1, by simpa using h2⟩
/-- the owned ones stand where they may; each once -/
def okPos (K : List Nat) : Nat → List (Option Nat) → Bool
  | _, [] => true
  | n, none :: os => okPos K (n + 1) os
  | n, some _ :: os => decide (n ∈ K) && okPos K (n + 1) os
theorem okPos_get {i : Nat} : ∀ {os : List (Option Nat)} {n k : Nat}, okPos K n os = true → os[k]? = some (some i) → n + k ∈ K
  | [], n, k, _, e => by simp at e
  | none :: os, n, 0, _, e => by simp at e
  | none :: os, n, k + 1, h, e => by
    have := okPos_get (os := os) (n := n + 1) (k := k) h (by simpa using e)
    rwa [show n + 1 + k = n + (k + 1) by omega] at this
  | some j :: os, n, 0, h, e => by
    unfold okPos at h
    rw [Bool.and_eq_true] at h
    simpa using h.1
  | some j :: os, n, k + 1, h, e => by
    unfold okPos at h
    rw [Bool.and_eq_true] at h
    have := okPos_get (os := os) (n := n + 1) (k := k) h.2 (by simpa using e)
    rwa [show n + 1 + k = n + (k + 1) by omega] at this
def putB (σ : VEn) : List (Option Nat) → VEn → VEn
  | some i :: os, u :: us => putB (σ.set i u) os us
  | none :: os, _ :: us => putB σ os us
  | _, _ => σ
theorem putB_len : ∀ {os : List (Option Nat)} {us : VEn} {σ : VEn}, (putB σ os us).length = σ.length
  | [], us, σ => by cases us <;> rfl
  | none :: os, [], σ => rfl
  | some i :: os, [], σ => rfl
  | none :: os, u :: us, σ => by show (putB σ os us).length = _; exact putB_len
  | some i :: os, u :: us, σ => by show (putB (σ.set i u) os us).length = _; rw [putB_len, List.length_set]
theorem putB_out {i : Nat} : ∀ {os : List (Option Nat)} {us : VEn} {σ : VEn}, some i ∉ os → (putB σ os us)[i]? = σ[i]?
  | [], us, σ, _ => by cases us <;> rfl
  | none :: os, [], σ, _ => rfl
  | some i :: os, [], σ, _ => rfl
  | none :: os, u :: us, σ, h => by
    simp at h
    show (putB σ os us)[i]? = _
    exact putB_out h
  | some j :: os, u :: us, σ, h => by
    simp at h
    show (putB (σ.set j u) os us)[i]? = _
    rw [putB_out h.2, List.getElem?_set_ne fun z => h.1 z.symm]
theorem putB_in {i : Nat} : ∀ {os : List (Option Nat)} {us : VEn} {σ : VEn} {k : Nat}, (os.filterMap id).Nodup → os[k]? = some (some i) → i < σ.length → us.length = os.length → (putB σ os us)[i]? = us[k]?
  | [], us, σ, k, _, e, _, _ => by simp at e
  | none :: os, [], σ, _, _, _, _, h => by simp at h
  | some j :: os, [], σ, _, _, _, _, h => by simp at h
  | none :: os, u :: us, σ, 0, _, e, _, _ => by simp at e
  | none :: os, u :: us, σ, k + 1, n, e, hl, h => by
    show (putB σ os us)[i]? = _
    rw [putB_in (k := k) (by simpa using n) (by simpa using e) hl (by simpa using h)]
    simp
  | some j :: os, u :: us, σ, 0, n, e, hl, h => by
    simp at e
    subst e
    simp at n
    show (putB (σ.set j u) os us)[j]? = _
    rw [putB_out (by simpa using n.1), List.getElem?_set_self hl]
    simp
  | some j :: os, u :: us, σ, k + 1, n, e, hl, h => by
    simp at n
    show (putB (σ.set j u) os us)[i]? = _
    rw [putB_in (k := k) n.2 (by simpa using e) (by simpa using hl) (by simpa using h)]
    simp
theorem pos_uniq {i : Nat} : ∀ {os : List (Option Nat)} {k k' : Nat}, (os.filterMap id).Nodup → os[k]? = some (some i) → os[k']? = some (some i) → k = k'
  | [], k, k', _, e, _ => by simp at e
  | none :: os, 0, k', _, e, _ => by simp at e
  | none :: os, k + 1, 0, _, _, e => by simp at e
  | none :: os, k + 1, k' + 1, n, e, e' => by
    rw [pos_uniq (k := k) (k' := k') (by simpa using n) (by simpa using e) (by simpa using e')]
  | some j :: os, 0, 0, _, _, _ => rfl
  | some j :: os, 0, k' + 1, n, e, e' => by
    simp at e
    subst e
    simp at n
    exact absurd (List.mem_of_getElem? (show os[k']? = _ by simpa using e')) n.1
  | some j :: os, k + 1, 0, n, e, e' => by
    simp at e'
    subst e'
    simp at n
    exact absurd (List.mem_of_getElem? (show os[k]? = _ by simpa using e)) n.1
  | some j :: os, k + 1, k' + 1, n, e, e' => by
    simp at n
    rw [pos_uniq (k := k) (k' := k') n.2 (by simpa using e) (by simpa using e')]
/-- the callee's frame, and ours behind the call -/
def posO (os : List (Option Nat)) (i : Nat) : Option Nat := os.findIdx? fun o => decide (o = some i)
theorem posO_some {os : List (Option Nat)} {i k : Nat} (h : posO os i = some k) : os[k]? = some (some i) := by
  unfold posO at h
  rw [List.findIdx?_eq_some_iff_getElem] at h
  obtain ⟨h1, h2, _⟩ := h
  rw [List.getElem?_eq_getElem h1]
  simpa using h2
theorem posO_none {os : List (Option Nat)} {i : Nat} (h : posO os i = none) : some i ∉ os := by
  unfold posO at h
  rw [List.findIdx?_eq_none_iff] at h
  intro z
  have := h _ z
  simp at this
def phiC (φ : Nat → List Nat) (os : List (Option Nat)) : Nat → List Nat := fun k => match os[k]? with
  | some (some i) => φ i
  | _ => []
theorem map_some_get {α : Type} {xs : List α} {i : Nat} {y : α} (h : (xs.map some)[i]? = some (some y)) : xs[i]? = some y := by
  rw [List.getElem?_map] at h
  obtain ⟨a, h1, h2⟩ := Option.map_eq_some_iff.mp h
  cases h2
  exact h1
theorem frame_in {os : List (Option Nat)} (r : Fr O P S ρ σ φ) (a : AR P S ρ σ ds ys os) (hp : okPos K 0 os = true) (hn : (os.filterMap id).Nodup) : Fr K P S (ds.map some) (ys.map some) (phiC φ os) := by
  obtain ⟨l1, l2⟩ := AR.len (os := []) a
  refine ⟨by simp [l1], fun k y q => ?_, fun k hk => ?_, fun k q => ?_, fun j k hjk l h1 h2 => ?_⟩
  · have q := map_some_get q
    obtain ⟨d, e1, e2⟩ := AR.get (k := k) a q
    refine ⟨d, by rw [List.getElem?_map, e1]; rfl, ?_⟩
    rcases e2 with ⟨e3, e4⟩ | ⟨i, e3, e4, e5⟩
    · unfold phiC; rw [e3]; exact e4
    · unfold phiC; rw [e3]
      obtain ⟨d', g1, g2⟩ := r.at_ i y e5
      rw [g1] at e4
      cases e4
      exact g2
  · unfold phiC
    split
    · rename_i i e
      have := okPos_get hp e
      rw [Nat.zero_add] at this
      exact absurd this hk
    · rfl
  · unfold phiC
    split
    · rename_i i e
      have hk := (List.getElem?_eq_some_iff.mp e).1
      have hy : k < ys.length := by omega
      exact absurd (show (ys.map some)[k]? = some (some ys[k]) by simp) (q ys[k])
    · rfl
  · unfold phiC at h1 h2
    split at h1
    · rename_i i e
      split at h2
      · rename_i i' e'
        by_cases hi : i = i'
        · subst hi; exact hjk (pos_uniq hn e e')
        · exact r.dis i i' hi l h1 h2
      · cases h2
    · cases h1
theorem Uf_in {os : List (Option Nat)} : ∀ l, Uf (phiC φ os) l → ∃ (i k : Nat), os[k]? = some (some i) ∧ l ∈ φ i := by
  rintro l ⟨k, h⟩
  unfold phiC at h
  split at h
  · rename_i i e; exact ⟨i, k, e, h⟩
  · cases h
theorem frame_out {os : List (Option Nat)} {us : VEn} {φ' : Nat → List Nat} {P0 : Nat → Prop} {S0 : Sto} (b : Bd P S) (r : Fr O P S ρ σ φ) (a : AR P0 S0 ρ σ ds ys os) (hn : (os.filterMap id).Nodup) (hO : ∀ i, some i ∈ os → i ∈ O) (st : Stp P S (Uf (phiC φ os)) P' S') (r' : Fr K P' S' (ds.map some) us φ') (hs : ∀ l, Uf φ' l → Uf (phiC φ os) l ∨ S.length ≤ l) :
    ∃ φ'', Fr O P' S' ρ (putB σ os us) φ'' ∧ (∀ l, Uf φ'' l → Uf φ l ∨ S.length ≤ l) ∧ (∀ l, Uf φ'' l → Uf φ' l ∨ (Uf φ l ∧ ¬ Uf (phiC φ os) l)) := by
  obtain ⟨l1, l2⟩ := AR.len (os := []) a
  have lu : us.length = os.length := by have := r'.len; simp at this; omega
  have hU : ∀ l, Uf (phiC φ os) l → ¬ P l := fun l z => by
    obtain ⟨i, k, _, h⟩ := Uf_in l z
    exact (r.fp l ⟨i, h⟩).1
  have sep : ∀ i, some i ∉ os → ∀ l ∈ φ i, ¬ Uf (phiC φ os) l := fun i hi l hl z => by
    obtain ⟨j, k, e, h⟩ := Uf_in l z
    exact r.dis i j (fun w => hi (w ▸ List.mem_of_getElem? e)) l hl h
  have inU : ∀ l, Uf (phiC φ os) l → Uf φ l := fun l z => by
    obtain ⟨i, k, _, h⟩ := Uf_in l z
    exact ⟨i, h⟩
  refine ⟨fun i => match posO os i with | some k => φ' k | none => φ i, ⟨by rw [putB_len]; exact r.len, fun i y q => ?_, fun i hi => ?_, fun i q => ?_, fun i j hij l h1 h2 => ?_⟩, ?_, ?_⟩
  · cases hp : posO os i with
    | some k =>
      have e := posO_some hp
      have hi : i < σ.length := by
        have := (List.getElem?_eq_some_iff.mp q).1
        rwa [putB_len] at this
      rw [putB_in hn e hi lu] at q
      obtain ⟨d, g1, g2⟩ := r'.at_ k y q
      have g1 := map_some_get g1
      obtain ⟨u, hu⟩ : ∃ u, ys[k]? = some u := by
        have := (List.getElem?_eq_some_iff.mp g1).1
        exact ⟨_, List.getElem?_eq_getElem (by omega)⟩
      obtain ⟨d', w1, w2⟩ := AR.get (k := k) a hu
      rw [g1] at w1
      cases w1
      rcases w2 with ⟨w3, _⟩ | ⟨i', w3, w4, _⟩
      · rw [e] at w3; cases w3
      · rw [e] at w3; cases w3
        exact ⟨d, w4, g2⟩
    | none =>
      have hi := posO_none hp
      rw [putB_out hi] at q
      obtain ⟨d, g1, g2⟩ := r.at_ i y q
      exact ⟨d, g1, g2.kp (st.kp b hU (fun l z => g2.fp l z) (sep i hi))⟩
  · cases hp : posO os i with
    | some k => exact absurd (hO i (List.mem_of_getElem? (posO_some hp))) hi
    | none => exact r.val i hi
  · cases hp : posO os i with
    | some k =>
      have e := posO_some hp
      refine r'.emp k fun y z => q y ?_
      by_cases hi : i < σ.length
      · rw [putB_in hn e hi lu]; exact z
      · exfalso
        have hk := (List.getElem?_eq_some_iff.mp e).1
        obtain ⟨u, hu⟩ : ∃ u, ys[k]? = some u := ⟨_, List.getElem?_eq_getElem (by omega)⟩
        obtain ⟨d', w1, w2⟩ := AR.get (k := k) a hu
        rcases w2 with ⟨w3, _⟩ | ⟨i', w3, _, w4⟩
        · rw [e] at w3; cases w3
        · rw [e] at w3; cases w3
          exact hi (List.getElem?_eq_some_iff.mp w4).1
    | none =>
      have hi := posO_none hp
      refine r.emp i fun y z => q y ?_
      rw [putB_out hi]; exact z
  · cases hp : posO os i with
    | some k =>
      rw [hp] at h1
      cases hp' : posO os j with
      | some k' =>
        rw [hp'] at h2
        have e := posO_some hp
        have e' := posO_some hp'
        by_cases hk : k = k'
        · subst hk; rw [e] at e'; cases e'; exact hij rfl
        · exact r'.dis k k' hk l h1 h2
      | none =>
        rw [hp'] at h2
        rcases hs l ⟨k, h1⟩ with z | z
        · exact sep j (posO_none hp') l h2 z
        · have := (r.fp l ⟨j, h2⟩).2; omega
    | none =>
      rw [hp] at h1
      cases hp' : posO os j with
      | some k' =>
        rw [hp'] at h2
        rcases hs l ⟨k', h2⟩ with z | z
        · exact sep i (posO_none hp) l h1 z
        · have := (r.fp l ⟨i, h1⟩).2; omega
      | none =>
        rw [hp'] at h2
        exact r.dis i j hij l h1 h2
  · rintro l ⟨i, h⟩
    dsimp only at h
    cases hp : posO os i with
    | some k =>
      rw [hp] at h
      exact (hs l ⟨k, h⟩).imp (inU l) id
    | none => rw [hp] at h; exact .inl ⟨i, h⟩
  · rintro l ⟨i, h⟩
    dsimp only at h
    cases hp : posO os i with
    | some k =>
      rw [hp] at h
      exact .inl ⟨k, h⟩
    | none =>
      rw [hp] at h
      exact .inr ⟨⟨i, h⟩, sep i (posO_none hp) l h⟩
theorem AR.st0 {os : List (Option Nat)} (st : Stp P S NoU P' S') (b : Bd P S) : ∀ {ds : List D} {ys : List Y} {os : List (Option Nat)}, AR P S ρ σ ds ys os → AR P' S' ρ σ ds ys os
  | _, _, _, .nil => .nil
  | _, _, _, .v _ _ _ _ _ w t => .v _ _ _ _ _ (w.st0 st b) (AR.st0 (os := os) st b t)
  | _, _, _, .o _ _ _ _ _ _ h1 h2 t => .o _ _ _ _ _ _ h1 h2 (AR.st0 (os := os) st b t)
theorem call_core {G : List Y → Option (Y × VEn)} {os : List (Option Nat)} {us : VEn} (H : RefE K F G) (b : Bd P S) (r : Fr O P S ρ σ φ) (a : AR P S ρ σ ds ys os) (hp : okPos K 0 os = true) (hn : (os.filterMap id).Nodup) (hO : ∀ i, some i ∈ os → i ∈ O) (e : G ys = some (y, us)) :
    ∃ d S' P' φ' a, F ds S = .ok d S' ∧ Stp P S (Uf φ) P' S' ∧ Fr O P' S' ρ (putB σ os us) φ' ∧ Own P' S' d y a ∧ (∀ l ∈ a, ¬ Uf φ' l) ∧ (∀ l, Uf φ' l ∨ l ∈ a → Uf φ l ∨ S.length ≤ l) := by
  have inU : ∀ l, Uf (phiC φ os) l → Uf φ l := fun l z => by
    obtain ⟨i, k, _, h⟩ := Uf_in l z
    exact ⟨i, h⟩
  obtain ⟨u, S2, P2, φ2, c, k1, k2, k3, k4, k5, k6⟩ := H P S ds ys _ b (frame_in r a hp hn) y us e
  obtain ⟨φ3, j1, j2, j3⟩ := frame_out b r a hn hO k2 k3 fun l z => k6 l (.inl z)
  refine ⟨u, S2, P2, φ3, c, k1, k2.weak inU, j1, k4, fun l hl z => ?_, fun l z => ?_⟩
  · rcases j3 l z with w | ⟨w1, w2⟩
    · exact k5 l hl w
    · rcases k6 l (.inr hl) with v | v
      · exact w2 v
      · have := (r.fp l w1).2; omega
  · rcases z with z | z
    · exact j2 l z
    · exact (k6 l (.inr z)).imp (inU l) id
/-! .. and something owned lent -/
mutual
def noF : Y → Bool
  | .lst o xs => o && xs.all flY
  | .dct o kvs => o && noFK kvs
  | .ins o _ fs => o && noFF fs
  | y => flY y
def noFK : List (Key × Y) → Bool
  | [] => true
  | (_, y) :: r => noF y && noFK r
def noFF : List (Str × Y) → Bool
  | [] => true
  | (_, y) :: r => noF y && noFF r
end
theorem noFK_all : ∀ kvs : List (Key × Y), noFK kvs = true → ∀ y ∈ kvs.map (·.2), noF y = true
  | [], _, y, h => by simp at h
  | (k, z) :: r, h, y, hy => by
    simp only [noFK, Bool.and_eq_true] at h
    rcases List.mem_cons.mp hy with e | e
    · subst e; exact h.1
    · exact noFK_all r h.2 y e
theorem noFF_all : ∀ kvs : List (Str × Y), noFF kvs = true → ∀ y ∈ kvs.map (·.2), noF y = true
  | [], _, y, h => by simp at h
  | (k, z) :: r, h, y, hy => by
    simp only [noFF, Bool.and_eq_true] at h
    rcases List.mem_cons.mp hy with e | e
    · subst e; exact h.1
    · exact noFF_all r h.2 y e
mutual
theorem Own.nf : ∀ {d : D} {y : Y} {f : List Nat}, Own P S d y f → noF y = true → (∀ l ∈ f, ¬ P' l) → Own P' S d y f
  | _, _, _, .non, _, _ => .non
  | _, _, _, .bl _, _, _ => .bl _
  | _, _, _, .int _, _, _ => .int _
  | _, _, _, .str _, _, _ => .str _
  | _, _, _, .ty _, _, _ => .ty _
  | _, _, _, .cls _, _, _ => .cls _
  | _, _, _, .fnc _, _, _ => .fnc _
  | _, _, _, .tup ds ys r, h, _ => Own.fl (.tup ds ys r) (by simpa [noF] using h)
  | _, _, _, .lsc _ _ _, h, _ => by simp [noF, flY] at h
  | _, _, _, .lstF _ _ _ _ _ _, h, _ => by simp [noF] at h
  | _, _, _, .lstO l ds ys _ q r, h, n => .lstO l ds ys (n l (List.mem_singleton.mpr rfl)) q (r.fl fun z hz => by simp [noF] at h; exact h z hz)
  | _, _, _, .dctF _ _ _ _ _ _ _, h, _ => by simp [noF] at h
  | _, _, _, .dctO l kvs kys f _ nl q e r, h, n => .dctO l kvs kys f (n l List.mem_cons_self) nl q e (Owns.nf r (noFK_all kys (by simpa [noF] using h)) fun m hm => n m (List.mem_cons_of_mem _ hm))
  | _, _, _, .insF _ _ _ _ _ _ _ _, h, _ => by simp [noF] at h
  | _, _, _, .insO l c kvs kys f _ nl q e r, h, n => .insO l c kvs kys f (n l List.mem_cons_self) nl q e (Owns.nf r (noFF_all kys (by simpa [noF] using h)) fun m hm => n m (List.mem_cons_of_mem _ hm))
theorem Owns.nf : ∀ {d : List D} {y : List Y} {f : List Nat}, Owns P S d y f → (∀ z ∈ y, noF z = true) → (∀ l ∈ f, ¬ P' l) → Owns P' S d y f
  | _, _, _, .nil, _, _ => .nil
  | _, _, _, .cons d y ds ys f f' r t nd, h, n => .cons d y ds ys f f' (Own.nf r (h y List.mem_cons_self) fun l z => n l (List.mem_append_left _ z)) (Owns.nf t (fun z hz => h z (List.mem_cons_of_mem _ hz)) fun l z => n l (List.mem_append_right _ z)) nd
end
def lent (φ : Nat → List Nat) (bs : List Nat) : Nat → Prop := fun l => ∃ i ∈ bs, l ∈ φ i
def XAb (O : List Nat) (f : En → Mo (List D)) (g : VEn → Option (List Y)) (os : List (Option Nat)) (bs : List Nat) : Prop := ∀ P S ρ σ φ, Bd P S → Fr O P S ρ σ φ → ∀ y, g σ = some y → ∃ d S' P', f ρ S = .ok d S' ∧ Stp P S NoU P' S' ∧ AR (fun l => P' l ∨ lent φ bs l) S' ρ σ d y os
theorem xab_nil {bs : List Nat} : XAb O cNil vNil [] bs := fun P S ρ σ φ b r y e => by
  cases e
  exact ⟨[], S, P, rfl, .refl b, .nil⟩
theorem xab_v {f : DE} {g : VEn → Option Y} {fs : En → Mo (List D)} {gs : VEn → Option (List Y)} {os : List (Option Nat)} {bs : List Nat} (h : XV O f g) (hs : XAb O fs gs os bs) : XAb O (cCons f fs) (vCons g gs) (none :: os) bs := fun P S ρ σ φ b r y e => by
  obtain ⟨y1, e1, e2⟩ := Option.bind_eq_some_iff.mp e
  obtain ⟨ys, e3, e4⟩ := Option.bind_eq_some_iff.mp e2
  cases e4
  obtain ⟨d, S1, P1, h1, h2, h3⟩ := h P S ρ σ φ b r _ e1
  obtain ⟨ds, S2, P2, k1, k2, k3⟩ := hs P1 S1 ρ σ φ h2.bnd (r.st0 h2 b) _ e3
  exact ⟨d :: ds, S2, P2, by simp [h1, k1], h2.tr0 k2, .v _ _ _ _ _ (own_weak0 (h3.st0 k2 h2.bnd) fun _ z => .inl z) k3⟩
theorem xab_o {i : Nat} {fs : En → Mo (List D)} {gs : VEn → Option (List Y)} {os : List (Option Nat)} {bs : List Nat} (hs : XAb O fs gs os bs) : XAb O (cCons (cVar i) fs) (vCons (vVar i) gs) (some i :: os) bs := fun P S ρ σ φ b r y e => by
  obtain ⟨y1, e1, e2⟩ := Option.bind_eq_some_iff.mp e
  obtain ⟨ys, e3, e4⟩ := Option.bind_eq_some_iff.mp e2
  cases e4
  obtain ⟨d, h1, h2⟩ := r.at_ i y1 (vVar_some e1)
  obtain ⟨ds, S2, P2, k1, k2, k3⟩ := hs P S ρ σ φ b r _ e3
  exact ⟨d :: ds, S2, P2, by simp [h1, k1], k2, .o i d y1 ds ys os h1 (vVar_some e1) k3⟩
theorem xab_b {i : Nat} {fs : En → Mo (List D)} {gs : VEn → Option (List Y)} {os : List (Option Nat)} {bs : List Nat} (hi : i ∈ bs) (hs : XAb O fs gs os bs) : XAb O (cCons (cVar i) fs) (vCons (vFrz (vVar i)) gs) (none :: os) bs := fun P S ρ σ φ b r y e => by
  obtain ⟨y1, e1, e2⟩ := Option.bind_eq_some_iff.mp e
  obtain ⟨ys, e3, e4⟩ := Option.bind_eq_some_iff.mp e2
  cases e4
  obtain ⟨z, e5, rfl⟩ := Option.map_eq_some_iff.mp e1
  obtain ⟨d, h1, h2⟩ := r.at_ i z (vVar_some e5)
  obtain ⟨ds, S2, P2, k1, k2, k3⟩ := hs P S ρ σ φ b r _ e3
  exact ⟨d :: ds, S2, P2, by simp [h1, k1], k2, .v _ _ _ _ _ ((h2.st0 k2 b).frz (fun _ z => .inl z) fun l z => .inr ⟨i, hi, z⟩) k3⟩
def allNoF (us : VEn) : Bool := us.all fun o => match o with
  | some y => noF y
  | none => true
theorem call_coreB {G : List Y → Option (Y × VEn)} {os : List (Option Nat)} {bs : List Nat} {us : VEn} (H : RefE K F G) (b : Bd P S) (r : Fr O P S ρ σ φ) (a : AR (fun l => P l ∨ lent φ bs l) S ρ σ ds ys os) (hp : okPos K 0 os = true) (hn : (os.filterMap id).Nodup) (hO : ∀ i, some i ∈ os → i ∈ O) (hb : ∀ i ∈ bs, some i ∉ os) (e : G ys = some (y, us)) (c1 : flY y = true) (c2 : allNoF us = true) :
    ∃ d S' φ', F ds S = .ok d S' ∧ Stp P S (Uf φ) P S' ∧ Fr O P S' ρ (putB σ os us) φ' ∧ Own P S' d y [] ∧ (∀ l, Uf φ' l → Uf φ l ∨ S.length ≤ l) := by
  have inU : ∀ l, Uf (phiC φ os) l → Uf φ l := fun l z => by
    obtain ⟨i, k, _, h⟩ := Uf_in l z
    exact ⟨i, h⟩
  have sep : ∀ l, Uf (phiC φ os) l → ¬ lent φ bs l := fun l z w => by
    obtain ⟨i, k, e, h⟩ := Uf_in l z
    obtain ⟨j, hj, h'⟩ := w
    by_cases q : i = j
    · subst q; exact hb i hj (List.mem_of_getElem? e)
    · exact r.dis i j q l h h'
  have b' : Bd (fun l => P l ∨ lent φ bs l) S := fun l z => z.elim (b l) fun ⟨i, _, h⟩ => (r.fp l ⟨i, h⟩).2
  -- the callee's frame
  have r' : Fr K (fun l => P l ∨ lent φ bs l) S (ds.map some) (ys.map some) (phiC φ os) := by
    obtain ⟨l1, l2⟩ := AR.len (os := []) a
    refine ⟨by simp [l1], fun k y q => ?_, fun k hk => ?_, fun k q => ?_, fun j k hjk l h1 h2 => ?_⟩
    · have q := map_some_get q
      obtain ⟨d, e1, e2⟩ := AR.get (k := k) a q
      refine ⟨d, by rw [List.getElem?_map, e1]; rfl, ?_⟩
      rcases e2 with ⟨e3, e4⟩ | ⟨i, e3, e4, e5⟩
      · unfold phiC; rw [e3]; exact e4
      · have hin : ∀ l ∈ φ i, Uf (phiC φ os) l := fun l z => ⟨k, by unfold phiC; rw [e3]; exact z⟩
        unfold phiC; rw [e3]
        obtain ⟨d', g1, g2⟩ := r.at_ i y e5
        rw [g1] at e4
        cases e4
        exact own_weak g2 (fun l z => .inl z) fun l z w => w.elim (g2.fp l z).1 (sep l (hin l z))
    · unfold phiC
      split
      · rename_i i e
        have := okPos_get hp e
        rw [Nat.zero_add] at this
        exact absurd this hk
      · rfl
    · unfold phiC
      split
      · rename_i i e
        have hk := (List.getElem?_eq_some_iff.mp e).1
        have hy : k < ys.length := by omega
        exact absurd (show (ys.map some)[k]? = some (some ys[k]) by simp) (q ys[k])
      · rfl
    · unfold phiC at h1 h2
      split at h1
      · rename_i i e
        split at h2
        · rename_i i' e'
          by_cases hi : i = i'
          · subst hi; exact hjk (pos_uniq hn e e')
          · exact r.dis i i' hi l h1 h2
        · cases h2
      · cases h1
  obtain ⟨u, S2, P2, φ2, c, k1, k2, k3, k4, k5, k6⟩ := H _ S ds ys _ b' r' y us e
  have st : Stp P S (Uf (phiC φ os)) P S2 := ⟨k2.len, k2.keep, fun _ z => z, fun _ z => .inl z, fun l z => Nat.lt_of_lt_of_le (b l z) k2.len⟩
  have k3' : Fr K P S2 (ds.map some) us φ2 := ⟨k3.len, fun i y q => by
    obtain ⟨d, g1, g2⟩ := k3.at_ i y q
    refine ⟨d, g1, g2.nf ?_ fun l z w => (g2.fp l z).1 (k2.mono l (.inl w))⟩
    have := List.all_eq_true.mp c2 (some y) (List.mem_of_getElem? q)
    exact this, k3.val, k3.emp, k3.dis⟩
  obtain ⟨φ3, j1, j2, _⟩ := frame_out b r a hn hO st k3' fun l z => k6 l (.inl z)
  exact ⟨u, S2, φ3, k1, st.weak inU, j1, k4.fl c1, j2⟩
def vCallEB (np : Nat) (G : List Y → Option (Y × VEn)) (gs : VEn → Option (List Y)) (os : List (Option Nat)) : VEn → Option (Y × VEn) := fun σ => (gs σ).bind fun ys => if ys.length = np then (G ys).bind fun p => if (flY p.1 && allNoF p.2) = true then some (p.1, putB σ os p.2) else none else none
theorem xev_callEB {G : List Y → Option (Y × VEn)} {fs : En → Mo (List D)} {gs : VEn → Option (List Y)} {os : List (Option Nat)} {bs : List Nat} (H : RefE K F G) (hs : XAb O fs gs os bs) (hp : okPos K 0 os = true) (hn : (os.filterMap id).Nodup) (hO : ∀ i ∈ os.filterMap id, i ∈ O) (hb : ∀ i ∈ bs, some i ∉ os) : XEV O (cCall (apF np F) fs) (vCallEB np G gs os) := fun P S ρ σ φ b r y σ' e => by
  obtain ⟨ys, e1, e2⟩ := Option.bind_eq_some_iff.mp e
  split at e2
  · rename_i c
    obtain ⟨⟨z, us⟩, e3, e4⟩ := Option.bind_eq_some_iff.mp e2
    split at e4
    · rename_i c2
      cases e4
      rw [Bool.and_eq_true] at c2
      obtain ⟨ds, S1, P1, h1, h2, h3⟩ := hs P S ρ σ φ b r _ e1
      have r1 := r.st0 h2 b
      obtain ⟨u, S2, φ2, k1, k2, k3, k4, k6⟩ := call_coreB H h2.bnd r1 h3 hp hn (fun i hi => hO i (by simpa using hi)) hb e3 c2.1 c2.2
      refine ⟨u, S2, P1, φ2, ?_, h2.up.trans k2 fun l z => .inl z, k3, k4, fun l z => (k6 l z).imp id fun w => Nat.le_trans h2.len w⟩
      have := (AR.len (os := []) h3).1
      simp only [cCall_e, h1, andThen_ok, apF_e, this, c, if_true, k1]
    · cases e4
  · cases e2
def vCallE (np : Nat) (G : List Y → Option (Y × VEn)) (gs : VEn → Option (List Y)) (os : List (Option Nat)) : VEn → Option (Y × VEn) := fun σ => (gs σ).bind fun ys => if ys.length = np then (G ys).map fun p => (p.1, putB σ os p.2) else none
theorem xe_callE {G : List Y → Option (Y × VEn)} {fs : En → Mo (List D)} {gs : VEn → Option (List Y)} {os : List (Option Nat)} (H : RefE K F G) (hs : XAs O fs gs os) (hp : okPos K 0 os = true) (hn : (os.filterMap id).Nodup) (hO : ∀ i ∈ os.filterMap id, i ∈ O) : XE O (cCall (apF np F) fs) (vCallE np G gs os) := fun P S ρ σ φ b r y σ' e => by
  obtain ⟨ys, e1, e2⟩ := Option.bind_eq_some_iff.mp e
  split at e2
  · rename_i c
    obtain ⟨⟨z, us⟩, e3, e4⟩ := Option.map_eq_some_iff.mp e2
    cases e4
    obtain ⟨ds, S1, P1, h1, h2, h3⟩ := hs P S ρ σ φ b r _ e1
    have r1 := r.st0 h2 b
    obtain ⟨u, S2, P2, φ2, a, k1, k2, k3, k4, k5, k6⟩ := call_core H h2.bnd r1 h3 hp hn (fun i hi => hO i (by simpa using hi)) e3
    refine ⟨u, S2, P2, φ2, a, ?_, h2.up.trans k2 fun l z => .inl z, k3, k4, k5, fun l z => (k6 l z).imp id fun w => Nat.le_trans h2.len w⟩
    have := (AR.len (os := []) h3).1
    simp only [cCall_e, h1, andThen_ok, apF_e, this, c, if_true, k1]
  · cases e2
/-! ### methods -/
def insY (c : Nat) (nm : Str) : Y → Bool
  | .ins _ c' fs => decide (c' = c) && (fs.lookup nm).isNone
  | _ => false
theorem look_none {nm : Str} : ∀ {kvs : List (Str × D)} {kys : List (Str × Y)}, kvs.map (·.1) = kys.map (·.1) → (kvs.lookup nm).isNone = (kys.lookup nm).isNone
  | [], [], _ => rfl
  | [], (_, _) :: _, hk => by simp at hk
  | (_, _) :: _, [], hk => by simp at hk
  | (a, d) :: r, (a', v) :: r', hk => by
    simp only [List.map_cons, List.cons.injEq] at hk
    obtain ⟨rfl, hk⟩ := hk
    rw [List.lookup_cons, List.lookup_cons]
    cases nm == a with
    | true => rfl
    | false => exact look_none hk
theorem insY_ok {c : Nat} {nm : Str} {a : List Nat} (h : Own P S d y a) (q : insY c nm y = true) : chkI c nm d S = .ok () S := by
  have key : insG c nm d S = true := by
    cases h with
    | insF l c' kvs kys p g kk r =>
      show (match S[l]? with | some (.ins c' fs) => decide (c' = c) && (fs.lookup nm).isNone | _ => false) = true
      rw [g]
      simp only [look_none kk]
      exact q
    | insO l c' kvs kys f n p g kk r =>
      show (match S[l]? with | some (.ins c' fs) => decide (c' = c) && (fs.lookup nm).isNone | _ => false) = true
      rw [g]
      simp only [look_none kk]
      exact q
    | _ => cases q
  unfold chkI
  rw [if_pos key]
def vMethE (c : Nat) (nm : Str) (np : Nat) (G : List Y → Option (Y × VEn)) (i : Nat) (gs : VEn → Option (List Y)) (os : List (Option Nat)) : VEn → Option (Y × VEn) := fun σ => (vVar i σ).bind fun x => if insY c nm x = true then (gs σ).bind fun ys => if ys.length + 1 = np then (G (x :: ys)).map fun p => (p.1, putB σ (some i :: os) p.2) else none else none
theorem xe_meth {c : Nat} {nm : Str} {i : Nat} {G : List Y → Option (Y × VEn)} {fs : En → Mo (List D)} {gs : VEn → Option (List Y)} {os : List (Option Nat)} (H : RefE K F G) (hs : XAs O fs gs os) (hp : okPos K 0 (some i :: os) = true) (hn : ((some i :: os).filterMap id).Nodup) (hO : ∀ j ∈ (some i :: os).filterMap id, j ∈ O) : XE O (cMeth c nm np F (cVar i) fs) (vMethE c nm np G i gs os) := fun P S ρ σ φ b r y σ' e => by
  obtain ⟨x, e1, e2⟩ := Option.bind_eq_some_iff.mp e
  split at e2
  · rename_i ci
    obtain ⟨ys, e3, e4⟩ := Option.bind_eq_some_iff.mp e2
    split at e4
    · rename_i cn
      obtain ⟨⟨z, us⟩, e5, e6⟩ := Option.map_eq_some_iff.mp e4
      cases e6
      obtain ⟨d, g1, g2⟩ := r.at_ i x (vVar_some e1)
      obtain ⟨ds, S1, P1, h1, h2, h3⟩ := hs P S ρ σ φ b r _ e3
      have r1 := r.st0 h2 b
      obtain ⟨u, S2, P2, φ2, a, k1, k2, k3, k4, k5, k6⟩ := call_core H h2.bnd r1 (.o i d x ds ys os g1 (vVar_some e1) h3) hp hn (fun j hj => hO j (List.mem_filterMap.mpr ⟨_, hj, rfl⟩)) e5
      refine ⟨u, S2, P2, φ2, a, ?_, h2.up.trans k2 fun l z => .inl z, k3, k4, k5, fun l z => (k6 l z).imp id fun w => Nat.le_trans h2.len w⟩
      have hl := (AR.len (os := []) h3).1
      have ev : cVar i ρ S = .ok d S := by simp [g1]
      rw [cMeth_e, ev]
      simp only [andThen_ok, insY_ok g2 ci, h1, apF_e]
      rw [if_pos (by rw [List.length_cons]; omega), k1]
    · cases e4
  · cases e2
/-- on a thing that stands fast, by a def that changes nothing -/
def vMeth (c : Nat) (nm : Str) (np : Nat) (G : List Y → Option Y) (g : VEn → Option Y) (gs : VEn → Option (List Y)) : VEn → Option Y := fun σ => (g σ).bind fun x => if insY c nm x = true then (gs σ).bind fun ys => if ys.length + 1 = np then (G (x :: ys)).map frz else none else none
theorem xv_meth {c : Nat} {nm : Str} {G : List Y → Option Y} {fo : DE} {g : VEn → Option Y} {fs : En → Mo (List D)} {gs : VEn → Option (List Y)} (H : RefP F G) (ho : XV O fo g) (hs : XVs O fs gs) : XV O (cMeth c nm np F fo fs) (vMeth c nm np G g gs) := fun P S ρ σ φ b r y e => by
  obtain ⟨x, e1, e2⟩ := Option.bind_eq_some_iff.mp e
  split at e2
  · rename_i ci
    obtain ⟨ys, e3, e4⟩ := Option.bind_eq_some_iff.mp e2
    split at e4
    · rename_i cn
      obtain ⟨z, e5, rfl⟩ := Option.map_eq_some_iff.mp e4
      obtain ⟨d, S1, P1, h1, h2, h3⟩ := ho P S ρ σ φ b r _ e1
      obtain ⟨ds, S2, P2, i1, i2, i3⟩ := hs P1 S1 ρ σ φ h2.bnd (r.st0 h2 b) _ e3
      obtain ⟨u, S3, P3, a, k1, k2, k3, k4⟩ := H P2 S2 (d :: ds) (x :: ys) i2.bnd (.cons0 (h3.st0 i2 h2.bnd) i3) z e5
      refine ⟨u, S3, fun l => P3 l ∨ l ∈ a, ?_, add_P ((h2.tr0 i2).tr0 k2) (fun l q => ⟨.inr (Nat.le_trans (h2.tr0 i2).len (k4 l q)), (k3.fp l q).2⟩), k3.frz (fun l q => .inl q) fun l q => .inr q⟩
      rw [cMeth_e, h1]
      simp only [andThen_ok, insY_ok h3 ci, i1, apF_e]
      rw [if_pos (by rw [List.length_cons, i3.length]; omega), k1]
    · cases e4
  · cases e2
/-- on a thing that is owned, by a def that changes nothing and tells no place -/
def vMethB (c : Nat) (nm : Str) (np : Nat) (G : List Y → Option Y) (g : VEn → Option Y) (gs : VEn → Option (List Y)) : VEn → Option Y := fun σ => (g σ).bind fun x => if insY c nm x = true then (gs σ).bind fun ys => if ys.length + 1 = np then (G (frz x :: ys)).bind fun y => if flY y = true then some y else none else none else none
theorem xv_methB {c : Nat} {nm : Str} {G : List Y → Option Y} {fo : DE} {g : VEn → Option Y} {fs : En → Mo (List D)} {gs : VEn → Option (List Y)} (H : RefP F G) (ho : XB O fo g) (hs : XBs O fs gs) : XV O (cMeth c nm np F fo fs) (vMethB c nm np G g gs) := fun P S ρ σ φ b r y e => by
  obtain ⟨x, e1, e2⟩ := Option.bind_eq_some_iff.mp e
  split at e2
  · rename_i ci
    obtain ⟨ys, e3, e4⟩ := Option.bind_eq_some_iff.mp e2
    split at e4
    · rename_i cn
      obtain ⟨z, e5, e6⟩ := Option.bind_eq_some_iff.mp e4
      split at e6
      · rename_i cf
        cases e6
        obtain ⟨d, S1, P1, a, h1, h2, h3, h4⟩ := ho P S ρ σ φ b r _ e1
        obtain ⟨ds, S2, P2, i1, i2, i3⟩ := hs P1 S1 ρ σ φ h2.bnd (r.st0 h2 b) _ e3
        have st := h2.tr0 i2
        have o : Own (fun l => P2 l ∨ Uf φ l) S2 d (frz x) [] := (h3.st0 i2 h2.bnd).frz (fun _ z => .inl z) fun l z => .inr (h4 l z)
        obtain ⟨u, S3, P3, k1, k2, k3⟩ := call_b H st (r.st0 st b) (.cons0 o i3) e5 cf
        refine ⟨u, S3, P3, ?_, k2, k3⟩
        rw [cMeth_e, h1]
        simp only [andThen_ok, insY_ok h3 ci, i1, apF_e]
        rw [if_pos (by rw [List.length_cons, i3.length]; omega), k1]
      · cases e6
    · cases e4
  · cases e2
/-! ### new things -/
def vNew (c np : Nat) (G : List Y → Option (Y × VEn)) (gs : VEn → Option (List Y × VEn)) : VEn → Option (Y × VEn) := fun σ => (gs σ).bind fun p => if p.1.length + 1 = np then match G (.ins true c [] :: p.1) with
  | some (.non, some u :: _) => some (u, p.2)
  | _ => none else none
theorem xe_new {c : Nat} {G : List Y → Option (Y × VEn)} {fs : En → Mo (List D)} {gs : VEn → Option (List Y × VEn)} (H : RefE [0] F G) (hs : XEVs O fs gs) : XE O (cCall (newI c np F) fs) (vNew c np G gs) := fun P S ρ σ φ b r y σ' e => by
  obtain ⟨⟨ys, σ1⟩, e1, e2⟩ := Option.bind_eq_some_iff.mp e
  split at e2
  · rename_i cn
    split at e2
    · rename_i u us e3
      cases e2
      obtain ⟨ds, S1, P1, φ1, h1, h2, h3, h4, h5⟩ := hs P S ρ σ φ b r _ _ e1
      have st : Stp P1 S1 NoU P1 (S1 ++ [.ins c []]) := ⟨by simp, fun l hl _ => List.getElem?_append_left hl, fun l h => h, fun l h => .inl h, fun l h => by have := h2.bnd l h; simp; omega⟩
      have nP : ¬ P1 S1.length := fun z => by have := h2.bnd _ z; omega
      have o4 := h4.st0 st h2.bnd
      have fr : Fr [0] P1 (S1 ++ [.ins c []]) ((D.loc S1.length :: ds).map some) ((Y.ins true c [] :: ys).map some) (fun i => if i = 0 then [S1.length] else []) := by
        refine ⟨by simp [h4.length], fun i y q => ?_, fun i hi => ?_, fun i q => ?_, fun i j hij l a1 a2 => ?_⟩
        · cases i with
          | zero => simp at q; subst q; exact ⟨_, rfl, .insO _ c [] [] [] nP (by simp) (by simp) rfl .nil⟩
          | succ i =>
            have q := map_some_get q
            obtain ⟨u, k1, k2⟩ := o4.get0 (i := i) (by simpa using q)
            exact ⟨u, by simp [k1], by rw [if_neg (by omega)]; exact k2⟩
        · rw [if_neg (by simpa using hi)]
        · cases i with
          | zero => exact absurd rfl (q (.ins true c []))
          | succ i => rw [if_neg (by omega)]
        · by_cases hi : i = 0
          · by_cases hj : j = 0
            · exact hij (hi.trans hj.symm)
            · rw [if_neg hj] at a2; cases a2
          · rw [if_neg hi] at a1; cases a1
      obtain ⟨d, S2, P2, φ2, a, k1, k2, k3, k4, k5, k6⟩ := H P1 (S1 ++ [.ins c []]) _ _ _ st.bnd fr _ _ e3
      cases k4
      obtain ⟨d', g1, g2⟩ := k3.at_ 0 _ rfl
      cases g1
      have hU : ∀ l, Uf (fun i => if i = 0 then [S1.length] else []) l → l = S1.length := by
        rintro l ⟨i, hi⟩
        by_cases h0 : i = 0
        · simp only [h0, if_true] at hi; exact List.mem_singleton.mp hi
        · simp only [h0, if_false] at hi; cases hi
      have nU : ∀ l, Uf φ1 l → l ≠ S1.length := fun l z => by have := (h3.fp l z).2; omega
      have k2' : Stp P1 (S1 ++ [.ins c []]) (fun l => l = S1.length) P2 S2 := k2.weak hU
      have big : ∀ l, l ∈ φ2 0 → S1.length ≤ l := fun l z => by
        rcases k6 l (.inl ⟨0, z⟩) with w | w
        · rw [hU l w]; omega
        · simp at w; omega
      have tot : Stp P1 S1 NoU P2 S2 := ⟨Nat.le_trans st.len k2'.len, fun l hl _ => by rw [k2'.keep l (by have := st.len; omega) (by omega), st.keep l hl fun z => z], k2'.mono, fun l z => by
        rcases k2'.new l z with w | w | w
        · exact .inl w
        · exact .inr (.inr (by omega))
        · exact .inr (.inr (by have := st.len; omega)), k2'.bnd⟩
      refine ⟨.loc S1.length, S2, P2, φ1, φ2 0, ?_, h2.trans tot fun _ z => z.elim, h3.st0 tot h2.bnd, g2, fun l z w => ?_, fun l z => ?_⟩
      · rw [cCall_e, h1]
        simp only [andThen_ok, newI_e, apF_e]
        rw [if_pos (by rw [List.length_cons, h4.length]; exact cn), k1]
        rfl
      · have := (h3.fp l w).2
        have := big l z
        omega
      · rcases z with z | z
        · exact h5 l z
        · exact .inr (Nat.le_trans h2.len (big l z))
    · cases e2
  · cases e2
end
end Sm
end
section
/-! Sm, part W: statements on values. -/
namespace Sm
open PySem PySem.Spec PyProof.Rows L2
inductive YF where
  | nx (σ : VEn) | brk (σ : VEn) | cnt (σ : VEn) | ret (y : Y) (σ : VEn) | no
section
variable {O K : List Nat} {P P' P'' P1 : Nat → Prop} {S S' S'' S1 : Sto} {ρ ρ' ρ1 : En} {σ σ' σ1 : VEn} {φ φ1 : Nat → List Nat} {d : D} {x y z k : Y} {ds : List D} {xs ys : List Y} {f f' : List Nat} {U U' U'' : Nat → Prop} {r : Fz}
theorem set_pin {i j : Nat} {o : Option D} (hk : i ∉ K) (hj : j ∈ K) : (ρ.set i o)[j]? = ρ[j]? := List.getElem?_set_ne (by rintro rfl; exact hk hj)
def Go (O K : List Nat) (P : Nat → Prop) (S : Sto) (ρ : En) (φ : Nat → List Nat) (σ' : VEn) (ρ' : En) (S' : Sto) : Prop := ∃ P' φ', Stp P S (Uf φ) P' S' ∧ Fr O P' S' ρ' σ' φ' ∧ (∀ l, Uf φ' l → Uf φ l ∨ S.length ≤ l) ∧ (∀ i ∈ K, ρ'[i]? = ρ[i]?)
def SOut (O K : List Nat) (P : Nat → Prop) (S : Sto) (ρ : En) (φ : Nat → List Nat) (r : Fz) : YF → Prop
  | .nx σ' => ∃ ρ' S', r = .nx ρ' S' ∧ Go O K P S ρ φ σ' ρ' S'
  | .brk σ' => ∃ ρ' S', r = .brk ρ' S' ∧ Go O K P S ρ φ σ' ρ' S'
  | .cnt σ' => ∃ ρ' S', r = .cnt ρ' S' ∧ Go O K P S ρ φ σ' ρ' S'
  | .ret y σ' => ∃ d ρ' S' P' φ' a, r = .ret d S' ∧ Stp P S (Uf φ) P' S' ∧ Fr O P' S' ρ' σ' φ' ∧ (∀ i ∈ K, ρ'[i]? = ρ[i]?) ∧ Own P' S' d y a ∧ (∀ l ∈ a, ¬ Uf φ' l) ∧ (∀ l, Uf φ' l ∨ l ∈ a → Uf φ l ∨ S.length ≤ l)
  | .no => True
def XS (O K : List Nat) (s : DS) (g : VEn → YF) : Prop := ∀ P S ρ σ φ, Bd P S → Fr O P S ρ σ φ → SOut O K P S ρ φ (s ρ S) (g σ)
theorem Go.pre (st : Stp P S (Uf φ) P1 S1) (hs : ∀ l, Uf φ1 l → Uf φ l ∨ S.length ≤ l) (hk : ∀ i ∈ K, ρ1[i]? = ρ[i]?) (g : Go O K P1 S1 ρ1 φ1 σ' ρ' S') : Go O K P S ρ φ σ' ρ' S' := by
  obtain ⟨P2, φ2, a, b, c, e⟩ := g
  refine ⟨P2, φ2, st.trans a hs, b, fun l z => ?_, fun i hi => (e i hi).trans (hk i hi)⟩
  rcases c l z with w | w
  · exact hs l w
  · exact .inr (Nat.le_trans st.len w)
theorem SOut.pre {o : YF} (st : Stp P S (Uf φ) P1 S1) (hs : ∀ l, Uf φ1 l → Uf φ l ∨ S.length ≤ l) (hk : ∀ i ∈ K, ρ1[i]? = ρ[i]?) (g : SOut O K P1 S1 ρ1 φ1 r o) : SOut O K P S ρ φ r o := by
  cases o with
  | nx σ' => obtain ⟨ρ', S', e, g⟩ := g; exact ⟨ρ', S', e, g.pre st hs hk⟩
  | brk σ' => obtain ⟨ρ', S', e, g⟩ := g; exact ⟨ρ', S', e, g.pre st hs hk⟩
  | cnt σ' => obtain ⟨ρ', S', e, g⟩ := g; exact ⟨ρ', S', e, g.pre st hs hk⟩
  | ret y σ' =>
    obtain ⟨d, ρ', S', P', φ', a, e, g1, g2, g3, g4, g5, g6⟩ := g
    refine ⟨d, ρ', S', P', φ', a, e, st.trans g1 hs, g2, fun i hi => (g3 i hi).trans (hk i hi), g4, g5, fun l z => ?_⟩
    rcases g6 l z with w | w
    · exact hs l w
    · exact .inr (Nat.le_trans st.len w)
  | no => trivial
theorem SOut.go {o : YF} (g : Go O K P S ρ φ σ1 ρ1 S1) (h : ∀ P1 φ1, Bd P1 S1 → Fr O P1 S1 ρ1 σ1 φ1 → SOut O K P1 S1 ρ1 φ1 r o) : SOut O K P S ρ φ r o := by
  obtain ⟨P1, φ1, a, b, c, e⟩ := g
  exact (h P1 φ1 a.bnd b).pre a c e
theorem go_refl (b : Bd P S) (r : Fr O P S ρ σ φ) : Go O K P S ρ φ σ ρ S := ⟨P, φ, .refl b, r, fun l z => .inl z, fun _ _ => rfl⟩
def yNext : VEn → YF := fun σ => .nx σ
theorem xs_next : XS O K cNext yNext := fun P S ρ σ φ b r => ⟨ρ, S, rfl, go_refl b r⟩
def yBrk : VEn → YF := fun σ => .brk σ
theorem xs_brk : XS O K cBrk yBrk := fun P S ρ σ φ b r => ⟨ρ, S, rfl, go_refl b r⟩
def yCnt : VEn → YF := fun σ => .cnt σ
theorem xs_cnt : XS O K cCnt yCnt := fun P S ρ σ φ b r => ⟨ρ, S, rfl, go_refl b r⟩
def yNo : VEn → YF := fun _ => .no
theorem xs_never : XS O K cNever yNo := fun P S ρ σ φ b r => trivial
def ySeq (g h : VEn → YF) : VEn → YF := fun σ => match g σ with
  | .nx σ' => h σ'
  | o => o
theorem xs_seq {s t : DS} {g h : VEn → YF} (hs : XS O K s g) (ht : XS O K t h) : XS O K (cSeq s t) (ySeq g h) := fun P S ρ σ φ b r => by
  have h1 := hs P S ρ σ φ b r
  unfold ySeq
  cases q : g σ with
  | nx σ1 =>
    rw [q] at h1
    obtain ⟨ρ1, S1, e, go⟩ := h1
    simp only
    rw [cSeq_e, e]
    exact SOut.go go fun P1 φ1 b1 r1 => ht P1 S1 ρ1 σ1 φ1 b1 r1
  | brk σ1 =>
    rw [q] at h1
    obtain ⟨ρ1, S1, e, go⟩ := h1
    exact ⟨ρ1, S1, by rw [cSeq_e, e]; rfl, go⟩
  | cnt σ1 =>
    rw [q] at h1
    obtain ⟨ρ1, S1, e, go⟩ := h1
    exact ⟨ρ1, S1, by rw [cSeq_e, e]; rfl, go⟩
  | ret y σ1 =>
    rw [q] at h1
    obtain ⟨d, ρ', S', P', φ', a, e, g1⟩ := h1
    exact ⟨d, ρ', S', P', φ', a, by rw [cSeq_e, e]; rfl, g1⟩
  | no => trivial
def yRet (g : VEn → Option (Y × VEn)) : VEn → YF := fun σ => match g σ with
  | some (y, σ') => .ret y σ'
  | none => .no
theorem xs_ret {fe : DE} {g : VEn → Option (Y × VEn)} (h : XE O fe g) : XS O K (cRet fe) (yRet g) := fun P S ρ σ φ b r => by
  unfold yRet
  cases q : g σ with
  | none => trivial
  | some p =>
    obtain ⟨y, σ'⟩ := p
    obtain ⟨d, S1, P1, φ1, a, h1, h2, h3, h4, h5, h6⟩ := h P S ρ σ φ b r _ _ q
    exact ⟨d, ρ, S1, P1, φ1, a, by simp [h1, Rz.toF], h2, h3, fun _ _ => rfl, h4, h5, h6⟩
def yRetN : VEn → YF := fun σ => .ret .non σ
theorem xs_retN : XS O K cRetN yRetN := fun P S ρ σ φ b r => ⟨.non, ρ, S, P, φ, [], rfl, .refl b, r, fun _ _ => rfl, .non, (fun _ z => by cases z), fun l z => z.elim .inl fun z => by cases z⟩
def yExpr (g : VEn → Option (Y × VEn)) : VEn → YF := fun σ => match g σ with
  | some (_, σ') => .nx σ'
  | none => .no
theorem xs_expr {fe : DE} {g : VEn → Option (Y × VEn)} (h : XE O fe g) : XS O K (cExpr fe) (yExpr g) := fun P S ρ σ φ b r => by
  unfold yExpr
  cases q : g σ with
  | none => trivial
  | some p =>
    obtain ⟨y, σ'⟩ := p
    obtain ⟨d, S1, P1, φ1, a, h1, h2, h3, h4, h5, h6⟩ := h P S ρ σ φ b r _ _ q
    exact ⟨ρ, S1, by simp [h1, Rz.toF], P1, φ1, h2, h3, fun l z => h6 l (.inl z), fun _ _ => rfl⟩
def yIf (t : VEn → Option (Bool × VEn)) (g h : VEn → YF) : VEn → YF := fun σ => match t σ with
  | some (true, σ') => g σ'
  | some (false, σ') => h σ'
  | none => .no
theorem xs_if {ft : En → Mo Bool} {gt : VEn → Option (Bool × VEn)} {s t : DS} {g h : VEn → YF} (hc : XTE O ft gt) (hs : XS O K s g) (ht : XS O K t h) : XS O K (cIfS ft s t) (yIf gt g h) := fun P S ρ σ φ b r => by
  unfold yIf
  cases q : gt σ with
  | none => trivial
  | some p =>
    obtain ⟨c, σ'⟩ := p
    obtain ⟨S1, P1, φ1, h1, h2, h3, h4⟩ := hc P S ρ σ φ b r _ _ q
    cases c with
    | true =>
      have := hs P1 S1 ρ σ' φ1 h2.bnd h3
      rw [cIfS_e, h1]
      exact this.pre h2 h4 fun _ _ => rfl
    | false =>
      have := ht P1 S1 ρ σ' φ1 h2.bnd h3
      rw [cIfS_e, h1]
      exact this.pre h2 h4 fun _ _ => rfl
/-! ### names set -/
def ySet (i : Nat) (g : VEn → Option (Y × VEn)) : VEn → YF := fun σ => match g σ with
  | some (y, σ') => .nx (σ'.set i (some y))
  | none => .no
theorem xs_setO {i : Nat} {fe : DE} {g : VEn → Option (Y × VEn)} (h : XE O fe g) (hi : i ∈ O) (hk : i ∉ K) : XS O K (cAsg fe (kName i)) (ySet i g) := fun P S ρ σ φ b r => by
  unfold ySet
  cases q : g σ with
  | none => trivial
  | some p =>
    obtain ⟨y, σ'⟩ := p
    obtain ⟨d, S1, P1, φ1, a, h1, h2, h3, h4, h5, h6⟩ := h P S ρ σ φ b r _ _ q
    obtain ⟨φ2, k1, k2⟩ := h3.set (i := i) h4 (fun j _ l hl z => h5 l hl ⟨j, z⟩) (.inl hi)
    exact ⟨ρ.set i (some d), S1, by simp [h1, Rz.toF], P1, φ2, h2, k1, fun l z => h6 l (k2 l z), fun j hj => set_pin hk hj⟩
theorem xs_setV {i : Nat} {fe : DE} {g : VEn → Option (Y × VEn)} (h : XEV O fe g) (hk : i ∉ K) : XS O K (cAsg fe (kName i)) (ySet i g) := fun P S ρ σ φ b r => by
  unfold ySet
  cases q : g σ with
  | none => trivial
  | some p =>
    obtain ⟨y, σ'⟩ := p
    obtain ⟨d, S1, P1, φ1, h1, h2, h3, h4, h5⟩ := h P S ρ σ φ b r _ _ q
    obtain ⟨φ2, k1, k2⟩ := h3.set (i := i) h4 (fun j _ l hl z => by cases hl) (.inr rfl)
    exact ⟨ρ.set i (some d), S1, by simp [h1, Rz.toF], P1, φ2, h2, k1, fun l z => (k2 l z).elim (h5 l) (fun w => by cases w), fun j hj => set_pin hk hj⟩
/-- targets -/
def XG (O K : List Nat) (k : DG) (p : VEn → Y → Option VEn) : Prop := ∀ P S ρ σ φ d y, Bd P S → Fr O P S ρ σ φ → Own P S d y [] → ∀ σ', p σ y = some σ' → ∃ ρ' φ', k d ρ S = .nx ρ' S ∧ Fr O P S ρ' σ' φ' ∧ (∀ l, Uf φ' l → Uf φ l) ∧ (∀ i ∈ K, ρ'[i]? = ρ[i]?)
def XGs (O K : List Nat) (k : DGs) (p : VEn → List Y → Option VEn) : Prop := ∀ P S ρ σ φ d y, Bd P S → Fr O P S ρ σ φ → Owns P S d y [] → ∀ σ', p σ y = some σ' → ∃ ρ' φ', k d ρ S = .nx ρ' S ∧ Fr O P S ρ' σ' φ' ∧ (∀ l, Uf φ' l → Uf φ l) ∧ (∀ i ∈ K, ρ'[i]? = ρ[i]?)
def gN (i : Nat) : VEn → Y → Option VEn := fun σ y => some (σ.set i (some y))
theorem xg_name {i : Nat} (hk : i ∉ K) : XG O K (kName i) (gN i) := fun P S ρ σ φ d y b r o σ' e => by
  cases e
  obtain ⟨φ2, k1, k2⟩ := r.set (i := i) o (fun j _ l hl z => by cases hl) (.inr rfl)
  exact ⟨ρ.set i (some d), φ2, rfl, k1, fun l z => (k2 l z).elim id (fun w => by cases w), fun j hj => set_pin hk hj⟩
def gNil : VEn → List Y → Option VEn := fun σ ys => match ys with
  | [] => some σ
  | _ :: _ => none
def gCons (p : VEn → Y → Option VEn) (ps : VEn → List Y → Option VEn) : VEn → List Y → Option VEn := fun σ ys => match ys with
  | [] => none
  | y :: r => (p σ y).bind fun σ' => ps σ' r
theorem xgs_nil : XGs O K kNil gNil := fun P S ρ σ φ d y b r o σ' e => by
  unfold gNil at e
  split at e
  · cases e; cases o; exact ⟨ρ, φ, rfl, r, fun _ z => z, fun _ _ => rfl⟩
  · cases e
theorem xgs_cons {kk : DG} {ks : DGs} {p : VEn → Y → Option VEn} {ps : VEn → List Y → Option VEn} (h : XG O K kk p) (hs : XGs O K ks ps) : XGs O K (kCons kk ks) (gCons p ps) := fun P S ρ σ φ d y b r o σ' e => by
  unfold gCons at e
  split at e
  · cases e
  · obtain ⟨σ1, e1, e2⟩ := Option.bind_eq_some_iff.mp e
    obtain ⟨d, ds, rfl⟩ := o.inv2
    obtain ⟨a1, a2⟩ := o.inv0
    obtain ⟨ρ1, φ1, k1, k2, k3, k4⟩ := h P S ρ σ φ d _ b r a1 σ1 e1
    obtain ⟨ρ2, φ2, j1, j2, j3, j4⟩ := hs P S ρ1 σ1 φ1 ds _ b k2 a2 σ' e2
    exact ⟨ρ2, φ2, by rw [kCons_e, k1]; exact j1, j2, fun l z => k3 l (j3 l z), fun i hi => (j4 i hi).trans (k4 i hi)⟩
def gTp (ps : VEn → List Y → Option VEn) (n : Nat) : VEn → Y → Option VEn := fun σ y => match seqY y with
  | some ys => if ys.length = n then ps σ ys else none
  | none => none
theorem seqY_un (h : Own P S d y f) (e : seqY y = some xs) : ∃ ds, unS S d = some ds ∧ Owns P S ds xs [] := by
  cases h with
  | tup ds ys r => cases e; exact ⟨ds, rfl, r⟩
  | lsc ds ys r => cases e; exact ⟨ds, rfl, r⟩
  | lstF l ds ys p q r => cases e; exact ⟨ds, by show unO S[l]? = _; rw [q]; rfl, r⟩
  | lstO l ds ys p q r => cases e; exact ⟨ds, by show unO S[l]? = _; rw [q]; rfl, r⟩
  | _ => cases e
theorem xg_tup {n : Nat} {ks : DGs} {ps : VEn → List Y → Option VEn} (hs : XGs O K ks ps) : XG O K (kTup ks n) (gTp ps n) := fun P S ρ σ φ d y b r o σ' e => by
  unfold gTp at e
  split at e
  · rename_i ys e1
    split at e
    · rename_i c
      obtain ⟨ds, k1, k2⟩ := seqY_un o e1
      obtain ⟨ρ', φ', h1, h2⟩ := hs P S ρ σ φ ds ys b r k2 σ' e
      refine ⟨ρ', φ', ?_, h2⟩
      unfold kTup
      rw [k1]
      simp only
      rw [if_pos (by rw [k2.length]; exact c), h1]
    · cases e
  · cases e
def yAsg (g : VEn → Option (Y × VEn)) (p : VEn → Y → Option VEn) : VEn → YF := fun σ => match g σ with
  | some (y, σ') => match p σ' y with
    | some σ'' => .nx σ''
    | none => .no
  | none => .no
theorem xs_asg {fe : DE} {g : VEn → Option (Y × VEn)} {kk : DG} {p : VEn → Y → Option VEn} (h : XEV O fe g) (hg : XG O K kk p) : XS O K (cAsg fe kk) (yAsg g p) := fun P S ρ σ φ b r => by
  unfold yAsg
  cases q : g σ with
  | none => trivial
  | some w =>
    obtain ⟨y, σ'⟩ := w
    simp only
    cases q2 : p σ' y with
    | none => trivial
    | some σ'' =>
      obtain ⟨d, S1, P1, φ1, h1, h2, h3, h4, h5⟩ := h P S ρ σ φ b r _ _ q
      obtain ⟨ρ', φ', k1, k2, k3, k4⟩ := hg P1 S1 ρ σ' φ1 d y h2.bnd h3 h4 σ'' q2
      exact ⟨ρ', S1, by simp [h1, Rz.toF, k1], P1, φ', h2, k2, fun l z => h5 l (k3 l z), k4⟩
def yPar (i j : Nat) (gs : VEn → Option (List Y × VEn)) : VEn → YF := fun σ => match gs σ with
  | some ([x, y], σ') => .nx ((σ'.set i (some x)).set j (some y))
  | _ => .no
theorem xs_par {i j : Nat} {fs : En → Mo (List D)} {gs : VEn → Option (List Y × VEn)} (h : XEVs O fs gs) (hi : i ∉ K) (hj : j ∉ K) : XS O K (cPar i j fs) (yPar i j gs) := fun P S ρ σ φ b r => by
  unfold yPar
  split
  · rename_i x y σ' q
    obtain ⟨ds, S1, P1, φ1, h1, h2, h3, h4, h5⟩ := h P S ρ σ φ b r _ _ q
    obtain ⟨d, r1, rfl⟩ := h4.inv2
    obtain ⟨a1, a2⟩ := h4.inv0
    obtain ⟨d', r1, rfl⟩ := a2.inv2
    obtain ⟨b1, b2⟩ := a2.inv0
    cases b2
    obtain ⟨φ2, k1, k2⟩ := h3.set (i := i) a1 (fun j _ l hl z => by cases hl) (.inr rfl)
    obtain ⟨φ3, j1, j2⟩ := k1.set (i := j) b1 (fun j _ l hl z => by cases hl) (.inr rfl)
    exact ⟨_, S1, by rw [cPar_e, h1]; rfl, P1, φ3, h2, j1, fun l z => (j2 l z).elim (fun z => (k2 l z).elim (h5 l) (fun w => by cases w)) (fun w => by cases w), fun n hn => (set_pin hj hn).trans (set_pin hi hn)⟩
  · trivial
def iaddY : Y → Y → Option Y
  | .int i, .int j => some (.int (i + j))
  | .str x, .str y => if fit (x.length + y.length) = true then some (.str (x ++ y)) else none
  | _, _ => none
theorem b_iadd : B2 iaddD iaddY := fun P S d e x z f f' b hx hz y q => by
  unfold iaddY at q
  split at q
  · cases hx; cases hz; cases q; exact ⟨_, S, P, rfl, .refl b, .int _⟩
  · split at q
    · rename_i c
      cases hx; cases hz; cases q; exact ⟨_, S, P, by simp [c], .refl b, .str _⟩
    · cases q
  · cases q
abbrev addY0 := intY0 fun i j => .int (i + j)
theorem b_addI : B2 addI addY0 := b2_int0 fun _ _ _ _ => .int _
def yAug (i : Nat) (h : Y → Y → Option Y) (g : VEn → Option (Y × VEn)) : VEn → YF := fun σ => match σ[i]? with
  | some (some x) => match g σ with
    | some (y, σ') => match h x y with
      | some z => .nx (σ'.set i (some z))
      | none => .no
    | none => .no
  | _ => .no
theorem xs_aug {i : Nat} {h : D → D → Mo D} {hY : Y → Y → Option Y} {fe : DE} {g : VEn → Option (Y × VEn)} (H : B2 h hY) (he : XEV O fe g) (hi : i ∉ O) (hk : i ∉ K) : XS O K (cAug i h fe) (yAug i hY g) := fun P S ρ σ φ b r => by
  unfold yAug
  split
  · rename_i x q0
    split
    · rename_i y σ' q1
      split
      · rename_i z q2
        obtain ⟨d, g1, g2⟩ := r.at_ i x q0
        rw [r.val i hi] at g2
        obtain ⟨e, S1, P1, φ1, h1, h2, h3, h4, h5⟩ := he P S ρ σ φ b r _ _ q1
        obtain ⟨u, S2, P2, k1, k2, k3⟩ := H P1 S1 d e x y [] [] h2.bnd (g2.st h2 b r.hU) h4 z q2
        exact ⟨ρ.set i (some u), S2, by simp [g1, h1, k1, Rz.toF], P2, φ1, h2.trans k2 (fun _ z => z.elim), (h3.st0 k2 h2.bnd).set0 hi k3, h5, fun j hj => set_pin hk hj⟩
      · trivial
    · trivial
  · trivial
/-! ### loops -/
def yLoop (p : VEn → Y → Option VEn) (g : VEn → YF) : List Y → VEn → YF
  | [], σ => .nx σ
  | y :: r, σ => match p σ y with
    | none => .no
    | some σ1 => match g σ1 with
      | .nx σ' => yLoop p g r σ'
      | .cnt σ' => yLoop p g r σ'
      | .brk σ' => .nx σ'
      | o => o
structure RunS (k : DG) (s : DS) (D0 : List D) (P0 : Nat → Prop) (S0 : Sto) (run : List D → Nat → En → Sto → Fz) : Prop where
  nil : ∀ i ρ S, D0.drop i = [] → (∀ l, P0 l → S[l]? = S0[l]?) → run [] i ρ S = .nx ρ S
  cons : ∀ d r i ρ S, D0.drop i = d :: r → (∀ l, P0 l → S[l]? = S0[l]?) → run (d :: r) i ρ S = match k d ρ S with
    | .nx ρ1 S1 => (s ρ1 S1).tn (run r (i + 1))
    | _ => .no
theorem loop_core {kk : DG} {s : DS} {p : VEn → Y → Option VEn} {g : VEn → YF} (hg : XG O K kk p) (hs : XS O K s g) {D0 : List D} {P0 : Nat → Prop} {S0 : Sto} {run : List D → Nat → En → Sto → Fz} (R : RunS kk s D0 P0 S0 run) :
    ∀ (ds : List D) (ys : List Y) (i : Nat) (P : Nat → Prop) (S : Sto) (ρ : En) (σ : VEn) (φ : Nat → List Nat), D0.drop i = ds → Owns P S ds ys [] → Bd P S → Fr O P S ρ σ φ → (∀ l, P0 l → (P l ∨ (l < S.length ∧ ¬ P l ∧ ¬ Uf φ l)) ∧ S[l]? = S0[l]?) → SOut O K P S ρ φ (run ds i ρ S) (yLoop p g ys σ)
  | [], ys, i, P, S, ρ, σ, φ, hd, o, b, r, hA => by
    cases o
    rw [R.nil i ρ S hd fun l z => (hA l z).2]
    exact ⟨ρ, S, rfl, go_refl b r⟩
  | d :: ds, ys, i, P, S, ρ, σ, φ, hd, o, b, r, hA => by
    obtain ⟨y, ys, rfl⟩ := o.inv1
    obtain ⟨o1, o2⟩ := o.inv0
    unfold yLoop
    cases q1 : p σ y with
    | none => trivial
    | some σ1 =>
      obtain ⟨ρ1, φ1, k1, k2, k3, k4⟩ := hg P S ρ σ φ d y b r o1 σ1 q1
      have h1 := hs P S ρ1 σ1 φ1 b k2
      rw [R.cons d ds i ρ S hd fun l z => (hA l z).2, k1]
      simp only
      have next : ∀ (σ2 : VEn) (ρ2 : En) (S2 : Sto), Go O K P S ρ1 φ1 σ2 ρ2 S2 → SOut O K P S ρ1 φ1 (run ds (i + 1) ρ2 S2) (yLoop p g ys σ2) := fun σ2 ρ2 S2 go => by
        obtain ⟨P2, φ2, a1, a2, a3, a4⟩ := go
        refine SOut.pre a1 a3 a4 (loop_core hg hs R ds ys (i + 1) P2 S2 ρ2 σ2 φ2 (drop_next hd) (o2.st a1 b k2.hU) a1.bnd a2 fun l z => ?_)
        obtain ⟨c, hs0⟩ := hA l z
        rcases c with c | ⟨c1, c2, c3⟩
        · refine ⟨.inl (a1.mono l c), ?_⟩
          rw [a1.keep l (b l c) fun w => k2.hU l w c]
          exact hs0
        · refine ⟨.inr ⟨Nat.lt_of_lt_of_le c1 a1.len, fun w => ?_, fun w => ?_⟩, ?_⟩
          · rcases a1.new l w with v | v | v
            · exact c2 v
            · exact c3 (k3 l v)
            · omega
          · rcases a3 l w with v | v
            · exact c3 (k3 l v)
            · omega
          · rw [a1.keep l c1 fun w => c3 (k3 l w)]
            exact hs0
      cases q2 : g σ1 with
      | nx σ2 =>
        rw [q2] at h1
        obtain ⟨ρ2, S2, e, go⟩ := h1
        rw [e]
        exact SOut.pre (.refl b) (fun l z => .inl (k3 l z)) k4 (next σ2 ρ2 S2 go)
      | cnt σ2 =>
        rw [q2] at h1
        obtain ⟨ρ2, S2, e, go⟩ := h1
        rw [e]
        exact SOut.pre (.refl b) (fun l z => .inl (k3 l z)) k4 (next σ2 ρ2 S2 go)
      | brk σ2 =>
        rw [q2] at h1
        obtain ⟨ρ2, S2, e, go⟩ := h1
        exact ⟨ρ2, S2, by rw [e]; rfl, go.pre (.refl b) (fun l z => .inl (k3 l z)) k4⟩
      | ret y σ2 =>
        rw [q2] at h1
        have h2 : SOut O K P S ρ φ (s ρ1 S) (.ret y σ2) := SOut.pre (.refl b) (fun l z => .inl (k3 l z)) k4 h1
        obtain ⟨d, ρ', S', P', φ', a, e, g1⟩ := h2
        exact ⟨d, ρ', S', P', φ', a, by rw [e]; rfl, g1⟩
      | no => trivial
def yFor (gi : VEn → Option (List Y × VEn)) (p : VEn → Y → Option VEn) (g : VEn → YF) : VEn → YF := fun σ => match gi σ with
  | some (ys, σ') => yLoop p g ys σ'
  | none => .no
theorem xs_for {it : En → Mo Wk} {gi : VEn → Option (List Y × VEn)} {kk : DG} {s : DS} {p : VEn → Y → Option VEn} {g : VEn → YF} (hi : XIE O it gi) (hg : XG O K kk p) (hs : XS O K s g) : XS O K (cFor it kk s) (yFor gi p g) := fun P S ρ σ φ b r => by
  unfold yFor
  cases q : gi σ with
  | none => trivial
  | some w =>
    obtain ⟨ys, σ'⟩ := w
    obtain ⟨w, S1, P1, φ1, h1, h2, h3, ⟨ds, h4, h5⟩, h6⟩ := hi P S ρ σ φ b r _ _ q
    have core := fun (run : List D → Nat → En → Sto → Fz) (R : RunS kk s ds P1 S1 run) => loop_core hg hs R ds ys 0 P1 S1 ρ σ' φ1 rfl h4 h2.bnd h3 fun l z => ⟨.inl z, rfl⟩
    simp only
    rw [cFor_e, h1]
    cases w with
    | items es =>
      have h5 : es = ds := h5
      subst h5
      refine SOut.pre h2 h6 (fun _ _ => rfl) (core (fun r _ ρ S => loopI kk s r ρ S) ⟨fun _ _ _ _ _ => rfl, fun d r i ρ S _ _ => ?_⟩)
      show loopI kk s (d :: r) ρ S = _
      rw [loopI_cons]
      all_goals rfl
    | view nx m =>
      obtain ⟨h7, h8⟩ : m = ds.length ∧ ∀ S'', (∀ l, P1 l → S''[l]? = S1[l]?) → ∀ i, nx i S'' = some ds[i]? := h5
      subst h7
      refine SOut.pre h2 h6 (fun _ _ => rfl) (core (fun r i ρ S => loopV kk s nx r.length i ρ S) ⟨fun i ρ S hd ha => ?_, fun d r i ρ S hd ha => ?_⟩)
      · exact loopV_end (by rw [h8 S ha i, List.getElem?_eq_none (by simpa using hd)])
      · refine loopV_succ ?_
        rw [h8 S ha i]
        have := congrArg (fun l => l[0]?) hd
        simpa using this
def yWhile (t : VEn → Option (Bool × VEn)) (g : VEn → YF) : Nat → VEn → YF
  | 0, _ => .no
  | n + 1, σ => match t σ with
    | some (true, σ1) => match g σ1 with
      | .nx σ' => yWhile t g n σ'
      | .cnt σ' => yWhile t g n σ'
      | .brk σ' => .nx σ'
      | o => o
    | some (false, σ1) => .nx σ1
    | none => .no
theorem xs_while {ft : En → Mo Bool} {gt : VEn → Option (Bool × VEn)} {s : DS} {g : VEn → YF} (hc : XTE O ft gt) (hs : XS O K s g) : ∀ n : Nat, XS O K (cWhile ft s n) (yWhile gt g n)
  | 0 => fun P S ρ σ φ b r => trivial
  | n + 1 => fun P S ρ σ φ b r => by
    unfold yWhile
    cases q : gt σ with
    | none => trivial
    | some w =>
      obtain ⟨c, σ1⟩ := w
      obtain ⟨S1, P1, φ1, h1, h2, h3, h4⟩ := hc P S ρ σ φ b r _ _ q
      rw [cWhile_step, h1]
      cases c with
      | false =>
        exact ⟨ρ, S1, rfl, P1, φ1, h2, h3, h4, fun _ _ => rfl⟩
      | true =>
        have k := hs P1 S1 ρ σ1 φ1 h2.bnd h3
        refine SOut.pre h2 h4 (fun _ _ => rfl) ?_
        show SOut O K P1 S1 ρ φ1 ((s ρ S1).tn (cWhile ft s n)) _
        simp only
        cases q2 : g σ1 with
        | nx σ2 =>
          rw [q2] at k
          obtain ⟨ρ2, S2, e, go⟩ := k
          rw [e]
          exact SOut.go go fun P2 φ2 b2 r2 => xs_while hc hs n P2 S2 ρ2 σ2 φ2 b2 r2
        | cnt σ2 =>
          rw [q2] at k
          obtain ⟨ρ2, S2, e, go⟩ := k
          rw [e]
          exact SOut.go go fun P2 φ2 b2 r2 => xs_while hc hs n P2 S2 ρ2 σ2 φ2 b2 r2
        | brk σ2 =>
          rw [q2] at k
          obtain ⟨ρ2, S2, e, go⟩ := k
          exact ⟨ρ2, S2, by rw [e]; rfl, go⟩
        | ret y σ2 =>
          rw [q2] at k
          obtain ⟨d, ρ', S', P', φ', a, e, g1⟩ := k
          exact ⟨d, ρ', S', P', φ', a, by rw [e]; rfl, g1⟩
        | no => trivial
/-! ### to let go of a name -/
def frzAt (i : Nat) (σ : VEn) : VEn := match σ[i]? with
  | some (some y) => σ.set i (some (frz y))
  | _ => σ
theorem Fr.frzAt {i : Nat} (b : Bd P S) (r : Fr O P S ρ σ φ) : ∃ P' φ', Stp P S (Uf φ) P' S ∧ Fr O P' S ρ (frzAt i σ) φ' ∧ (∀ l, Uf φ' l → Uf φ l) ∧ ∀ y, σ[i]? = some (some y) → ∃ d, ρ[i]? = some (some d) ∧ Own P' S d (frz y) [] := by
  by_cases q : ∃ y, σ[i]? = some (some y)
  · obtain ⟨y, q⟩ := q
    obtain ⟨d, g1, g2⟩ := r.at_ i y q
    have st : Stp P S (Uf φ) (fun l => P l ∨ l ∈ φ i) S := add_P (.refl b) fun l z => ⟨.inl ⟨i, z⟩, (g2.fp l z).2⟩
    have e : Sm.frzAt i σ = σ.set i (some (frz y)) := by unfold Sm.frzAt; rw [q]
    have o : Own (fun l => P l ∨ l ∈ φ i) S d (frz y) [] := g2.frz (fun l z => .inl z) fun l z => .inr z
    refine ⟨_, fset φ i [], st, ?_, ?_, fun y' q' => by rw [q] at q'; cases q'; exact ⟨d, g1, o⟩⟩
    · rw [e]
      have hl := (List.getElem?_eq_some_iff.mp q).1
      refine ⟨by rw [List.length_set]; exact r.len, fun j z w => ?_, fun j hj => ?_, fun j w => ?_, fun j k hjk l h1 h2 => ?_⟩
      · by_cases hj : j = i
        · subst hj
          rw [List.getElem?_set_self hl] at w
          cases w
          rw [fset_self]
          exact ⟨d, g1, o⟩
        · rw [List.getElem?_set_ne fun z => hj z.symm] at w
          rw [fset_ne hj]
          obtain ⟨d', k1, k2⟩ := r.at_ j z w
          exact ⟨d', k1, own_weak k2 (fun l z => .inl z) fun l hl z => z.elim (k2.fp l hl).1 fun z => r.dis j i hj l hl z⟩
      · by_cases hji : j = i
        · subst hji; exact fset_self
        · rw [fset_ne hji]; exact r.val j hj
      · by_cases hji : j = i
        · subst hji; exact fset_self
        · rw [fset_ne hji]
          refine r.emp j fun z v => w z ?_
          rw [List.getElem?_set_ne fun z => hji z.symm]; exact v
      · by_cases hj : j = i
        · subst hj; rw [fset_self] at h1; cases h1
        · by_cases hk : k = i
          · subst hk; rw [fset_self] at h2; cases h2
          · rw [fset_ne hj] at h1; rw [fset_ne hk] at h2; exact r.dis j k hjk l h1 h2
    · rintro l ⟨j, hj⟩
      by_cases hji : j = i
      · subst hji; rw [fset_self] at hj; cases hj
      · rw [fset_ne hji] at hj; exact ⟨j, hj⟩
  · have e : Sm.frzAt i σ = σ := by
      unfold Sm.frzAt
      split
      · rename_i y w; exact absurd ⟨y, w⟩ q
      · rfl
    exact ⟨P, φ, .refl b, by rw [e]; exact r, fun l z => z, fun y w => absurd ⟨y, w⟩ q⟩
def yFz (i : Nat) (g : VEn → YF) : VEn → YF := fun σ => g (frzAt i σ)
theorem xs_frz {i : Nat} {s : DS} {g : VEn → YF} (h : XS O K s g) : XS O K s (yFz i g) := fun P S ρ σ φ b r => by
  obtain ⟨P1, φ1, k1, k2, k3, _⟩ := r.frzAt (i := i) b
  exact SOut.pre k1 (fun l z => .inl (k3 l z)) (fun _ _ => rfl) (h P1 S ρ _ φ1 k1.bnd k2)
/-- a name handed on, let go -/
def eMv (i : Nat) : VEn → Option (Y × VEn) := fun σ => match σ[i]? with
  | some (some y) => some (frz y, σ.set i (some (frz y)))
  | _ => none
theorem xev_mv {i : Nat} : XEV O (cVar i) (eMv i) := fun P S ρ σ φ b r y σ' e => by
  unfold eMv at e
  split at e
  · rename_i z q
    cases e
    obtain ⟨P1, φ1, k1, k2, k3, k4⟩ := r.frzAt (i := i) b
    obtain ⟨d, g1, g2⟩ := k4 z q
    have e : frzAt i σ = σ.set i (some (frz z)) := by unfold frzAt; rw [q]
    rw [e] at k2
    exact ⟨d, S, P1, φ1, by simp [g1], k1, k2, g2, fun l z => .inl (k3 l z)⟩
  · cases e
/-- .. and still owned -/
def oVar (i : Nat) : VEn → Option (Y × VEn) := fun σ => match σ[i]? with
  | some (some y) => some (y, σ.set i none)
  | _ => none
theorem xo_var {i : Nat} : XE O (cVar i) (oVar i) := fun P S ρ σ φ b r y σ' e => by
  unfold oVar at e
  split at e
  · rename_i z q
    cases e
    obtain ⟨d, g1, g2⟩ := r.at_ i y q
    have hl := (List.getElem?_eq_some_iff.mp q).1
    refine ⟨d, S, P, fset φ i [], φ i, by simp [g1], .refl b, ⟨by rw [List.length_set]; exact r.len, fun j z w => ?_, fun j hj => ?_, fun j w => ?_, fun j k hjk l h1 h2 => ?_⟩, g2, ?_, ?_⟩
    · by_cases hj : j = i
      · subst hj
        rw [List.getElem?_set_self hl] at w
        cases w
      · rw [List.getElem?_set_ne fun z => hj z.symm] at w
        rw [fset_ne hj]
        exact r.at_ j z w
    · by_cases hji : j = i
      · subst hji; exact fset_self
      · rw [fset_ne hji]; exact r.val j hj
    · by_cases hji : j = i
      · subst hji; exact fset_self
      · rw [fset_ne hji]
        refine r.emp j fun z v => w z ?_
        rw [List.getElem?_set_ne fun z => hji z.symm]; exact v
    · by_cases hj : j = i
      · subst hj; rw [fset_self] at h1; cases h1
      · by_cases hk : k = i
        · subst hk; rw [fset_self] at h2; cases h2
        · rw [fset_ne hj] at h1; rw [fset_ne hk] at h2; exact r.dis j k hjk l h1 h2
    · rintro l hl ⟨j, hj⟩
      by_cases hji : j = i
      · subst hji; rw [fset_self] at hj; cases hj
      · rw [fset_ne hji] at hj; exact r.dis j i hji l hj hl
    · rintro l (⟨j, hj⟩ | hj)
      · by_cases hji : j = i
        · subst hji; rw [fset_self] at hj; cases hj
        · rw [fset_ne hji] at hj; exact .inl ⟨j, hj⟩
      · exact .inl ⟨i, hj⟩
  · cases e
/-! ### defs -/
def startY (n : Nat) (ys : List Y) : VEn := ys.map some ++ List.replicate (n - ys.length) none
theorem start_get {n i : Nat} (h : (startY n ys)[i]? = some (some y)) : (ys.map some)[i]? = some (some y) := by
  unfold startY at h
  by_cases hi : i < ys.length
  · rw [List.getElem?_append_left (by simpa using hi)] at h; exact h
  · rw [List.getElem?_append_right (by simpa using hi)] at h
    have := List.mem_replicate.mp (List.mem_of_getElem? h)
    cases this.2
theorem start_fr {n : Nat} (hKO : ∀ i ∈ K, i ∈ O) (r : Fr K P S (ds.map some) (ys.map some) φ) : Fr O P S (startE n ds) (startY n ys) φ := by
  have hl : ds.length = ys.length := by have := r.len; simpa using this
  refine ⟨by unfold startE startY; simp [hl], fun i y q => ?_, fun i hi => r.val i fun z => hi (hKO i z), fun i q => r.emp i fun y z => q y ?_, r.dis⟩
  · obtain ⟨d, g1, g2⟩ := r.at_ i y (start_get q)
    refine ⟨d, ?_, g2⟩
    unfold startE
    rw [List.getElem?_append_left (List.getElem?_eq_some_iff.mp g1).1]
    exact g1
  · unfold startY
    rw [List.getElem?_append_left (List.getElem?_eq_some_iff.mp z).1]
    exact z
def yDefP (n : Nat) (g : VEn → YF) : List Y → Option Y := fun ys => match g (startY n ys) with
  | .nx _ => some .non
  | .ret y _ => some y
  | _ => none
theorem ref_p {n : Nat} {s : DS} {g : VEn → YF} (h : XS O [] s g) : RefP (cDef n s) (yDefP n g) := fun P S ds ys b o y e => by
  have r0 : Fr [] P S (ds.map some) (ys.map some) (fun _ => []) := ⟨by simp [o.length], fun i y q => by
    obtain ⟨u, k1, k2⟩ := o.get0 (map_some_get q)
    exact ⟨u, by rw [List.getElem?_map, k1]; rfl, k2⟩, fun _ _ => rfl, fun _ _ => rfl, fun _ _ _ l h => by cases h⟩
  have r : Fr O P S (startE n ds) (startY n ys) (fun _ => []) := start_fr (fun i hi => by cases hi) r0
  have nU : ∀ l, ¬ Uf (fun _ => []) l := by rintro l ⟨i, hi⟩; cases hi
  have k := h P S _ _ _ b r
  unfold yDefP at e
  split at e
  · rename_i σ' q
    cases e
    rw [q] at k
    obtain ⟨ρ', S', e1, P', φ', g1, _, _, _⟩ := k
    exact ⟨.non, S', P', [], by rw [cDef_e, e1]; rfl, g1.weak fun l z => nU l z, .non, fun _ z => by cases z⟩
  · rename_i y' σ' q
    cases e
    rw [q] at k
    obtain ⟨d, ρ', S', P', φ', a, e1, g1, g2, g3, g4, g5, g6⟩ := k
    exact ⟨d, S', P', a, by rw [cDef_e, e1]; rfl, g1.weak fun l z => nU l z, g4, fun l z => (g6 l (.inr z)).resolve_left (nU l)⟩
  · cases e
def usOf (K : List Nat) (np : Nat) (σ : VEn) : VEn := (List.range np).map fun i => if i ∈ K then (σ[i]?).join else none
def yDefE (n : Nat) (K : List Nat) (g : VEn → YF) : List Y → Option (Y × VEn) := fun ys => match g (startY n ys) with
  | .nx σ => some (.non, usOf K ys.length σ)
  | .ret y σ => some (y, usOf K ys.length σ)
  | _ => none
theorem us_fr {n : Nat} {ρ' : En} {σ' : VEn} (hl : ds.length = ys.length) (r : Fr O P S ρ' σ' φ) (hk : ∀ i ∈ K, ρ'[i]? = (startE n ds)[i]?) (hi : ∀ i ∈ K, i < ds.length) : ∃ φ', Fr K P S (ds.map some) (usOf K ys.length σ') φ' ∧ ∀ l, Uf φ' l → Uf φ l := by
  have ug : ∀ i y, (usOf K ys.length σ')[i]? = some (some y) → i ∈ K ∧ σ'[i]? = some (some y) := fun i y q => by
    unfold usOf at q
    rw [List.getElem?_map] at q
    obtain ⟨j, h1, h2⟩ := Option.map_eq_some_iff.mp q
    have : j = i := by
      have := (List.getElem?_eq_some_iff.mp h1)
      obtain ⟨_, h3⟩ := this
      simpa using h3.symm
    subst this
    split at h2
    · rename_i c
      exact ⟨c, by cases w : σ'[j]? with
        | none => rw [w] at h2; cases h2
        | some u => rw [w] at h2; exact congrArg some h2⟩
    · cases h2
  refine ⟨fun i => if i ∈ K then φ i else [], ⟨by unfold usOf; simp [hl], fun i y q => ?_, fun i hn => if_neg hn, fun i q => ?_, fun i j hij l h1 h2 => ?_⟩, ?_⟩
  · obtain ⟨c, q2⟩ := ug i y q
    obtain ⟨d, g1, g2⟩ := r.at_ i y q2
    refine ⟨d, ?_, by rw [if_pos c]; exact g2⟩
    rw [hk i c] at g1
    unfold startE at g1
    rw [List.getElem?_append_left (by simpa using hi i c)] at g1
    exact g1
  · by_cases c : i ∈ K
    · rw [if_pos c]
      refine r.emp i fun y z => q y ?_
      unfold usOf
      rw [List.getElem?_map, List.getElem?_range (by rw [← hl]; exact hi i c)]
      simp [c, z]
    · exact if_neg c
  · by_cases c1 : i ∈ K
    · rw [if_pos c1] at h1
      by_cases c2 : j ∈ K
      · rw [if_pos c2] at h2; exact r.dis i j hij l h1 h2
      · rw [if_neg c2] at h2; cases h2
    · rw [if_neg c1] at h1; cases h1
  · rintro l ⟨i, hi⟩
    by_cases c1 : i ∈ K
    · simp only [if_pos c1] at hi; exact ⟨i, hi⟩
    · simp only [if_neg c1] at hi; cases hi
def kMax (K : List Nat) (n : Nat) : Bool := K.all fun i => decide (i < n)
theorem ref_e {n np : Nat} {s : DS} {g : VEn → YF} (h : XS O K s g) (hKO : ∀ i ∈ K, i ∈ O) (hK : kMax K np = true) : RefE K (cDef n s) (fun ys => if ys.length = np then yDefE n K g ys else none) := fun P S ds ys φ b r y us e => by
  have e : (if ys.length = np then yDefE n K g ys else none) = some (y, us) := e
  split at e
  · rename_i cn
    have hl : ds.length = ys.length := by have := r.len; simpa using this
    have hlt : ∀ i ∈ K, i < ds.length := fun i hi => by
      have := List.all_eq_true.mp hK i hi
      rw [hl, cn]
      simpa using this
    have k := h P S _ _ _ b (start_fr (n := n) hKO r)
    unfold yDefE at e
    split at e
    · rename_i σ' q
      cases e
      rw [q] at k
      obtain ⟨ρ', S', e1, P', φ', g1, g2, g3, g4⟩ := k
      obtain ⟨φ2, j1, j2⟩ := us_fr hl g2 g4 hlt
      exact ⟨.non, S', P', φ2, [], by rw [cDef_e, e1]; rfl, g1, j1, .non, (fun _ z => by cases z), fun l z => z.elim (fun z => g3 l (j2 l z)) fun z => by cases z⟩
    · rename_i y' σ' q
      cases e
      rw [q] at k
      obtain ⟨d, ρ', S', P', φ', a, e1, g1, g2, g3, g4, g5, g6⟩ := k
      obtain ⟨φ2, j1, j2⟩ := us_fr hl g2 g3 hlt
      exact ⟨d, S', P', φ2, a, by rw [cDef_e, e1]; rfl, g1, j1, g4, fun l z w => g5 l z (j2 l w), fun l z => g6 l (z.imp (j2 l) id)⟩
    · cases e
  · cases e
theorem ref_p0 {F : List D → Mo D} : RefP F (fun _ => none) := fun _ _ _ _ _ _ _ e => by cases e
theorem ref_e0 {F : List D → Mo D} : RefE K F (fun _ => none) := fun _ _ _ _ _ _ _ _ _ e => by cases e
end
end Sm
end
section
/-! Sm, part X: what is owned is changed. -/
namespace Sm
open PySem PySem.Spec PyProof.Rows L2
section
variable {O K : List Nat} {P P' P'' P1 : Nat → Prop} {S S' S'' S1 : Sto} {ρ ρ' ρ1 : En} {σ σ' σ1 : VEn} {φ φ1 : Nat → List Nat} {d : D} {x y z c k : Y} {ds : List D} {xs ys : List Y} {f f' : List Nat} {U U' U'' : Nat → Prop} {r : Fz}
/-- a way to something owned -/
def XP (O : List Nat) (fo : DE) (p : VEn → Option Y) (st : VEn → Y → VEn) : Prop := ∀ P S ρ σ φ, Bd P S → Fr O P S ρ σ φ → ∀ c, p σ = some c → ∃ d fc, fo ρ S = .ok d S ∧ Own P S d c fc ∧ (∀ l ∈ fc, Uf φ l) ∧
  ∀ P' S' c' fc', Stp P S (fun l => l ∈ fc) P' S' → Own P' S' d c' fc' → (∀ l ∈ fc', l ∈ fc ∨ ¬ Uf φ l) → ∃ φ', Fr O P' S' ρ (st σ c') φ' ∧ (∀ l, Uf φ' l → Uf φ l ∨ l ∈ fc')
def sVar (i : Nat) : VEn → Y → VEn := fun σ c => σ.set i (some c)
theorem xp_var {i : Nat} (hi : i ∈ O) : XP O (cVar i) (vVar i) (sVar i) := fun P S ρ σ φ b r c e => by
  have q := vVar_some e
  obtain ⟨d, g1, g2⟩ := r.at_ i c q
  refine ⟨d, φ i, by simp [g1], g2, fun l z => ⟨i, z⟩, fun P' S' c' fc' st o hf => ?_⟩
  have hl := (List.getElem?_eq_some_iff.mp q).1
  have hU : ∀ l, l ∈ φ i → ¬ P l := fun l z => (g2.fp l z).1
  have new : ∀ j, j ≠ i → ∀ l ∈ fc', l ∉ φ j := fun j hj l h1 h2 => by
    rcases hf l h1 with w | w
    · exact r.dis i j (fun z => hj z.symm) l w h2
    · exact w ⟨j, h2⟩
  refine ⟨fset φ i fc', ⟨by unfold sVar; rw [List.length_set]; exact r.len, fun j z w => ?_, fun j hj => ?_, fun j w => ?_, fun j k hjk l h1 h2 => ?_⟩, ?_⟩
  · unfold sVar at w
    by_cases hj : j = i
    · subst hj
      rw [List.getElem?_set_self hl] at w
      cases w
      rw [fset_self]
      exact ⟨d, g1, o⟩
    · rw [List.getElem?_set_ne fun z => hj z.symm] at w
      rw [fset_ne hj]
      obtain ⟨d', k1, k2⟩ := r.at_ j z w
      exact ⟨d', k1, k2.kp (st.kp b hU (fun l z => k2.fp l z) fun l z w => r.dis j i hj l z w)⟩
  · have hji : j ≠ i := fun z => hj (by rw [z]; exact hi)
    rw [fset_ne hji]; exact r.val j hj
  · unfold sVar at w
    by_cases hj : j = i
    · subst hj; exact absurd (List.getElem?_set_self hl) (w c')
    · rw [fset_ne hj]
      refine r.emp j fun z v => w z ?_
      rw [List.getElem?_set_ne fun z => hj z.symm]; exact v
  · by_cases hj : j = i
    · subst hj
      rw [fset_self] at h1
      rw [fset_ne fun z => hjk z.symm] at h2
      exact new k (fun z => hjk z.symm) l h1 h2
    · rw [fset_ne hj] at h1
      by_cases hk : k = i
      · subst hk
        rw [fset_self] at h2
        exact new j hj l h2 h1
      · rw [fset_ne hk] at h2
        exact r.dis j k hjk l h1 h2
  · rintro l ⟨j, hj⟩
    by_cases hji : j = i
    · subst hji; rw [fset_self] at hj; exact .inr hj
    · rw [fset_ne hji] at hj; exact .inl ⟨j, hj⟩
def repK {α : Type} [DecidableEq α] (k : α) (y : Y) : List (α × Y) → List (α × Y)
  | [] => []
  | (k', v) :: r => if k' = k then (k', y) :: r else (k', v) :: repK k y r
theorem repK_fst {α : Type} [DecidableEq α] {k : α} {y : Y} : ∀ r : List (α × Y), (repK k y r).map (·.1) = r.map (·.1)
  | [] => rfl
  | (k', v) :: r => by
    unfold repK
    split
    · rfl
    · simp [repK_fst r]
theorem repK_snd {k : Key} {y : Y} : ∀ {kys : List (Key × Y)} {i : Nat}, (kys.map (·.1))[i]? = some k → (∀ j : Nat, j < i → (kys.map (·.1))[j]? ≠ some k) → (repK k y kys).map (·.2) = (kys.map (·.2)).set i y
  | [], i, h, _ => by simp at h
  | (k', v) :: r, 0, h, _ => by simp at h; subst h; simp [repK]
  | (k', v) :: r, i + 1, h, n => by
    have q : k' ≠ k := by simpa using n 0 (by omega)
    unfold repK
    rw [if_neg q]
    simp only [List.map_cons, List.set_cons_succ]
    rw [repK_snd (by simpa using h) fun j z => by simpa using n (j + 1) (by omega)]
theorem set_same {α : Type} {xs : List α} {i : Nat} {a : α} (h : xs[i]? = some a) : xs.set i a = xs := by
  apply List.ext_getElem?
  intro j
  by_cases hj : i = j
  · subst hj; rw [List.getElem?_set_self (List.getElem?_eq_some_iff.mp h).1, h]
  · rw [List.getElem?_set_ne hj]
/-- one row further in -/
theorem zoom_row {i : Nat} {l : Nat} {fc : List Nat} {Uu : Nat → Prop} (b : Bd P S) (o : Owns P S ds ys f) (nP : ¬ P l) (hl : l < S.length) (nl : l ∉ f) (hc : ys[i]? = some c) (hfc : fc = l :: f) (hu : ∀ l ∈ fc, Uu l) :
    ∃ u g, ds[i]? = some u ∧ Own P S u c g ∧ (∀ l ∈ g, l ∈ fc) ∧ ∀ P' S' c' g', Stp P S (fun l => l ∈ g) P' S' → Own P' S' u c' g' → (∀ l ∈ g', l ∈ g ∨ ¬ Uu l) → Stp P S (fun l => l ∈ fc) P' S' ∧ ¬ P' l ∧ S'[l]? = S[l]? ∧
      ∃ f', Owns P' S' ds (ys.set i c') f' ∧ l ∉ f' ∧ (∀ m ∈ l :: f', m ∈ fc ∨ m ∈ g') ∧ ∀ m ∈ l :: f', m ∈ fc ∨ ¬ Uu m := by
  subst hfc
  obtain ⟨u, g, h1, h2, h3, h4⟩ := o.put hc
  refine ⟨u, g, h1, h2, fun l z => List.mem_cons_of_mem _ (h3 l z), fun P' S' c' g' st o' hg => ?_⟩
  have ng : l ∉ g := fun z => nl (h3 l z)
  have stay : ∀ m, m < S.length → ¬ P m → m ∉ g → ¬ P' m := fun m h1 h2 h3 z => by
    rcases st.new m z with w | w | w
    · exact h2 w
    · exact h3 w
    · omega
  obtain ⟨f', k1, k2⟩ := h4 P' S' u c' g' st.mono (fun m hm hg => stay m (o.fp m hm).2 (o.fp m hm).1 hg) (fun m ob hm q => by
    have hlt := lt_of_get q
    rw [st.keep m hlt fun z => ?_]
    · exact q
    · rcases hm with w | ⟨w1, w2⟩
      · exact (h2.fp m z).1 w
      · exact w2 z) o' (fun m hm => (hg m hm).imp id fun w v => w (hu m (List.mem_cons_of_mem _ v)))
  rw [set_same h1] at k1
  refine ⟨st.weak fun m z => List.mem_cons_of_mem _ (h3 m z), stay l hl nP ng, st.keep l hl ng, f', k1, fun z => ?_, fun m hm => ?_, fun m hm => ?_⟩
  · rcases k2 l z with w | w
    · exact nl w
    · rcases hg l w with v | v
      · exact ng v
      · exact v (hu l List.mem_cons_self)
  · rcases List.mem_cons.mp hm with rfl | hm
    · exact .inl List.mem_cons_self
    · exact (k2 m hm).imp (List.mem_cons_of_mem _) id
  · rcases List.mem_cons.mp hm with rfl | hm
    · exact .inl List.mem_cons_self
    · rcases k2 m hm with w | w
      · exact .inl (List.mem_cons_of_mem _ w)
      · rcases hg m w with v | v
        · exact .inl (List.mem_cons_of_mem _ (h3 m v))
        · exact .inr v
def pKey (k : Str) (p : VEn → Option Y) : VEn → Option Y := fun σ => match p σ with
  | some (.dct true kys) => valY kys (.inr k)
  | _ => none
def sKey (k : Str) (p : VEn → Option Y) (st : VEn → Y → VEn) : VEn → Y → VEn := fun σ c => match p σ with
  | some (.dct true kys) => st σ (.dct true (repK (Sum.inr k : Key) c kys))
  | _ => σ
theorem xp_key {k : Str} {fo : DE} {p : VEn → Option Y} {st : VEn → Y → VEn} (h : XP O fo p st) : XP O (cOp getD fo (cC (.str k))) (pKey k p) (sKey k p st) := fun P S ρ σ φ b r c e => by
  unfold pKey at e
  split at e
  · rename_i kys q
    obtain ⟨d, fc, h1, h2, h3, h4⟩ := h P S ρ σ φ b r _ q
    cases h2 with
    | dctO l kvs _ f nP nl g hk o =>
      obtain ⟨i, i1, i2, i3⟩ := find_idx e
      obtain ⟨u, gg, k1, k2, k3, k4⟩ := zoom_row b o nP (lt_of_get g) nl i1 rfl h3
      have hv : valD kvs (.inr k) = some u := idx_find k1 (by rw [hk]; exact i2) (by rw [hk]; exact i3)
      refine ⟨u, gg, ?_, k2, fun l z => h3 l (k3 l z), fun P' S' c' fc' s1 o' hf => ?_⟩
      · have : getD (.loc l) (.str k) S = .ok u S := by
          show optD (getO (.str k) S[l]?) S = _
          rw [g]
          show optD (valD kvs (.inr k)) S = _
          rw [hv]; rfl
        simp [h1, this]
      · obtain ⟨a1, a2, a3, f', a4, a5, a6, a7⟩ := k4 P' S' c' fc' s1 o' hf
        obtain ⟨φ', m1, m2⟩ := h4 P' S' (.dct true (repK (Sum.inr k : Key) c' kys)) (l :: f') a1 (.dctO l kvs _ f' a2 a5 (by rw [a3]; exact g) (by rw [repK_fst]; exact hk) (by rw [repK_snd i2 i3]; exact a4)) a7
        refine ⟨φ', by unfold sKey; rw [q]; exact m1, fun m hm => ?_⟩
        rcases m2 m hm with w | w
        · exact .inl w
        · exact (a6 m w).imp (h3 m) id
  · cases e
theorem look_idx {nm : Str} : ∀ {kys : List (Str × Y)} {y : Y}, kys.lookup nm = some y → ∃ i : Nat, (kys.map (·.2))[i]? = some y ∧ (∀ kvs : List (Str × D), kvs.map (·.1) = kys.map (·.1) → ∀ d, (kvs.map (·.2))[i]? = some d → kvs.lookup nm = some d) ∧ ∀ z, (repK nm z kys).map (·.2) = (kys.map (·.2)).set i z
  | [], _, e => by cases e
  | (a, v) :: r, y, e => by
    rw [List.lookup_cons] at e
    by_cases q : nm = a
    · have : (nm == a) = true := by simpa using q
      rw [this] at e
      cases e
      refine ⟨0, rfl, fun kvs hk d hd => ?_, fun z => by simp [repK, q]⟩
      cases kvs with
      | nil => simp at hk
      | cons kv kvs =>
        simp at hk hd
        rw [List.lookup_cons, hk.1, this]
        exact congrArg some hd
    · have : (nm == a) = false := by simpa using q
      rw [this] at e
      obtain ⟨i, h1, h2, h3⟩ := look_idx (kys := r) e
      refine ⟨i + 1, by simpa using h1, fun kvs hk d hd => ?_, fun z => ?_⟩
      · cases kvs with
        | nil => simp at hk
        | cons kv kvs =>
          simp at hk
          rw [List.lookup_cons, hk.1, this]
          exact h2 kvs hk.2 d (by simpa using hd)
      · have q' : ¬ a = nm := fun z => q z.symm
        simp [repK, q', h3 z]
def pFld (T : FTab) (nm : Str) (p : VEn → Option Y) : VEn → Option Y := fun σ => match p σ with
  | some (.ins true c fs) => if T c nm = true then fs.lookup nm else none
  | _ => none
def sFld (nm : Str) (p : VEn → Option Y) (st : VEn → Y → VEn) : VEn → Y → VEn := fun σ z => match p σ with
  | some (.ins true c fs) => st σ (.ins true c (repK nm z fs))
  | _ => σ
theorem xp_fld {T : FTab} {nm : Str} {fo : DE} {p : VEn → Option Y} {st : VEn → Y → VEn} (h : XP O fo p st) : XP O (cFld T nm fo) (pFld T nm p) (sFld nm p st) := fun P S ρ σ φ b r c e => by
  unfold pFld at e
  split at e
  · rename_i cc fs q
    split at e
    · rename_i t
      obtain ⟨d, fc, h1, h2, h3, h4⟩ := h P S ρ σ φ b r _ q
      cases h2 with
      | insO l _ kvs _ f nP nl g hk o =>
        obtain ⟨i, i1, i2, i3⟩ := look_idx e
        obtain ⟨u, gg, k1, k2, k3, k4⟩ := zoom_row b o nP (lt_of_get g) nl i1 rfl h3
        refine ⟨u, gg, ?_, k2, fun l z => h3 l (k3 l z), fun P' S' c' fc' s1 o' hf => ?_⟩
        · have : fldG T nm (.loc l) S = some u := by
            show fldO T nm S[l]? = _
            rw [g]
            show (if T cc nm = true then kvs.lookup nm else none) = _
            rw [if_pos t, i2 kvs hk u k1]
          simp [h1, fldD, this]
        · obtain ⟨a1, a2, a3, f', a4, a5, a6, a7⟩ := k4 P' S' c' fc' s1 o' hf
          obtain ⟨φ', m1, m2⟩ := h4 P' S' (.ins true cc (repK nm c' fs)) (l :: f') a1 (.insO l cc kvs _ f' a2 a5 (by rw [a3]; exact g) (by rw [repK_fst]; exact hk) (by rw [i3]; exact a4)) a7
          refine ⟨φ', by unfold sFld; rw [q]; exact m1, fun m hm => ?_⟩
          rcases m2 m hm with w | w
          · exact .inl w
          · exact (a6 m w).imp (h3 m) id
    · cases e
  · cases e
/-! ### lists changed -/
theorem lst_put {l : Nat} {ds' : List D} {ys' : List Y} (b : Bd P S) (o : Own P S (.loc l) (.lst true ys) f) (h : Owns P S ds' ys' []) : Stp P S (fun m => m ∈ f) P (S.set l (.lst ds')) ∧ Own P (S.set l (.lst ds')) (.loc l) (.lst true ys') f := by
  cases o with
  | lstO _ ds _ nP g r =>
    have st : Stp P S (fun m => m ∈ [l]) P (S.set l (.lst ds')) := (push_stp b (lt_of_get g)).weak fun m z => by rw [z]; exact List.mem_singleton.mpr rfl
    exact ⟨st, .lstO l ds' ys' nP (List.getElem?_set_self (lt_of_get g)) (h.st st b fun m z => by rw [List.mem_singleton.mp z]; exact nP)⟩
def L1 (h : D → D → Mo D) (hL : List Y → Y → Option (List Y)) : Prop := ∀ P S l ds xs e y, S[l]? = some (.lst ds) → Owns P S ds xs [] → Own P S e y [] → ∀ xs', hL xs y = some xs' → ∃ ds', h (.loc l) e S = .ok .non (S.set l (.lst ds')) ∧ Owns P S ds' xs' []
def appL (xs : List Y) (y : Y) : Option (List Y) := if fit (xs.length + 1) = true then some (xs ++ [y]) else none
theorem l1_app : L1 appD appL := fun P S l ds xs e y g o h xs' q => by
  unfold appL at q
  split at q
  · rename_i c
    cases q
    refine ⟨ds ++ [e], ?_, o.app0 (.cons0 h .nil)⟩
    rw [appD_loc, g]
    simp only [appO_lst]
    rw [o.length, if_pos c]
    rfl
  · cases q
def extL (xs : List Y) (y : Y) : Option (List Y) := match y with
  | .tup ys => if fit (xs.length + ys.length) = true then some (xs ++ ys) else none
  | .lst _ ys => if fit (xs.length + ys.length) = true then some (xs ++ ys) else none
  | _ => none
theorem l1_ext : L1 extD extL := fun P S l ds xs e y g o h xs' q => by
  have key : ∀ es ys, seqM S e = some es → Owns P S es ys [] → (if fit (xs.length + ys.length) = true then some (xs ++ ys) else none) = some xs' → ∃ ds', extD (.loc l) e S = .ok .non (S.set l (.lst ds')) ∧ Owns P S ds' xs' [] := fun es ys h1 h2 q => by
    split at q
    · rename_i c
      cases q
      refine ⟨ds ++ es, ?_, o.app0 h2⟩
      unfold extD
      rw [lstM_loc, g, h1]
      simp only [lstO_lst, Option.map_some]
      rw [o.length, h2.length, if_pos c]
    · cases q
  cases h with
  | tup es ys r => exact key es ys rfl r q
  | lstF l' es ys p g' r => exact key es ys (by rw [seqM_loc, g']; rfl) r q
  | _ => cases q
def eMt1 (p : VEn → Option Y) (st : VEn → Y → VEn) (hL : List Y → Y → Option (List Y)) (g : VEn → Option Y) : VEn → Option (Y × VEn) := fun σ => match p σ with
  | some (.lst true xs) => (g σ).bind fun y => (hL xs y).map fun xs' => (.non, st σ (.lst true xs'))
  | _ => none
theorem chk_lst {l : Nat} (g : S[l]? = some (.lst ds)) : chk "list" (.loc l) S = .ok () S := by
  unfold chk
  rw [tyD_lst g]
  rfl
theorem cMt_e' {T : String} {h : D → List D → Mo D} {fa : DE} {fs : En → Mo (List D)} : cMt T h fa fs ρ S = (fa ρ S).andThen fun x S1 => (chk T x S1).andThen fun _ S2 => (fs ρ S2).andThen fun xs S3 => h x xs S3 := rfl
theorem xe_mt1 {h : D → D → Mo D} {hL : List Y → Y → Option (List Y)} {fo fv : DE} {p : VEn → Option Y} {st : VEn → Y → VEn} {g : VEn → Option Y} (H : L1 h hL) (hp : XP O fo p st) (hv : XV O fv g) : XE O (cMt "list" (am1 h) fo (cCons fv cNil)) (eMt1 p st hL g) := fun P S ρ σ φ b r y σ' e => by
  unfold eMt1 at e
  split at e
  · rename_i xs q
    obtain ⟨v, e1, e2⟩ := Option.bind_eq_some_iff.mp e
    obtain ⟨xs', e3, e4⟩ := Option.map_eq_some_iff.mp e2
    cases e4
    obtain ⟨d, fc, h1, h2, h3, h4⟩ := hp P S ρ σ φ b r _ q
    obtain ⟨u, S1, P1, k1, k2, k3⟩ := hv P S ρ σ φ b r _ e1
    have h2' := h2.st0 k2 b
    have h2c := h2
    cases h2 with
    | lstO l ds _ nP gg o =>
      have gg1 : S1[l]? = some (.lst ds) := by rw [k2.keep l (lt_of_get gg) fun z => z]; exact gg
      obtain ⟨ds', j1, j2⟩ := H P1 S1 l ds xs u v gg1 (o.st0 k2 b) k3 xs' e3
      obtain ⟨m1, m2⟩ := lst_put k2.bnd h2' j2
      obtain ⟨φ', n1, n2⟩ := h4 P1 _ _ _ (k2.up.trans m1 fun l z => .inl z) m2 (fun l z => .inl z)
      refine ⟨.non, _, P1, φ', [], ?_, (k2.up.trans m1 fun l z => .inl z).weak h3, n1, .non, (fun _ z => by cases z), fun l z => z.elim (fun z => (n2 l z).elim .inl fun w => .inl (h3 l w)) fun z => by cases z⟩
      rw [cMt_e', h1]
      simp only [andThen_ok, chk_lst gg, cCons_e, k1, cNil_e]
      exact j1
  · cases e
/-- .. the argument with effects -/
def eMt1E (i : Nat) (hL : List Y → Y → Option (List Y)) (g : VEn → Option (Y × VEn)) : VEn → Option (Y × VEn) := fun σ => match vVar i σ with
  | some (.lst _ _) => (g σ).bind fun q => match vVar i q.2 with
    | some (.lst true xs) => (hL xs q.1).map fun xs' => (.non, sVar i q.2 (.lst true xs'))
    | _ => none
  | _ => none
theorem xe_mt1E {h : D → D → Mo D} {hL : List Y → Y → Option (List Y)} {i : Nat} {fv : DE} {g : VEn → Option (Y × VEn)} (H : L1 h hL) (hi : i ∈ O) (hv : XEV O fv g) : XE O (cMt "list" (am1 h) (cVar i) (cCons fv cNil)) (eMt1E i hL g) := fun P S ρ σ φ b r y σ' e => by
  unfold eMt1E at e
  split at e
  · rename_i o0 xs0 q0
    obtain ⟨⟨v, σ1⟩, e1, e2⟩ := Option.bind_eq_some_iff.mp e
    split at e2
    · rename_i xs q
      obtain ⟨xs', e3, e4⟩ := Option.map_eq_some_iff.mp e2
      cases e4
      obtain ⟨d0, g1, g2⟩ := r.at_ i _ (vVar_some q0)
      obtain ⟨u, S1, P1, φ1, k1, k2, k3, k4, k5⟩ := hv P S ρ σ φ b r _ _ e1
      obtain ⟨d, fc, h1, h2, h3, h4⟩ := xp_var hi P1 S1 ρ σ1 φ1 k2.bnd k3 _ q
      have hd : d = d0 := by
        simp [g1] at h1
        exact h1.symm
      subst hd
      obtain ⟨l0, ds0, rfl, gg0, _⟩ := own_lst g2
      have h2c := h2
      cases h2 with
      | lstO l ds _ nP gg o =>
        obtain ⟨ds', j1, j2⟩ := H P1 S1 _ ds xs u v gg o k4 xs' e3
        obtain ⟨m1, m2⟩ := lst_put k2.bnd h2c j2
        obtain ⟨φ', n1, n2⟩ := h4 P1 _ _ _ m1 m2 (fun l z => .inl z)
        refine ⟨.non, _, P1, φ', [], ?_, k2.trans (m1.weak h3) k5, n1, .non, (fun _ z => by cases z), fun l z => z.elim (fun z => k5 l ((n2 l z).elim id (h3 l))) fun z => by cases z⟩
        have ev : cVar i ρ S = .ok (.loc l0) S := by simp [g1]
        rw [cMt_e', ev]
        simp only [andThen_ok, chk_lst gg0, cCons_e, k1, cNil_e]
        exact j1
    · cases e2
  · cases e
def L0 (h : D → Mo D) (hL : List Y → Option (List Y × Y)) : Prop := ∀ P S l ds xs, S[l]? = some (.lst ds) → Owns P S ds xs [] → ∀ xs' y, hL xs = some (xs', y) → ∃ ds' r, h (.loc l) S = .ok r (S.set l (.lst ds')) ∧ Owns P S ds' xs' [] ∧ Own P S r y []
def popL (xs : List Y) : Option (List Y × Y) := match xs[xs.length - 1]? with
  | some y => some (xs.dropLast, y)
  | none => none
theorem Owns.dropLast0 (h : Owns P S ds ys []) : Owns P S ds.dropLast ys.dropLast [] := by
  rw [List.dropLast_eq_take, List.dropLast_eq_take, h.length]
  exact h.take0 _
theorem l0_pop : L0 popD popL := fun P S l ds xs g o xs' y q => by
  unfold popL at q
  split at q
  · rename_i z h1
    cases q
    rw [← o.length] at h1
    obtain ⟨u, k1, k2⟩ := o.get0 h1
    refine ⟨ds.dropLast, u, ?_, o.dropLast0, k2⟩
    unfold popD
    rw [lstM_loc, g]
    simp only [lstO_lst, Option.map_some, k1]
  · cases q
def clrL (xs : List Y) : Option (List Y × Y) := some ([], .non)
theorem l0_clr : L0 clrD clrL := fun P S l ds xs g o xs' y q => by
  cases q
  refine ⟨[], .non, ?_, .nil, .non⟩
  unfold clrD
  rw [lstM_loc, g]
  rfl
def eMt0 (p : VEn → Option Y) (st : VEn → Y → VEn) (hL : List Y → Option (List Y × Y)) : VEn → Option (Y × VEn) := fun σ => match p σ with
  | some (.lst true xs) => (hL xs).map fun q => (q.2, st σ (.lst true q.1))
  | _ => none
theorem xe_mt0 {h : D → Mo D} {hL : List Y → Option (List Y × Y)} {fo : DE} {p : VEn → Option Y} {st : VEn → Y → VEn} (H : L0 h hL) (hp : XP O fo p st) : XEV O (cMt0 "list" (am0 h) fo) (eMt0 p st hL) := fun P S ρ σ φ b r y σ' e => by
  unfold eMt0 at e
  split at e
  · rename_i xs q
    obtain ⟨⟨xs', z⟩, e3, e4⟩ := Option.map_eq_some_iff.mp e
    cases e4
    obtain ⟨d, fc, h1, h2, h3, h4⟩ := hp P S ρ σ φ b r _ q
    have h2c := h2
    cases h2 with
    | lstO l ds _ nP gg o =>
      obtain ⟨ds', u, j1, j2, j3⟩ := H P S l ds xs gg o xs' _ e3
      obtain ⟨m1, m2⟩ := lst_put b h2c j2
      obtain ⟨φ', n1, n2⟩ := h4 P _ _ _ m1 m2 (fun l z => .inl z)
      refine ⟨u, _, P, φ', ?_, m1.weak h3, n1, j3.st m1 b (fun l z => (h2c.fp l z).1), fun l z => (n2 l z).elim .inl fun w => .inl (h3 l w)⟩
      rw [cMt0_e, h1]
      simp only [andThen_ok, chk_lst gg, am0_e]
      exact j1
  · cases e
/-! ### x[i] = v -/
def putY (kvs : List (Key × Y)) (k : Key) (v : Y) : List (Key × Y) :=
  if (kvs.any fun kv => decide (kv.1 = k)) = true then kvs.map (fun kv => if kv.1 = k then (kv.1, v) else kv) else kvs ++ [(k, v)]
theorem Owns.snoc : ∀ {ds : List D} {ys : List Y} {f : List Nat}, Owns P S ds ys f → Own P S d y f' → (∀ l ∈ f, l ∉ f') → ∃ f'', Owns P S (ds ++ [d]) (ys ++ [y]) f'' ∧ ∀ l ∈ f'', l ∈ f ∨ l ∈ f'
  | _, _, _, .nil, h, _ => ⟨f' ++ [], .cons _ _ _ _ _ _ h .nil (fun _ _ z => by cases z), fun l z => by simpa using z⟩
  | _, _, _, .cons d0 y0 ds ys a b h t n, o, hd => by
    obtain ⟨f'', k1, k2⟩ := Owns.snoc t o fun l z => hd l (List.mem_append_right _ z)
    refine ⟨a ++ f'', .cons _ _ _ _ _ _ h k1 fun l z w => ?_, fun l z => ?_⟩
    · rcases k2 l w with v | v
      · exact n l z v
      · exact hd l (List.mem_append_left _ z) v
    · rcases List.mem_append.mp z with w | w
      · exact .inl (List.mem_append_left _ w)
      · exact (k2 l w).imp (List.mem_append_right _) id
theorem any_keys {α : Type} {kvs : List (Key × α)} {k : Key} : (kvs.any fun kv => decide (kv.1 = k)) = (kvs.map (·.1)).any fun c => decide (c = k) := by
  induction kvs with
  | nil => rfl
  | cons kv r ih => simp only [List.any_cons, List.map_cons, ih]
theorem put_rep {k : Key} (o : Own P S d y []) : ∀ {kvs : List (Key × D)} {kys : List (Key × Y)} {f : List Nat}, kvs.map (·.1) = kys.map (·.1) → Owns P S (kvs.map (·.2)) (kys.map (·.2)) f →
    ∃ f', Owns P S ((kvs.map fun kv => if kv.1 = k then (kv.1, d) else kv).map (·.2)) ((kys.map fun kv => if kv.1 = k then (kv.1, y) else kv).map (·.2)) f' ∧ (∀ l ∈ f', l ∈ f) ∧ (kvs.map fun kv => if kv.1 = k then (kv.1, d) else kv).map (·.1) = (kys.map fun kv => if kv.1 = k then (kv.1, y) else kv).map (·.1)
  | [], [], f, _, h => ⟨[], .nil, (fun _ z => by cases z), rfl⟩
  | [], (_, _) :: _, f, hk, _ => by simp at hk
  | (_, _) :: _, [], f, hk, _ => by simp at hk
  | (a, u) :: r, (a', v) :: r', f, hk, h => by
    simp only [List.map_cons, List.cons.injEq] at hk
    obtain ⟨rfl, hk⟩ := hk
    simp only [List.map_cons] at h
    obtain ⟨f1, f2, o1, o2, rfl, n⟩ := h.inv
    obtain ⟨f', k1, k2, k3⟩ := put_rep o hk o2
    by_cases q : a = k
    · refine ⟨[] ++ f', ?_, fun l z => List.mem_append_right _ (k2 l (by simpa using z)), ?_⟩
      · simp only [List.map_cons, if_pos q]
        exact .cons _ _ _ _ _ _ o k1 fun _ z => by cases z
      · simp only [List.map_cons, if_pos q]
        rw [k3]
    · refine ⟨f1 ++ f', ?_, fun l z => ?_, ?_⟩
      · simp only [List.map_cons, if_neg q]
        exact .cons _ _ _ _ _ _ o1 k1 fun l z w => n l z (k2 l w)
      · rcases List.mem_append.mp z with w | w
        · exact List.mem_append_left _ w
        · exact List.mem_append_right _ (k2 l w)
      · simp only [List.map_cons, if_neg q]
        rw [k3]
theorem putY_ok {kvs : List (Key × D)} {kys : List (Key × Y)} {k : Key} (hk : kvs.map (·.1) = kys.map (·.1)) (h : Owns P S (kvs.map (·.2)) (kys.map (·.2)) f) (o : Own P S d y []) :
    ∃ f', Owns P S ((putD kvs k d).map (·.2)) ((putY kys k y).map (·.2)) f' ∧ (∀ l ∈ f', l ∈ f) ∧ (putD kvs k d).map (·.1) = (putY kys k y).map (·.1) := by
  unfold putD putY
  rw [any_keys, any_keys, hk]
  split
  · exact put_rep o hk h
  · obtain ⟨f'', k1, k2⟩ := h.snoc o fun l z w => by cases w
    exact ⟨f'', by simpa using k1, fun l z => (k2 l z).elim id (fun w => by cases w), by simp [hk]⟩
def stY (c i v : Y) : Option Y := match c with
  | .dct true kys => match keyY i with
    | some k => if fit (kys.length + 1) = true then some (.dct true (putY kys k v)) else none
    | none => none
  | .lst true xs => match i with
    | .int j => (ixN xs.length j).map fun j => .lst true (xs.set j v)
    | _ => none
  | _ => none
theorem stY_ok {e v : D} {i w c' : Y} (b : Bd P S) (h : Own P S d c f) (hi : Own P S e i f') (hv : Own P S v w []) (q : stY c i w = some c') : ∃ S' f2, stQ d e v S = some S' ∧ Stp P S (fun l => l ∈ f) P S' ∧ Own P S' d c' f2 ∧ ∀ l ∈ f2, l ∈ f := by
  have hc := h
  unfold stY at q
  split at q
  · rename_i kys
    split at q
    · rename_i kk e1
      split at q
      · rename_i ft
        cases q
        cases h with
        | dctO l kvs _ f nP nl g hk o =>
          obtain ⟨f1, k1, k2, k3⟩ := putY_ok (k := kk) hk o hv
          have st : Stp P S (fun m => m ∈ l :: f) P (S.set l (.dct (putD kvs kk v))) := (push_stp b (lt_of_get g)).weak fun m z => by rw [z]; exact List.mem_cons_self
          have st1 : Stp P S (fun m => m = l) P (S.set l (.dct (putD kvs kk v))) := push_stp b (lt_of_get g)
          refine ⟨_, l :: f1, ?_, st, .dctO l _ _ f1 nP (fun z => nl (k2 l z)) (List.getElem?_set_self (lt_of_get g)) k3 (k1.kp (st1.kp b (fun m z => z ▸ nP) (fun m z => o.fp m (k2 m z)) fun m z w => nl (w ▸ k2 m z))), fun m z => ?_⟩
          · rw [stQ_loc, g]
            show (match keyD e with | some k => if fit (kvs.length + 1) = true then some (S.set l (.dct (putD kvs k v))) else none | none => none) = _
            rw [keyY_ok hi e1]
            simp only
            rw [keys_len hk, if_pos ft]
          · rcases List.mem_cons.mp z with rfl | z
            · exact List.mem_cons_self
            · exact List.mem_cons_of_mem _ (k2 m z)
      · cases q
    · cases q
  · rename_i xs
    split at q
    · rename_i j
      obtain ⟨n, e1, e2⟩ := Option.map_eq_some_iff.mp q
      cases e2
      cases hi
      cases h with
      | lstO l ds _ nP g o =>
        obtain ⟨m1, m2⟩ := lst_put b hc (o.set0 n hv)
        refine ⟨_, [l], ?_, m1, m2, fun _ z => z⟩
        rw [stQ_loc, g, stO_lst, o.length, e1]
        rfl
    · cases q
  · cases q
def ySt (p : VEn → Option Y) (st : VEn → Y → VEn) (gi : VEn → Option Y) (gv : VEn → Option (Y × VEn)) : VEn → YF := fun σ => match gv σ with
  | some (v, σ1) => match p σ1, gi σ1 with
    | some c, some i => match stY c i v with
      | some c' => .nx (st σ1 c')
      | none => .no
    | _, _ => .no
  | none => .no
theorem xs_st {fo fi fv : DE} {p : VEn → Option Y} {st : VEn → Y → VEn} {gi : VEn → Option Y} {gv : VEn → Option (Y × VEn)} (hp : XP O fo p st) (hi : XV O fi gi) (hv : XEV O fv gv) : XS O K (cSt fo fi fv) (ySt p st gi gv) := fun P S ρ σ φ b r => by
  unfold ySt
  split
  · rename_i v σ1 q1
    split
    · rename_i c i q2 q3
      split
      · rename_i c' q4
        obtain ⟨dv, S1, P1, φ1, a1, a2, a3, a4, a5⟩ := hv P S ρ σ φ b r _ _ q1
        obtain ⟨d, fc, h1, h2, h3, h4⟩ := hp P1 S1 ρ σ1 φ1 a2.bnd a3 _ q2
        obtain ⟨di, S2, P2, k1, k2, k3⟩ := hi P1 S1 ρ σ1 φ1 a2.bnd a3 _ q3
        obtain ⟨S3, f2, m1, m2, m3, m4⟩ := stY_ok k2.bnd (h2.st0 k2 a2.bnd) k3 (a4.st0 k2 a2.bnd) q4
        have tot : Stp P1 S1 (fun l => l ∈ fc) P2 S3 := k2.up.trans m2 fun l z => .inl z
        obtain ⟨φ', n1, n2⟩ := h4 P2 S3 c' f2 tot m3 (fun l z => .inl (m4 l z))
        exact ⟨ρ, S3, by simp only [cSt_e, a1, Rz.toF, h1, k1, m1], P2, φ', a2.trans (tot.weak h3) a5, n1, fun l z => a5 l ((n2 l z).elim id fun w => h3 l (m4 l w)), fun _ _ => rfl⟩
      · trivial
    · trivial
  · trivial
/-! ### x.f = v -/
def putFY (f : Str) (v : Y) : List (Str × Y) → List (Str × Y)
  | [] => [(f, v)]
  | (h, x) :: r => if h = f then (h, v) :: r else (h, x) :: putFY f v r
theorem putFY_ok {nm : Str} {a : List Nat} (o : Own P S d y a) : ∀ {kvs : List (Str × D)} {kys : List (Str × Y)} {f : List Nat}, kvs.map (·.1) = kys.map (·.1) → Owns P S (kvs.map (·.2)) (kys.map (·.2)) f → (∀ l ∈ f, l ∉ a) →
    ∃ f', Owns P S ((putFD nm d kvs).map (·.2)) ((putFY nm y kys).map (·.2)) f' ∧ (∀ l ∈ f', l ∈ f ∨ l ∈ a) ∧ (putFD nm d kvs).map (·.1) = (putFY nm y kys).map (·.1)
  | [], [], f, _, h, _ => ⟨a ++ [], .cons _ _ _ _ _ _ o .nil (fun _ _ z => by cases z), fun l z => .inr (by simpa using z), rfl⟩
  | [], (_, _) :: _, f, hk, _, _ => by simp at hk
  | (_, _) :: _, [], f, hk, _, _ => by simp at hk
  | (b, u) :: r, (b', v) :: r', f, hk, h, hd => by
    simp only [List.map_cons, List.cons.injEq] at hk
    obtain ⟨rfl, hk⟩ := hk
    simp only [List.map_cons] at h
    obtain ⟨f1, f2, o1, o2, rfl, n⟩ := h.inv
    by_cases q : b = nm
    · refine ⟨a ++ f2, ?_, fun l z => ?_, ?_⟩
      · simp only [putFD, putFY, if_pos q, List.map_cons]
        exact .cons _ _ _ _ _ _ o o2 fun l z w => hd l (List.mem_append_right _ w) z
      · rcases List.mem_append.mp z with w | w
        · exact .inr w
        · exact .inl (List.mem_append_right _ w)
      · simp only [putFD, putFY, if_pos q, List.map_cons, hk]
    · obtain ⟨f', k1, k2, k3⟩ := putFY_ok o hk o2 fun l z => hd l (List.mem_append_right _ z)
      refine ⟨f1 ++ f', ?_, fun l z => ?_, ?_⟩
      · simp only [putFD, putFY, if_neg q, List.map_cons]
        refine .cons _ _ _ _ _ _ o1 k1 fun l z w => ?_
        rcases k2 l w with v | v
        · exact n l z v
        · exact hd l (List.mem_append_left _ z) v
      · rcases List.mem_append.mp z with w | w
        · exact .inl (List.mem_append_left _ w)
        · exact (k2 l w).imp (List.mem_append_right _) id
      · simp only [putFD, putFY, if_neg q, List.map_cons, k3]
theorem ins_put {l cc : Nat} {kvs : List (Str × D)} {kys : List (Str × Y)} {f1 : List Nat} (b : Bd P S) (o : Own P S (.loc l) (.ins true cc ([] : List (Str × Y))) f ∨ True) (nP : ¬ P l) (g : l < S.length) (hk : kvs.map (·.1) = kys.map (·.1)) (h : Owns P S (kvs.map (·.2)) (kys.map (·.2)) f1) (nl : l ∉ f1) :
    Stp P S (fun m => m = l) P (S.set l (.ins cc kvs)) ∧ Own P (S.set l (.ins cc kvs)) (.loc l) (.ins true cc kys) (l :: f1) := by
  have st1 : Stp P S (fun m => m = l) P (S.set l (.ins cc kvs)) := push_stp b g
  exact ⟨st1, .insO l cc _ _ f1 nP nl (List.getElem?_set_self g) hk (h.kp (st1.kp b (fun m z => z ▸ nP) (fun m z => h.fp m z) fun m z w => nl (w ▸ z)))⟩
def setFY (T : FTab) (nm : Str) (c v : Y) : Option Y := match c with
  | .ins true cc fs => if (T cc nm && few fs.length) = true then some (.ins true cc (putFY nm v fs)) else none
  | _ => none
theorem setFY_ok {T : FTab} {nm : Str} {v : D} {w c' : Y} {a : List Nat} (b : Bd P S) (h : Own P S d c f) (hv : Own P S v w a) (hd : ∀ l ∈ f, l ∉ a) (q : setFY T nm c w = some c') : ∃ S' f2, setG T nm v d S = some S' ∧ Stp P S (fun l => l ∈ f) P S' ∧ Own P S' d c' f2 ∧ ∀ l ∈ f2, l ∈ f ∨ l ∈ a := by
  unfold setFY at q
  split at q
  · rename_i cc fs
    split at q
    · rename_i ft
      cases q
      cases h with
      | insO l _ kvs _ f nP nl g hk o =>
        obtain ⟨f1, k1, k2, k3⟩ := putFY_ok (nm := nm) hv hk o fun l z => hd l (List.mem_cons_of_mem _ z)
        have nl1 : l ∉ f1 := fun z => (k2 l z).elim nl (hd l List.mem_cons_self)
        obtain ⟨m1, m2⟩ := ins_put (cc := cc) (f := []) b (.inr trivial) nP (lt_of_get g) k3 k1 nl1
        refine ⟨_, l :: f1, ?_, m1.weak (fun m z => by rw [z]; exact List.mem_cons_self), m2, fun m z => ?_⟩
        · rw [setG_loc, g, setO_ins, keys_len hk, if_pos ft]
        · rcases List.mem_cons.mp z with rfl | z
          · exact .inl List.mem_cons_self
          · exact (k2 m z).imp (List.mem_cons_of_mem _) id
    · cases q
  · cases q
def ySetF (T : FTab) (nm : Str) (p : VEn → Option Y) (st : VEn → Y → VEn) (gv : VEn → Option (Y × VEn)) : VEn → YF := fun σ => match gv σ with
  | some (v, σ1) => match p σ1 with
    | some c => match setFY T nm c v with
      | some c' => .nx (st σ1 c')
      | none => .no
    | none => .no
  | none => .no
theorem xs_setF {T : FTab} {nm : Str} {fo fv : DE} {p : VEn → Option Y} {st : VEn → Y → VEn} {gv : VEn → Option (Y × VEn)} (hp : XP O fo p st) (hv : XE O fv gv) : XS O K (cSetF T nm fo fv) (ySetF T nm p st gv) := fun P S ρ σ φ b r => by
  unfold ySetF
  split
  · rename_i v σ1 q1
    split
    · rename_i c q2
      split
      · rename_i c' q4
        obtain ⟨dv, S1, P1, φ1, a, a1, a2, a3, a4, a5, a6⟩ := hv P S ρ σ φ b r _ _ q1
        obtain ⟨d, fc, h1, h2, h3, h4⟩ := hp P1 S1 ρ σ1 φ1 a2.bnd a3 _ q2
        obtain ⟨S3, f2, m1, m2, m3, m4⟩ := setFY_ok a2.bnd h2 a4 (fun l z w => a5 l w (h3 l z)) q4
        obtain ⟨φ', n1, n2⟩ := h4 P1 S3 c' f2 m2 m3 (fun l z => (m4 l z).imp id fun w => a5 l w)
        exact ⟨ρ, S3, by simp only [cSetF_e, a1, Rz.toF, h1, m1], P1, φ', a2.trans (m2.weak h3) (fun l z => a6 l (.inl z)), n1, fun l z => a6 l ((n2 l z).elim .inl fun w => (m4 l w).imp (h3 l) id), fun _ _ => rfl⟩
      · trivial
    · trivial
  · trivial
def yAugF (T : FTab) (nm : Str) (h : Y → Y → Option Y) (p : VEn → Option Y) (st : VEn → Y → VEn) (gv : VEn → Option Y) : VEn → YF := fun σ => match p σ, gv σ with
  | some c, some v => match fldY T nm c with
    | some x => if isF x = true then match h x v with
      | some z => match setFY T nm c z with
        | some c' => .nx (st σ c')
        | none => .no
      | none => .no else .no
    | none => .no
  | _, _ => .no
theorem xs_augF {T : FTab} {nm : Str} {h : D → D → Mo D} {hY : Y → Y → Option Y} {fo fv : DE} {p : VEn → Option Y} {st : VEn → Y → VEn} {gv : VEn → Option Y} (H : B2 h hY) (hp : XP O fo p st) (hv : XV O fv gv) : XS O K (cAugF T nm h fo fv) (yAugF T nm hY p st gv) := fun P S ρ σ φ b r => by
  unfold yAugF
  split
  · rename_i c v q1 q2
    split
    · rename_i x q3
      split
      · rename_i fx
        split
        · rename_i z q4
          split
          · rename_i c' q5
            obtain ⟨d, fc, h1, h2, h3, h4⟩ := hp P S ρ σ φ b r _ q1
            obtain ⟨dx, ax, x1, x2, x3⟩ := fldY_ok h2 q3
            have := x2.isF fx
            subst this
            obtain ⟨dv, S1, P1, a1, a2, a3⟩ := hv P S ρ σ φ b r _ q2
            obtain ⟨dz, S2, P2, k1, k2, k3⟩ := H P1 S1 dx dv x v [] [] a2.bnd (x2.st0 a2 b) a3 z q4
            have s12 := a2.tr0 k2
            obtain ⟨S3, f2, m1, m2, m3, m4⟩ := setFY_ok k2.bnd (h2.st0 s12 b) k3 (fun l z w => by cases w) q5
            have tot : Stp P S (fun l => l ∈ fc) P2 S3 := s12.up.trans m2 fun l z => .inl z
            obtain ⟨φ', n1, n2⟩ := h4 P2 S3 c' f2 tot m3 (fun l z => (m4 l z).elim .inl fun w => by cases w)
            have cls : clsD d S = clsD d S2 := by
              unfold setFY at q5
              split at q5
              · cases h2 with
                | insO l _ kvs _ f nP nl g hk o =>
                  show (match S[l]? with | some (.ins c _) => some c | _ => none) = (match S2[l]? with | some (.ins c _) => some c | _ => none)
                  rw [s12.keep l (lt_of_get g) fun z => z]
              · cases q5
            refine ⟨ρ, S3, ?_, P2, φ', tot.weak h3, n1, fun l z => (n2 l z).elim .inl fun w => (m4 l w).elim (fun w => .inl (h3 l w)) (fun w => by cases w), fun _ _ => rfl⟩
            simp only [cAugF_e, h1, Rz.toF, x1, a1, k1, m1]
            rw [if_pos cls]
          · trivial
        · trivial
      · trivial
    · trivial
  · trivial
end
section
theorem xe_newA {O : List Nat} {F : List D → Mo D} {np c : Nat} {G : List Y → Option (Y × VEn)} {fs : En → Mo (List D)} {gs : VEn → Option (List Y × VEn)} (H : RefE [0] F G) (hs : XEVs O fs gs) : XE O (cCall (fun ds => newI c np F (ds ++ [])) fs) (vNew c np G gs) := by
  have : (fun ds => newI c np F (ds ++ [])) = newI c np F := by funext ds; rw [List.append_nil]
  rw [this]
  exact xe_new H hs
end
/-! ### a list that something is put into that is still changed -/
section
variable {O K : List Nat} {P P' P1 : Nat → Prop} {S S' S1 : Sto} {ρ ρ' ρ1 : En} {σ σ' σ1 : VEn} {φ φ1 : Nat → List Nat} {d : D} {x y z : Y} {ds es : List D} {xs ys E : List Y} {f : List Nat}
def HOut (O K : List Nat) (P : Nat → Prop) (S : Sto) (ρ : En) (φ : Nat → List Nat) (lf : Nat) (ds : List D) (σ' : VEn) (E : List Y) (ρ' : En) (S' : Sto) : Prop := ∃ P' φ' es, Stp P S (fun l => Uf φ l ∨ l = lf) P' S' ∧ Fr O P' S' ρ' σ' φ' ∧ (∀ l, Uf φ' l → Uf φ l ∨ S.length ≤ l) ∧ (∀ i ∈ K, ρ'[i]? = ρ[i]?) ∧ ¬ P' lf ∧ ¬ Uf φ' lf ∧ S'[lf]? = some (.lst (ds ++ es)) ∧ Owns P' S' es E []
/-- statements that put more behind the list that h names, and do nothing else with it -/
def XH (O K : List Nat) (h : Nat) (s : DS) (g : VEn → Option (VEn × List Y)) : Prop := ∀ P S ρ σ φ lf ds, Bd P S → Fr O P S ρ σ φ → ρ[h]? = some (some (.loc lf)) → ¬ P lf → ¬ Uf φ lf → S[lf]? = some (.lst ds) → ∀ σ' E, g σ = some (σ', E) → fit (ds.length + E.length) = true → ∃ ρ' S', s ρ S = .nx ρ' S' ∧ HOut O K P S ρ φ lf ds σ' E ρ' S'
def hS (g : VEn → YF) : VEn → Option (VEn × List Y) := fun σ => match g σ with
  | .nx σ' => some (σ', [])
  | _ => none
theorem xh_s {h : Nat} {s : DS} {g : VEn → YF} (hs : XS O K s g) : XH O K h s (hS g) := fun P S ρ σ φ lf ds b r q nP nU g0 σ' E e ft => by
  have k := hs P S ρ σ φ b r
  unfold hS at e
  split at e
  · rename_i σ2 q2
    cases e
    rw [q2] at k
    obtain ⟨ρ', S', e1, P', φ', a1, a2, a3, a4⟩ := k
    have hl := lt_of_get g0
    refine ⟨ρ', S', e1, P', φ', [], a1.weak fun l z => .inl z, a2, a3, a4, fun z => ?_, fun z => ?_, by rw [List.append_nil, a1.keep lf hl nU]; exact g0, .nil⟩
    · rcases a1.new lf z with w | w | w
      · exact nP w
      · exact nU w
      · omega
    · rcases a3 lf z with w | w
      · exact nU w
      · omega
  · cases e
def hSeq (g g' : VEn → Option (VEn × List Y)) : VEn → Option (VEn × List Y) := fun σ => (g σ).bind fun p => (g' p.1).map fun q => (q.1, p.2 ++ q.2)
theorem HOut.seq {lf : Nat} {E' : List Y} {ρ2 : En} {S2 : Sto} {σ2 : VEn} (b : Bd P S) (r : Fr O P S ρ σ φ) (nP : ¬ P lf) (st : Stp P S (fun l => Uf φ l ∨ l = lf) P1 S1) (hu : ∀ l, Uf φ1 l → Uf φ l ∨ S.length ≤ l) (hk : ∀ i ∈ K, ρ1[i]? = ρ[i]?) (r1 : Fr O P1 S1 ρ1 σ1 φ1) (nP1 : ¬ P1 lf) (o : Owns P1 S1 es E []) (h2 : HOut O K P1 S1 ρ1 φ1 lf (ds ++ es) σ2 E' ρ2 S2) : HOut O K P S ρ φ lf ds σ2 (E ++ E') ρ2 S2 := by
  obtain ⟨P2, φ2, es2, a1, a2, a3, a4, a5, a6, a7, a8⟩ := h2
  refine ⟨P2, φ2, es ++ es2, st.trans a1 fun l z => ?_, a2, fun l z => ?_, fun i hi => (a4 i hi).trans (hk i hi), a5, a6, by rw [← List.append_assoc]; exact a7, (o.st a1 st.bnd fun l z => ?_).app0 a8⟩
  · rcases z with z | z
    · exact (hu l z).imp .inl id
    · exact .inl (.inr z)
  · rcases a3 l z with w | w
    · exact hu l w
    · exact .inr (Nat.le_trans st.len w)
  · rcases z with z | z
    · exact r1.hU l z
    · subst z; exact nP1
theorem xh_seq {h : Nat} {s t : DS} {g g' : VEn → Option (VEn × List Y)} (hk : h ∈ K) (hs : XH O K h s g) (ht : XH O K h t g') : XH O K h (cSeq s t) (hSeq g g') := fun P S ρ σ φ lf ds b r q nP nU g0 σ' E e ft => by
  obtain ⟨⟨σ1, E1⟩, e1, e2⟩ := Option.bind_eq_some_iff.mp e
  obtain ⟨⟨σ2, E2⟩, e3, e4⟩ := Option.map_eq_some_iff.mp e2
  cases e4
  have ft : fit (ds.length + (E1 ++ E2).length) = true := ft
  rw [List.length_append] at ft
  obtain ⟨ρ1, S1, k0, P1, φ1, es1, k1, k2, k3, k4, k5, k6, k7, k8⟩ := hs P S ρ σ φ lf ds b r q nP nU g0 σ1 E1 e1 (fit_mono ft (by omega))
  obtain ⟨ρ2, S2, j0, j1⟩ := ht P1 S1 ρ1 σ1 φ1 lf (ds ++ es1) k1.bnd k2 (by rw [k4 h hk]; exact q) k5 k6 k7 _ E2 e3 (by rw [List.length_append, k8.length]; rw [show ds.length + E1.length + E2.length = ds.length + (E1.length + E2.length) by omega]; exact ft)
  exact ⟨ρ2, S2, by rw [cSeq_e, k0]; exact j0, HOut.seq b r nP k1 k3 k4 k2 k5 k8 j1⟩
def hExt (g : VEn → Option Y) : VEn → Option (VEn × List Y) := fun σ => (g σ).bind fun y => match y with
  | .tup ys => some (σ, ys)
  | .lst _ ys => some (σ, ys)
  | _ => none
theorem xh_put {h : Nat} {lf : Nat} {ds' : List D} (b : Bd P S) (r : Fr O P S ρ σ φ) (st : Stp P S NoU P1 S1) (nP : ¬ P lf) (nU : ¬ Uf φ lf) (g0 : S[lf]? = some (.lst ds)) (o : Owns P1 S1 ds' E []) : HOut O K P S ρ φ lf ds σ E ρ (S1.set lf (.lst (ds ++ ds'))) := by
  have hl := lt_of_get g0
  have nP1 : ¬ P1 lf := fun z => by
    rcases st.new lf z with w | w | w
    · exact nP w
    · exact w
    · omega
  have hl1 : lf < S1.length := Nat.lt_of_lt_of_le hl st.len
  have ps : Stp P1 S1 (fun l => l = lf) P1 (S1.set lf (.lst (ds ++ ds'))) := push_stp st.bnd hl1
  have hU : ∀ l, l = lf → ¬ P1 l := fun l z => z ▸ nP1
  exact ⟨P1, φ, ds', (st.up.trans ps fun l z => .inl (.inr z)), (r.st0 st b).st ps st.bnd hU fun l w v => nU (v ▸ w), fun l z => .inl z, fun _ _ => rfl, nP1, nU, List.getElem?_set_self hl1, o.st ps st.bnd hU⟩
theorem xh_ext {h : Nat} {fv : DE} {g : VEn → Option Y} (hv : XV O fv g) : XH O K h (cExpr (cMt "list" (am1 extD) (cVar h) (cCons fv cNil))) (hExt g) := fun P S ρ σ φ lf ds b r q nP nU g0 σ' E e ft => by
  obtain ⟨y, e1, e2⟩ := Option.bind_eq_some_iff.mp e
  obtain ⟨u, S1, P1, k1, k2, k3⟩ := hv P S ρ σ φ b r _ e1
  have hl := lt_of_get g0
  have g1 : S1[lf]? = some (.lst ds) := by rw [k2.keep lf hl fun z => z]; exact g0
  have key : ∀ us, seqM S1 u = some us → Owns P1 S1 us E [] → σ' = σ → ∃ ρ' S', cExpr (cMt "list" (am1 extD) (cVar h) (cCons fv cNil)) ρ S = .nx ρ' S' ∧ HOut O K P S ρ φ lf ds σ' E ρ' S' := fun us h1 h2 h3 => by
    subst h3
    refine ⟨ρ, S1.set lf (.lst (ds ++ us)), ?_, xh_put (h := h) b r k2 nP nU g0 h2⟩
    have ev : cVar h ρ S = .ok (.loc lf) S := by simp [q]
    have ee : extD (.loc lf) u S1 = .ok .non (S1.set lf (.lst (ds ++ us))) := by
      unfold extD
      rw [lstM_loc, g1, h1]
      simp only [lstO_lst, Option.map_some]
      rw [h2.length, if_pos ft]
    rw [cExpr_e, cMt_e', ev]
    simp only [andThen_ok, chk_lst g0, cCons_e, k1, cNil_e]
    show (extD (.loc lf) u S1).toF ρ _ = _
    rw [ee]; rfl
  split at e2
  · cases e2
    cases k3 with
    | tup us _ o => exact key us rfl o rfl
  · cases e2
    cases k3 with
    | lstF l us _ p gg o => exact key us (by rw [seqM_loc, gg]; rfl) o rfl
  · cases e2
def hLoop (p : VEn → Y → Option VEn) (g : VEn → Option (VEn × List Y)) : List Y → VEn → Option (VEn × List Y)
  | [], σ => some (σ, [])
  | y :: r, σ => (p σ y).bind fun σ1 => (g σ1).bind fun q => (hLoop p g r q.1).map fun w => (w.1, q.2 ++ w.2)
theorem hloop_core {h : Nat} {kk : DG} {s : DS} {p : VEn → Y → Option VEn} {g : VEn → Option (VEn × List Y)} (hk : h ∈ K) (hg : XG O K kk p) (hs : XH O K h s g) {D0 : List D} {P0 : Nat → Prop} {S0 : Sto} {run : List D → Nat → En → Sto → Fz} (R : RunS kk s D0 P0 S0 run) {lf : Nat} :
    ∀ (us : List D) (ys : List Y) (i : Nat) (P : Nat → Prop) (S : Sto) (ρ : En) (σ : VEn) (φ : Nat → List Nat) (ds : List D) (σ' : VEn) (E : List Y), D0.drop i = us → Owns P S us ys [] → Bd P S → Fr O P S ρ σ φ → (∀ l, P0 l → P l ∧ S[l]? = S0[l]?) → ρ[h]? = some (some (.loc lf)) → ¬ P lf → ¬ Uf φ lf → S[lf]? = some (.lst ds) → hLoop p g ys σ = some (σ', E) → fit (ds.length + E.length) = true → ∃ ρ' S', run us i ρ S = .nx ρ' S' ∧ HOut O K P S ρ φ lf ds σ' E ρ' S'
  | [], ys, i, P, S, ρ, σ, φ, ds, σ', E, hd, o, b, r, hA, q, nP, nU, g0, e, ft => by
    cases o
    cases e
    exact ⟨ρ, S, R.nil i ρ S hd fun l z => (hA l z).2, P, φ, [], .refl b, r, fun l z => .inl z, fun _ _ => rfl, nP, nU, by rw [List.append_nil]; exact g0, .nil⟩
  | u :: us, ys, i, P, S, ρ, σ, φ, ds, σ', E, hd, o, b, r, hA, q, nP, nU, g0, e, ft => by
    obtain ⟨y, ys, rfl⟩ := o.inv1
    obtain ⟨o1, o2⟩ := o.inv0
    obtain ⟨σ1, e1, e⟩ := Option.bind_eq_some_iff.mp e
    obtain ⟨⟨σ2, E1⟩, e2, e⟩ := Option.bind_eq_some_iff.mp e
    obtain ⟨⟨σ3, E2⟩, e3, e4⟩ := Option.map_eq_some_iff.mp e
    cases e4
    have ft : fit (ds.length + (E1 ++ E2).length) = true := ft
    rw [List.length_append] at ft
    obtain ⟨ρ1, φ1, k1, k2, k3, k4⟩ := hg P S ρ σ φ u y b r o1 σ1 e1
    have nU1 : ¬ Uf φ1 lf := fun z => nU (k3 lf z)
    obtain ⟨ρ2, S2, j0, P2, φ2, es1, j1, j2, j3, j4, j5, j6, j7, j8⟩ := hs P S ρ1 σ1 φ1 lf ds b k2 (by rw [k4 h hk]; exact q) nP nU1 g0 σ2 E1 e2 (fit_mono ft (by omega))
    have hUU : ∀ l, (Uf φ1 l ∨ l = lf) → ¬ P l := fun l z => by
      rcases z with z | z
      · exact k2.hU l z
      · subst z; exact nP
    obtain ⟨ρ3, S3, i0, i1⟩ := hloop_core hk hg hs R us ys (i + 1) P2 S2 ρ2 σ2 φ2 (ds ++ es1) _ E2 (drop_next hd) (o2.st j1 b hUU) j1.bnd j2 (fun l z => ⟨j1.mono l (hA l z).1, by
      rw [j1.keep l (b l (hA l z).1) fun w => hUU l w (hA l z).1]; exact (hA l z).2⟩) (by rw [j4 h hk, k4 h hk]; exact q) j5 j6 j7 e3 (by rw [List.length_append, j8.length]; rw [show ds.length + E1.length + E2.length = ds.length + (E1.length + E2.length) by omega]; exact ft)
    refine ⟨ρ3, S3, ?_, HOut.seq (σ := σ) (φ := φ) b r nP (j1.weak fun l z => z.imp (k3 l) id) (fun l z => (j3 l z).imp (k3 l) id) (fun n hn => (j4 n hn).trans (k4 n hn)) j2 j5 j8 i1⟩
    rw [R.cons u us i ρ S hd fun l z => (hA l z).2, k1]
    simp only
    rw [j0]
    exact i0
def hFor (gi : VEn → Option (List Y × VEn)) (p : VEn → Y → Option VEn) (g : VEn → Option (VEn × List Y)) : VEn → Option (VEn × List Y) := fun σ => (gi σ).bind fun q => hLoop p g q.1 q.2
theorem xh_for {h : Nat} {it : En → Mo Wk} {gi : VEn → Option (List Y × VEn)} {kk : DG} {s : DS} {p : VEn → Y → Option VEn} {g : VEn → Option (VEn × List Y)} (hk : h ∈ K) (hi : XIE O it gi) (hg : XG O K kk p) (hs : XH O K h s g) : XH O K h (cFor it kk s) (hFor gi p g) := fun P S ρ σ φ lf ds b r q nP nU g0 σ' E e ft => by
  obtain ⟨⟨ys, σ1⟩, e1, e2⟩ := Option.bind_eq_some_iff.mp e
  obtain ⟨w, S1, P1, φ1, h1, h2, h3, ⟨us, h4, h5⟩, h6⟩ := hi P S ρ σ φ b r _ _ e1
  have hl := lt_of_get g0
  have g1 : S1[lf]? = some (.lst ds) := by rw [h2.keep lf hl nU]; exact g0
  have nP1 : ¬ P1 lf := fun z => by
    rcases h2.new lf z with w | w | w
    · exact nP w
    · exact nU w
    · omega
  have nU1 : ¬ Uf φ1 lf := fun z => by
    rcases h6 lf z with w | w
    · exact nU w
    · omega
  have core := fun (run : List D → Nat → En → Sto → Fz) (R : RunS kk s us P1 S1 run) => hloop_core hk hg hs R us ys 0 P1 S1 ρ σ1 φ1 ds σ' E rfl h4 h2.bnd h3 (fun l z => ⟨z, rfl⟩) q nP1 nU1 g1 e2 ft
  have fin : ∀ {ρ2 : En} {S2 : Sto}, HOut O K P1 S1 ρ φ1 lf ds σ' E ρ2 S2 → HOut O K P S ρ φ lf ds σ' E ρ2 S2 := fun {ρ2 S2} k => by
    have := HOut.seq (es := []) (E := []) (ds := ds) b r nP (h2.weak fun l z => .inl z) h6 (fun _ _ => rfl) h3 nP1 .nil (by rw [List.append_nil]; exact k)
    simpa using this
  rw [cFor_e, h1]
  cases w with
  | items vs =>
    have h5 : vs = us := h5
    subst h5
    obtain ⟨ρ2, S2, k1, k2⟩ := core (fun r _ ρ S => loopI kk s r ρ S) ⟨fun _ _ _ _ _ => rfl, fun d r i ρ S _ _ => by
      show loopI kk s (d :: r) ρ S = _
      rw [loopI_cons]
      all_goals rfl⟩
    exact ⟨ρ2, S2, k1, fin k2⟩
  | view nx m =>
    obtain ⟨h7, h8⟩ : m = us.length ∧ ∀ S'', (∀ l, P1 l → S''[l]? = S1[l]?) → ∀ i, nx i S'' = some us[i]? := h5
    subst h7
    obtain ⟨ρ2, S2, k1, k2⟩ := core (fun r i ρ S => loopV kk s nx r.length i ρ S) ⟨fun i ρ S hd ha => loopV_end (by rw [h8 S ha i, List.getElem?_eq_none (by simpa using hd)]), fun d r i ρ S hd ha => by
      refine loopV_succ ?_
      rw [h8 S ha i]
      have := congrArg (fun l => l[0]?) hd
      simpa using this⟩
    exact ⟨ρ2, S2, k1, fin k2⟩
/-- xs.append(w), w still changed behind it -/
def yLate (h w : Nat) (g : VEn → Option (VEn × List Y)) : VEn → YF := fun σ => match σ[h]?, σ[w]? with
  | some (some (.lst true F)), some (some _) => match g (σ.set h none) with
    | some (σ', E) => match σ'[w]? with
      | some (some y) => if fit (F.length + 1 + E.length) = true then .nx ((σ'.set w none).set h (some (.lst true (F ++ frz y :: E)))) else .no
      | _ => .no
    | none => .no
  | _, _ => .no
theorem xs_late {h w : Nat} {s : DS} {g : VEn → Option (VEn × List Y)} (hw : h ≠ w) (hO : h ∈ O) (hs : XH O (h :: w :: K) h s g) (hK : h ∉ K) : XS O K (cSeq (cExpr (cMt "list" (am1 appD) (cVar h) (cCons (cVar w) cNil))) s) (yLate h w g) := fun P S ρ σ φ b r => by
  unfold yLate
  split
  · rename_i F yw q1 q2
    split
    · rename_i σ' E q3
      split
      · rename_i y q4
        split
        · rename_i ft
          obtain ⟨dh, g1, o1⟩ := r.at_ h _ q1
          obtain ⟨dw, g2, o2⟩ := r.at_ w _ q2
          generalize hφ : φ h = fh at o1
          cases o1 with
          | lstO lf ds _ nP gg o =>
            have hl := lt_of_get gg
            have hlen := (List.getElem?_eq_some_iff.mp q1).1
            have ps : Stp P S (fun l => l = lf) P (S.set lf (.lst (ds ++ [dw]))) := push_stp b hl
            -- the frame that does not see the list
            have r1 : Fr O P S ρ (σ.set h none) (fset φ h []) := ⟨by rw [List.length_set]; exact r.len, fun i z e => by
              by_cases hi : i = h
              · subst hi; rw [List.getElem?_set_self hlen] at e; cases e
              · rw [List.getElem?_set_ne fun z => hi z.symm] at e
                rw [fset_ne hi]
                exact r.at_ i z e, fun i hi => by
              by_cases hi2 : i = h
              · subst hi2; exact fset_self
              · rw [fset_ne hi2]; exact r.val i hi, fun i e => by
              by_cases hi : i = h
              · subst hi; exact fset_self
              · rw [fset_ne hi]
                refine r.emp i fun z v => e z ?_
                rw [List.getElem?_set_ne fun z => hi z.symm]; exact v, fun i j hij l a1 a2 => by
              by_cases hi : i = h
              · subst hi; rw [fset_self] at a1; cases a1
              · by_cases hj : j = h
                · subst hj; rw [fset_self] at a2; cases a2
                · rw [fset_ne hi] at a1; rw [fset_ne hj] at a2; exact r.dis i j hij l a1 a2⟩
            have sub : ∀ l, Uf (fset φ h []) l → Uf φ l := by
              rintro l ⟨i, hi⟩
              by_cases hih : i = h
              · subst hih; rw [fset_self] at hi; cases hi
              · rw [fset_ne hih] at hi; exact ⟨i, hi⟩
            have nU : ¬ Uf (fset φ h []) lf := by
              rintro ⟨i, hi⟩
              by_cases hih : i = h
              · subst hih; rw [fset_self] at hi; cases hi
              · rw [fset_ne hih] at hi
                exact r.dis i h hih lf hi (by rw [hφ]; exact List.mem_singleton.mpr rfl)
            have hU : ∀ l, l = lf → ¬ P l := fun l z => z ▸ nP
            have r2 := r1.st ps b hU fun l z v => nU (v ▸ z)
            have fin : fit ((ds ++ [dw]).length + E.length) = true := by
              rw [List.length_append, List.length_singleton, o.length]; exact ft
            obtain ⟨ρ', S', e1, P', φ', es, a1, a2, a3, a4, a5, a6, a7, a8⟩ := hs P (S.set lf (.lst (ds ++ [dw]))) ρ (σ.set h none) (fset φ h []) lf (ds ++ [dw]) ps.bnd r2 g1 nP nU (List.getElem?_set_self hl) σ' E q3 fin
            have a1' : Stp P S (fun l => Uf (fset φ h []) l ∨ l = lf) P' S' := (ps.weak fun l z => .inr z).trans a1 fun l z => .inl z
            have a3' : ∀ l, Uf φ' l → Uf φ l ∨ S.length ≤ l := fun l z => (a3 l z).imp (sub l) fun v => by simpa using v
            -- what was put in, now let go
            obtain ⟨dw', m1, m2⟩ := a2.at_ w y q4
            have hdw : dw' = dw := by
              rw [a4 w (by simp), g2] at m1
              cases m1; rfl
            subst hdw
            obtain ⟨P2, φ2, n1, n2, n3, n4⟩ := a2.frzAt (i := w) a1.bnd
            obtain ⟨dw2, n5, n6⟩ := n4 y q4
            have hdw2 : dw2 = dw' := by
              rw [m1] at n5
              cases n5; rfl
            subst hdw2
            have e2 : frzAt w σ' = σ'.set w (some (frz y)) := by unfold frzAt; rw [q4]
            rw [e2] at n2
            have nU2 : ¬ Uf φ2 lf := fun z => a6 (n3 lf z)
            have nP2 : ¬ P2 lf := fun z => by
              have hlf := lt_of_get a7
              rcases n1.new lf z with v | v | v
              · exact a5 v
              · exact a6 v
              · omega
            have oF : Owns P2 S' ds F [] := ((o.st a1' b fun l z => z.elim (fun z => (r.fp l (sub l z)).1) (hU l)).st n1 a1.bnd a2.hU)
            have oE : Owns P2 S' es E [] := a8.st n1 a1.bnd a2.hU
            have oL : Own P2 S' (.loc lf) (.lst true (F ++ frz y :: E)) [lf] := by
              refine .lstO lf (ds ++ [dw2] ++ es) _ nP2 a7 ?_
              rw [List.append_assoc]
              exact oF.app0 (.cons0 n6 oE)
            -- the name w is told no more
            have hwl := (List.getElem?_eq_some_iff.mp q4).1
            have r3 : Fr O P2 S' ρ' (σ'.set w none) φ2 := ⟨by rw [List.length_set]; exact a2.len, fun i z e => by
              by_cases hi : i = w
              · subst hi; rw [List.getElem?_set_self hwl] at e; cases e
              · refine n2.at_ i z ?_
                rw [List.getElem?_set_ne fun z => hi z.symm] at e ⊢
                exact e, n2.val, fun i e => by
              by_cases hi : i = w
              · subst hi
                obtain ⟨dz, z1, z2⟩ := n2.at_ i (frz y) (List.getElem?_set_self hwl)
                refine z2.isF ?_
                cases y <;> simp [frz, isF]
              · refine n2.emp i fun z v => e z ?_
                rw [List.getElem?_set_ne fun z => hi z.symm] at v ⊢
                exact v, n2.dis⟩
            have hρh : ρ'[h]? = some (some (.loc lf)) := by rw [a4 h (by simp)]; exact g1
            obtain ⟨φ3, t1, t2⟩ := r3.set (i := h) (d := .loc lf) oL (fun j hj l hl' z => by rw [List.mem_singleton.mp hl'] at z; exact nU2 ⟨j, z⟩) (.inl hO)
            rw [set_same hρh] at t1
            refine ⟨ρ', S', ?_, P2, φ3, ?_, t1, fun l z => ?_, fun i hi => a4 i (by simp [hi])⟩
            · have ev : cVar h ρ S = .ok (.loc lf) S := by simp [g1]
              have ev2 : cVar w ρ S = .ok dw2 S := by simp [g2]
              have ea : appD (.loc lf) dw2 S = .ok .non (S.set lf (.lst (ds ++ [dw2]))) := by
                rw [appD_loc, gg]
                simp only [appO_lst]
                rw [o.length, if_pos (fit_mono ft (by omega))]
                rfl
              rw [cSeq_e, cExpr_e, cMt_e', ev]
              simp only [andThen_ok, chk_lst gg, cCons_e, ev2, cNil_e]
              show ((appD (.loc lf) dw2 S).toF ρ _).sq s = _
              rw [ea]
              exact e1
            · have n1' : Stp P' S' (Uf φ') P2 S' := n1
              have hlfU : Uf φ lf := ⟨h, by rw [hφ]; exact List.mem_singleton.mpr rfl⟩
              exact (a1'.weak fun l z => z.elim (sub l) fun z => z ▸ hlfU).trans n1' a3'
            · rcases t2 l z with v | v
              · exact a3' l (n3 l v)
              · rw [List.mem_singleton.mp v]; exact .inl ⟨h, by rw [hφ]; exact List.mem_singleton.mpr rfl⟩
        · trivial
      · trivial
    · trivial
  · trivial
end
end Sm
end
section
/-! Sm, part Xe: a walk over a list of ours that stays ours. -/
namespace Sm
open PySem PySem.Spec PyProof.Rows L2
section
variable {O K : List Nat} {P P' P'' P1 : Nat → Prop} {S S' S'' S1 : Sto} {ρ ρ' ρ1 : En} {σ σ' σ1 : VEn} {φ φ1 : Nat → List Nat} {d : D} {x y z c k : Y} {ds : List D} {xs ys : List Y} {f f' : List Nat} {r : Fz}
/-- the frame that does not see h -/
theorem Fr.hide {h : Nat} (r : Fr O P S ρ σ φ) (hlen : h < σ.length) : Fr O P S ρ (σ.set h none) (fset φ h []) := ⟨by rw [List.length_set]; exact r.len, fun i z e => by
  by_cases hi : i = h
  · subst hi; rw [List.getElem?_set_self hlen] at e; cases e
  · rw [List.getElem?_set_ne fun z => hi z.symm] at e
    rw [fset_ne hi]
    exact r.at_ i z e, fun i hi => by
  by_cases hi2 : i = h
  · subst hi2; exact fset_self
  · rw [fset_ne hi2]; exact r.val i hi, fun i e => by
  by_cases hi : i = h
  · subst hi; exact fset_self
  · rw [fset_ne hi]
    refine r.emp i fun z v => e z ?_
    rw [List.getElem?_set_ne fun z => hi z.symm]; exact v, fun i j hij l a1 a2 => by
  by_cases hi : i = h
  · subst hi; rw [fset_self] at a1; cases a1
  · by_cases hj : j = h
    · subst hj; rw [fset_self] at a2; cases a2
    · rw [fset_ne hi] at a1; rw [fset_ne hj] at a2; exact r.dis i j hij l a1 a2⟩
def yForH (h : Nat) (p : VEn → Y → Option VEn) (g : VEn → YF) : VEn → YF := fun σ => match σ[h]? with
  | some (some (.lst true ys)) => match yLoop p g ys (σ.set h none) with
    | .nx σ' => match σ'[h]? with
      | some none => .nx (σ'.set h (some (.lst true ys)))
      | _ => .no
    | .ret y σ' => .ret y σ'
    | _ => .no
  | _ => .no
theorem xs_forH {h : Nat} {kk : DG} {s : DS} {p : VEn → Y → Option VEn} {g : VEn → YF} (hO : h ∈ O) (hg : XG O (h :: K) kk p) (hs : XS O (h :: K) s g) : XS O K (cFor (cIt (cVar h)) kk s) (yForH h p g) := fun P S ρ σ φ b r => by
  unfold yForH
  split
  · rename_i ys q1
    obtain ⟨dh, g1, o1⟩ := r.at_ h _ q1
    generalize hφ : φ h = fh at o1
    cases o1 with
    | lstO lf ds _ nP gg o =>
      have hl := lt_of_get gg
      have hlen := (List.getElem?_eq_some_iff.mp q1).1
      have r1 := r.hide hlen
      have sub : ∀ l, Uf (fset φ h []) l → Uf φ l := by
        rintro l ⟨i, hi⟩
        by_cases hih : i = h
        · subst hih; rw [fset_self] at hi; cases hi
        · rw [fset_ne hih] at hi; exact ⟨i, hi⟩
      have nU : ¬ Uf (fset φ h []) lf := by
        rintro ⟨i, hi⟩
        by_cases hih : i = h
        · subst hih; rw [fset_self] at hi; cases hi
        · rw [fset_ne hih] at hi
          exact r.dis i h hih lf hi (by rw [hφ]; exact List.mem_singleton.mpr rfl)
      have hlfU : Uf φ lf := ⟨h, by rw [hφ]; exact List.mem_singleton.mpr rfl⟩
      have nxt : ∀ S'' : Sto, (∀ l, l = lf → S''[l]? = S[l]?) → ∀ i, liveX lf i S'' = some ds[i]? := fun S'' hs i => by rw [liveX_e, hs lf rfl, gg]; rfl
      have core := loop_core hg hs (D0 := ds) (P0 := fun l => l = lf) (S0 := S) (run := fun r i ρ S => loopV kk s (liveX lf) r.length i ρ S) ⟨fun i ρ S'' hd ha => loopV_end (by rw [nxt S'' ha i, List.getElem?_eq_none (by simpa using hd)]), fun d r i ρ S'' hd ha => by
        refine loopV_succ ?_
        rw [nxt S'' ha i]
        have := congrArg (fun l => l[0]?) hd
        simpa using this⟩ ds ys 0 P S ρ (σ.set h none) (fset φ h []) rfl o b r1 fun l z => ⟨.inr ⟨by rw [z]; exact hl, by rw [z]; exact nP, by rw [z]; exact nU⟩, rfl⟩
      have ev : cIt (cVar h) ρ S = .ok (.view (liveX lf) ds.length) S := by
        simp [cIt_e, g1, itD_loc, gg]
      have ef : cFor (cIt (cVar h)) kk s ρ S = loopV kk s (liveX lf) ds.length 0 ρ S := by rw [cFor_e, ev]; rfl
      rw [ef]
      split
      · rename_i σ' q2
        rw [q2] at core
        obtain ⟨ρ', S', e, P', φ', a1, a2, a3, a4⟩ := core
        split
        · rename_i q3
          have g' : S'[lf]? = some (.lst ds) := by rw [a1.keep lf hl nU]; exact gg
          have nP' : ¬ P' lf := fun z => by
            rcases a1.new lf z with v | v | v
            · exact nP v
            · exact nU v
            · omega
          have nU' : ¬ Uf φ' lf := fun z => by
            rcases a3 lf z with v | v
            · exact nU v
            · omega
          have oL : Own P' S' (.loc lf) (.lst true ys) [lf] := .lstO lf ds ys nP' g' (o.st a1 b r1.hU)
          have hρh : ρ'[h]? = some (some (.loc lf)) := by rw [a4 h (by simp)]; exact g1
          obtain ⟨φ3, t1, t2⟩ := a2.set (i := h) (d := .loc lf) oL (fun j hj l hl' z => by rw [List.mem_singleton.mp hl'] at z; exact nU' ⟨j, z⟩) (.inl hO)
          rw [set_same hρh] at t1
          refine ⟨ρ', S', e, P', φ3, a1.weak sub, t1, fun l z => ?_, fun i hi => a4 i (by simp [hi])⟩
          rcases t2 l z with v | v
          · exact (a3 l v).imp (sub l) id
          · rw [List.mem_singleton.mp v]; exact .inl hlfU
        · trivial
      · rename_i y σ' q2
        rw [q2] at core
        obtain ⟨d, ρ', S', P', φ', a, e, k1, k2, k3, k4, k5, k6⟩ := core
        exact ⟨d, ρ', S', P', φ', a, e, k1.weak sub, k2, fun i hi => k3 i (by simp [hi]), k4, k5, fun l z => (k6 l z).imp (sub l) id⟩
      · trivial
  · trivial
end
end Sm
end
section
/-! Sm, part Y: dicts written out; how values are reckoned. -/
namespace Sm
open PySem PySem.Spec PyProof.Rows L2
section
variable {O K : List Nat} {P P' P'' P1 : Nat → Prop} {S S' S'' S1 : Sto} {ρ ρ' ρ1 : En} {σ σ' σ1 : VEn} {φ φ1 : Nat → List Nat} {d : D} {x y z c k : Y} {ds : List D} {xs ys : List Y} {f f' : List Nat} {U U' U'' : Nat → Prop} {r : Fz}
theorem xv_fld {T : FTab} {nm : Str} {fo : DE} {g : VEn → Option Y} (h : XV O fo g) : XV O (cFld T nm fo) (vFld T nm g) := fun P S ρ σ φ b r y e => by
  obtain ⟨y1, e1, e2⟩ := Option.bind_eq_some_iff.mp e
  obtain ⟨d, S1, P1, h1, h2, h3⟩ := h P S ρ σ φ b r _ e1
  obtain ⟨u, c, j1, j2, j3⟩ := fldY_ok h3 e2
  have : c = [] := List.eq_nil_iff_forall_not_mem.mpr fun l z => by cases j3 l z
  subst this
  exact ⟨u, S1, P1, by simp [h1, fldD, j1], h2, j2⟩
def XPs (O : List Nat) (fs : List (DE × DE)) (gs : VEn → Option (List (Key × Y) × VEn)) : Prop := ∀ P S ρ σ φ, Bd P S → Fr O P S ρ σ φ → ∀ kys σ', gs σ = some (kys, σ') → ∃ ps S' P' φ' a kvs, cPairs fs ρ S = .ok ps S' ∧ asKvs ps = some kvs ∧ Stp P S (Uf φ) P' S' ∧ Fr O P' S' ρ σ' φ' ∧ kvs.map (·.1) = kys.map (·.1) ∧ Owns P' S' (kvs.map (·.2)) (kys.map (·.2)) a ∧ (∀ l ∈ a, ¬ Uf φ' l) ∧ (∀ l, Uf φ' l ∨ l ∈ a → Uf φ l ∨ S.length ≤ l)
def ePs0 : VEn → Option (List (Key × Y) × VEn) := fun σ => some ([], σ)
def ePs (x : Str) (g : VEn → Option (Y × VEn)) (gs : VEn → Option (List (Key × Y) × VEn)) : VEn → Option (List (Key × Y) × VEn) := fun σ => (g σ).bind fun p => (gs p.2).map fun q => ((.inr x, p.1) :: q.1, q.2)
theorem xps_nil : XPs O [] ePs0 := fun P S ρ σ φ b r y σ' e => by
  cases e
  exact ⟨[], S, P, φ, [], [], rfl, rfl, .refl b, r, rfl, .nil, (fun _ z => by cases z), fun l z => z.elim .inl fun z => by cases z⟩
theorem xps_cons {x : Str} {fv : DE} {g : VEn → Option (Y × VEn)} {fs : List (DE × DE)} {gs : VEn → Option (List (Key × Y) × VEn)} (h : XE O fv g) (hs : XPs O fs gs) : XPs O ((cC (.str x), fv) :: fs) (ePs x g gs) := fun P S ρ σ φ b r y σ' e => by
  obtain ⟨⟨v, σ1⟩, e1, e2⟩ := Option.bind_eq_some_iff.mp e
  obtain ⟨⟨kys, σ2⟩, e3, e4⟩ := Option.map_eq_some_iff.mp e2
  cases e4
  obtain ⟨d, S1, P1, φ1, a1, h1, h2, h3, h4, h5, h6⟩ := h P S ρ σ φ b r _ _ e1
  obtain ⟨ps, S2, P2, φ2, a2, kvs, k1, k2, k3, k4, k5, k6, k7, k8⟩ := hs P1 S1 ρ σ1 φ1 h2.bnd h3 _ _ e3
  have h4' : Own P2 S2 d v a1 := h4.kp (k3.kp h2.bnd h3.hU (fun l z => h4.fp l z) h5)
  refine ⟨(.str x, d) :: ps, S2, P2, φ2, a1 ++ a2, (.inr x, d) :: kvs, by simp [h1, k1], by simp [k2], h2.trans k3 (fun l z => h6 l (.inl z)), k4, by simp [k5], .cons _ _ _ _ _ _ h4' k6 fun l z w => ?_, fun l z w => ?_, fun l z => ?_⟩
  · rcases k8 l (.inr w) with v | v
    · exact h5 l z v
    · have := (h4.fp l z).2; omega
  · rcases List.mem_append.mp z with z | z
    · rcases k8 l (.inl w) with v | v
      · exact h5 l z v
      · have := (h4.fp l z).2; omega
    · exact k7 l z w
  · have key : Uf φ2 l ∨ l ∈ a2 → Uf φ l ∨ S.length ≤ l := fun z => by
      rcases k8 l z with v | v
      · exact h6 l (.inl v)
      · exact .inr (Nat.le_trans h2.len v)
    rcases z with z | z
    · exact key (.inl z)
    · rcases List.mem_append.mp z with z | z
      · exact h6 l (.inr z)
      · exact key (.inr z)
theorem merge_nodup {kvs : List (Key × D)} (h : (kvs.map (·.1)).Nodup) : mergeD [] kvs = kvs := by
  have key : ∀ (r acc : List (Key × D)), ((acc ++ r).map (·.1)).Nodup → mergeD acc r = acc ++ r := fun r => by
    induction r with
    | nil => intro acc _; simp [mergeD]
    | cons kv r ih =>
      intro acc hn
      have hp : putD acc kv.1 kv.2 = acc ++ [kv] := by
        unfold putD
        rw [if_neg]
        rw [List.any_eq_true]
        rintro ⟨q, hq, he⟩
        rw [List.map_append, List.nodup_append] at hn
        exact hn.2.2 q.1 (List.mem_map.mpr ⟨q, hq, rfl⟩) kv.1 (by simp) (by simpa using he)
      show mergeD (putD acc kv.1 kv.2) r = _
      rw [hp, ih _ (by simpa using hn)]
      simp
  exact key kvs [] (by simpa using h)
def eDict (gs : VEn → Option (List (Key × Y) × VEn)) : VEn → Option (Y × VEn) := fun σ => (gs σ).bind fun p => if few15 p.1.length = true ∧ (p.1.map (·.1)).Nodup then some (.dct true p.1, p.2) else none
theorem xo_dict {fs : List (DE × DE)} {gs : VEn → Option (List (Key × Y) × VEn)} (h : XPs O fs gs) : XE O (cDict fs) (eDict gs) := fun P S ρ σ φ b r y σ' e => by
  obtain ⟨⟨kys, σ1⟩, e1, e2⟩ := Option.bind_eq_some_iff.mp e
  split at e2
  · rename_i c
    cases e2
    have st0 : Stp P S NoU P (S ++ [.dct []]) := ⟨by simp, fun l hl _ => List.getElem?_append_left hl, fun l h => h, fun l h => .inl h, fun l h => by have := b l h; simp; omega⟩
    have r0 := r.st0 st0 b
    obtain ⟨ps, S2, P2, φ2, a, kvs, k1, k2, k3, k4, k5, k6, k7, k8⟩ := h P _ ρ σ φ st0.bnd r0 _ _ e1
    have nU : ¬ Uf φ S.length := fun z => by have := (r.fp _ z).2; omega
    have nP : ¬ P2 S.length := fun z => by
      rcases k3.new _ z with w | w | w
      · have := b _ w; omega
      · exact nU w
      · simp at w; omega
    have far : ∀ l, Uf φ2 l ∨ l ∈ a → l ≠ S.length := fun l z w => by
      subst w
      rcases k8 _ z with v | v
      · exact nU v
      · simp at v; omega
    have g : S2[S.length]? = some (.dct []) := by rw [k3.keep _ (by simp) nU]; simp
    have ps1 : Stp P2 S2 (fun l => l = S.length) P2 (S2.set S.length (.dct kvs)) := push_stp k3.bnd (lt_of_get g)
    have hU : ∀ l, l = S.length → ¬ P2 l := fun l z => z ▸ nP
    have tot : Stp P S (Uf φ) P2 (S2.set S.length (.dct kvs)) := by
      have t1 := st0.up.trans (k3.weak (U' := fun l => Uf φ l ∨ l = S.length) fun l z => .inl z) (U := fun l => Uf φ l ∨ l = S.length) fun l z => .inl z
      have t2 := t1.trans ps1 fun l z => .inl (.inr z)
      exact ⟨t2.len, fun l hl hu => t2.keep l hl fun z => z.elim hu fun z => by omega, t2.mono, fun l z => by
        rcases t2.new l z with w | (w | w) | w
        · exact .inl w
        · exact .inr (.inl w)
        · exact .inr (.inr (by omega))
        · exact .inr (.inr w), t2.bnd⟩
    refine ⟨.loc S.length, _, P2, φ2, S.length :: a, ?_, tot, k4.st ps1 k3.bnd hU (fun l z w => far l (.inl z) w), .dctO _ kvs kys a nP (fun z => far _ (.inr z) rfl) (List.getElem?_set_self (lt_of_get g)) k5 (k6.kp (ps1.kp k3.bnd hU (fun l z => k6.fp l z) fun l z w => far l (.inr z) w)), fun l z w => ?_, fun l z => ?_⟩
    · rw [cDict_e, k1]
      simp only [andThen_ok]
      unfold dispF
      rw [k2, g]
      simp only
      rw [keys_len k5, if_pos c.1, merge_nodup (by rw [k5]; exact c.2)]
    · rcases List.mem_cons.mp z with rfl | z
      · exact far _ (.inl w) rfl
      · exact k7 l z w
    · have key : Uf φ2 l ∨ l ∈ a → Uf φ l ∨ S.length ≤ l := fun z => (k8 l z).imp id fun v => by simp at v; omega
      rcases z with z | z
      · exact key (.inl z)
      · rcases List.mem_cons.mp z with rfl | z
        · exact .inr (Nat.le_refl _)
        · exact key (.inr z)
  · cases e2
end
/-! ### how it is reckoned -/
section
variable {σ : VEn} {x y z u v : Y} {xs ys : List Y} {i j : Int} {g g' ga gb gc : VEn → Option Y} {gs : VEn → Option (List Y)} {t t' : VEn → Option Bool} {e e' : VEn → Option (Y × VEn)} {es : VEn → Option (List Y × VEn)} {et et' : VEn → Option (Bool × VEn)} {h : Y → Y → Option Y} {h1 : Y → Option Y} {s s' : VEn → YF} {p : VEn → Option Y} {st : VEn → Y → VEn}
@[simp] theorem vVar_e {i : Nat} : vVar i σ = (match σ[i]? with | some (some y) => some y | _ => none) := rfl
@[simp] theorem vC_e : vC y σ = some y := rfl
@[simp] theorem vF_e : vF g σ = (g σ).bind fun y => if isF y = true then some y else none := rfl
@[simp] theorem isF_non : isF .non = true := rfl
@[simp] theorem isF_int : isF (.int i) = true := rfl
@[simp] theorem isF_bl {b : Bool} : isF (.bl b) = true := rfl
@[simp] theorem isF_str {b : Str} : isF (.str b) = true := rfl
@[simp] theorem isF_tup : isF (.tup xs) = true := rfl
@[simp] theorem isF_lsc : isF (.lsc xs) = true := rfl
@[simp] theorem isF_lst {o : Bool} : isF (.lst o xs) = !o := rfl
@[simp] theorem isF_dct {o : Bool} {kvs : List (Key × Y)} : isF (.dct o kvs) = !o := rfl
@[simp] theorem isF_ins {o : Bool} {c : Nat} {kvs : List (Str × Y)} : isF (.ins o c kvs) = !o := rfl
@[simp] theorem frz_non : frz .non = .non := by simp only [frz]
@[simp] theorem frz_int : frz (.int i) = .int i := by simp only [frz]
@[simp] theorem frz_bl {b : Bool} : frz (.bl b) = .bl b := by simp only [frz]
@[simp] theorem frz_str {b : Str} : frz (.str b) = .str b := by simp only [frz]
@[simp] theorem frz_tup : frz (.tup xs) = .tup xs := by simp only [frz]
@[simp] theorem frz_lsc : frz (.lsc xs) = .lsc xs := by simp only [frz]
@[simp] theorem frz_lst {o : Bool} : frz (.lst o xs) = .lst false xs := by simp only [frz]
@[simp] theorem frz_dct {o : Bool} {kvs : List (Key × Y)} : frz (.dct o kvs) = .dct false (frzK kvs) := by simp only [frz]
@[simp] theorem frz_ins {o : Bool} {c : Nat} {fs : List (Str × Y)} : frz (.ins o c fs) = .ins false c (frzF fs) := by simp only [frz]
@[simp] theorem frzK_nil : frzK [] = [] := by simp only [frzK]
@[simp] theorem frzK_cons {k : Key} {r : List (Key × Y)} : frzK ((k, y) :: r) = (k, frz y) :: frzK r := by simp only [frzK]
@[simp] theorem frzF_nil : frzF [] = [] := by simp only [frzF]
@[simp] theorem frzF_cons {k : Str} {r : List (Str × Y)} : frzF ((k, y) :: r) = (k, frz y) :: frzF r := by simp only [frzF]
@[simp] theorem flY_non : flY .non = true := by simp only [flY]
@[simp] theorem flY_int : flY (.int i) = true := by simp only [flY]
@[simp] theorem flY_bl {b : Bool} : flY (.bl b) = true := by simp only [flY]
@[simp] theorem flY_str {b : Str} : flY (.str b) = true := by simp only [flY]
@[simp] theorem flY_tp : flY (.tup xs) = xs.all flY := flY_tup
@[simp] theorem vNil_e : vNil σ = some [] := rfl
@[simp] theorem vCons_e : vCons g gs σ = (g σ).bind fun y => (gs σ).bind fun ys => some (y :: ys) := rfl
@[simp] theorem vUn_e : vUn h1 g σ = (g σ).bind h1 := rfl
@[simp] theorem vOp_e : vOp h g g' σ = (g σ).bind fun x => (g' σ).bind fun y => h x y := rfl
@[simp] theorem vTup_e : vTup gs σ = (gs σ).bind fun ys => if fit ys.length = true then some (.tup ys) else none := rfl
@[simp] theorem vLst_e : vLst gs σ = (gs σ).bind fun ys => if fit ys.length = true then some (.lst false ys) else none := rfl
@[simp] theorem vTest_e : vTest g σ = (match g σ with | some (.bl b) => some b | _ => none) := rfl
@[simp] theorem vTru_e : vTru g σ = (g σ).bind trY := rfl
@[simp] theorem vNotT_e : vNotT t σ = (t σ).map (!·) := rfl
@[simp] theorem vAndT_e : vAndT t t' σ = (t σ).bind fun k => if k = true then t' σ else some false := rfl
@[simp] theorem vOrT_e : vOrT t t' σ = (t σ).bind fun k => if k = true then some true else t' σ := rfl
@[simp] theorem vTt_e : vTt σ = some true := rfl
@[simp] theorem vIf_e : vIf t g g' σ = (t σ).bind fun k => if k = true then g σ else g' σ := rfl
@[simp] theorem vAnd_e : vAnd g g' σ = (g σ).bind fun x => (trY x).bind fun k => if k = true then g' σ else some x := rfl
@[simp] theorem vOr_e : vOr g g' σ = (g σ).bind fun x => (trY x).bind fun k => if k = true then some x else g' σ := rfl
@[simp] theorem vNot_e : vNot g σ = (g σ).bind fun x => (trY x).map fun k => .bl (!k) := rfl
@[simp] theorem vChain_e {h' : Y → Y → Option Y} : vChain h h' ga gb gc σ = (ga σ).bind fun x => (gb σ).bind fun y => match h x y with
  | some (.bl true) => (gc σ).bind fun u => h' y u
  | some (.bl false) => some (.bl false)
  | _ => none := rfl
@[simp] theorem vGet_e : vGet g g' σ = (g σ).bind fun x => (g' σ).bind fun k => getY x k := rfl
@[simp] theorem vFld_e {T : FTab} {nm : Str} : vFld T nm g σ = (g σ).bind (fldY T nm) := rfl
@[simp] theorem vPt0_e : vPt0 σ = some none := rfl
@[simp] theorem vPt_e : vPt g σ = (match g σ with | some (.int i) => some (some i) | _ => none) := rfl
@[simp] theorem vSl_e {gl gh : VEn → Option (Option Int)} : vSl g gl gh σ = (g σ).bind fun x => (gl σ).bind fun l => (gh σ).bind fun h => slY l h x := rfl
@[simp] theorem vIt_e : vIt g σ = (g σ).bind itY := rfl
@[simp] theorem vRng_e {hw : List Y → Option (List Y)} : vRng hw gs σ = (gs σ).bind hw := rfl
@[simp] theorem vL_e {α : Type} {q : VEn → Option α} : vL q σ = (q σ).map fun y => (y, σ) := rfl
@[simp] theorem vFz_e : vFz e σ = (e σ).map fun p => (frz p.1, p.2) := rfl
@[simp] theorem eNil_e : eNil σ = some ([], σ) := rfl
@[simp] theorem eCons_e : eCons e es σ = (e σ).bind fun p => (es p.2).map fun q => (p.1 :: q.1, q.2) := rfl
@[simp] theorem eUn_e : eUn h1 e σ = (e σ).bind fun p => (h1 p.1).map fun y => (y, p.2) := rfl
@[simp] theorem eOp_e : eOp h e e' σ = (e σ).bind fun p => (e' p.2).bind fun q => (h p.1 q.1).map fun y => (y, q.2) := rfl
@[simp] theorem eTup_e : eTup es σ = (es σ).bind fun p => if fit p.1.length = true then some (.tup p.1, p.2) else none := rfl
@[simp] theorem eLst_e : eLst es σ = (es σ).bind fun p => if fit p.1.length = true then some (.lst true p.1, p.2) else none := rfl
@[simp] theorem oNL_e {hl : Y → Option (List Y)} : oNL hl g σ = (g σ).bind fun x => (hl x).map fun ys => (.lst true ys, σ) := rfl
@[simp] theorem oNL2_e {hl : Y → Y → Option (List Y)} : oNL2 hl g g' σ = (g σ).bind fun x => (g' σ).bind fun z => (hl x z).map fun ys => (.lst true ys, σ) := rfl
@[simp] theorem eNL2_e {hl : Y → Y → Option (List Y)} : eNL2 hl e e' σ = (e σ).bind fun p => (e' p.2).bind fun q => (hl p.1 q.1).map fun ys => (.lst true ys, q.2) := rfl
@[simp] theorem oSl_e {gl gh : VEn → Option (Option Int)} : oSl g gl gh σ = (g σ).bind fun x => (gl σ).bind fun l => (gh σ).bind fun h => (slL l h x).map fun ys => (.lst true ys, σ) := rfl
@[simp] theorem oDct_e : oDct σ = some (.dct true [], σ) := rfl
@[simp] theorem eTest_e : eTest e σ = (match e σ with | some (.bl b, σ') => some (b, σ') | _ => none) := rfl
@[simp] theorem eTru_e : eTru e σ = (e σ).bind fun p => (trY p.1).map fun k => (k, p.2) := rfl
@[simp] theorem eNotT_e : eNotT et σ = (et σ).map fun p => (!p.1, p.2) := rfl
@[simp] theorem eAndT_e : eAndT et et' σ = (et σ).bind fun p => if p.1 = true then et' p.2 else some (false, p.2) := rfl
@[simp] theorem eOrT_e : eOrT et et' σ = (et σ).bind fun p => if p.1 = true then some (true, p.2) else et' p.2 := rfl
@[simp] theorem eIf_e : eIf et e e' σ = (et σ).bind fun p => if p.1 = true then e p.2 else e' p.2 := rfl
@[simp] theorem eRng_e {hw : List Y → Option (List Y)} : eRng hw es σ = (es σ).bind fun p => (hw p.1).map fun ys => (ys, p.2) := rfl
@[simp] theorem eIt_e : eIt e σ = (e σ).bind fun p => (itY p.1).map fun ys => (ys, p.2) := rfl
@[simp] theorem vLcL_e {gi : VEn → Option (List Y)} {ct : CT} : vLcL gi ct t g σ = (gi σ).bind fun ys => (lcY ct t g (wipeV σ ct.vs) ys).bind fun out => if fit out.length = true then some out else none := rfl
@[simp] theorem vLc_e {gi : VEn → Option (List Y)} {ct : CT} : vLc gi ct t g σ = (vLcL gi ct t g σ).map (.lst false) := rfl
@[simp] theorem oLc_e {gi : VEn → Option (List Y)} {ct : CT} : oLc gi ct t g σ = (vLcL gi ct t g σ).map fun ys => (.lst true ys, σ) := rfl
@[simp] theorem eLc_e {ct : CT} : eLc es ct et e σ = (es σ).bind fun p => (lcE ct et e p.1 p.2).bind fun q => if fit q.1.length = true then some (.lst true q.1, wipeV q.2 ct.vs) else none := rfl
@[simp] theorem lcY_nil {ct : CT} : lcY ct t g σ [] = some [] := rfl
theorem lcY_cons {ct : CT} : lcY ct t g σ (y :: ys) = (putV σ ct y).bind fun σ' => (t σ').bind fun b => if b = true then (g σ').bind fun z => (lcY ct t g σ ys).map fun q => z :: q else lcY ct t g σ ys := rfl
@[simp] theorem lcE_nil {ct : CT} : lcE ct et e [] σ = some ([], σ) := rfl
theorem lcE_cons {ct : CT} : lcE ct et e (y :: ys) σ = (putV (wipeV σ ct.vs) ct y).bind fun σ1 => (et σ1).bind fun p => if p.1 = true then (e p.2).bind fun q => (lcE ct et e ys q.2).map fun w => (q.1 :: w.1, w.2) else lcE ct et e ys p.2 := rfl
@[simp] theorem vs_one' {i : Nat} : (CT.one i).vs = [i] := rfl
@[simp] theorem vs_many' {is : List Nat} : (CT.many is).vs = is := rfl
@[simp] theorem wipeV_nil : wipeV σ [] = σ := rfl
@[simp] theorem wipeV_cons {n : Nat} {ns : List Nat} : wipeV σ (n :: ns) = (wipeV σ ns).set n none := rfl
@[simp] theorem putV_one {i : Nat} : putV σ (.one i) y = some (σ.set i (some y)) := rfl
@[simp] theorem putV_many {is : List Nat} : putV σ (.many is) (.tup ys) = if ys.length = is.length then some (setAllV σ is ys) else none := rfl
@[simp] theorem setAllV_cons {i : Nat} {is : List Nat} : setAllV σ (i :: is) (y :: ys) = setAllV (σ.set i (some y)) is ys := rfl
@[simp] theorem setAllV_nil : setAllV σ [] ys = σ := by cases ys <;> rfl
@[simp] theorem vCall_e {np : Nat} {G : List Y → Option Y} : vCall np G gs σ = (gs σ).bind fun ys => if ys.length = np then (G ys).map frz else none := rfl
@[simp] theorem eCall_e {np : Nat} {G : List Y → Option Y} : eCall np G es σ = (es σ).bind fun p => if p.1.length = np then (G p.1).map fun y => (y, p.2) else none := rfl
@[simp] theorem vFrz_e : vFrz g σ = (g σ).map frz := rfl
@[simp] theorem vCallB_e {np : Nat} {G : List Y → Option Y} : vCallB np G gs σ = (gs σ).bind fun ys => if ys.length = np then (G ys).bind fun y => if flY y = true then some y else none else none := rfl
@[simp] theorem vCallE_e {np : Nat} {G : List Y → Option (Y × VEn)} {os : List (Option Nat)} : vCallE np G gs os σ = (gs σ).bind fun ys => if ys.length = np then (G ys).map fun p => (p.1, putB σ os p.2) else none := rfl
@[simp] theorem vCallEB_e {np : Nat} {G : List Y → Option (Y × VEn)} {os : List (Option Nat)} : vCallEB np G gs os σ = (gs σ).bind fun ys => if ys.length = np then (G ys).bind fun p => if (flY p.1 && allNoF p.2) = true then some (p.1, putB σ os p.2) else none else none := rfl
@[simp] theorem allNoF_nil : allNoF [] = true := rfl
@[simp] theorem allNoF_some {us : VEn} : allNoF (some y :: us) = (noF y && allNoF us) := rfl
@[simp] theorem allNoF_none {us : VEn} : allNoF (none :: us) = allNoF us := rfl
@[simp] theorem noF_int : noF (.int i) = true := by simp only [noF, flY]
@[simp] theorem noF_bl {b : Bool} : noF (.bl b) = true := by simp only [noF, flY]
@[simp] theorem noF_str {b : Str} : noF (.str b) = true := by simp only [noF, flY]
@[simp] theorem noF_non : noF .non = true := by simp only [noF, flY]
@[simp] theorem noF_tup : noF (.tup xs) = xs.all flY := by simp only [noF]; exact flY_tup
@[simp] theorem noF_lst {o : Bool} : noF (.lst o xs) = (o && xs.all flY) := by simp only [noF]
@[simp] theorem noF_dct {o : Bool} {kvs : List (Key × Y)} : noF (.dct o kvs) = (o && noFK kvs) := by simp only [noF]
@[simp] theorem noF_ins {o : Bool} {c : Nat} {fs : List (Str × Y)} : noF (.ins o c fs) = (o && noFF fs) := by simp only [noF]
@[simp] theorem noFK_nil : noFK [] = true := by simp only [noFK]
@[simp] theorem noFK_cons {k : Key} {r : List (Key × Y)} : noFK ((k, y) :: r) = (noF y && noFK r) := by simp only [noFK]
@[simp] theorem noFF_nil : noFF [] = true := by simp only [noFF]
@[simp] theorem noFF_cons {k : Str} {r : List (Str × Y)} : noFF ((k, y) :: r) = (noF y && noFF r) := by simp only [noFF]
@[simp] theorem vMethE_e {c : Nat} {nm : Str} {np i : Nat} {G : List Y → Option (Y × VEn)} {os : List (Option Nat)} : vMethE c nm np G i gs os σ = (vVar i σ).bind fun x => if insY c nm x = true then (gs σ).bind fun ys => if ys.length + 1 = np then (G (x :: ys)).map fun p => (p.1, putB σ (some i :: os) p.2) else none else none := rfl
@[simp] theorem vMeth_e {c : Nat} {nm : Str} {np : Nat} {G : List Y → Option Y} : vMeth c nm np G g gs σ = (g σ).bind fun x => if insY c nm x = true then (gs σ).bind fun ys => if ys.length + 1 = np then (G (x :: ys)).map frz else none else none := rfl
@[simp] theorem vMethB_e {c : Nat} {nm : Str} {np : Nat} {G : List Y → Option Y} : vMethB c nm np G g gs σ = (g σ).bind fun x => if insY c nm x = true then (gs σ).bind fun ys => if ys.length + 1 = np then (G (frz x :: ys)).bind fun y => if flY y = true then some y else none else none else none := rfl
@[simp] theorem vNew_e {c np : Nat} {G : List Y → Option (Y × VEn)} : vNew c np G es σ = (es σ).bind fun p => if p.1.length + 1 = np then match G (.ins true c [] :: p.1) with
  | some (.non, some u :: _) => some (u, p.2)
  | _ => none else none := rfl
@[simp] theorem insY_e {o : Bool} {c c' : Nat} {nm : Str} {fs : List (Str × Y)} : insY c nm (.ins o c' fs) = (decide (c' = c) && (fs.lookup nm).isNone) := rfl
@[simp] theorem putB_nil {us : VEn} : putB σ [] us = σ := by cases us <;> rfl
@[simp] theorem putB_none {os : List (Option Nat)} {q : Option Y} {us : VEn} : putB σ (none :: os) (q :: us) = putB σ os us := rfl
@[simp] theorem putB_some {i : Nat} {os : List (Option Nat)} {q : Option Y} {us : VEn} : putB σ (some i :: os) (q :: us) = putB (σ.set i q) os us := rfl
/-! statements -/
@[simp] theorem yNext_e : yNext σ = .nx σ := rfl
@[simp] theorem yBrk_e : yBrk σ = .brk σ := rfl
@[simp] theorem yCnt_e : yCnt σ = .cnt σ := rfl
@[simp] theorem yNo_e : yNo σ = .no := rfl
def YF.sq (r : YF) (t : VEn → YF) : YF := match r with
  | .nx σ => t σ
  | o => o
@[simp] theorem ysq_nx : (YF.nx σ).sq s = s σ := rfl
@[simp] theorem ysq_ret : (YF.ret y σ).sq s = .ret y σ := rfl
@[simp] theorem ysq_brk : (YF.brk σ).sq s = .brk σ := rfl
@[simp] theorem ysq_cnt : (YF.cnt σ).sq s = .cnt σ := rfl
@[simp] theorem ysq_no : YF.no.sq s = .no := rfl
@[simp] theorem ySeq_e : ySeq s s' σ = (s σ).sq s' := by unfold ySeq YF.sq; rfl
@[simp] theorem yRet_e : yRet e σ = (match e σ with | some (y, σ') => .ret y σ' | none => .no) := rfl
@[simp] theorem yRetN_e : yRetN σ = .ret .non σ := rfl
@[simp] theorem yExpr_e : yExpr e σ = (match e σ with | some (_, σ') => .nx σ' | none => .no) := rfl
@[simp] theorem yIf_e : yIf et s s' σ = (match et σ with | some (b, σ') => if b = true then s σ' else s' σ' | none => .no) := by
  unfold yIf
  cases et σ with
  | none => rfl
  | some p => obtain ⟨b, q⟩ := p; cases b <;> rfl
@[simp] theorem ySet_e {i : Nat} : ySet i e σ = (match e σ with | some (y, σ') => .nx (σ'.set i (some y)) | none => .no) := rfl
@[simp] theorem gN_e {i : Nat} : gN i σ y = some (σ.set i (some y)) := rfl
@[simp] theorem gNil_e : gNil σ [] = some σ := rfl
@[simp] theorem gCons_e {q : VEn → Y → Option VEn} {qs : VEn → List Y → Option VEn} : gCons q qs σ (y :: ys) = (q σ y).bind fun σ' => qs σ' ys := rfl
@[simp] theorem gTp_e {qs : VEn → List Y → Option VEn} {n : Nat} : gTp qs n σ y = (match seqY y with | some ys => if ys.length = n then qs σ ys else none | none => none) := rfl
@[simp] theorem seqY_tup : seqY (.tup xs) = some xs := rfl
@[simp] theorem seqY_lst {o : Bool} : seqY (.lst o xs) = some xs := rfl
@[simp] theorem seqY_lsc : seqY (.lsc xs) = some xs := rfl
@[simp] theorem yAsg_e {q : VEn → Y → Option VEn} : yAsg e q σ = (match e σ with | some (y, σ') => (match q σ' y with | some σ'' => .nx σ'' | none => .no) | none => .no) := rfl
@[simp] theorem yPar_e {i j : Nat} : yPar i j es σ = (match es σ with | some ([x, y], σ') => .nx ((σ'.set i (some x)).set j (some y)) | _ => .no) := rfl
@[simp] theorem yAug_e {i : Nat} : yAug i h e σ = (match σ[i]? with
  | some (some x) => match e σ with
    | some (y, σ') => match h x y with
      | some z => .nx (σ'.set i (some z))
      | none => .no
    | none => .no
  | _ => .no) := rfl
@[simp] theorem yFor_e {gi : VEn → Option (List Y × VEn)} {q : VEn → Y → Option VEn} : yFor gi q s σ = (match gi σ with | some (ys, σ') => yLoop q s ys σ' | none => .no) := rfl
def YF.tn (r : YF) (t : VEn → YF) : YF := match r with
  | .nx σ => t σ
  | .cnt σ => t σ
  | .brk σ => .nx σ
  | o => o
@[simp] theorem ytn_nx : (YF.nx σ).tn s = s σ := rfl
@[simp] theorem ytn_cnt : (YF.cnt σ).tn s = s σ := rfl
@[simp] theorem ytn_brk : (YF.brk σ).tn s = .nx σ := rfl
@[simp] theorem ytn_ret : (YF.ret y σ).tn s = .ret y σ := rfl
@[simp] theorem ytn_no : YF.no.tn s = .no := rfl
@[simp] theorem yLoop_nil {q : VEn → Y → Option VEn} : yLoop q s [] σ = .nx σ := rfl
theorem yLoop_cons {q : VEn → Y → Option VEn} : yLoop q s (y :: ys) σ = (match q σ y with | none => .no | some σ1 => (s σ1).tn (yLoop q s ys)) := by
  conv => lhs; unfold yLoop
  cases q σ y with
  | none => rfl
  | some σ1 => cases h : s σ1 <;> simp [YF.tn, h]
theorem yWhile_step {n : Nat} : yWhile et s (n + 1) σ = (match et σ with | some (b, σ1) => if b = true then (s σ1).tn (yWhile et s n) else .nx σ1 | none => .no) := by
  conv => lhs; unfold yWhile
  cases et σ with
  | none => rfl
  | some p =>
    obtain ⟨b, q⟩ := p
    cases b with
    | false => rfl
    | true => cases h : s q <;> simp [YF.tn, h]
@[simp] theorem frzAt_e {i : Nat} : frzAt i σ = (match σ[i]? with | some (some y) => σ.set i (some (frz y)) | _ => σ) := rfl
@[simp] theorem yFz_e {i : Nat} : yFz i s σ = s (frzAt i σ) := rfl
@[simp] theorem eMv_e {i : Nat} : eMv i σ = (match σ[i]? with | some (some y) => some (frz y, σ.set i (some (frz y))) | _ => none) := rfl
@[simp] theorem oVar_e {i : Nat} : oVar i σ = (match σ[i]? with | some (some y) => some (y, σ.set i none) | _ => none) := rfl
def YF.toR (r : YF) : Option Y := match r with
  | .nx _ => some .non
  | .ret y _ => some y
  | _ => none
@[simp] theorem ytoR_nx : (YF.nx σ).toR = some .non := rfl
@[simp] theorem ytoR_ret : (YF.ret y σ).toR = some y := rfl
@[simp] theorem yDefP_e {n : Nat} : yDefP n s ys = (s (startY n ys)).toR := by unfold yDefP YF.toR; rfl
def YF.toE (r : YF) (K : List Nat) (np : Nat) : Option (Y × VEn) := match r with
  | .nx σ => some (.non, usOf K np σ)
  | .ret y σ => some (y, usOf K np σ)
  | _ => none
@[simp] theorem ytoE_nx {K : List Nat} {np : Nat} : (YF.nx σ).toE K np = some (.non, usOf K np σ) := rfl
@[simp] theorem ytoE_ret {K : List Nat} {np : Nat} : (YF.ret y σ).toE K np = some (y, usOf K np σ) := rfl
@[simp] theorem yDefE_e {n : Nat} {K : List Nat} : yDefE n K s ys = (s (startY n ys)).toE K ys.length := by unfold yDefE YF.toE; rfl
/-- a def that changes what it is handed, as it is asked -/
def yDef' (n : Nat) (K : List Nat) (np : Nat) (g : VEn → YF) : List Y → Option (Y × VEn) := fun ys => if ys.length = np then yDefE n K g ys else none
@[simp] theorem yDef'_e {n np : Nat} {K : List Nat} : yDef' n K np s ys = if ys.length = np then yDefE n K s ys else none := rfl
@[simp] theorem vLcH_e {h : Nat} {ct : CT} {tt : VEn → Option Bool} {ee : VEn → Option Y} : vLcH h ct tt ee σ = (match σ[h]? with
  | some (some (.lst true ys)) => (lcY ct tt ee (wipeV σ ct.vs) ys).bind fun out => if fit out.length = true then some (.lst false out) else none
  | _ => none) := rfl
@[simp] theorem yForH_e {h : Nat} {q : VEn → Y → Option VEn} {w : VEn → YF} : yForH h q w σ = (match σ[h]? with
  | some (some (.lst true ys)) => match yLoop q w ys (σ.set h none) with
    | .nx σ' => match σ'[h]? with
      | some none => .nx (σ'.set h (some (.lst true ys)))
      | _ => .no
    | .ret y σ' => .ret y σ'
    | _ => .no
  | _ => .no) := rfl
/-! a list that something is put into that is still changed -/
@[simp] theorem hS_e : hS s σ = (match s σ with | .nx σ' => some (σ', []) | _ => none) := rfl
@[simp] theorem hSeq_e {q q' : VEn → Option (VEn × List Y)} : hSeq q q' σ = (q σ).bind fun p => (q' p.1).map fun r => (r.1, p.2 ++ r.2) := rfl
@[simp] theorem hExt_e : hExt g σ = (g σ).bind fun y => match y with
  | .tup ys => some (σ, ys)
  | .lst _ ys => some (σ, ys)
  | _ => none := rfl
@[simp] theorem hFor_e {gi : VEn → Option (List Y × VEn)} {q : VEn → Y → Option VEn} {w : VEn → Option (VEn × List Y)} : hFor gi q w σ = (gi σ).bind fun p => hLoop q w p.1 p.2 := rfl
@[simp] theorem hLoop_nil {q : VEn → Y → Option VEn} {w : VEn → Option (VEn × List Y)} : hLoop q w [] σ = some (σ, []) := rfl
theorem hLoop_cons {q : VEn → Y → Option VEn} {w : VEn → Option (VEn × List Y)} : hLoop q w (y :: ys) σ = (q σ y).bind fun σ1 => (w σ1).bind fun p => (hLoop q w ys p.1).map fun r => (r.1, p.2 ++ r.2) := rfl
@[simp] theorem yLate_e {a b : Nat} {w : VEn → Option (VEn × List Y)} : yLate a b w σ = (match σ[a]?, σ[b]? with
  | some (some (.lst true F)), some (some _) => match w (σ.set a none) with
    | some (σ', E) => match σ'[b]? with
      | some (some y) => if fit (F.length + 1 + E.length) = true then .nx ((σ'.set b none).set a (some (.lst true (F ++ frz y :: E)))) else .no
      | _ => .no
    | none => .no
  | _, _ => .no) := rfl
/-! operations -/
@[simp] theorem intY_e {C : Int → Int → Bool} {q : Int → Int → Y} : intY C q (.int i) (.int j) = if C i j = true then some (q i j) else none := rfl
@[simp] theorem intY0_e {q : Int → Int → Y} : intY0 q (.int i) (.int j) = some (q i j) := rfl
@[simp] theorem addY_int : addY (.int i) (.int j) = some (.int (i + j)) := rfl
@[simp] theorem addY_str {a b : Str} : addY (.str a) (.str b) = if fit (a.length + b.length) = true then some (.str (a ++ b)) else none := rfl
@[simp] theorem addY_tup : addY (.tup xs) (.tup ys) = if fit (xs.length + ys.length) = true then some (.tup (xs ++ ys)) else none := rfl
@[simp] theorem addY_lst {o o' : Bool} : addY (.lst o xs) (.lst o' ys) = if fit (xs.length + ys.length) = true then some (.lst false (xs ++ ys)) else none := rfl
@[simp] theorem addL2_lst {o o' : Bool} : addL2 (.lst o xs) (.lst o' ys) = if fit (xs.length + ys.length) = true then some (xs ++ ys) else none := rfl
@[simp] theorem iaddY_int : iaddY (.int i) (.int j) = some (.int (i + j)) := rfl
@[simp] theorem negY_e : negY (.int i) = some (.int (-i)) := rfl
@[simp] theorem absY_e : absY (.int i) = some (.int (if i < 0 then -i else i)) := rfl
@[simp] theorem intY1_int : intY1 (.int i) = some (.int i) := rfl
@[simp] theorem intY1_bl {b : Bool} : intY1 (.bl b) = some (.int (if b then 1 else 0)) := rfl
@[simp] theorem trY_bl {b : Bool} : trY (.bl b) = some b := rfl
@[simp] theorem trY_int : trY (.int i) = some (i != 0) := rfl
@[simp] theorem trY_non : trY .non = some false := rfl
@[simp] theorem trY_tup : trY (.tup xs) = some (!xs.isEmpty) := rfl
@[simp] theorem trY_lst {o : Bool} : trY (.lst o xs) = some (!xs.isEmpty) := rfl
@[simp] theorem lenY_tup : lenY (.tup xs) = some (.int xs.length) := rfl
@[simp] theorem lenY_lst {o : Bool} : lenY (.lst o xs) = some (.int xs.length) := rfl
@[simp] theorem lenY_lsc : lenY (.lsc xs) = some (.int xs.length) := rfl
@[simp] theorem lenY_dct {o : Bool} {kvs : List (Key × Y)} : lenY (.dct o kvs) = some (.int kvs.length) := rfl
@[simp] theorem lenY_str {a : Str} : lenY (.str a) = if fit a.length = true then some (.int a.length) else none := rfl
@[simp] theorem atY_int : atY xs (.int i) = L2.atI xs i := rfl
@[simp] theorem getY_tup : getY (.tup xs) x = atY xs x := rfl
@[simp] theorem getY_lst {o : Bool} : getY (.lst o xs) x = atY xs x := rfl
@[simp] theorem getY_lsc : getY (.lsc xs) x = atY xs x := rfl
@[simp] theorem getY_dctS {o : Bool} {kvs : List (Key × Y)} {a : Str} : getY (.dct o kvs) (.str a) = valY kvs (.inr a) := rfl
@[simp] theorem getY_dctI {o : Bool} {kvs : List (Key × Y)} : getY (.dct o kvs) (.int i) = valY kvs (.inl i) := rfl
@[simp] theorem getV_tup : getV (.tup xs) x = atY xs x := rfl
@[simp] theorem getV_lst {o : Bool} : getV (.lst o xs) x = atY xs x := rfl
@[simp] theorem getV_lsc : getV (.lsc xs) x = atY xs x := rfl
@[simp] theorem getV_dctF {kvs : List (Key × Y)} : getV (.dct false kvs) x = getY (.dct false kvs) x := rfl
@[simp] theorem getV_dctO {kvs : List (Key × Y)} : getV (.dct true kvs) x = (getY (.dct true kvs) x).bind fun y => if isF y = true then some y else none := rfl
@[simp] theorem getV_str {a : Str} : getV (.str a) (.int i) = if fit a.length = true then (L2.atI a.cps.toList i).map fun c => .str ⟨#[c]⟩ else none := rfl
@[simp] theorem valY_nil {k : Key} : valY [] k = none := rfl
@[simp] theorem valY_cons {k k' : Key} {r : List (Key × Y)} : valY ((k', y) :: r) k = if k' = k then some y else valY r k := by
  unfold valY
  rw [List.find?_cons]
  by_cases h : k' = k
  · simp [h]
  · simp [h]
@[simp] theorem fldY_e {T : FTab} {nm : Str} {o : Bool} {c : Nat} {fs : List (Str × Y)} : fldY T nm (.ins o c fs) = if T c nm = true then fs.lookup nm else none := rfl
@[simp] theorem keyY_int : keyY (.int i) = some (.inl i) := rfl
@[simp] theorem keyY_str {a : Str} : keyY (.str a) = some (.inr a) := rfl
@[simp] theorem itY_tup : itY (.tup xs) = some xs := rfl
@[simp] theorem itY_lst : itY (.lst false xs) = some xs := rfl
@[simp] theorem itY_lsc : itY (.lsc xs) = some xs := rfl
@[simp] theorem itY_str {a : Str} : itY (.str a) = some (a.cps.toList.map fun c => .str ⟨#[c]⟩) := rfl
@[simp] theorem listL_tup : listL (.tup xs) = some xs := rfl
@[simp] theorem listL_lst {o : Bool} : listL (.lst o xs) = some xs := rfl
@[simp] theorem listL_lsc : listL (.lsc xs) = some xs := rfl
@[simp] theorem listL_dct {o : Bool} {kvs : List (Key × Y)} : listL (.dct o kvs) = some ((kvs.map (·.1)).map kY) := rfl
@[simp] theorem frL_e {hl : Y → Option (List Y)} : frL hl x = (hl x).map (.lst false) := rfl
@[simp] theorem tupleY_tup : tupleY (.tup xs) = some (.tup xs) := rfl
@[simp] theorem tupleY_lst {o : Bool} : tupleY (.lst o xs) = some (.tup xs) := rfl
@[simp] theorem lstY_lst {o : Bool} : lstY (.lst o xs) = some xs := rfl
@[simp] theorem lstY_lsc : lstY (.lsc xs) = some xs := rfl
theorem sortL_ints {o : Bool} {ns : List Int} : sortL (.lst o (ns.map .int)) = some ((isort ns).map .int) := by
  unfold sortL; simp
theorem intKeys_map' (ks : List Int) : intKeys (ks.map Sum.inl) = some ks := intKeys_map ks
theorem sortL_dct {o : Bool} {kvs : List (Key × Y)} {ks : List Int} (hk : kvs.map (·.1) = ks.map Sum.inl) : sortL (.dct o kvs) = some ((isort ks).map .int) := by
  show (match keysY (.dct o kvs) with | some ks => (intKeys ks).map fun ns => (isort ns).map Y.int | none => none) = _
  show (intKeys (kvs.map (·.1))).map _ = _
  rw [hk, intKeys_map]; rfl
theorem sortSetL_ints {o : Bool} {ns : List Int} (hl : ns.length ≤ 4000) : sortSetL (.lst o (ns.map .int)) = some ((usort ns).map .int) := by
  have hs : scan ns.length = true := by
    unfold scan
    have : ns.length + 1 < scanBound := by unfold scanBound; omega
    simpa using this
  unfold sortSetL
  simp [hs]
@[simp] theorem rng1Y_e (h0 : -4611686018427387904 ≤ i) (h : i < 4611686018427387904) : rng1Y [.int i] = some (rgY 0 i.toNat) := by
  show (if okR i = true then _ else _) = _
  rw [if_pos (okR_iff.mpr ⟨by simpa using h0, by simpa using h⟩)]
theorem rgY_get {lo : Int} {n k : Nat} (h : (rgY lo n)[k]? = some y) : k < n ∧ y = .int (lo + (k : Nat)) := by
  unfold rgY at h
  rw [List.getElem?_map] at h
  obtain ⟨j, h1, h2⟩ := Option.map_eq_some_iff.mp h
  obtain ⟨h3, h4⟩ := List.getElem?_eq_some_iff.mp h1
  simp at h3 h4
  subst h4
  exact ⟨h3, h2.symm⟩
@[simp] theorem rgY_len {lo : Int} {n : Nat} : (rgY lo n).length = n := by simp [rgY]
/-! changes -/
@[simp] theorem sVar_e {i : Nat} : sVar i σ y = σ.set i (some y) := rfl
@[simp] theorem pKey_e {k : Str} : pKey k p σ = (match p σ with | some (.dct true kys) => valY kys (.inr k) | _ => none) := rfl
@[simp] theorem sKey_e {k : Str} : sKey k p st σ y = (match p σ with | some (.dct true kys) => st σ (.dct true (repK (Sum.inr k : Key) y kys)) | _ => σ) := rfl
@[simp] theorem pFld_e {T : FTab} {nm : Str} : pFld T nm p σ = (match p σ with | some (.ins true c fs) => if T c nm = true then fs.lookup nm else none | _ => none) := rfl
@[simp] theorem sFld_e {nm : Str} : sFld nm p st σ y = (match p σ with | some (.ins true c fs) => st σ (.ins true c (repK nm y fs)) | _ => σ) := rfl
@[simp] theorem repK_nil {α : Type} [DecidableEq α] {k : α} : repK k y [] = [] := rfl
@[simp] theorem repK_cons {α : Type} [DecidableEq α] {k k' : α} {r : List (α × Y)} : repK k y ((k', x) :: r) = if k' = k then (k', y) :: r else (k', x) :: repK k y r := rfl
@[simp] theorem putFY_nil {f : Str} : putFY f v [] = [(f, v)] := rfl
@[simp] theorem putFY_cons {f k' : Str} {r : List (Str × Y)} : putFY f v ((k', x) :: r) = if k' = f then (k', v) :: r else (k', x) :: putFY f v r := rfl
@[simp] theorem eMt1_e {hL : List Y → Y → Option (List Y)} : eMt1 p st hL g σ = (match p σ with | some (.lst true xs) => (g σ).bind fun y => (hL xs y).map fun xs' => (.non, st σ (.lst true xs')) | _ => none) := rfl
@[simp] theorem eMt1E_e {i : Nat} {hL : List Y → Y → Option (List Y)} : eMt1E i hL e σ = (match vVar i σ with
  | some (.lst _ _) => (e σ).bind fun q => match vVar i q.2 with
    | some (.lst true xs) => (hL xs q.1).map fun xs' => (.non, sVar i q.2 (.lst true xs'))
    | _ => none
  | _ => none) := rfl
@[simp] theorem eMt0_e {hL : List Y → Option (List Y × Y)} : eMt0 p st hL σ = (match p σ with | some (.lst true xs) => (hL xs).map fun q => (q.2, st σ (.lst true q.1)) | _ => none) := rfl
@[simp] theorem appL_e : appL xs y = if fit (xs.length + 1) = true then some (xs ++ [y]) else none := rfl
@[simp] theorem extL_tup : extL xs (.tup ys) = if fit (xs.length + ys.length) = true then some (xs ++ ys) else none := rfl
@[simp] theorem extL_lst {o : Bool} : extL xs (.lst o ys) = if fit (xs.length + ys.length) = true then some (xs ++ ys) else none := rfl
@[simp] theorem clrL_e : clrL xs = some ([], .non) := rfl
@[simp] theorem popL_e : popL (xs ++ [y]) = some (xs, y) := by unfold popL; simp
@[simp] theorem ySt_e {gi : VEn → Option Y} : ySt p st gi e σ = (match e σ with
  | some (v, σ1) => match p σ1, gi σ1 with
    | some c, some i => match stY c i v with
      | some c' => .nx (st σ1 c')
      | none => .no
    | _, _ => .no
  | none => .no) := rfl
@[simp] theorem stY_dS {kys : List (Key × Y)} {k : Str} : stY (.dct true kys) (.str k) v = if fit (kys.length + 1) = true then some (.dct true (putY kys (.inr k) v)) else none := rfl
@[simp] theorem stY_dI {kys : List (Key × Y)} : stY (.dct true kys) (.int i) v = if fit (kys.length + 1) = true then some (.dct true (putY kys (.inl i) v)) else none := rfl
@[simp] theorem stY_l : stY (.lst true xs) (.int j) v = (L2.ixN xs.length j).map fun j => .lst true (xs.set j v) := rfl
@[simp] theorem ySetF_e {T : FTab} {nm : Str} : ySetF T nm p st e σ = (match e σ with
  | some (v, σ1) => match p σ1 with
    | some c => match setFY T nm c v with
      | some c' => .nx (st σ1 c')
      | none => .no
    | none => .no
  | none => .no) := rfl
@[simp] theorem setFY_e {T : FTab} {nm : Str} {cc : Nat} {fs : List (Str × Y)} : setFY T nm (.ins true cc fs) v = if (T cc nm && few fs.length) = true then some (.ins true cc (putFY nm v fs)) else none := rfl
@[simp] theorem yAugF_e {T : FTab} {nm : Str} : yAugF T nm h p st g σ = (match p σ, g σ with
  | some c, some v => match fldY T nm c with
    | some x => if isF x = true then match h x v with
      | some z => match setFY T nm c z with
        | some c' => .nx (st σ c')
        | none => .no
      | none => .no else .no
    | none => .no
  | _, _ => .no) := rfl
@[simp] theorem ePs0_e : ePs0 σ = some ([], σ) := rfl
@[simp] theorem ePs_e {a : Str} {q : VEn → Option (List (Key × Y) × VEn)} : ePs a e q σ = (e σ).bind fun p => (q p.2).map fun w => ((.inr a, p.1) :: w.1, w.2) := rfl
@[simp] theorem eDict_e {q : VEn → Option (List (Key × Y) × VEn)} : eDict q σ = (q σ).bind fun p => if few15 p.1.length = true ∧ (p.1.map (·.1)).Nodup then some (.dct true p.1, p.2) else none := rfl
/-! sameness -/
theorem eqQY_flat {b : Bool} (h1 : flatY x = true) (h2 : flatY y = true) (h : eqFY x y = b) : eqQY x y = some b := by
  unfold eqQY okTopY
  simp only [h1, h2, Bool.or_true, Bool.true_or, Bool.and_self, if_true]
  unfold eqNY
  simp [h1, h2, h]
@[simp] theorem eqY_int : eqY (.int i) (.int j) = some (.bl (i == j)) := by unfold eqY; rw [eqQY_flat rfl rfl rfl]; rfl
@[simp] theorem eqY_str {a b : Str} : eqY (.str a) (.str b) = some (.bl (a == b)) := by unfold eqY; rw [eqQY_flat rfl rfl rfl]; rfl
@[simp] theorem eqY_bl {a b : Bool} : eqY (.bl a) (.bl b) = some (.bl (a == b)) := by unfold eqY; rw [eqQY_flat rfl rfl rfl]; rfl
@[simp] theorem neY_int : neY (.int i) (.int j) = some (.bl (!(i == j))) := by unfold neY; rw [eqQY_flat rfl rfl rfl]; rfl
@[simp] theorem neY_str {a b : Str} : neY (.str a) (.str b) = some (.bl (!(a == b))) := by unfold neY; rw [eqQY_flat rfl rfl rfl]; rfl
@[simp] theorem neY_lstNil {o o' : Bool} : neY (.lst o xs) (.lst o' []) = some (.bl (!xs.isEmpty)) := by
  cases xs <;> rfl
@[simp] theorem eqY_lstNil {o o' : Bool} : eqY (.lst o xs) (.lst o' []) = some (.bl xs.isEmpty) := by
  cases xs <;> rfl
/-- data without dicts and things, n deep at most -/
def Pl : Nat → Y → Prop
  | 0, y => flatY y = true
  | n + 1, y => flatY y = true ∨ (∃ xs, (y = .tup xs ∨ y = .lsc xs ∨ (∃ o, y = .lst o xs)) ∧ ∀ x ∈ xs, Pl n x)
theorem Pl.up : ∀ {n : Nat} {y : Y}, Pl n y → Pl (n + 1) y
  | 0, _, h => .inl h
  | n + 1, _, .inl h => .inl h
  | n + 1, _, .inr ⟨xs, h1, h2⟩ => .inr ⟨xs, h1, fun x hx => (h2 x hx).up⟩
theorem Pl.mono {n m : Nat} (h : Pl n y) (hm : n ≤ m) : Pl m y := by
  induction m with
  | zero => rw [show n = 0 by omega] at h; exact h
  | succ m ih =>
    by_cases q : n = m + 1
    · rw [← q]; exact h
    · exact (ih (by omega)).up
theorem eqAllY_self {f : Y → Y → Option Bool} : ∀ {xs : List Y}, (∀ x ∈ xs, f x x = some true) → eqAllY f xs xs = some true
  | [], _ => rfl
  | x :: xs, h => by
    unfold eqAllY
    rw [h x List.mem_cons_self, eqAllY_self fun y hy => h y (List.mem_cons_of_mem _ hy)]
    rfl
theorem eqFY_self : flatY y = true → eqFY y y = true := by
  intro h
  cases y <;> first | (cases h; done) | rfl | simp [eqFY]
theorem eqNY_self : ∀ {n : Nat} {y : Y}, Pl n y → eqNY n y y = some true
  | 0, y, h => by
    unfold eqNY
    have h : flatY y = true := h
    simp [h, eqFY_self h]
  | n + 1, y, h => by
    unfold eqNY
    by_cases q : flatY y = true
    · simp [q, eqFY_self q]
    · rw [if_neg (by simp [q])]
      rcases h with h | ⟨xs, h1, h2⟩
      · exact absurd h q
      · have ih := eqAllY_self (f := eqNY n) (xs := xs) fun x hx => eqNY_self (h2 x hx)
        unfold eqCY
        rcases h1 with rfl | rfl | ⟨o, rfl⟩
        · simp [isTp, ih]
        · simp [isTp, eqLY, lstY, ih]
        · simp [isTp, eqLY, lstY, ih]
theorem okTopY_pl : ∀ {n : Nat}, Pl n y → okTopY y = true
  | 0, h => by unfold okTopY; simp [show flatY y = true from h]
  | n + 1, .inl h => by unfold okTopY; simp [h]
  | n + 1, .inr ⟨xs, h1, _⟩ => by
    rcases h1 with rfl | rfl | ⟨o, rfl⟩ <;> simp [okTopY, isTp, lstY]
theorem eqY_self {n : Nat} (h : Pl n y) (hn : n ≤ 60) : eqY y y = some (.bl true) := by
  unfold eqY eqQY
  rw [okTopY_pl h, eqNY_self (h.mono hn)]
  rfl
theorem neY_self {n : Nat} (h : Pl n y) (hn : n ≤ 60) : neY y y = some (.bl false) := by
  unfold neY eqQY
  rw [okTopY_pl h, eqNY_self (h.mono hn)]
  rfl
/-- owned or not is no matter -/
theorem eqNY_lst {n : Nat} {o o' : Bool} {ys' : List Y} : eqNY (n + 1) (.lst o ys) (.lst o' ys') = if ys.length = ys'.length then eqAllY (eqNY n) ys ys' else some false := rfl
theorem eqY_lst {n : Nat} {o o' : Bool} (h : ∀ y ∈ ys, Pl n y) (hn : n ≤ 59) : eqY (.lst o ys) (.lst o' ys) = some (.bl true) := by
  have e : eqNY 60 (.lst o ys) (.lst o' ys) = some true := by
    rw [eqNY_lst, if_pos rfl]
    exact eqAllY_self fun y hy => eqNY_self ((h y hy).mono hn)
  show (eqQY _ _).map _ = _
  unfold eqQY
  rw [show (okTopY (.lst o ys) && okTopY (.lst o' ys)) = true from rfl, if_pos rfl, e]
  rfl
theorem neY_lst {n : Nat} {o o' : Bool} (h : ∀ y ∈ ys, Pl n y) (hn : n ≤ 59) : neY (.lst o ys) (.lst o' ys) = some (.bl false) := by
  have e : eqNY 60 (.lst o ys) (.lst o' ys) = some true := by
    rw [eqNY_lst, if_pos rfl]
    exact eqAllY_self fun y hy => eqNY_self ((h y hy).mono hn)
  show (eqQY _ _).map _ = _
  unfold eqQY
  rw [show (okTopY (.lst o ys) && okTopY (.lst o' ys)) = true from rfl, if_pos rfl, e]
  rfl
theorem pl_flat (h : flatY y = true) : Pl 0 y := h
theorem pl_tup {n : Nat} (h : ∀ x ∈ xs, Pl n x) : Pl (n + 1) (.tup xs) := .inr ⟨xs, .inl rfl, h⟩
theorem pl_lst {n : Nat} {o : Bool} (h : ∀ x ∈ xs, Pl n x) : Pl (n + 1) (.lst o xs) := .inr ⟨xs, .inr (.inr ⟨o, rfl⟩), h⟩
/-! names among names -/
theorem inQY_lst {o : Bool} : inQY x (.lst o ys) = inLY x ys := by cases x <;> rfl
theorem inQY_tup : inQY x (.tup ys) = inLY x ys := by cases x <;> rfl
theorem inLY_ints {n : Int} {ns : List Int} : inLY (.int n) (ns.map .int) = some (decide (n ∈ ns)) := by
  unfold inLY
  have : (ns.map Y.int).all flatY = true := by simp [flatY]
  rw [this]
  have h2 : ((ns.map Y.int).any fun y => eqFY y (.int n)) = decide (n ∈ ns) := by
    clear this
    induction ns with
    | nil => rfl
    | cons m r ih =>
      rw [List.map_cons, List.any_cons, ih]
      show ((m == n) || _) = _
      by_cases q : m = n
      · simp [q]
      · have q' : ¬ n = m := fun z => q z.symm
        simp [q, q']
  rw [h2]
  rfl
theorem inLY_strs {n : Str} {ns : List Str} : inLY (.str n) (ns.map .str) = some (decide (n ∈ ns)) := by
  unfold inLY
  have : (ns.map Y.str).all flatY = true := by simp [flatY]
  rw [this]
  have h2 : ((ns.map Y.str).any fun y => eqFY y (.str n)) = decide (n ∈ ns) := by
    clear this
    induction ns with
    | nil => rfl
    | cons m r ih =>
      rw [List.map_cons, List.any_cons, ih]
      show ((m == n) || _) = _
      by_cases q : m = n
      · simp [q]
      · have q' : ¬ n = m := fun z => q z.symm
        simp [q, q']
  rw [h2]
  rfl
@[simp] theorem inY_ints {o : Bool} {n : Int} {ns : List Int} : inY (.int n) (.lst o (ns.map .int)) = some (.bl (decide (n ∈ ns))) := by unfold inY; rw [inQY_lst, inLY_ints]; rfl
@[simp] theorem ninY_ints {o : Bool} {n : Int} {ns : List Int} : ninY (.int n) (.lst o (ns.map .int)) = some (.bl (!decide (n ∈ ns))) := by unfold ninY; rw [inQY_lst, inLY_ints]; rfl
@[simp] theorem inY_tints {n : Int} {ns : List Int} : inY (.int n) (.tup (ns.map .int)) = some (.bl (decide (n ∈ ns))) := by unfold inY; rw [inQY_tup, inLY_ints]; rfl
@[simp] theorem ninY_tints {n : Int} {ns : List Int} : ninY (.int n) (.tup (ns.map .int)) = some (.bl (!decide (n ∈ ns))) := by unfold ninY; rw [inQY_tup, inLY_ints]; rfl
theorem inY_dctI {o : Bool} {kvs : List (Key × Y)} : inY (.int i) (.dct o kvs) = some (.bl (valY kvs (.inl i)).isSome) := rfl
theorem ninY_dctI {o : Bool} {kvs : List (Key × Y)} : ninY (.int i) (.dct o kvs) = some (.bl (!(valY kvs (.inl i)).isSome)) := rfl
theorem inY_dctS {o : Bool} {a : Str} {kvs : List (Key × Y)} : inY (.str a) (.dct o kvs) = some (.bl (valY kvs (.inr a)).isSome) := rfl
theorem ninY_dctS {o : Bool} {a : Str} {kvs : List (Key × Y)} : ninY (.str a) (.dct o kvs) = some (.bl (!(valY kvs (.inr a)).isSome)) := rfl
end
end Sm
end
section
/-! Sm, part Z: loops and comprehensions on values, as they are used. -/
namespace Sm
open PySem PySem.Spec PyProof.Rows L2
section
variable {β : Type} {σ : VEn} {p : VEn → Y → Option VEn} {g : VEn → YF} {xs : List β} {f : β → Y} {ys : List Y}
/-- a loop that goes to its end; I: what is done, the names -/
theorem yLoop_pre (f : β → Y) (I : List β → VEn → Prop) (h0 : I [] σ) (hs : ∀ pre b post σ, xs = pre ++ b :: post → I pre σ → ∃ σ1, p σ (f b) = some σ1 ∧ ∃ σ', (g σ1 = .nx σ' ∨ g σ1 = .cnt σ') ∧ I (pre ++ [b]) σ') :
    ∃ σ', yLoop p g (xs.map f) σ = .nx σ' ∧ I xs σ' := by
  have key : ∀ (r pre : List β) (σ : VEn), xs = pre ++ r → I pre σ → ∃ σ', yLoop p g (r.map f) σ = .nx σ' ∧ I xs σ' := fun r => by
    induction r with
    | nil => intro pre σ e h; rw [List.append_nil] at e; subst e; exact ⟨σ, rfl, h⟩
    | cons b r ih =>
      intro pre σ e h
      obtain ⟨σ1, h1, σ', h2, h3⟩ := hs pre b r σ e h
      obtain ⟨σ'', h4, h5⟩ := ih (pre ++ [b]) σ' (by rw [e]; simp) h3
      refine ⟨σ'', ?_, h5⟩
      rw [List.map_cons, yLoop_cons, h1]
      simp only
      rcases h2 with h2 | h2 <;> (rw [h2]; exact h4)
  exact key xs [] σ rfl h0
/-- a loop that may return on the way -/
theorem yLoop_ret (f : β → Y) (I : List β → VEn → Prop) (Z : Y → VEn → Prop) (h0 : I [] σ) (hs : ∀ pre b post σ, xs = pre ++ b :: post → I pre σ → ∃ σ1, p σ (f b) = some σ1 ∧ ((∃ σ', (g σ1 = .nx σ' ∨ g σ1 = .cnt σ') ∧ I (pre ++ [b]) σ') ∨ ∃ y σ', g σ1 = .ret y σ' ∧ Z y σ')) :
    (∃ σ', yLoop p g (xs.map f) σ = .nx σ' ∧ I xs σ') ∨ ∃ y σ', yLoop p g (xs.map f) σ = .ret y σ' ∧ Z y σ' := by
  have key : ∀ (r pre : List β) (σ : VEn), xs = pre ++ r → I pre σ → (∃ σ', yLoop p g (r.map f) σ = .nx σ' ∧ I xs σ') ∨ ∃ y σ', yLoop p g (r.map f) σ = .ret y σ' ∧ Z y σ' := fun r => by
    induction r with
    | nil => intro pre σ e h; rw [List.append_nil] at e; subst e; exact .inl ⟨σ, rfl, h⟩
    | cons b r ih =>
      intro pre σ e h
      obtain ⟨σ1, h1, h2⟩ := hs pre b r σ e h
      rw [List.map_cons, yLoop_cons, h1]
      simp only
      rcases h2 with ⟨σ', h2, h3⟩ | ⟨y, σ', h2, h3⟩
      · have := ih (pre ++ [b]) σ' (by rw [e]; simp) h3
        rcases h2 with h2 | h2 <;> (rw [h2]; exact this)
      · exact .inr ⟨y, σ', by rw [h2]; rfl, h3⟩
  exact key xs [] σ rfl h0
theorem lcY_map {t : CT} {gt : VEn → Option Bool} {ge : VEn → Option Y} (f : β → Y) (h : β → Option Y) (hx : ∀ x ∈ xs, ∃ σ', putV σ t (f x) = some σ' ∧ ∃ b, gt σ' = some b ∧ (b = true → ∃ z, ge σ' = some z ∧ h x = some z) ∧ (b = false → h x = none)) :
    lcY t gt ge σ (xs.map f) = some (xs.filterMap h) := by
  induction xs with
  | nil => rfl
  | cons x r ih =>
    obtain ⟨σ', h1, b, h2, h3, h4⟩ := hx x List.mem_cons_self
    have ih := ih fun y hy => hx y (List.mem_cons_of_mem _ hy)
    rw [List.map_cons, lcY_cons, h1]
    simp only [Option.bind_some]
    rw [h2]
    simp only [Option.bind_some]
    cases b with
    | true =>
      obtain ⟨z, h5, h6⟩ := h3 rfl
      simp [h5, ih, h6]
    | false => simp [ih, h4 rfl]
/-- all of them, none left out -/
theorem lcY_all {t : CT} {gt : VEn → Option Bool} {ge : VEn → Option Y} (f h : β → Y) (hx : ∀ x ∈ xs, ∃ σ', putV σ t (f x) = some σ' ∧ gt σ' = some true ∧ ge σ' = some (h x)) :
    lcY t gt ge σ (xs.map f) = some (xs.map h) := by
  rw [lcY_map f (fun x => some (h x)) fun x hm => ?_]
  · congr 1
    rw [← List.filterMap_eq_map]
    rfl
  · obtain ⟨σ', h1, h2, h3⟩ := hx x hm
    exact ⟨σ', h1, true, h2, fun _ => ⟨h x, h3, rfl⟩, fun z => by cases z⟩
/-- those that are good -/
theorem lcY_filter {t : CT} {gt : VEn → Option Bool} {ge : VEn → Option Y} (f : β → Y) (q : β → Bool) (hx : ∀ x ∈ xs, ∃ σ', putV σ t (f x) = some σ' ∧ gt σ' = some (q x) ∧ ge σ' = some (f x)) :
    lcY t gt ge σ (xs.map f) = some ((xs.filter q).map f) := by
  rw [lcY_map f (fun x => if q x = true then some (f x) else none) fun x hm => ?_]
  · congr 1
    clear hx
    induction xs with
    | nil => rfl
    | cons x r ih => by_cases h : q x = true <;> simp [h, ih]
  · obtain ⟨σ', h1, h2, h3⟩ := hx x hm
    exact ⟨σ', h1, q x, h2, fun z => ⟨f x, h3, by simp [z]⟩, fun z => by simp [z]⟩
/-- with effects: I: what is done, what came of it, the names -/
theorem lcE_pre {t : CT} {gt : VEn → Option (Bool × VEn)} {ge : VEn → Option (Y × VEn)} (f : β → Y) (I : List β → List Y → VEn → Prop) (h0 : I [] [] σ)
    (hs : ∀ pre x post out σ, xs = pre ++ x :: post → I pre out σ → ∃ σ1, putV (wipeV σ t.vs) t (f x) = some σ1 ∧ ∃ b σ2, gt σ1 = some (b, σ2) ∧ (b = true → ∃ z σ3, ge σ2 = some (z, σ3) ∧ I (pre ++ [x]) (out ++ [z]) σ3) ∧ (b = false → I (pre ++ [x]) out σ2)) :
    ∃ out σ', lcE t gt ge (xs.map f) σ = some (out, σ') ∧ I xs out σ' := by
  have key : ∀ (r pre : List β) (out : List Y) (σ : VEn), xs = pre ++ r → I pre out σ → ∃ out' σ', lcE t gt ge (r.map f) σ = some (out', σ') ∧ I xs (out ++ out') σ' := fun r => by
    induction r with
    | nil => intro pre out σ e h; rw [List.append_nil] at e; subst e; exact ⟨[], σ, rfl, by simpa using h⟩
    | cons x r ih =>
      intro pre out σ e h
      obtain ⟨σ1, h1, b, σ2, h2, h3, h4⟩ := hs pre x r out σ e h
      rw [List.map_cons, lcE_cons, h1]
      simp only [Option.bind_some]
      rw [h2]
      simp only [Option.bind_some]
      cases b with
      | true =>
        obtain ⟨z, σ3, h5, h6⟩ := h3 rfl
        obtain ⟨out', σ', h7, h8⟩ := ih (pre ++ [x]) (out ++ [z]) σ3 (by rw [e]; simp) h6
        refine ⟨z :: out', σ', by simp [h5, h7], by rw [List.append_assoc] at h8; exact h8⟩
      | false =>
        obtain ⟨out', σ', h7, h8⟩ := ih (pre ++ [x]) out σ2 (by rw [e]; simp) (h4 rfl)
        exact ⟨out', σ', by simp [h7], h8⟩
  obtain ⟨out', σ', h1, h2⟩ := key xs [] [] σ rfl h0
  exact ⟨out', σ', h1, by simpa using h2⟩
theorem yWhile_inv {et : VEn → Option (Bool × VEn)} (I : Nat → VEn → Prop) (Z : VEn → Prop) (hs : ∀ m σ, I m σ → ∃ b σ1, et σ = some (b, σ1) ∧ (b = true → ∃ σ', (g σ1 = .nx σ' ∨ g σ1 = .cnt σ') ∧ ∃ j, j < m ∧ I j σ') ∧ (b = false → Z σ1)) :
    ∀ m n σ, m < n → I m σ → ∃ σ', yWhile et g n σ = .nx σ' ∧ Z σ' := by
  intro m
  induction m using Nat.strongRecOn with
  | ind m ih =>
    intro n σ hn h
    obtain ⟨n, rfl⟩ : ∃ j, n = j + 1 := ⟨n - 1, by omega⟩
    obtain ⟨b, σ1, h1, h2, h3⟩ := hs m σ h
    rw [yWhile_step, h1]
    cases b with
    | true =>
      obtain ⟨σ', h4, j, hj, h5⟩ := h2 rfl
      obtain ⟨σ'', h6, h7⟩ := ih j hj n σ' (by omega) h5
      refine ⟨σ'', ?_, h7⟩
      simp only [if_pos]
      rcases h4 with h4 | h4 <;> (rw [h4]; exact h6)
    | false => exact ⟨σ1, by simp, h3 rfl⟩
end
/-! ### what a def gives back of its arguments -/
section
variable {x y z u v w : Option Y} {r : VEn}
@[simp] theorem us_0_1 : usOf [0] 1 (x :: r) = [x] := by cases x <;> rfl
@[simp] theorem us_0_2 : usOf [0] 2 (x :: r) = [x, none] := by cases x <;> rfl
@[simp] theorem us_0_3 : usOf [0] 3 (x :: r) = [x, none, none] := by cases x <;> rfl
@[simp] theorem us_0_4 : usOf [0] 4 (x :: r) = [x, none, none, none] := by cases x <;> rfl
@[simp] theorem us_0_5 : usOf [0] 5 (x :: r) = [x, none, none, none, none] := by cases x <;> rfl
@[simp] theorem us_0_6 : usOf [0] 6 (x :: r) = [x, none, none, none, none, none] := by cases x <;> rfl
end
theorem rng1Y_r {i : Int} (h0 : 0 ≤ i) (h : i < 4611686018427387904) : rng1Y [.int i] = some ((List.range i.toNat).map fun k : Nat => Y.int k) := by
  rw [rng1Y_e (by omega) h]
  simp [rgY]
theorem enum_map {β : Type} (f : β → Y) : ∀ (xs : List β) (n : Nat), enumFrom n (xs.map f) = (xs.zipIdx n).map fun p => .tup [.int (p.2 : Nat), f p.1]
  | [], n => rfl
  | x :: r, n => by
    simp only [List.map_cons, enumFrom, List.zipIdx_cons]
    rw [enum_map f r (n + 1)]
@[simp] theorem enumY_tup {xs : List Y} : enumY [.tup xs] = some (enumFrom 0 xs) := rfl
@[simp] theorem enumY_lst {o : Bool} {xs : List Y} : enumY [.lst o xs] = some (enumFrom 0 xs) := rfl
@[simp] theorem isiY_e {J : TK → TK → Option Bool} {x c : Y} : isiY J x c = (match tyY x, clY c with | some t, some k => (J t k).map .bl | _, _ => none) := rfl
section
variable {i : Int} {b : Bool} {a : Str} {n : String} {c : Nat} {xs : List Y} {o : Bool} {kvs : List (Key × Y)} {fs : List (Str × Y)}
@[simp] theorem tyY_non : tyY .non = some (.inl "NoneType") := rfl
@[simp] theorem tyY_bl : tyY (.bl b) = some (.inl "bool") := rfl
@[simp] theorem tyY_int : tyY (.int i) = some (.inl "int") := rfl
@[simp] theorem tyY_str : tyY (.str a) = some (.inl "str") := rfl
@[simp] theorem tyY_tup : tyY (.tup xs) = some (.inl "tuple") := rfl
@[simp] theorem tyY_lst : tyY (.lst o xs) = some (.inl "list") := rfl
@[simp] theorem tyY_dct : tyY (.dct o kvs) = some (.inl "dict") := rfl
@[simp] theorem tyY_ins : tyY (.ins o c fs) = some (.inr c) := rfl
@[simp] theorem clY_ty : clY (.ty n) = some (.inl n) := rfl
@[simp] theorem clY_cls : clY (.cls c) = some (.inr c) := rfl
end
/-! ### a word among words -/
section
variable {w a : Str} {r : List Y} {o : Bool}
@[simp] theorem inY_strL : inY (.str w) (.lst o r) = (inLY (.str w) r).map .bl := by unfold inY; rw [inQY_lst]
@[simp] theorem inY_strT : inY (.str w) (.tup r) = (inLY (.str w) r).map .bl := by unfold inY; rw [inQY_tup]
@[simp] theorem ninY_strL : ninY (.str w) (.lst o r) = (inLY (.str w) r).map fun b => .bl (!b) := by unfold ninY; rw [inQY_lst]
@[simp] theorem ninY_strT : ninY (.str w) (.tup r) = (inLY (.str w) r).map fun b => .bl (!b) := by unfold ninY; rw [inQY_tup]
@[simp] theorem inLY_nil' : inLY (.str w) [] = some false := rfl
@[simp] theorem inLY_cons' : inLY (.str w) (.str a :: r) = (inLY (.str w) r).map fun b => (a == w) || b := by
  unfold inLY
  have h1 : flatY (.str w) = true := rfl
  have h2 : flatY (.str a) = true := rfl
  simp only [h1, h2, List.all_cons, Bool.true_and, List.any_cons]
  split <;> rfl
end
/-! ### the dict of names -/
section
variable {α : Type} [DecidableEq α]
def insK (ks : List α) (n : α) : List α := if n ∈ ks then ks else ks ++ [n]
def insAll (ks xs : List α) : List α := xs.foldl insK ks
theorem insK_mem {ks : List α} {n z : α} : z ∈ insK ks n ↔ z ∈ ks ∨ z = n := by
  unfold insK
  by_cases h : n ∈ ks
  · rw [if_pos h]
    exact ⟨.inl, fun q => q.elim id fun e => e ▸ h⟩
  · rw [if_neg h]; simp
theorem insK_nd {ks : List α} {n : α} (h : ks.Nodup) : (insK ks n).Nodup := by
  unfold insK
  by_cases q : n ∈ ks
  · rw [if_pos q]; exact h
  · rw [if_neg q, List.nodup_append]
    refine ⟨h, by simp, fun a ha b hb => ?_⟩
    simp at hb
    subst hb
    exact fun e => q (e ▸ ha)
theorem insK_len {ks : List α} {n : α} : (insK ks n).length ≤ ks.length + 1 := by
  unfold insK
  split
  · omega
  · simp
theorem insAll_mem {z : α} : ∀ {xs ks : List α}, z ∈ insAll ks xs ↔ z ∈ ks ∨ z ∈ xs
  | [], ks => by simp [insAll]
  | x :: xs, ks => by
    show z ∈ insAll (insK ks x) xs ↔ _
    rw [insAll_mem, insK_mem]
    simp [or_assoc]
theorem insAll_nd : ∀ {xs ks : List α}, ks.Nodup → (insAll ks xs).Nodup
  | [], _, h => h
  | x :: xs, ks, h => insAll_nd (xs := xs) (insK_nd h)
theorem insAll_len : ∀ {xs ks : List α}, (insAll ks xs).length ≤ ks.length + xs.length
  | [], ks => by simp [insAll]
  | x :: xs, ks => by
    have h1 := insAll_len (xs := xs) (ks := insK ks x)
    have h2 := insK_len (ks := ks) (n := x)
    show (insAll (insK ks x) xs).length ≤ _
    simp only [List.length_cons]
    omega
theorem insAll_snoc {ks xs : List α} {n : α} : insAll ks (xs ++ [n]) = insK (insAll ks xs) n := by
  unfold insAll
  rw [List.foldl_append]
  rfl
theorem insAll_app {ks xs ys : List α} : insAll ks (xs ++ ys) = insAll (insAll ks xs) ys := by
  unfold insAll
  rw [List.foldl_append]
end
/-- names as keys, True behind each -/
def kdY (ks : List Int) : List (Key × Y) := ks.map fun k => (.inl k, .bl true)
theorem putY_kd {ks : List Int} {n : Int} : putY (kdY ks) (.inl n) (.bl true) = kdY (insK ks n) := by
  unfold putY insK kdY
  by_cases h : n ∈ ks
  · have h1 : ((ks.map fun k => ((Sum.inl k : Key), Y.bl true)).any fun kv => decide (kv.1 = Sum.inl n)) = true := by
      rw [List.any_eq_true]
      exact ⟨_, List.mem_map.mpr ⟨n, h, rfl⟩, by simp⟩
    rw [if_pos h1, if_pos h, List.map_map]
    refine List.map_congr_left fun k _ => ?_
    simp
  · have h1 : ¬ ((ks.map fun k => ((Sum.inl k : Key), Y.bl true)).any fun kv => decide (kv.1 = Sum.inl n)) = true := by
      rw [List.any_eq_true]
      rintro ⟨kv, hm, he⟩
      obtain ⟨k, hk, rfl⟩ := List.mem_map.mp hm
      simp at he
      exact h (he ▸ hk)
    rw [if_neg h1, if_neg h, List.map_append]
    rfl
theorem kdY_keys {ks : List Int} : (kdY ks).map (·.1) = ks.map Sum.inl := by
  unfold kdY
  rw [List.map_map]
  rfl
@[simp] theorem kdY_len {ks : List Int} : (kdY ks).length = ks.length := by unfold kdY; simp
theorem kdY_val {ks : List Int} {n : Int} : (valY (kdY ks) (.inl n)).isSome = decide (n ∈ ks) := by
  unfold valY
  rw [val_some, kdY_keys, List.any_map]
  induction ks with
  | nil => rfl
  | cons k r ih =>
    rw [List.any_cons, ih]
    by_cases q : k = n
    · simp [q]
    · have q' : ¬ n = k := fun z => q z.symm
      simp [q, q']
theorem kdY_noF {ks : List Int} : noFK (kdY ks) = true := by
  induction ks with
  | nil => rfl
  | cons k r ih => show noFK ((Sum.inl k, Y.bl true) :: kdY r) = true; simp [ih]
theorem nd_perm {xs ys : List Int} (h1 : xs.Nodup) (h2 : ys.Nodup) (h : ∀ z, z ∈ xs ↔ z ∈ ys) : xs.Perm ys := by
  rw [List.perm_iff_count]
  intro a
  rw [h1.count, h2.count]
  simp only [h a]
theorem nd_isort {xs ys : List Int} (h1 : xs.Nodup) (h2 : ys.Nodup) (h : ∀ z, z ∈ xs ↔ z ∈ ys) : isort xs = isort ys :=
  isort_uniq ((isort_perm xs).trans (nd_perm h1 h2 h)) (isort_sorted xs)
/-- a sorted set is the sorted row of what is in it -/
theorem usort_ins {xs : List Int} : usort xs = isort (insAll [] xs) := rfl
theorem nd_usort {ks xs : List Int} (h : ks.Nodup) (hm : ∀ z, z ∈ ks ↔ z ∈ xs) : isort ks = usort xs := by
  rw [usort_ins]
  exact nd_isort h (insAll_nd List.nodup_nil) fun z => by rw [insAll_mem]; simp [hm]
end Sm
end
section
namespace K13
open PySem PySem.Spec PyProof.Rows L2 Sm
noncomputable section
def tab : FTab := tabF [(0, "inputs"), (0, "most"), (0, "log"), (0, "deeds"), (0, "calls"), (0, "deepest"), (0, "handed")]
def isT : TK → TK → Option Bool := tabJ [((.inl "NoneType", .inl "tuple"), false), ((.inl "bool", .inl "tuple"), false), ((.inl "int", .inl "tuple"), false), ((.inl "str", .inl "tuple"), false), ((.inl "tuple", .inl "tuple"), true), ((.inl "list", .inl "tuple"), false), ((.inl "dict", .inl "tuple"), false), ((.inr 0, .inl "tuple"), false)]
@[simp] theorem isT_0 : isT (.inl "NoneType") (.inl "tuple") = some false := by decide +kernel
@[simp] theorem isT_1 : isT (.inl "bool") (.inl "tuple") = some false := by decide +kernel
@[simp] theorem isT_2 : isT (.inl "int") (.inl "tuple") = some false := by decide +kernel
@[simp] theorem isT_3 : isT (.inl "str") (.inl "tuple") = some false := by decide +kernel
@[simp] theorem isT_4 : isT (.inl "tuple") (.inl "tuple") = some true := by decide +kernel
@[simp] theorem isT_5 : isT (.inl "list") (.inl "tuple") = some false := by decide +kernel
@[simp] theorem isT_6 : isT (.inl "dict") (.inl "tuple") = some false := by decide +kernel
@[simp] theorem isT_7 : isT (.inr 0) (.inl "tuple") = some false := by decide +kernel
@[simp] theorem tab_World_inputs : tab 0 "inputs" = true := by decide +kernel
@[simp] theorem tab_World_most : tab 0 "most" = true := by decide +kernel
@[simp] theorem tab_World_log : tab 0 "log" = true := by decide +kernel
@[simp] theorem tab_World_deeds : tab 0 "deeds" = true := by decide +kernel
@[simp] theorem tab_World_calls : tab 0 "calls" = true := by decide +kernel
@[simp] theorem tab_World_deepest : tab 0 "deepest" = true := by decide +kernel
@[simp] theorem tab_World_handed : tab 0 "handed" = true := by decide +kernel
@[irreducible] def wfuel : Nat := 1000000000
theorem wfuel_big : 900000000 < wfuel := by unfold wfuel; omega
/- _law_cell(0:_law_script, 1:_law_k) -/
def b_law_cell  : DS :=
  cSeq (cIfS (cTest (cOp ltI (cVar 1) (cCall (ar1 lenD) (cCons (cVar 0) cNil)))) (cRet (cOp getD (cVar 0) (cVar 1))) (cNext)) <|
  cRet (cC (.int 0))
def F_law_cell : List D → Mo D := cDef 2 b_law_cell
/- _law_inputs(0:_law_cell_here, 1:_law_found, 2:_law_number, 3:_law_k) -/
def l_law_inputs_0  : DS :=
  cSeq (cExpr (cMt "list" (am1 appD) (cVar 1) (cCons (cOp addD (cOp subD (cOp modD (cVar 2) (cOp subD (cOp mulD (cC (.int 2)) (cOp powD (cC (.int 10)) (cC (.int 30)))) (cC (.int 1)))) (cOp powD (cC (.int 10)) (cC (.int 30)))) (cC (.int 1))) cNil))) <|
  cAsg (cOp addD (cOp fdivD (cVar 2) (cC (.int 10))) (cOp mulD (cC (.int 7)) (cVar 3))) (kName 2)
def b_law_inputs  : DS :=
  cSeq (cAsg (cLst cNil) (kName 1)) <|
  cSeq (cAsg (cOp fdivD (cVar 0) (cC (.int 21))) (kName 2)) <|
  cSeq (cFor (cRng rng1 (cCons (cOp modD (cVar 0) (cC (.int 21))) cNil)) (kName 3) (l_law_inputs_0)) <|
  cRet (cVar 1)
def F_law_inputs : List D → Mo D := cDef 4 b_law_inputs
/- enter(0:self, 1:place) -/
def b_World_enter  : DS :=
  cSeq (cIfS (cTest (cOp geI (cFld tab "calls" (cVar 0)) (cC (.int 50)))) (cRaise 1 "end" (cTup (cCons (cC (.str "deep")) (cCons (cVar 1) cNil)))) (cNext)) <|
  cSeq (cAugF tab "calls" addI (cVar 0) (cC (.int 1))) <|
  cSetF tab "deepest" (cVar 0) (cCall (ar2 maxD) (cCons (cFld tab "deepest" (cVar 0)) (cCons (cFld tab "calls" (cVar 0)) cNil)))
def F_World_enter : List D → Mo D := cDef 2 b_World_enter
/- note(0:self, 1:place) -/
def b_World_note  : DS :=
  cSeq (cIfS (cTest (cOp geI (cCall (ar1 lenD) (cCons (cFld tab "deeds" (cVar 0)) cNil)) (cFld tab "most" (cVar 0)))) (cRaise 1 "end" (cTup (cCons (cC (.str "dry")) cNil))) (cNext)) <|
  cExpr (cMt "list" (am1 appD) (cFld tab "deeds" (cVar 0)) (cCons (cVar 1) cNil))
def F_World_note : List D → Mo D := cDef 2 b_World_note
/- _law_ended(0:_law_world, 1:_law_word, 2:_law_place, 3:_law_told_here, 4:e) -/
def b_law_ended  : DS :=
  cSeq (cAsg (cC .non) (kName 3)) <|
  cSeq (cTryF 1 4 3 "end" (cIfS (cTest (cOp eqD (cVar 1) (cC (.str "note")))) (cExpr (cMeth 0 "note" 2 F_World_note (cVar 0) (cCons (cVar 2) cNil))) (cExpr (cMeth 0 "enter" 2 F_World_enter (cVar 0) (cCons (cVar 2) cNil))))) <|
  cRet (cVar 3)
def F_law_ended : List D → Mo D := cDef 5 b_law_ended
/- _law_noted(0:_law_world, 1:_law_model, 2:_law_place) -/
def b_law_noted  : DS :=
  cSeq (cIfS (cTest (cOp geI (cCall (ar1 lenD) (cCons (cOp getD (cVar 1) (cC (.str "deeds"))) cNil)) (cOp getD (cVar 1) (cC (.str "most"))))) (cRet (cOp eqD (cCall (apF 3 F_law_ended) (cCons (cVar 0) (cCons (cC (.str "note")) (cCons (cVar 2) cNil)))) (cTup (cCons (cC (.str "dry")) cNil)))) (cNext)) <|
  cSeq (cExpr (cMt "list" (am1 appD) (cOp getD (cVar 1) (cC (.str "deeds"))) (cCons (cVar 2) cNil))) <|
  cRet (cOp isNone (cCall (apF 3 F_law_ended) (cCons (cVar 0) (cCons (cC (.str "note")) (cCons (cVar 2) cNil)))) (cC .non))
def F_law_noted : List D → Mo D := cDef 3 b_law_noted
/- take(0:self) -/
def b_World_take  : DS :=
  cSeq (cIfS (cTest (cOp geI (cFld tab "handed" (cVar 0)) (cCall (ar1 lenD) (cCons (cFld tab "inputs" (cVar 0)) cNil)))) (cRet (cC (.int 0))) (cNext)) <|
  cSeq (cAugF tab "handed" addI (cVar 0) (cC (.int 1))) <|
  cRet (cOp getD (cFld tab "inputs" (cVar 0)) (cOp subD (cFld tab "handed" (cVar 0)) (cC (.int 1))))
def F_World_take : List D → Mo D := cDef 1 b_World_take
/- _law_taken(0:_law_world, 1:_law_model, 2:_law_due) -/
def b_law_taken  : DS :=
  cSeq (cAsg (cC (.int 0)) (kName 2)) <|
  cSeq (cIfS (cTest (cOp ltI (cOp getD (cVar 1) (cC (.str "taken"))) (cCall (ar1 lenD) (cCons (cOp getD (cVar 1) (cC (.str "inputs"))) cNil)))) (cSeq (cAsg (cOp getD (cOp getD (cVar 1) (cC (.str "inputs"))) (cOp getD (cVar 1) (cC (.str "taken")))) (kName 2)) <|
  cSt (cVar 1) (cC (.str "taken")) (cOp addD (cOp getD (cVar 1) (cC (.str "taken"))) (cC (.int 1)))) (cNext)) <|
  cRet (cOp eqD (cMeth 0 "take" 1 F_World_take (cVar 0) cNil) (cVar 2))
def F_law_taken : List D → Mo D := cDef 3 b_law_taken
/- _law_entered(0:_law_world, 1:_law_model, 2:_law_place) -/
def b_law_entered  : DS :=
  cSeq (cIfS (cTest (cOp eqD (cOp getD (cVar 1) (cC (.str "calls"))) (cC (.int 50)))) (cRet (cOp eqD (cCall (apF 3 F_law_ended) (cCons (cVar 0) (cCons (cC (.str "enter")) (cCons (cVar 2) cNil)))) (cTup (cCons (cC (.str "deep")) (cCons (cVar 2) cNil))))) (cNext)) <|
  cSeq (cSt (cVar 1) (cC (.str "calls")) (cOp addD (cOp getD (cVar 1) (cC (.str "calls"))) (cC (.int 1)))) <|
  cSeq (cSt (cVar 1) (cC (.str "deepest")) (cCall (ar2 maxD) (cCons (cOp getD (cVar 1) (cC (.str "deepest"))) (cCons (cOp getD (cVar 1) (cC (.str "calls"))) cNil)))) <|
  cRet (cOp isNone (cCall (apF 3 F_law_ended) (cCons (cVar 0) (cCons (cC (.str "enter")) (cCons (cVar 2) cNil)))) (cC .non))
def F_law_entered : List D → Mo D := cDef 3 b_law_entered
/- drop_to(0:self, 1:many) -/
def b_World_drop_to  : DS :=
  cSetF tab "calls" (cVar 0) (cVar 1)
def F_World_drop_to : List D → Mo D := cDef 2 b_World_drop_to
/- leave(0:self) -/
def b_World_leave  : DS :=
  cAugF tab "calls" subD (cVar 0) (cC (.int 1))
def F_World_leave : List D → Mo D := cDef 1 b_World_leave
/- _law_closed(0:_law_world, 1:_law_model, 2:_law_number) -/
def b_law_closed  : DS :=
  cSeq (cIfS (cAndT (cTest (cOp eqD (cOp modD (cVar 2) (cC (.int 2))) (cC (.int 0)))) (cTest (cOp gtI (cOp getD (cVar 1) (cC (.str "calls"))) (cC (.int 0))))) (cSeq (cExpr (cMeth 0 "leave" 1 F_World_leave (cVar 0) cNil)) <|
  cSt (cVar 1) (cC (.str "calls")) (cOp subD (cOp getD (cVar 1) (cC (.str "calls"))) (cC (.int 1)))) (cIfS (cTest (cOp eqD (cOp modD (cVar 2) (cC (.int 2))) (cC (.int 1)))) (cSeq (cSt (cVar 1) (cC (.str "calls")) (cOp modD (cOp fdivD (cVar 2) (cC (.int 2))) (cOp addD (cOp getD (cVar 1) (cC (.str "calls"))) (cC (.int 1))))) <|
  cExpr (cMeth 0 "drop_to" 2 F_World_drop_to (cVar 0) (cCons (cOp getD (cVar 1) (cC (.str "calls"))) cNil))) (cNext))) <|
  cRet (cOp eqD (cFld tab "calls" (cVar 0)) (cOp getD (cVar 1) (cC (.str "calls"))))
def F_law_closed : List D → Mo D := cDef 3 b_law_closed
/- say(0:self, 1:number) -/
def b_World_say  : DS :=
  cExpr (cMt "list" (am1 appD) (cFld tab "log" (cVar 0)) (cCons (cVar 1) cNil))
def F_World_say : List D → Mo D := cDef 2 b_World_say
/- _law_deed(0:_law_world, 1:_law_model, 2:_law_way, 3:_law_number) -/
def b_law_deed  : DS :=
  cSeq (cIfS (cTest (cOp eqD (cVar 2) (cC (.int 0)))) (cRet (cCall (apF 3 F_law_noted) (cCons (cVar 0) (cCons (cVar 1) (cCons (cOp modD (cVar 3) (cC (.int 600))) cNil))))) (cNext)) <|
  cSeq (cIfS (cTest (cOp eqD (cVar 2) (cC (.int 1)))) (cRet (cCall (apF 2 F_law_taken) (cCons (cVar 0) (cCons (cVar 1) cNil)))) (cNext)) <|
  cSeq (cIfS (cTest (cOp eqD (cVar 2) (cC (.int 2)))) (cSeq (cExpr (cMt "list" (am1 appD) (cOp getD (cVar 1) (cC (.str "log"))) (cCons (cVar 3) cNil))) <|
  cRet (cOp isNone (cMeth 0 "say" 2 F_World_say (cVar 0) (cCons (cVar 3) cNil)) (cC .non))) (cNext)) <|
  cSeq (cIfS (cTest (cOp eqD (cVar 2) (cC (.int 3)))) (cRet (cCall (apF 3 F_law_entered) (cCons (cVar 0) (cCons (cVar 1) (cCons (cOp modD (cVar 3) (cC (.int 600))) cNil))))) (cNext)) <|
  cRet (cCall (apF 3 F_law_closed) (cCons (cVar 0) (cCons (cVar 1) (cCons (cVar 3) cNil))))
def F_law_deed : List D → Mo D := cDef 4 b_law_deed
/- result(0:self, 1:end) -/
def b_World_result  : DS :=
  cRet (cTup (cCons (cVar 1) (cCons (cCall (ar1 listD) (cCons (cFld tab "log" (cVar 0)) cNil)) (cCons (cCall (ar1 listD) (cCons (cFld tab "deeds" (cVar 0)) cNil)) (cCons (cFld tab "deepest" (cVar 0)) cNil)))))
def F_World_result : List D → Mo D := cDef 2 b_World_result
/- _law_told(0:_law_world, 1:_law_model, 2:_law_number, 3:_law_end, 4:_law_again, 5:_law_run) -/
def l_law_told_0  : DS :=
  cSeq (cAsg (cMeth 0 "result" 2 F_World_result (cVar 0) (cCons (cVar 3) cNil)) (kName 5)) <|
  cSeq (cIfS (cOrT (cTest (cOp neD (cVar 5) (cTup (cCons (cVar 3) (cCons (cOp getD (cVar 1) (cC (.str "log"))) (cCons (cOp getD (cVar 1) (cC (.str "deeds"))) (cCons (cOp getD (cVar 1) (cC (.str "deepest"))) cNil))))))) (cNotT (cTru (cCall (ar2 (isiD isT)) (cCons (cVar 5) (cCons (cC (.ty "tuple")) cNil)))))) (cRet (cC (.bl false))) (cNext)) <|
  cSeq (cExpr (cMt0 "list" (am0 clrD) (cOp getD (cVar 5) (cC (.int 1))))) <|
  cExpr (cMt "list" (am1 appD) (cOp getD (cVar 5) (cC (.int 2))) (cCons (cC (.int 7)) cNil))
def b_law_told  : DS :=
  cSeq (cAsg (cOp getD (cLst (cCons (cTup (cCons (cC (.str "dry")) cNil)) (cCons (cTup (cCons (cC (.str "value")) (cCons (cVar 2) cNil))) (cCons (cTup (cCons (cC (.str "fault")) (cCons (cC (.str "a")) (cCons (cVar 2) (cCons (cOp modD (cVar 2) (cC (.int 600))) cNil))))) cNil)))) (cOp modD (cVar 2) (cC (.int 3)))) (kName 3)) <|
  cSeq (cFor (cRng rng1 (cCons (cC (.int 2)) cNil)) (kName 4) (l_law_told_0)) <|
  cRet (cAnd (cOp eqD (cFld tab "calls" (cVar 0)) (cOp getD (cVar 1) (cC (.str "calls")))) (cOp eqD (cFld tab "deepest" (cVar 0)) (cOp getD (cVar 1) (cC (.str "deepest")))))
def F_law_told : List D → Mo D := cDef 6 b_law_told
/- __init__(0:self, 1:inputs, 2:most) -/
def b_World_init  : DS :=
  cSeq (cSetF tab "inputs" (cVar 0) (cCall (ar1 listD) (cCons (cVar 1) cNil))) <|
  cSeq (cSetF tab "most" (cVar 0) (cVar 2)) <|
  cSeq (cSetF tab "log" (cVar 0) (cLst cNil)) <|
  cSeq (cSetF tab "deeds" (cVar 0) (cLst cNil)) <|
  cSeq (cSetF tab "calls" (cVar 0) (cC (.int 0))) <|
  cSeq (cSetF tab "deepest" (cVar 0) (cC (.int 0))) <|
  cSetF tab "handed" (cVar 0) (cC (.int 0))
def F_World_init : List D → Mo D := cDef 3 b_World_init
/- law(0:_law_script, 1:_law_inputs_here, 2:_law_model, 3:_law_world, 4:_law_beside, 5:_law_cell_here, 6:_law_number, 7:_law_k) -/
def l_law_1  : DS :=
  cIfS (cNotT (cTru (cCall (apF 4 F_law_deed) (cCons (cVar 3) (cCons (cVar 2) (cCons (cOp modD (cVar 5) (cC (.int 6))) (cCons (cOp addD (cVar 6) (cOp mulD (cC (.int 11)) (cVar 7))) cNil))))))) (cRet (cC (.bl false))) (cNext)
def l_law_0  : DS :=
  cSeq (cAsg (cOp modD (cOp fdivD (cVar 5) (cC (.int 360))) (cOp powD (cC (.int 10)) (cC (.int 40)))) (kName 6)) <|
  cSeq (cFor (cRng rng1 (cCons (cOp addD (cC (.int 1)) (cOp modD (cOp fdivD (cVar 5) (cC (.int 6))) (cC (.int 60)))) cNil)) (kName 7) (l_law_1)) <|
  cIfS (cNotT (cTru (cCall (apF 3 F_law_told) (cCons (cVar 3) (cCons (cVar 2) (cCons (cVar 6) cNil)))))) (cRet (cC (.bl false))) (cNext)
def b_law  : DS :=
  cSeq (cAsg (cCall (apF 1 F_law_inputs) (cCons (cCall (apF 2 F_law_cell) (cCons (cVar 0) (cCons (cC (.int 0)) cNil))) cNil)) (kName 1)) <|
  cSeq (cAsg (cDict [(cC (.str "inputs"), cCall (ar1 listD) (cCons (cVar 1) cNil)), (cC (.str "taken"), cC (.int 0)), (cC (.str "log"), cLst cNil), (cC (.str "deeds"), cLst cNil), (cC (.str "calls"), cC (.int 0)), (cC (.str "deepest"), cC (.int 0))]) (kName 2)) <|
  cSeq (cSt (cVar 2) (cC (.str "most")) (cOp modD (cOp fdivD (cCall (apF 2 F_law_cell) (cCons (cVar 0) (cCons (cC (.int 1)) cNil))) (cC (.int 2))) (cC (.int 2001)))) <|
  cSeq (cIfS (cTest (cOp eqD (cOp modD (cCall (apF 2 F_law_cell) (cCons (cVar 0) (cCons (cC (.int 1)) cNil))) (cC (.int 2))) (cC (.int 0)))) (cSeq (cSt (cVar 2) (cC (.str "most")) (cC (.int 1000))) <|
  cAsg (cCall (fun ds => newI 0 3 F_World_init (ds ++ [.int 1000])) (cCons (cVar 1) cNil)) (kName 3)) (cAsg (cCall (fun ds => newI 0 3 F_World_init (ds ++ [])) (cCons (cVar 1) (cCons (cOp getD (cVar 2) (cC (.str "most"))) cNil))) (kName 3))) <|
  cSeq (cExpr (cMt0 "list" (am0 clrD) (cVar 1))) <|
  cSeq (cAsg (cCall (fun ds => newI 0 3 F_World_init (ds ++ [.int 1000])) (cCons (cLst (cCons (cC (.int 5)) cNil)) cNil)) (kName 4)) <|
  cSeq (cFor (cIt (cSl (cVar 0) (cPart none) (cPart (some (cC (.int 40)))))) (kName 5) (l_law_0)) <|
  cRet (cAnd (cOp eqD (cMeth 0 "result" 2 F_World_result (cVar 4) (cCons (cTup (cCons (cC (.str "dry")) cNil)) cNil)) (cTup (cCons (cTup (cCons (cC (.str "dry")) cNil)) (cCons (cLst cNil) (cCons (cLst cNil) (cCons (cC (.int 0)) cNil)))))) (cOp eqD (cMeth 0 "take" 1 F_World_take (cVar 4) cNil) (cC (.int 5))))
def F_law : List D → Mo D := cDef 8 b_law
end
end K13
end
section
section
namespace K13
open PySem PySem.Spec PyProof.Rows L2 Sm
/-- how a try's body is caught -/
def txF (c i j : Nat) (f : Str) : Fz → Fz
  | .ex e ρ' S' => if e.1 = c ∧ i < ρ'.length then (match e.2.lookup f with
      | some d => .nx (((ρ'.set i none).set j (some d)).set i none) S'
      | none => .no) else .no
  | r => r
@[simp] theorem cTryF_e {c i j : Nat} {f : Str} {s : DS} {ρ : En} {S : Sto} : cTryF c i j f s ρ S = txF c i j f (s ρ S) := by
  unfold cTryF txF
  cases s ρ S <;> rfl
@[simp] theorem txF_nx {c i j : Nat} {f : Str} {ρ : En} {S : Sto} : txF c i j f (.nx ρ S) = .nx ρ S := rfl
@[simp] theorem txF_ex {c i j : Nat} {f : Str} {e : Exn} {ρ : En} {S : Sto} : txF c i j f (.ex e ρ S) = if e.1 = c ∧ i < ρ.length then (match e.2.lookup f with
      | some d => .nx (((ρ.set i none).set j (some d)).set i none) S
      | none => .no) else .no := rfl
@[simp] theorem cRaise_e {c : Nat} {f : Str} {fe : DE} {ρ : En} {S : Sto} : cRaise c f fe ρ S = (fe ρ S).toF ρ fun d S' => .ex (c, [(f, d)]) ρ S' := rfl
@[simp] theorem toR_ex {x : Exn} {ρ : En} {S : Sto} : (Fz.ex x ρ S).toR = .ex x S := rfl
@[simp] theorem fldG_loc' {T : FTab} {f : Str} {l : Nat} {S : Sto} : fldG T f (.loc l) S = fldO T f S[l]? := rfl
@[simp] theorem intOp0_int {f : Int → Int → D} {i j : Int} {S : Sto} : intOp0 f (.int i) (.int j) S = .ok (f i j) S := rfl
@[simp] theorem clsD_loc' {l : Nat} {S : Sto} : clsD (.loc l) S = (match S[l]? with
    | some (.ins c _) => some c
    | _ => none) := rfl
/-- the model's rows, or the world's -/
structure Z where
  I : List Int
  m : Int
  t : Int
  c : Int
  dp : Int
  L : List Int
  d : List Int
def md (a : Z) : Ob := .dct [(.inr "inputs", .loc 2), (.inr "taken", .int a.t), (.inr "log", .loc 3), (.inr "deeds", .loc 4), (.inr "calls", .int a.c), (.inr "deepest", .int a.dp), (.inr "most", .int a.m)]
def wd (b : Z) : Ob := .ins 0 [("inputs", .loc 6), ("most", .int b.m), ("log", .loc 7), ("deeds", .loc 8), ("calls", .int b.c), ("deepest", .int b.dp), ("handed", .int b.t)]
def wb : Ob := .ins 0 [("inputs", .loc 11), ("most", .int 1000), ("log", .loc 12), ("deeds", .loc 13), ("calls", .int 0), ("deepest", .int 0), ("handed", .int 0)]
def sto (a b : Z) (sc : List D) (R : Sto) : Sto :=
  .lst [] :: md a :: .lst (a.I.map .int) :: .lst (a.L.map .int) :: .lst (a.d.map .int) :: wd b :: .lst (b.I.map .int) :: .lst (b.L.map .int) :: .lst (b.d.map .int) ::
    .lst [.int 5] :: wb :: .lst [.int 5] :: .lst [] :: .lst [] :: .lst sc :: R
section
variable {a b : Z} {sc : List D} {R : Sto} {p n : Int}
theorem note : b.d.length ≤ 100000 → F_World_note [.loc 5, .int p] (sto a b sc R) = if b.m ≤ b.d.length then .ex (1, [("end", .tup [.str "dry"])]) (sto a b sc R) else .ok .non (sto a { b with d := b.d ++ [p] } sc R) := by
  intro hd
  have hf : fit (b.d.length + 1) = true := fit_of (by omega)
  unfold F_World_note b_World_note sto
  by_cases h : b.m ≤ b.d.length
  · simp [startE, h, md, wd]
  · simp [startE, h, md, wd, hf]
theorem enter : F_World_enter [.loc 5, .int p] (sto a b sc R) = if 50 ≤ b.c then .ex (1, [("end", .tup [.str "deep", .int p])]) (sto a b sc R) else
    .ok .non (sto a { b with c := b.c + 1, dp := if b.c + 1 > b.dp then b.c + 1 else b.dp } sc R) := by
  unfold F_World_enter b_World_enter sto
  by_cases h : 50 ≤ b.c
  · simp [startE, h, md, wd]
  · simp [startE, h, md, wd, putFD, addI]
theorem ended_note : b.d.length ≤ 100000 → F_law_ended [.loc 5, .str "note", .int p] (sto a b sc R) = if b.m ≤ b.d.length then .ok (.tup [.str "dry"]) (sto a b sc R) else .ok .non (sto a { b with d := b.d ++ [p] } sc R) := by
  intro hd
  have hi : insG 0 "note" (.loc 5) (sto a b sc R) = true := by simp [insG, sto, wd]
  unfold F_law_ended b_law_ended
  by_cases h : b.m ≤ b.d.length
  · simp [startE, chkI, hi, note hd, h]
  · simp [startE, chkI, hi, note hd, h]
theorem ended_enter : F_law_ended [.loc 5, .str "enter", .int p] (sto a b sc R) = if 50 ≤ b.c then .ok (.tup [.str "deep", .int p]) (sto a b sc R) else
    .ok .non (sto a { b with c := b.c + 1, dp := if b.c + 1 > b.dp then b.c + 1 else b.dp } sc R) := by
  have hi : insG 0 "enter" (.loc 5) (sto a b sc R) = true := by simp [insG, sto, wd]
  have hs : ((PySem.Str.ofString "enter") == (PySem.Str.ofString "note")) = false := by decide
  unfold F_law_ended b_law_ended
  by_cases h : 50 ≤ b.c
  · simp [startE, chkI, hi, enter, h, hs]
  · simp [startE, chkI, hi, enter, h, hs]
theorem take (h0 : 0 ≤ b.t) : F_World_take [.loc 5] (sto a b sc R) = if h : b.t.toNat < b.I.length then .ok (.int b.I[b.t.toNat]) (sto a { b with t := b.t + 1 } sc R) else .ok (.int 0) (sto a b sc R) := by
  unfold F_World_take b_World_take
  by_cases h : b.t.toNat < b.I.length
  · have h1 : ¬ (b.I.length : Int) ≤ b.t := by omega
    have h2 : L2.atI (b.I.map D.int) b.t = some (.int b.I[b.t.toNat]) := by
      rw [atI_nn h0]
      simp [h]
    rw [dif_pos h]
    unfold sto
    simp [startE, h1, md, wd, putFD, h2]
  · have h1 : (b.I.length : Int) ≤ b.t := by omega
    rw [dif_neg h]
    unfold sto
    simp [startE, h1, md, wd]
theorem say : b.L.length ≤ 100000 → F_World_say [.loc 5, .int p] (sto a b sc R) = .ok .non (sto a { b with L := b.L ++ [p] } sc R) := by
  intro hd
  have hf : fit (b.L.length + 1) = true := fit_of (by omega)
  unfold F_World_say b_World_say sto
  simp [startE, md, wd, hf]
theorem leave : F_World_leave [.loc 5] (sto a b sc R) = .ok .non (sto a { b with c := b.c - 1 } sc R) := by
  unfold F_World_leave b_World_leave sto
  simp [startE, md, wd, putFD]
theorem drop_to : F_World_drop_to [.loc 5, .int p] (sto a b sc R) = .ok .non (sto a { b with c := p } sc R) := by
  unfold F_World_drop_to b_World_drop_to sto
  simp [startE, md, wd, putFD]
theorem noted (hd : a.d.length ≤ 100000) : F_law_noted [.loc 5, .loc 1, .int p] (sto a a sc R) = .ok (.bl true) (if a.m ≤ a.d.length then sto a a sc R else sto { a with d := a.d ++ [p] } { a with d := a.d ++ [p] } sc R) := by
  have hf : fit (a.d.length + 1) = true := fit_of (by omega)
  have e1 : (sto a a sc R)[1]? = some (md a) := rfl
  have e4 : (sto a a sc R)[4]? = some (.lst (a.d.map .int)) := rfl
  have es : (sto a a sc R).set 4 (.lst (a.d.map .int ++ [.int p])) = sto { a with d := a.d ++ [p] } a sc R := by simp [sto, md]
  unfold F_law_noted b_law_noted
  by_cases h : a.m ≤ a.d.length
  · have ht : eqD (.tup [.str "dry"]) (.tup [.str "dry"]) (sto a a sc R) = .ok (.bl true) (sto a a sc R) := eq_cont (r := .tup [.str "dry"]) (by simp) (by simp) (by simp)
    simp [startE, e1, e4, md, h, ended_note hd, ht]
  · simp [startE, e1, e4, md, h, hf, es, ended_note hd]
end
end K13
end
section
namespace K13
open PySem PySem.Spec PyProof.Rows L2 Sm
section
variable {a b : Z} {sc : List D} {R : Sto} {p n : Int}
theorem taken (h0 : 0 ≤ a.t) : ∃ t', 0 ≤ t' ∧ F_law_taken [.loc 5, .loc 1] (sto a a sc R) = .ok (.bl true) (sto { a with t := t' } { a with t := t' } sc R) := by
  have e1 : ∀ b, (sto a b sc R)[1]? = some (md a) := fun _ => rfl
  have e1' : ∀ a b, (sto a b sc R)[1]? = some (md a) := fun _ _ => rfl
  have e2 : (sto a a sc R)[2]? = some (.lst (a.I.map .int)) := rfl
  have es : ∀ v : Int, (sto a a sc R).set 1 (md { a with t := v }) = sto { a with t := v } a sc R := fun v => by simp [sto, md]
  have hi : ∀ a b : Z, insG 0 "take" (.loc 5) (sto a b sc R) = true := fun a b => by simp [insG, sto, wd]
  unfold F_law_taken b_law_taken
  by_cases h : a.t.toNat < a.I.length
  · have h1 : a.t < a.I.length := by omega
    have h2 : L2.atI (a.I.map D.int) a.t = some (.int a.I[a.t.toNat]) := by
      rw [atI_nn h0]
      simp [h]
    have hs := es (a.t + 1)
    simp only [md] at hs
    refine ⟨a.t + 1, by omega, ?_⟩
    simp [startE, e1', e2, md, h1, h2, putD, hs, chkI, hi, take h0, h]
  · have h1 : ¬ a.t < a.I.length := by omega
    refine ⟨a.t, h0, ?_⟩
    simp [startE, e1', e2, md, h1, chkI, hi, take h0, h]
theorem entered (h0 : 0 ≤ a.c) (h5 : a.c ≤ 50) : ∃ c' dp', 0 ≤ c' ∧ c' ≤ 50 ∧ F_law_entered [.loc 5, .loc 1, .int p] (sto a a sc R) = .ok (.bl true) (sto { a with c := c', dp := dp' } { a with c := c', dp := dp' } sc R) := by
  have e1 : ∀ a b, (sto a b sc R)[1]? = some (md a) := fun _ _ => rfl
  unfold F_law_entered b_law_entered
  by_cases h : a.c = 50
  · refine ⟨a.c, a.dp, by omega, by omega, ?_⟩
    have ht : eqD (.tup [.str "deep", .int p]) (.tup [.str "deep", .int p]) (sto a a sc R) = .ok (.bl true) (sto a a sc R) := eq_cont (r := .tup [.str "deep", .int p]) (by simp) (by simp) (by simp)
    simp [startE, e1, md, h, ended_enter, ht]
    rw [← h]
  · refine ⟨a.c + 1, if a.c + 1 > a.dp then a.c + 1 else a.dp, by omega, by omega, ?_⟩
    have es1 : (sto a a sc R).set 1 (md { a with c := a.c + 1 }) = sto { a with c := a.c + 1 } a sc R := by simp [sto]
    have es2 : ∀ v : Int, (sto { a with c := a.c + 1 } a sc R).set 1 (md { a with c := a.c + 1, dp := v }) = sto { a with c := a.c + 1, dp := v } a sc R := fun v => by simp [sto]
    have h2 : ¬ 50 ≤ a.c := by omega
    simp only [md] at es1 es2
    simp [startE, e1, md, h, putD, es1, es2, ended_enter, h2]
theorem closed (h0 : 0 ≤ a.c) (h5 : a.c ≤ 50) : ∃ c', 0 ≤ c' ∧ c' ≤ 50 ∧ F_law_closed [.loc 5, .loc 1, .int n] (sto a a sc R) = .ok (.bl true) (sto { a with c := c' } { a with c := c' } sc R) := by
  have e1 : ∀ a b, (sto a b sc R)[1]? = some (md a) := fun _ _ => rfl
  have e5 : ∀ a b, (sto a b sc R)[5]? = some (wd b) := fun _ _ => rfl
  have es : ∀ (b : Z) (v : Int), (sto a b sc R).set 1 (md { a with c := v }) = sto { a with c := v } b sc R := fun b v => by simp [sto, md]
  have hi : ∀ a b : Z, insG 0 "leave" (.loc 5) (sto a b sc R) = true := fun a b => by simp [insG, sto, wd]
  have hi2 : ∀ a b : Z, insG 0 "drop_to" (.loc 5) (sto a b sc R) = true := fun a b => by simp [insG, sto, wd]
  simp only [md] at es
  unfold F_law_closed b_law_closed
  rcases (by omega : n % 2 = 0 ∨ n % 2 = 1) with h | h
  · by_cases hc : 0 < a.c
    · refine ⟨a.c - 1, by omega, by omega, ?_⟩
      simp [startE, e1, e5, md, wd, h, hc, chkI, hi, leave, putD, es]
    · refine ⟨a.c, h0, h5, ?_⟩
      simp [startE, e1, e5, md, wd, h, hc]
  · have hm : 0 < a.c + 1 := by omega
    have h1 := Int.emod_nonneg (n / 2) (show a.c + 1 ≠ 0 by omega)
    have h2 := Int.emod_lt_of_pos (n / 2) hm
    refine ⟨n / 2 % (a.c + 1), h1, by omega, ?_⟩
    simp [startE, e1, e5, md, wd, h, chkI, hi2, drop_to, putD, es, okMod_e hm]
theorem deed (w : Int) (hw : 0 ≤ w) (hd : a.d.length ≤ 100000) (hL : a.L.length ≤ 100000) (ht : 0 ≤ a.t) (h0 : 0 ≤ a.c) (h5 : a.c ≤ 50) :
    ∃ a' : Z, F_law_deed [.loc 5, .loc 1, .int w, .int n] (sto a a sc R) = .ok (.bl true) (sto a' a' sc R) ∧ a'.d.length ≤ a.d.length + 1 ∧ a'.L.length ≤ a.L.length + 1 ∧ 0 ≤ a'.t ∧ 0 ≤ a'.c ∧ a'.c ≤ 50 := by
  unfold F_law_deed b_law_deed
  by_cases w0 : w = 0
  · subst w0
    by_cases h : a.m ≤ a.d.length
    · exact ⟨a, by simp [startE, noted hd, h], by omega, by omega, ht, h0, h5⟩
    · exact ⟨{ a with d := a.d ++ [n % 600] }, by simp [startE, noted hd, h], by simp, by simp, ht, h0, h5⟩
  by_cases w1 : w = 1
  · subst w1
    obtain ⟨t', h1, e⟩ := taken (sc := sc) (R := R) ht
    exact ⟨{ a with t := t' }, by simp [startE, e], by simp, by simp, h1, h0, h5⟩
  by_cases w2 : w = 2
  · subst w2
    have e1 : ∀ a b, (sto a b sc R)[1]? = some (md a) := fun _ _ => rfl
    have e3 : (sto a a sc R)[3]? = some (.lst (a.L.map .int)) := rfl
    have hf : fit (a.L.length + 1) = true := fit_of (by omega)
    have es : (sto a a sc R).set 3 (.lst (a.L.map .int ++ [.int n])) = sto { a with L := a.L ++ [n] } a sc R := by simp [sto, md]
    have hi : ∀ a b : Z, insG 0 "say" (.loc 5) (sto a b sc R) = true := fun a b => by simp [insG, sto, wd]
    have hs := say (a := { a with L := a.L ++ [n] }) (b := a) (sc := sc) (R := R) (p := n) hL
    exact ⟨{ a with L := a.L ++ [n] }, by simp [startE, e1, e3, md, hf, es, chkI, hi, hs], by simp, by simp, ht, h0, h5⟩
  by_cases w3 : w = 3
  · subst w3
    obtain ⟨c', dp', h1, h2, e⟩ := entered (sc := sc) (R := R) (p := n % 600) h0 h5
    exact ⟨{ a with c := c', dp := dp' }, by simp [startE, e], by simp, by simp, ht, h1, h2⟩
  · obtain ⟨c', h1, h2, e⟩ := closed (sc := sc) (R := R) (n := n) h0 h5
    exact ⟨{ a with c := c' }, by simp [startE, e, w0, w1, w2, w3], by simp, by simp, ht, h1, h2⟩
end
end K13
end
section
namespace K13
open PySem PySem.Spec PyProof.Rows L2 Sm
theorem mapO_ints {S : Sto} {k : Nat} : ∀ l : List Int, mapO (cont S k) (l.map D.int) = some (l.map D.int)
  | [] => rfl
  | i :: l => by simp [mapO_ints l]
section
variable {a b : Z} {sc : List D} {R : Sto} {p n : Int} {e : D}
theorem sto_len : (sto a b sc R).length = R.length + 15 := by simp [sto]
theorem sto_app {X : Sto} : sto a b sc R ++ X = sto a b sc (R ++ X) := rfl
theorem sto_at {k : Nat} : (sto a b sc R)[R.length + 15 + k]? = none ∨ True := .inr trivial
theorem sto_get {k : Nat} : (sto a b sc R)[k + 15]? = R[k]? := rfl
theorem sto_set {k : Nat} {o : Ob} : (sto a b sc R).set (k + 15) o = sto a b sc (R.set k o) := rfl
theorem result : F_World_result [.loc 5, e] (sto a b sc R) = .ok (.tup [e, .loc (R.length + 15), .loc (R.length + 16), .int b.dp]) (sto a b sc (R ++ [.lst (b.L.map .int), .lst (b.d.map .int)])) := by
  have e5 : ∀ R, (sto a b sc R)[5]? = some (wd b) := fun _ => rfl
  have e7 : ∀ R, (sto a b sc R)[7]? = some (.lst (b.L.map .int)) := fun _ => rfl
  have e8 : ∀ R, (sto a b sc R)[8]? = some (.lst (b.d.map .int)) := fun _ => rfl
  have l7 : ∀ R, listD (.loc 7) (sto a b sc R) = .ok (.loc (R.length + 15)) (sto a b sc (R ++ [.lst (b.L.map .int)])) := fun R => by rw [listD_loc (e7 R), sto_len, sto_app]
  have l8 : ∀ R, listD (.loc 8) (sto a b sc R) = .ok (.loc (R.length + 15)) (sto a b sc (R ++ [.lst (b.d.map .int)])) := fun R => by rw [listD_loc (e8 R), sto_len, sto_app]
  unfold F_World_result b_World_result
  simp [startE, e5, wd, l7, l8]
theorem turn (hd : a.d.length ≤ 100000) (he : ∀ S, cont S 59 e = some e) {k r : Option D} : ∃ r' R', l_law_told_0 [some (.loc 5), some (.loc 1), some (.int n), some e, k, r] (sto a a sc R) =
    .nx [some (.loc 5), some (.loc 1), some (.int n), some e, k, r'] (sto a a sc R') := by
  have hi : ∀ R, insG 0 "result" (.loc 5) (sto a a sc R) = true := fun R => by simp [insG, sto, wd]
  let R1 : Sto := R ++ [.lst (a.L.map .int), .lst (a.d.map .int)]
  have e1 : ∀ R, (sto a a sc R)[1]? = some (md a) := fun _ => rfl
  have g1 : (sto a a sc R1)[R.length + 15]? = some (.lst (a.L.map .int)) := by rw [sto_get]; simp [R1]
  have g2 : (sto a a sc R1)[R.length + 16]? = some (.lst (a.d.map .int)) := by rw [show R.length + 16 = R.length + 1 + 15 by omega, sto_get]; simp [R1]
  have g3 : (sto a a sc R1)[3]? = some (.lst (a.L.map .int)) := rfl
  have g4 : (sto a a sc R1)[4]? = some (.lst (a.d.map .int)) := rfl
  have hne : neD (.tup [e, .loc (R.length + 15), .loc (R.length + 16), .int a.dp]) (.tup [e, .loc 3, .loc 4, .int a.dp]) (sto a a sc R1) = .ok (.bl false) (sto a a sc R1) :=
    ne_cont (r := .tup [e, .lsc (a.L.map .int), .lsc (a.d.map .int), .int a.dp]) (by simp [he, cont_loc, g1, g2, mapO_ints]) (by simp [he, cont_loc, g3, g4, mapO_ints]) (by simp)
  have s1 : (sto a a sc R1).set (R.length + 15) (.lst []) = sto a a sc (R ++ [.lst [], .lst (a.d.map .int)]) := by rw [sto_set]; simp [R1]
  have g5 : (sto a a sc (R ++ [.lst [], .lst (a.d.map .int)]))[R.length + 16]? = some (.lst (a.d.map .int)) := by rw [show R.length + 16 = R.length + 1 + 15 by omega, sto_get]; simp
  have s2 : (sto a a sc (R ++ [.lst [], .lst (a.d.map .int)])).set (R.length + 16) (.lst (a.d.map .int ++ [.int 7])) = sto a a sc (R ++ [.lst [], .lst (a.d.map .int ++ [.int 7])]) := by
    rw [show R.length + 16 = R.length + 1 + 15 by omega, sto_set]; simp [List.set_append]
  have hf : fit (a.d.length + 1) = true := fit_of (by omega)
  have hcl : clrD (.loc (R.length + 15)) (sto a a sc R1) = .ok .non (sto a a sc (R ++ [.lst [], .lst (a.d.map .int)])) := by
    unfold clrD
    rw [lstM_loc, g1]
    simp [s1]
  have t1 := tyD_lst g1
  have t2 := tyD_lst g5
  refine ⟨some (.tup [e, .loc (R.length + 15), .loc (R.length + 16), .int a.dp]), R ++ [.lst [], .lst (a.d.map .int ++ [.int 7])], ?_⟩
  have hr := result (a := a) (b := a) (sc := sc) (R := R) (e := e)
  change _ = Rz.ok _ (sto a a sc R1) at hr
  unfold l_law_told_0
  simp [chkI, hi, hr, e1, md, hne, isiQ, t1, hcl, t2, g5, s2, hf]
theorem told (hd : a.d.length ≤ 100000) : ∃ R', F_law_told [.loc 5, .loc 1, .int n] (sto a a sc R) = .ok (.bl true) (sto a a sc R') := by
  let es : List D := [.tup [.str "dry"], .tup [.str "value", .int n], .tup [.str "fault", .str "a", .int n, .int (n % 600)]]
  have e1 : ∀ R, (sto a a sc R)[1]? = some (md a) := fun _ => rfl
  have e5 : ∀ R, (sto a a sc R)[5]? = some (wd a) := fun _ => rfl
  obtain ⟨e, he, hc⟩ : ∃ e, L2.atI es (n % 3) = some e ∧ ∀ S, cont S 59 e = some e := by
    rcases (by omega : n % 3 = 0 ∨ n % 3 = 1 ∨ n % 3 = 2) with h | h | h
    · exact ⟨_, by rw [h]; rfl, fun S => by simp⟩
    · exact ⟨_, by rw [h]; rfl, fun S => by simp⟩
    · exact ⟨_, by rw [h]; rfl, fun S => by simp⟩
  obtain ⟨ρ', S', el, k, r, R', rfl, rfl⟩ := loopI_inv (k := kName 4) (s := l_law_told_0) (ds := rgD 0 2) (ρ := [some (.loc 5), some (.loc 1), some (.int n), some e, none, none]) (S := sto a a sc (R ++ [.lst es]))
    (fun i ρ S' => ∃ k r R', ρ = [some (.loc 5), some (.loc 1), some (.int n), some e, k, r] ∧ S' = sto a a sc R')
    (by
      rintro i d ρ S' hd' ⟨k, r, R', rfl, rfl⟩
      obtain ⟨r', R2, h⟩ := turn (n := n) (sc := sc) (R := R') (k := some d) (r := r) hd hc
      exact ⟨_, _, rfl, _, _, .inl h, _, _, _, rfl, rfl⟩) ⟨none, none, _, rfl, rfl⟩
  refine ⟨R', ?_⟩
  have hg : (sto a a sc (R ++ [.lst es]))[R.length + 15]? = some (.lst es) := by rw [sto_get]; simp
  unfold F_law_told b_law_told
  have hnew : newL es (sto a a sc R) = .ok (.loc (R.length + 15)) (sto a a sc (R ++ [.lst es])) := by rw [newL_e (by simp [es]), sto_len, sto_app]
  simp only [es] at he hg el hnew
  simp [startE, -newL_e, hnew, hg, he, cFor_e, el, e1, e5, md, wd]
end
end K13
end
section
namespace K13
open PySem PySem.Spec PyProof.Rows L2 Sm
theorem cell {ns : List Int} {k : Nat} {S : Sto} : F_law_cell [.lsc (ns.map .int), .int k] S = .ok (.int (ns.getD k 0)) S := by
  unfold F_law_cell b_law_cell
  by_cases h : k < ns.length
  · have h1 : (k : Int) < ns.length := by omega
    simp [startE, h1, List.getElem?_eq_getElem h, List.getD_eq_getElem?_getD]
  · have h1 : ¬ (k : Int) < ns.length := by omega
    simp [startE, h1, List.getElem?_eq_none (Nat.le_of_not_lt h), List.getD_eq_getElem?_getD]
theorem inputs (z : Int) (S : Sto) : ∃ is : List Int, F_law_inputs [.int z] S = .ok (.loc S.length) (S ++ [.lst (is.map .int)]) ∧ is.length ≤ 20 := by
  obtain ⟨ρ', S', e, n', k, is, rfl, rfl, hl⟩ := loopI_inv (k := kName 3) (s := l_law_inputs_0) (ds := rgD 0 (z % 21).toNat) (ρ := [some (.int z), some (.loc S.length), some (.int (z / 21)), none]) (S := S ++ [.lst []])
    (fun i ρ S' => ∃ n' k is, ρ = [some (.int z), some (.loc S.length), some (.int n'), k] ∧ S' = S ++ [.lst (is.map .int)] ∧ is.length = i)
    (by
      rintro i d ρ S' hd ⟨n', k, is, rfl, rfl, hl⟩
      obtain ⟨hi, rfl⟩ := rgD_get hd
      have hi2 : i < 21 := by omega
      have hf : fit (is.length + 1) = true := fit_of (by omega)
      refine ⟨_, _, rfl, [some (.int z), some (.loc S.length), some (.int (n' / 10 + 7 * (0 + (i : Nat)))), some (.int (0 + (i : Nat)))], S ++ [.lst ((is ++ [n' % (2 * 10 ^ 30 - 1) - 10 ^ 30 + 1]).map .int)], .inl ?_, _, _, _, rfl, rfl, by simp [hl]⟩
      simp [l_law_inputs_0, hf])
    ⟨z / 21, none, [], rfl, rfl, rfl⟩
  refine ⟨is, ?_, ?_⟩
  · unfold F_law_inputs b_law_inputs
    have hr : ∀ S : Sto, rng1 [.int (z % 21)] S = .ok (.items (rgD 0 (z % 21).toNat)) S := fun S => rng1_e (by omega) (by omega)
    simp [startE, cFor_e, hr, e]
  · rw [rgD_len] at hl; omega
end K13
end
section
namespace K13
open PySem PySem.Spec PyProof.Rows L2 Sm
structure Bd (a : Z) (n : Nat) : Prop where
  d : a.d.length ≤ n
  L : a.L.length ≤ n
  t : 0 ≤ a.t
  c : 0 ≤ a.c
  c5 : a.c ≤ 50
def env (x0 : D) (c nm k : Option D) : En := [some x0, some (.loc 0), some (.loc 1), some (.loc 5), some (.loc 10), c, nm, k]
theorem inner {sc : List D} {R : Sto} {a : Z} {n : Nat} {x0 : D} {z m : Int} {k : Option D} (r : Nat) (h : Bd a n) (hn : n + r ≤ 100000) : ∃ a' k', Bd a' (n + r) ∧ loopI (kName 7) l_law_1 (rgD 0 r) (env x0 (some (.int z)) (some (.int m)) k) (sto a a sc R) = .nx (env x0 (some (.int z)) (some (.int m)) k') (sto a' a' sc R) := by
  obtain ⟨ρ', S', e, a', k', rfl, rfl, hb⟩ := loopI_inv (k := kName 7) (s := l_law_1) (ds := rgD 0 r) (ρ := env x0 (some (.int z)) (some (.int m)) k) (S := sto a a sc R)
    (fun i ρ S' => ∃ a' k', ρ = env x0 (some (.int z)) (some (.int m)) k' ∧ S' = sto a' a' sc R ∧ Bd a' (n + i))
    (by
      rintro i d ρ S' hd ⟨a', k', rfl, rfl, hb⟩
      obtain ⟨hi, rfl⟩ := rgD_get hd
      obtain ⟨a2, e2, b1, b2, b3, b4, b5⟩ := deed (a := a') (sc := sc) (R := R) (n := m + 11 * (0 + (i : Nat))) (z % 6) (by omega) (by have := hb.d; omega) (by have := hb.L; omega) hb.t hb.c hb.c5
      refine ⟨_, _, rfl, env x0 (some (.int z)) (some (.int m)) (some (.int (0 + (i : Nat)))), sto a2 a2 sc R, .inl ?_, a2, _, rfl, rfl, ?_⟩
      · unfold env l_law_1
        simp at e2 ⊢
        simp [e2]
      · exact ⟨by have := hb.d; omega, by have := hb.L; omega, b3, b4, b5⟩)
    ⟨a, k, rfl, rfl, h⟩
  rw [rgD_len] at hb
  exact ⟨a', k', hb, e⟩
theorem outer {sc : List D} {R : Sto} {a : Z} {n : Nat} {x0 : D} {z : Int} {nm k : Option D} (h : Bd a n) (hn : n + 60 ≤ 100000) : ∃ a' R' nm' k', Bd a' (n + 60) ∧ l_law_0 (env x0 (some (.int z)) nm k) (sto a a sc R) = .nx (env x0 (some (.int z)) nm' k') (sto a' a' sc R') := by
  obtain ⟨a', k', hb, e⟩ := inner (sc := sc) (R := R) (x0 := x0) (z := z) (m := z / 360 % 10 ^ 40) (k := k) (1 + z / 6 % 60).toNat h (by omega)
  obtain ⟨R', e2⟩ := told (a := a') (sc := sc) (R := R) (n := z / 360 % 10 ^ 40) (by have := hb.d; omega)
  refine ⟨a', R', some (.int (z / 360 % 10 ^ 40)), k', ⟨by have := hb.d; omega, by have := hb.L; omega, hb.t, hb.c, hb.c5⟩, ?_⟩
  have hr : ∀ S : Sto, rng1 [.int (1 + z / 6 % 60)] S = .ok (.items (rgD 0 (1 + z / 6 % 60).toNat)) S := fun S => rng1_e (by omega) (by omega)
  unfold l_law_0
  unfold env at e ⊢
  simp at e e2
  simp [cFor_e, hr, e, e2]
end K13
end
section
namespace K13
open PySem PySem.Spec PyProof.Rows L2 Sm
theorem made (S : Sto) (i : Nat) (xs : List D) (m : Int) (hi : S[i]? = some (.lst xs)) :
    newI 0 3 F_World_init [.loc i, .int m] S = .ok (.loc S.length) (S ++ [.ins 0 [("inputs", .loc (S.length + 1)), ("most", .int m), ("log", .loc (S.length + 2)), ("deeds", .loc (S.length + 3)), ("calls", .int 0), ("deepest", .int 0), ("handed", .int 0)], .lst xs, .lst [], .lst []]) := by
  have hl : ∀ o, listD (.loc i) (S ++ [o]) = .ok (.loc (S.length + 1)) (S ++ [o, .lst xs]) := fun o => by
    rw [listD_loc (get_old hi)]
    simp
  rw [newI_e]
  unfold F_World_init b_World_init
  simp [startE, hl, putFD]
theorem result_b {a b : Z} {sc : List D} {R : Sto} {e : D} : F_World_result [.loc 10, e] (sto a b sc R) = .ok (.tup [e, .loc (R.length + 15), .loc (R.length + 16), .int 0]) (sto a b sc (R ++ [.lst [], .lst []])) := by
  have e5 : ∀ R, (sto a b sc R)[10]? = some wb := fun _ => rfl
  have e7 : ∀ R, (sto a b sc R)[12]? = some (.lst []) := fun _ => rfl
  have e8 : ∀ R, (sto a b sc R)[13]? = some (.lst []) := fun _ => rfl
  have l7 : ∀ R, listD (.loc 12) (sto a b sc R) = .ok (.loc (R.length + 15)) (sto a b sc (R ++ [.lst []])) := fun R => by rw [listD_loc (e7 R), sto_len, sto_app]
  have l8 : ∀ R, listD (.loc 13) (sto a b sc R) = .ok (.loc (R.length + 15)) (sto a b sc (R ++ [.lst []])) := fun R => by rw [listD_loc (e8 R), sto_len, sto_app]
  unfold F_World_result b_World_result
  simp [startE, e5, wb, l7, l8]
theorem take_b {a b : Z} {sc : List D} {R : Sto} : ∃ S', F_World_take [.loc 10] (sto a b sc R) = .ok (.int 5) S' := by
  unfold F_World_take b_World_take sto
  simp [startE, wb, putFD]
theorem fin {a : Z} {sc : List D} {R : Sto} {ρ : En} (h : ρ[4]? = some (some (.loc 10))) : ∃ S', cRet (cAnd (cOp eqD (cMeth 0 "result" 2 F_World_result (cVar 4) (cCons (cTup (cCons (cC (.str "dry")) cNil)) cNil)) (cTup (cCons (cTup (cCons (cC (.str "dry")) cNil)) (cCons (cLst cNil) (cCons (cLst cNil) (cCons (cC (.int 0)) cNil)))))) (cOp eqD (cMeth 0 "take" 1 F_World_take (cVar 4) cNil) (cC (.int 5)))) ρ (sto a a sc R) = .ret (.bl true) S' := by
  obtain ⟨S', ht⟩ := take_b (a := a) (b := a) (sc := sc) (R := R ++ [.lst [], .lst [], .lst [], .lst []])
  have h1 : ∀ R, insG 0 "result" (.loc 10) (sto a a sc R) = true := fun R => by simp [insG, sto, wb]
  have h2 : ∀ R, insG 0 "take" (.loc 10) (sto a a sc R) = true := fun R => by simp [insG, sto, wb]
  have hnew : ∀ R, newL [] (sto a a sc R) = .ok (.loc (R.length + 15)) (sto a a sc (R ++ [.lst []])) := fun R => by rw [newL_e (by simp), sto_len, sto_app]
  have g0 : (sto a a sc (R ++ [.lst [], .lst [], .lst [], .lst []]))[R.length + 15]? = some (.lst []) := by rw [sto_get]; simp
  have g1 : (sto a a sc (R ++ [.lst [], .lst [], .lst [], .lst []]))[R.length + 16]? = some (.lst []) := by rw [show R.length + 16 = R.length + 1 + 15 by omega, sto_get]; simp
  have g2 : (sto a a sc (R ++ [.lst [], .lst [], .lst [], .lst []]))[R.length + 17]? = some (.lst []) := by rw [show R.length + 17 = R.length + 2 + 15 by omega, sto_get]; simp
  have g3 : (sto a a sc (R ++ [.lst [], .lst [], .lst [], .lst []]))[R.length + 18]? = some (.lst []) := by rw [show R.length + 18 = R.length + 3 + 15 by omega, sto_get]; simp
  have he : eqD (.tup [.tup [.str "dry"], .loc (R.length + 15), .loc (R.length + 16), .int 0]) (.tup [.tup [.str "dry"], .loc (R.length + 17), .loc (R.length + 18), .int 0]) (sto a a sc (R ++ [.lst [], .lst [], .lst [], .lst []])) = .ok (.bl true) (sto a a sc (R ++ [.lst [], .lst [], .lst [], .lst []])) :=
    eq_cont (r := .tup [.tup [.str "dry"], .lsc [], .lsc [], .int 0]) (by simp [cont_loc, g0, g1]) (by simp [cont_loc, g2, g3]) (by simp)
  refine ⟨S', ?_⟩
  simp [h, chkI, h1, h2, result_b, -newL_e, hnew, he, ht]
def sto0 (is : List Int) (m : Int) : Sto := [.lst (is.map .int), .dct [(.inr "inputs", .loc 2), (.inr "taken", .int 0), (.inr "log", .loc 3), (.inr "deeds", .loc 4), (.inr "calls", .int 0), (.inr "deepest", .int 0), (.inr "most", .int m)], .lst (is.map .int), .lst [], .lst []]
def z0 (is : List Int) (m : Int) : Z := ⟨is, m, 0, 0, 0, [], []⟩
theorem plain : ∀ ns : List Int, ns.length ≤ 63 → (∀ z ∈ ns, Builtin.Int.intBits z ≤ 1048576) → ∃ S', F_law [.lsc (ns.map .int)] [] = .ok (.bl true) S' := by
  intro ns hn hb
  obtain ⟨is, hi, hil⟩ := inputs (ns.getD 0 0) []
  simp only [List.nil_append, List.length_nil] at hi
  have hc0 : ∀ S, F_law_cell [.lsc (ns.map .int), .int 0] S = .ok (.int (ns.getD 0 0)) S := fun S => cell (k := 0)
  have hc1 : ∀ S, F_law_cell [.lsc (ns.map .int), .int 1] S = .ok (.int (ns.getD 1 0)) S := fun S => cell (k := 1)
  generalize ns.getD 0 0 = c0 at hi hc0
  generalize ns.getD 1 0 = c1 at hc1
  -- the loop
  have key : ∀ m : Int, ∃ a' R' c' nm' k', loopV (kName 5) l_law_0 (liveX 14) (Sm.cutD (ns.map D.int) none (some 40)).length 0 (env (.lsc (ns.map .int)) none none none) (sto (z0 is m) (z0 is m) (Sm.cutD (ns.map D.int) none (some 40)) []) =
      .nx (env (.lsc (ns.map .int)) c' nm' k') (sto a' a' (Sm.cutD (ns.map D.int) none (some 40)) R') := fun m => by
    obtain ⟨ρ', S', e, a', R', c', nm', k', rfl, rfl, _⟩ := loopV_inv (k := kName 5) (s := l_law_0) (nx := liveX 14) (ds := Sm.cutD (ns.map D.int) none (some 40)) (ρ := env (.lsc (ns.map .int)) none none none) (S := sto (z0 is m) (z0 is m) (Sm.cutD (ns.map D.int) none (some 40)) [])
      (fun i ρ S' => ∃ a' R' c' nm' k', ρ = env (.lsc (ns.map .int)) c' nm' k' ∧ S' = sto a' a' (Sm.cutD (ns.map D.int) none (some 40)) R' ∧ Bd a' (60 * i))
      (by rintro i ρ S ⟨a', R', c', nm', k', rfl, rfl, hb⟩; rfl)
      (by
        rintro i d ρ S hd ⟨a', R', c', nm', k', rfl, rfl, hb⟩
        obtain ⟨z, hz, rfl⟩ := cut_int hd
        have hi40 : i < 63 := by
          have := (List.getElem?_eq_some_iff.mp hd).1
          have h2 : (Sm.cutD (ns.map D.int) none (some 40)).length ≤ (ns.map D.int).length := by
            unfold Sm.cutD
            simp only [List.length_drop, List.length_take]
            omega
          simp at h2
          omega
        obtain ⟨a2, R2, nm2, k2, hb2, e2⟩ := outer (sc := Sm.cutD (ns.map D.int) none (some 40)) (R := R') (x0 := .lsc (ns.map .int)) (z := z) (nm := nm') (k := k') hb (by omega)
        refine ⟨env (.lsc (ns.map .int)) (some (.int z)) nm' k', sto a' a' (Sm.cutD (ns.map D.int) none (some 40)) R', rfl, _, _, .inl e2, a2, R2, _, _, _, rfl, rfl, ?_⟩
        rw [show 60 * (i + 1) = 60 * i + 60 by omega]
        exact hb2)
      ⟨z0 is m, [], none, none, none, rfl, rfl, by simp [z0], by simp [z0], by simp [z0], by simp [z0], by simp [z0]⟩
    exact ⟨a', R', c', nm', k', e⟩
  -- behind it
  have hmk0 : ∀ m : Int, newI 0 3 F_World_init [.loc 0, .int m] (sto0 is m) = .ok (.loc 5) (sto0 is m ++ [wd (z0 is m), .lst (is.map .int), .lst [], .lst []]) := fun m => made (sto0 is m) 0 (is.map .int) m rfl
  have hmk1 : ∀ m : Int, newI 0 3 F_World_init [.loc 9, .int 1000] (.lst [] :: (sto0 is m).tail ++ [wd (z0 is m), .lst (is.map .int), .lst [], .lst [], .lst [.int 5]]) = .ok (.loc 10) (.lst [] :: (sto0 is m).tail ++ [wd (z0 is m), .lst (is.map .int), .lst [], .lst [], .lst [.int 5], wb, .lst [.int 5], .lst [], .lst []]) := fun m =>
    made (.lst [] :: (sto0 is m).tail ++ [wd (z0 is m), .lst (is.map .int), .lst [], .lst [], .lst [.int 5]]) 9 [.int 5] 1000 rfl
  have hl0 : ∀ o, listD (.loc 0) [.lst (is.map .int), o] = .ok (.loc 2) [.lst (is.map .int), o, .lst (is.map .int)] := fun o => listD_loc (S := [.lst (is.map .int), o]) (l := 0) rfl
  have hdisp : dispF 1 [(.str "inputs", .loc 2), (.str "taken", .int 0), (.str "log", .loc 3), (.str "deeds", .loc 4), (.str "calls", .int 0), (.str "deepest", .int 0)] [.lst (is.map D.int), .dct [], .lst (is.map D.int), .lst [], .lst []] =
      .ok (.loc 1) [.lst (is.map D.int), .dct [(.inr "inputs", .loc 2), (.inr "taken", .int 0), (.inr "log", .loc 3), (.inr "deeds", .loc 4), (.inr "calls", .int 0), (.inr "deepest", .int 0)], .lst (is.map D.int), .lst [], .lst []] := by
    rw [dispF_e (kvs := [(.inr "inputs", .loc 2), (.inr "taken", .int 0), (.inr "log", .loc 3), (.inr "deeds", .loc 4), (.inr "calls", .int 0), (.inr "deepest", .int 0)]) rfl (by simp) (by simp)]
    simp [mergeD, putD]
  unfold F_law b_law
  by_cases h : c1 % 2 = 0
  · obtain ⟨a', R', c', nm', k', e⟩ := key 1000
    obtain ⟨S', hf⟩ := fin (a := a') (sc := Sm.cutD (ns.map D.int) none (some 40)) (R := R') (ρ := env (.lsc (ns.map .int)) c' nm' k') rfl
    refine ⟨S', ?_⟩
    have m0 := hmk0 1000
    have m1 := hmk1 1000
    generalize hN : newI 0 3 F_World_init = N at m0 m1
    unfold sto0 at m0 m1
    generalize hT : sto a' a' (Sm.cutD (ns.map D.int) none (some 40)) R' = T at e hf
    unfold env at e hf
    unfold sto z0 md wd at e
    unfold z0 wd at m0 m1
    simp at e m0 m1
    simp [startE, hc0, hi, hl0, hdisp, putD, hc1, h, m0, clrD, cFor_e, m1, -cRet_e]
    rw [e]
    simp only [sq_nx, hf, toR_ret]
  · obtain ⟨a', R', c', nm', k', e⟩ := key (c1 / 2 % 2001)
    obtain ⟨S', hf⟩ := fin (a := a') (sc := Sm.cutD (ns.map D.int) none (some 40)) (R := R') (ρ := env (.lsc (ns.map .int)) c' nm' k') rfl
    refine ⟨S', ?_⟩
    have m0 := hmk0 (c1 / 2 % 2001)
    have m1 := hmk1 (c1 / 2 % 2001)
    generalize hN : newI 0 3 F_World_init = N at m0 m1
    unfold sto0 at m0 m1
    generalize hT : sto a' a' (Sm.cutD (ns.map D.int) none (some 40)) R' = T at e hf
    unfold env at e hf
    unfold sto z0 md wd at e
    unfold z0 wd at m0 m1
    simp at e m0 m1
    simp [startE, hc0, hi, hl0, hdisp, putD, hc1, h, m0, clrD, cFor_e, m1, -cRet_e]
    rw [e]
    simp only [sq_nx, hf, toR_ret]
end K13
end
end
section
namespace K13
open PySem PySem.Spec PyProof.Rows L2 Sm
def top (i : Nat) : Stmt := PySem.Challenge.pw_spacewright_k13_a_world.main.body.getD i (.Pass ⟨0, 0, 0, 0⟩)
abbrev st_law_cell : Stmt := top 7
theorem sc_law_cell : FnScope ["_law_script", "_law_k"] ["_law_script", "_law_k"] (defScope st_law_cell) := ⟨rfl, rfl, rfl, by decide +kernel, rfl, by decide +kernel, by decide +kernel⟩
abbrev st_law_inputs : Stmt := top 8
theorem sc_law_inputs : FnScope ["_law_cell_here", "_law_found", "_law_number", "_law_k"] ["_law_cell_here"] (defScope st_law_inputs) := ⟨rfl, rfl, rfl, by decide +kernel, rfl, by decide +kernel, by decide +kernel⟩
abbrev st_law_ended : Stmt := top 9
theorem sc_law_ended : FnScope ["_law_world", "_law_word", "_law_place", "_law_told_here", "e"] ["_law_world", "_law_word", "_law_place"] (defScope st_law_ended) := ⟨rfl, rfl, rfl, by decide +kernel, rfl, by decide +kernel, by decide +kernel⟩
abbrev st_law_noted : Stmt := top 10
theorem sc_law_noted : FnScope ["_law_world", "_law_model", "_law_place"] ["_law_world", "_law_model", "_law_place"] (defScope st_law_noted) := ⟨rfl, rfl, rfl, by decide +kernel, rfl, by decide +kernel, by decide +kernel⟩
abbrev st_law_taken : Stmt := top 11
theorem sc_law_taken : FnScope ["_law_world", "_law_model", "_law_due"] ["_law_world", "_law_model"] (defScope st_law_taken) := ⟨rfl, rfl, rfl, by decide +kernel, rfl, by decide +kernel, by decide +kernel⟩
abbrev st_law_entered : Stmt := top 12
theorem sc_law_entered : FnScope ["_law_world", "_law_model", "_law_place"] ["_law_world", "_law_model", "_law_place"] (defScope st_law_entered) := ⟨rfl, rfl, rfl, by decide +kernel, rfl, by decide +kernel, by decide +kernel⟩
abbrev st_law_closed : Stmt := top 13
theorem sc_law_closed : FnScope ["_law_world", "_law_model", "_law_number"] ["_law_world", "_law_model", "_law_number"] (defScope st_law_closed) := ⟨rfl, rfl, rfl, by decide +kernel, rfl, by decide +kernel, by decide +kernel⟩
abbrev st_law_deed : Stmt := top 14
theorem sc_law_deed : FnScope ["_law_world", "_law_model", "_law_way", "_law_number"] ["_law_world", "_law_model", "_law_way", "_law_number"] (defScope st_law_deed) := ⟨rfl, rfl, rfl, by decide +kernel, rfl, by decide +kernel, by decide +kernel⟩
abbrev st_law_told : Stmt := top 15
theorem sc_law_told : FnScope ["_law_world", "_law_model", "_law_number", "_law_end", "_law_again", "_law_run"] ["_law_world", "_law_model", "_law_number"] (defScope st_law_told) := ⟨rfl, rfl, rfl, by decide +kernel, rfl, by decide +kernel, by decide +kernel⟩
abbrev st_law : Stmt := top 16
theorem sc_law : FnScope ["_law_script", "_law_inputs_here", "_law_model", "_law_world", "_law_beside", "_law_cell_here", "_law_number", "_law_k"] ["_law_script"] (defScope st_law) := ⟨rfl, rfl, rfl, by decide +kernel, rfl, by decide +kernel, by decide +kernel⟩
abbrev st_World_init : Stmt := inClass (top 5) 0
theorem sc_World_init : FnScope ["self", "inputs", "most"] ["self", "inputs", "most"] (defScope st_World_init) := ⟨rfl, rfl, rfl, by decide +kernel, rfl, by decide +kernel, by decide +kernel⟩
abbrev st_World_note : Stmt := inClass (top 5) 1
theorem sc_World_note : FnScope ["self", "place"] ["self", "place"] (defScope st_World_note) := ⟨rfl, rfl, rfl, by decide +kernel, rfl, by decide +kernel, by decide +kernel⟩
abbrev st_World_take : Stmt := inClass (top 5) 2
theorem sc_World_take : FnScope ["self"] ["self"] (defScope st_World_take) := ⟨rfl, rfl, rfl, by decide +kernel, rfl, by decide +kernel, by decide +kernel⟩
abbrev st_World_say : Stmt := inClass (top 5) 3
theorem sc_World_say : FnScope ["self", "number"] ["self", "number"] (defScope st_World_say) := ⟨rfl, rfl, rfl, by decide +kernel, rfl, by decide +kernel, by decide +kernel⟩
abbrev st_World_enter : Stmt := inClass (top 5) 4
theorem sc_World_enter : FnScope ["self", "place"] ["self", "place"] (defScope st_World_enter) := ⟨rfl, rfl, rfl, by decide +kernel, rfl, by decide +kernel, by decide +kernel⟩
abbrev st_World_leave : Stmt := inClass (top 5) 5
theorem sc_World_leave : FnScope ["self"] ["self"] (defScope st_World_leave) := ⟨rfl, rfl, rfl, by decide +kernel, rfl, by decide +kernel, by decide +kernel⟩
abbrev st_World_drop_to : Stmt := inClass (top 5) 6
theorem sc_World_drop_to : FnScope ["self", "many"] ["self", "many"] (defScope st_World_drop_to) := ⟨rfl, rfl, rfl, by decide +kernel, rfl, by decide +kernel, by decide +kernel⟩
abbrev st_World_result : Stmt := inClass (top 5) 7
theorem sc_World_result : FnScope ["self", "end"] ["self", "end"] (defScope st_World_result) := ⟨rfl, rfl, rfl, by decide +kernel, rfl, by decide +kernel, by decide +kernel⟩
abbrev st_x_Ended : Stmt := inClass (top 2) 0
theorem sc_x_Ended : FnScope ["self", "end"] ["self", "end"] (defScope st_x_Ended) := ⟨rfl, rfl, rfl, by decide +kernel, rfl, by decide +kernel, by decide +kernel⟩
abbrev gx (K : PySem.W.Frag) (C0 C1 : Addr) : Gx := ⟨K, Sm.pick [C0, C1], fun _ => 0⟩
structure Tx (K : PySem.W.Frag) (mg : Str → Option Value) (C0 C1 : Addr) : Type where
  d_law_cell : FnT K mg "_law_cell" st_law_cell ["_law_script", "_law_k"]
  d_law_inputs : FnT K mg "_law_inputs" st_law_inputs ["_law_cell_here"]
  d_law_ended : FnT K mg "_law_ended" st_law_ended ["_law_world", "_law_word", "_law_place"]
  d_law_noted : FnT K mg "_law_noted" st_law_noted ["_law_world", "_law_model", "_law_place"]
  d_law_taken : FnT K mg "_law_taken" st_law_taken ["_law_world", "_law_model"]
  d_law_entered : FnT K mg "_law_entered" st_law_entered ["_law_world", "_law_model", "_law_place"]
  d_law_closed : FnT K mg "_law_closed" st_law_closed ["_law_world", "_law_model", "_law_number"]
  d_law_deed : FnT K mg "_law_deed" st_law_deed ["_law_world", "_law_model", "_law_way", "_law_number"]
  d_law_told : FnT K mg "_law_told" st_law_told ["_law_world", "_law_model", "_law_number"]
  d_law : FnT K mg "law" st_law ["_law_script"]
  i_World : InX K mg C0 "World" "World.__init__" st_World_init ["self", "inputs", "most"] [.int 1000]
  m_World_note : MeT K C0 "note" "World.note" st_World_note ["self", "place"]
  m_World_take : MeT K C0 "take" "World.take" st_World_take ["self"]
  m_World_say : MeT K C0 "say" "World.say" st_World_say ["self", "number"]
  m_World_enter : MeT K C0 "enter" "World.enter" st_World_enter ["self", "place"]
  m_World_leave : MeT K C0 "leave" "World.leave" st_World_leave ["self"]
  m_World_drop_to : MeT K C0 "drop_to" "World.drop_to" st_World_drop_to ["self", "many"]
  m_World_result : MeT K C0 "result" "World.result" st_World_result ["self", "end"]
  x_Ended : XnT K mg C1 "Ended" "Ended.__init__" st_x_Ended "end" "end"
  b_SpaceError : BaT K mg "SpaceError"
  z_isinstance : mg "isinstance" = none
  z_len : mg "len" = none
  z_list : mg "list" = none
  z_max : mg "max" = none
  z_range : mg "range" = none
  z_tuple : mg "tuple" = none
  g_MOST_CALLS : ∃ t, mg "MOST_CALLS" = some (.int (50) t)
  tb : TabOk (gx K C0 C1) tab
  jt : IsTab (gx K C0 C1) isT
section
variable {P : Program} {w : World} {K : PySem.W.Frag} {mg : Str → Option Value} {base : Heap} {C0 C1 : Addr}
theorem xok_Ended (T : Tx K mg C0 C1) : FnOk P w K mg base (L2.CX P w) 1 T.x_Ended.fn T.x_Ended.fd ["self", "end"] (spX C1 "end") :=
  ok_xinit T.x_Ended sc_x_Ended fun cdv A outer s0 H E =>
    pss_cons (ps_expr (pe_binit T.b_SpaceError rfl (pa_cons (pv 0) (pa_cons pe_str pa_nil)))) (pss_one (ps_ost (pv 0) (pv 1)))
theorem ok_law_cell (T : Tx K mg C0 C1) : FnOk P w K mg base (L2.CX P w) (1) T.d_law_cell.fn T.d_law_cell.fd ["_law_script", "_law_k"] (spF (gx K C0 C1) 2 F_law_cell) := by
  exact fn_do (k := 0) T.d_law_cell.F sc_law_cell rfl rfl fun cdv A outer s0 H E hr =>
    dss_cons (ds_if (dt_cmp op_lt lt_ok (de_var 1) (de_len rfl T.z_len (da_cons (de_var 0) da_nil))) (dss_one (ds_ret (de_ix rfl hr (de_var 0) (de_var 1)))) (dss_nil)) <|
    dss_one (ds_ret (de_int))
theorem ok_law_inputs (T : Tx K mg C0 C1) : FnOk P w K mg base (L2.CX P w) (1) T.d_law_inputs.fn T.d_law_inputs.fd ["_law_cell_here"] (spF (gx K C0 C1) 1 F_law_inputs) := by
  exact fn_do (k := 0) T.d_law_inputs.F sc_law_inputs rfl rfl fun cdv A outer s0 H E hr =>
    dss_cons (ds_set 1 sc_law_inputs.nd (de_lst da_nil)) <|
    dss_cons (ds_set 2 sc_law_inputs.nd (de_fdiv (de_var 0) (de_int))) <|
    dss_cons (ds_for (passes_of rfl) rfl (di_range1 T.z_range (da_cons (de_mod (de_var 0) (de_int)) da_nil)) (dg_name 3 sc_law_inputs.nd) (dss_cons (ds_expr (de_mt PySem.F.plainAttrs_list PySem.F.slot_list_append PySem.F.type_list_append mt_append app_ok rfl (de_var 1) (da_cons (de_add rfl (de_sub (de_mod (de_var 2) (de_sub (de_mul (de_int) (de_pow (de_int) (de_int))) (de_int))) (de_pow (de_int) (de_int))) (de_int)) da_nil))) <|
    dss_one (ds_set 2 sc_law_inputs.nd (de_add rfl (de_fdiv (de_var 2) (de_int)) (de_mul (de_int) (de_var 3)))))) <|
    dss_one (ds_ret (de_var 1))
theorem ok_World_enter (T : Tx K mg C0 C1) : FnOk P w K mg base (L2.CX P w) (3) T.m_World_enter.fn T.m_World_enter.fd ["self", "place"] (spF (gx K C0 C1) 2 F_World_enter) := by
  have GX_Ended := xok_Ended (P := P) (w := w) (base := base) T
  exact fn_do (k := 2) T.m_World_enter.F sc_World_enter rfl rfl fun cdv A outer s0 H E hr =>
    dss_cons (ds_if (dt_cmp op_ge ge_ok (de_fld T.tb rfl (de_var 0)) (de_glob T.g_MOST_CALLS.choose_spec (cst_int _ _))) (dss_one (ds_raise (c := 1) T.x_Ended GX_Ended rfl (takes_of rfl rfl rfl rfl) (hr.mono (by omega)) (de_tup (da_cons (de_str) (da_cons (de_var 1) da_nil))))) (dss_nil)) <|
    dss_cons (ds_augF T.tb rfl in_addI addI_ok (de_var 0) (de_int)) <|
    dss_one (ds_fld T.tb rfl (de_var 0) (de_callB (call_max2 rfl) max_ok T.z_max PyProof.Rows.boot_max (da_cons (de_fld T.tb rfl (de_var 0)) (da_cons (de_fld T.tb rfl (de_var 0)) da_nil))))
theorem ok_World_note (T : Tx K mg C0 C1) : FnOk P w K mg base (L2.CX P w) (3) T.m_World_note.fn T.m_World_note.fd ["self", "place"] (spF (gx K C0 C1) 2 F_World_note) := by
  have GX_Ended := xok_Ended (P := P) (w := w) (base := base) T
  exact fn_do (k := 2) T.m_World_note.F sc_World_note rfl rfl fun cdv A outer s0 H E hr =>
    dss_cons (ds_if (dt_cmp op_ge ge_ok (de_len rfl T.z_len (da_cons (de_fld T.tb rfl (de_var 0)) da_nil)) (de_fld T.tb rfl (de_var 0))) (dss_one (ds_raise (c := 1) T.x_Ended GX_Ended rfl (takes_of rfl rfl rfl rfl) (hr.mono (by omega)) (de_tup (da_cons (de_str) da_nil)))) (dss_nil)) <|
    dss_one (ds_expr (de_mt PySem.F.plainAttrs_list PySem.F.slot_list_append PySem.F.type_list_append mt_append app_ok rfl (de_fld T.tb rfl (de_var 0)) (da_cons (de_var 1) da_nil)))
theorem ok_law_ended (T : Tx K mg C0 C1) : FnOk P w K mg base (L2.CX P w) (4) T.d_law_ended.fn T.d_law_ended.fd ["_law_world", "_law_word", "_law_place"] (spF (gx K C0 C1) 3 F_law_ended) := by
  have G_World_enter := ok_World_enter (P := P) (w := w) (base := base) T
  have G_World_note := ok_World_note (P := P) (w := w) (base := base) T
  have GX_Ended := xok_Ended (P := P) (w := w) (base := base) T
  exact fn_do (k := 3) T.d_law_ended.F sc_law_ended rfl rfl fun cdv A outer s0 H E hr =>
    dss_cons (ds_set 3 sc_law_ended.nd (de_non)) <|
    dss_cons (ds_tryF (c := 1) 4 3 T.x_Ended rfl rfl rfl sc_law_ended.nd (takes_of rfl rfl rfl rfl) (fun W1 pn1 xe1 tk1 hp1 => dss_one (ds_if (dt_cmp (op_eqA rfl hr) eq_ok (de_var 1) (de_str)) (dss_one (ds_expr (de_meth (c := 0) T.i_World.cl T.m_World_note.m G_World_note (hr.mono (by omega)) T.m_World_note.b tk1 (de_var 0) (da_cons (de_var 2) da_nil)))) (dss_one (ds_expr (de_meth (c := 0) T.i_World.cl T.m_World_enter.m G_World_enter (hr.mono (by omega)) T.m_World_enter.b tk1 (de_var 0) (da_cons (de_var 2) da_nil))))))) <|
    dss_one (ds_ret (de_var 3))
theorem ok_law_noted (T : Tx K mg C0 C1) : FnOk P w K mg base (L2.CX P w) (5) T.d_law_noted.fn T.d_law_noted.fd ["_law_world", "_law_model", "_law_place"] (spF (gx K C0 C1) 3 F_law_noted) := by
  have G_law_ended := ok_law_ended (P := P) (w := w) (base := base) T
  exact fn_do (k := 4) T.d_law_noted.F sc_law_noted rfl rfl fun cdv A outer s0 H E hr =>
    dss_cons (ds_if (dt_cmp op_ge ge_ok (de_len rfl T.z_len (da_cons (de_ix rfl hr (de_var 1) (de_str)) da_nil)) (de_ix rfl hr (de_var 1) (de_str))) (dss_one (ds_ret (de_cmp (op_eqA rfl hr) eq_ok (de_fn G_law_ended (hr.mono (by omega)) T.d_law_ended.m T.d_law_ended.k T.d_law_ended.b (takes_of rfl rfl rfl rfl) (da_cons (de_var 0) (da_cons (de_str) (da_cons (de_var 2) da_nil)))) (de_tup (da_cons (de_str) da_nil))))) (dss_nil)) <|
    dss_cons (ds_expr (de_mt PySem.F.plainAttrs_list PySem.F.slot_list_append PySem.F.type_list_append mt_append app_ok rfl (de_ix rfl hr (de_var 1) (de_str)) (da_cons (de_var 2) da_nil))) <|
    dss_one (ds_ret (de_cmp op_isN isN_ok (de_fn G_law_ended (hr.mono (by omega)) T.d_law_ended.m T.d_law_ended.k T.d_law_ended.b (takes_of rfl rfl rfl rfl) (da_cons (de_var 0) (da_cons (de_str) (da_cons (de_var 2) da_nil)))) (de_non)))
theorem ok_World_take (T : Tx K mg C0 C1) : FnOk P w K mg base (L2.CX P w) (1) T.m_World_take.fn T.m_World_take.fd ["self"] (spF (gx K C0 C1) 1 F_World_take) := by
  exact fn_do (k := 0) T.m_World_take.F sc_World_take rfl rfl fun cdv A outer s0 H E hr =>
    dss_cons (ds_if (dt_cmp op_ge ge_ok (de_fld T.tb rfl (de_var 0)) (de_len rfl T.z_len (da_cons (de_fld T.tb rfl (de_var 0)) da_nil))) (dss_one (ds_ret (de_int))) (dss_nil)) <|
    dss_cons (ds_augF T.tb rfl in_addI addI_ok (de_var 0) (de_int)) <|
    dss_one (ds_ret (de_ix rfl hr (de_fld T.tb rfl (de_var 0)) (de_sub (de_fld T.tb rfl (de_var 0)) (de_int))))
theorem ok_law_taken (T : Tx K mg C0 C1) : FnOk P w K mg base (L2.CX P w) (2) T.d_law_taken.fn T.d_law_taken.fd ["_law_world", "_law_model"] (spF (gx K C0 C1) 2 F_law_taken) := by
  have G_World_take := ok_World_take (P := P) (w := w) (base := base) T
  exact fn_do (k := 1) T.d_law_taken.F sc_law_taken rfl rfl fun cdv A outer s0 H E hr =>
    dss_cons (ds_set 2 sc_law_taken.nd (de_int)) <|
    dss_cons (ds_if (dt_cmp op_lt lt_ok (de_ix rfl hr (de_var 1) (de_str)) (de_len rfl T.z_len (da_cons (de_ix rfl hr (de_var 1) (de_str)) da_nil))) (dss_cons (ds_set 2 sc_law_taken.nd (de_ix rfl hr (de_ix rfl hr (de_var 1) (de_str)) (de_ix rfl hr (de_var 1) (de_str)))) <|
    dss_one (ds_st hr (de_var 1) (de_str) (de_add rfl (de_ix rfl hr (de_var 1) (de_str)) (de_int)))) (dss_nil)) <|
    dss_one (ds_ret (de_cmp (op_eqA rfl hr) eq_ok (de_meth0 (c := 0) T.i_World.cl T.m_World_take.m G_World_take (hr.mono (by omega)) T.m_World_take.b (takes_of rfl rfl rfl rfl) (de_var 0)) (de_var 2)))
theorem ok_law_entered (T : Tx K mg C0 C1) : FnOk P w K mg base (L2.CX P w) (5) T.d_law_entered.fn T.d_law_entered.fd ["_law_world", "_law_model", "_law_place"] (spF (gx K C0 C1) 3 F_law_entered) := by
  have G_law_ended := ok_law_ended (P := P) (w := w) (base := base) T
  exact fn_do (k := 4) T.d_law_entered.F sc_law_entered rfl rfl fun cdv A outer s0 H E hr =>
    dss_cons (ds_if (dt_cmp (op_eqA rfl hr) eq_ok (de_ix rfl hr (de_var 1) (de_str)) (de_int)) (dss_one (ds_ret (de_cmp (op_eqA rfl hr) eq_ok (de_fn G_law_ended (hr.mono (by omega)) T.d_law_ended.m T.d_law_ended.k T.d_law_ended.b (takes_of rfl rfl rfl rfl) (da_cons (de_var 0) (da_cons (de_str) (da_cons (de_var 2) da_nil)))) (de_tup (da_cons (de_str) (da_cons (de_var 2) da_nil)))))) (dss_nil)) <|
    dss_cons (ds_st hr (de_var 1) (de_str) (de_add rfl (de_ix rfl hr (de_var 1) (de_str)) (de_int))) <|
    dss_cons (ds_st hr (de_var 1) (de_str) (de_callB (call_max2 rfl) max_ok T.z_max PyProof.Rows.boot_max (da_cons (de_ix rfl hr (de_var 1) (de_str)) (da_cons (de_ix rfl hr (de_var 1) (de_str)) da_nil)))) <|
    dss_one (ds_ret (de_cmp op_isN isN_ok (de_fn G_law_ended (hr.mono (by omega)) T.d_law_ended.m T.d_law_ended.k T.d_law_ended.b (takes_of rfl rfl rfl rfl) (da_cons (de_var 0) (da_cons (de_str) (da_cons (de_var 2) da_nil)))) (de_non)))
theorem ok_World_drop_to (T : Tx K mg C0 C1) : FnOk P w K mg base (L2.CX P w) (1) T.m_World_drop_to.fn T.m_World_drop_to.fd ["self", "many"] (spF (gx K C0 C1) 2 F_World_drop_to) := by
  exact fn_do (k := 0) T.m_World_drop_to.F sc_World_drop_to rfl rfl fun cdv A outer s0 H E hr =>
    dss_one (ds_fld T.tb rfl (de_var 0) (de_var 1))
theorem ok_World_leave (T : Tx K mg C0 C1) : FnOk P w K mg base (L2.CX P w) (1) T.m_World_leave.fn T.m_World_leave.fd ["self"] (spF (gx K C0 C1) 1 F_World_leave) := by
  exact fn_do (k := 0) T.m_World_leave.F sc_World_leave rfl rfl fun cdv A outer s0 H E hr =>
    dss_one (ds_augF T.tb rfl in_subI subI_ok (de_var 0) (de_int))
theorem ok_law_closed (T : Tx K mg C0 C1) : FnOk P w K mg base (L2.CX P w) (2) T.d_law_closed.fn T.d_law_closed.fd ["_law_world", "_law_model", "_law_number"] (spF (gx K C0 C1) 3 F_law_closed) := by
  have G_World_drop_to := ok_World_drop_to (P := P) (w := w) (base := base) T
  have G_World_leave := ok_World_leave (P := P) (w := w) (base := base) T
  exact fn_do (k := 1) T.d_law_closed.F sc_law_closed rfl rfl fun cdv A outer s0 H E hr =>
    dss_cons (ds_if (dt_pw (dw_and (dt_cmp (op_eqA rfl hr) eq_ok (de_mod (de_var 2) (de_int)) (de_int)) (dw_and1 (dt_cmp op_gt gt_ok (de_ix rfl hr (de_var 1) (de_str)) (de_int))))) (dss_cons (ds_expr (de_meth0 (c := 0) T.i_World.cl T.m_World_leave.m G_World_leave (hr.mono (by omega)) T.m_World_leave.b (takes_of rfl rfl rfl rfl) (de_var 0))) <|
    dss_one (ds_st hr (de_var 1) (de_str) (de_sub (de_ix rfl hr (de_var 1) (de_str)) (de_int)))) (dss_one (ds_if (dt_cmp (op_eqA rfl hr) eq_ok (de_mod (de_var 2) (de_int)) (de_int)) (dss_cons (ds_st hr (de_var 1) (de_str) (de_mod (de_fdiv (de_var 2) (de_int)) (de_add rfl (de_ix rfl hr (de_var 1) (de_str)) (de_int)))) <|
    dss_one (ds_expr (de_meth (c := 0) T.i_World.cl T.m_World_drop_to.m G_World_drop_to (hr.mono (by omega)) T.m_World_drop_to.b (takes_of rfl rfl rfl rfl) (de_var 0) (da_cons (de_ix rfl hr (de_var 1) (de_str)) da_nil)))) (dss_nil)))) <|
    dss_one (ds_ret (de_cmp (op_eqA rfl hr) eq_ok (de_fld T.tb rfl (de_var 0)) (de_ix rfl hr (de_var 1) (de_str))))
theorem ok_World_say (T : Tx K mg C0 C1) : FnOk P w K mg base (L2.CX P w) (1) T.m_World_say.fn T.m_World_say.fd ["self", "number"] (spF (gx K C0 C1) 2 F_World_say) := by
  exact fn_do (k := 0) T.m_World_say.F sc_World_say rfl rfl fun cdv A outer s0 H E hr =>
    dss_one (ds_expr (de_mt PySem.F.plainAttrs_list PySem.F.slot_list_append PySem.F.type_list_append mt_append app_ok rfl (de_fld T.tb rfl (de_var 0)) (da_cons (de_var 1) da_nil)))
theorem ok_law_deed (T : Tx K mg C0 C1) : FnOk P w K mg base (L2.CX P w) (6) T.d_law_deed.fn T.d_law_deed.fd ["_law_world", "_law_model", "_law_way", "_law_number"] (spF (gx K C0 C1) 4 F_law_deed) := by
  have G_World_say := ok_World_say (P := P) (w := w) (base := base) T
  have G_law_closed := ok_law_closed (P := P) (w := w) (base := base) T
  have G_law_entered := ok_law_entered (P := P) (w := w) (base := base) T
  have G_law_noted := ok_law_noted (P := P) (w := w) (base := base) T
  have G_law_taken := ok_law_taken (P := P) (w := w) (base := base) T
  exact fn_do (k := 5) T.d_law_deed.F sc_law_deed rfl rfl fun cdv A outer s0 H E hr =>
    dss_cons (ds_if (dt_cmp (op_eqA rfl hr) eq_ok (de_var 2) (de_int)) (dss_one (ds_ret (de_fn G_law_noted (hr.mono (by omega)) T.d_law_noted.m T.d_law_noted.k T.d_law_noted.b (takes_of rfl rfl rfl rfl) (da_cons (de_var 0) (da_cons (de_var 1) (da_cons (de_mod (de_var 3) (de_int)) da_nil)))))) (dss_nil)) <|
    dss_cons (ds_if (dt_cmp (op_eqA rfl hr) eq_ok (de_var 2) (de_int)) (dss_one (ds_ret (de_fn G_law_taken (hr.mono (by omega)) T.d_law_taken.m T.d_law_taken.k T.d_law_taken.b (takes_of rfl rfl rfl rfl) (da_cons (de_var 0) (da_cons (de_var 1) da_nil))))) (dss_nil)) <|
    dss_cons (ds_if (dt_cmp (op_eqA rfl hr) eq_ok (de_var 2) (de_int)) (dss_cons (ds_expr (de_mt PySem.F.plainAttrs_list PySem.F.slot_list_append PySem.F.type_list_append mt_append app_ok rfl (de_ix rfl hr (de_var 1) (de_str)) (da_cons (de_var 3) da_nil))) <|
    dss_one (ds_ret (de_cmp op_isN isN_ok (de_meth (c := 0) T.i_World.cl T.m_World_say.m G_World_say (hr.mono (by omega)) T.m_World_say.b (takes_of rfl rfl rfl rfl) (de_var 0) (da_cons (de_var 3) da_nil)) (de_non)))) (dss_nil)) <|
    dss_cons (ds_if (dt_cmp (op_eqA rfl hr) eq_ok (de_var 2) (de_int)) (dss_one (ds_ret (de_fn G_law_entered (hr.mono (by omega)) T.d_law_entered.m T.d_law_entered.k T.d_law_entered.b (takes_of rfl rfl rfl rfl) (da_cons (de_var 0) (da_cons (de_var 1) (da_cons (de_mod (de_var 3) (de_int)) da_nil)))))) (dss_nil)) <|
    dss_one (ds_ret (de_fn G_law_closed (hr.mono (by omega)) T.d_law_closed.m T.d_law_closed.k T.d_law_closed.b (takes_of rfl rfl rfl rfl) (da_cons (de_var 0) (da_cons (de_var 1) (da_cons (de_var 3) da_nil)))))
theorem ok_World_result (T : Tx K mg C0 C1) : FnOk P w K mg base (L2.CX P w) (1) T.m_World_result.fn T.m_World_result.fd ["self", "end"] (spF (gx K C0 C1) 2 F_World_result) := by
  exact fn_do (k := 0) T.m_World_result.F sc_World_result rfl rfl fun cdv A outer s0 H E hr =>
    dss_one (ds_ret (de_tup (da_cons (de_var 1) (da_cons (de_callTy (call_listA rfl rfl) list_ok T.z_list PyProof.Rows.boot_list (da_cons (de_fld T.tb rfl (de_var 0)) da_nil)) (da_cons (de_callTy (call_listA rfl rfl) list_ok T.z_list PyProof.Rows.boot_list (da_cons (de_fld T.tb rfl (de_var 0)) da_nil)) (da_cons (de_fld T.tb rfl (de_var 0)) da_nil))))))
theorem ok_law_told (T : Tx K mg C0 C1) : FnOk P w K mg base (L2.CX P w) (2) T.d_law_told.fn T.d_law_told.fd ["_law_world", "_law_model", "_law_number"] (spF (gx K C0 C1) 3 F_law_told) := by
  have G_World_result := ok_World_result (P := P) (w := w) (base := base) T
  exact fn_do (k := 1) T.d_law_told.F sc_law_told rfl rfl fun cdv A outer s0 H E hr =>
    dss_cons (ds_set 3 sc_law_told.nd (de_ix rfl hr (de_lst (da_cons (de_tup (da_cons (de_str) da_nil)) (da_cons (de_tup (da_cons (de_str) (da_cons (de_var 2) da_nil))) (da_cons (de_tup (da_cons (de_str) (da_cons (de_str) (da_cons (de_var 2) (da_cons (de_mod (de_var 2) (de_int)) da_nil))))) da_nil)))) (de_mod (de_var 2) (de_int)))) <|
    dss_cons (ds_for (passes_of rfl) rfl (di_range1 T.z_range (da_cons (de_int) da_nil)) (dg_name 4 sc_law_told.nd) (dss_cons (ds_set 5 sc_law_told.nd (de_meth (c := 0) T.i_World.cl T.m_World_result.m G_World_result (hr.mono (by omega)) T.m_World_result.b (takes_of rfl rfl rfl rfl) (de_var 0) (da_cons (de_var 3) da_nil))) <|
    dss_cons (ds_if (dt_pw (dw_or (dt_cmp (op_neA rfl hr) ne_ok (de_var 5) (de_tup (da_cons (de_var 3) (da_cons (de_ix rfl hr (de_var 1) (de_str)) (da_cons (de_ix rfl hr (de_var 1) (de_str)) (da_cons (de_ix rfl hr (de_var 1) (de_str)) da_nil)))))) (dw_or1 (dt_not (dt_tru (de_isi T.jt rfl T.z_isinstance PyProof.Rows.boot_isinstance (da_cons (de_var 5) (da_cons (de_bltn T.z_tuple PyProof.Rows.boot_tuple) da_nil))) rfl))))) (dss_one (ds_ret (de_bl))) (dss_nil)) <|
    dss_cons (ds_expr (de_mt0 PySem.F.plainAttrs_list PySem.F.slot_list_clear PySem.F.type_list_clear mt_clear clr_ok rfl (de_ix rfl hr (de_var 5) (de_int)))) <|
    dss_one (ds_expr (de_mt PySem.F.plainAttrs_list PySem.F.slot_list_append PySem.F.type_list_append mt_append app_ok rfl (de_ix rfl hr (de_var 5) (de_int)) (da_cons (de_int) da_nil))))) <|
    dss_one (ds_ret (de_and rfl (de_cmp (op_eqA rfl hr) eq_ok (de_fld T.tb rfl (de_var 0)) (de_ix rfl hr (de_var 1) (de_str))) (de_one (de_cmp (op_eqA rfl hr) eq_ok (de_fld T.tb rfl (de_var 0)) (de_ix rfl hr (de_var 1) (de_str))))))
theorem ok_World_init (T : Tx K mg C0 C1) : FnOk P w K mg base (L2.CX P w) (1) T.i_World.fn T.i_World.fd ["self", "inputs", "most"] (spF (gx K C0 C1) 3 F_World_init) := by
  exact fn_doX (k := 0) T.i_World.F sc_World_init rfl rfl fun cdv A outer s0 H E hr =>
    dss_cons (ds_fld T.tb rfl (de_var 0) (de_callTy (call_listA rfl rfl) list_ok T.z_list PyProof.Rows.boot_list (da_cons (de_var 1) da_nil))) <|
    dss_cons (ds_fld T.tb rfl (de_var 0) (de_var 2)) <|
    dss_cons (ds_fld T.tb rfl (de_var 0) (de_lst da_nil)) <|
    dss_cons (ds_fld T.tb rfl (de_var 0) (de_lst da_nil)) <|
    dss_cons (ds_fld T.tb rfl (de_var 0) (de_int)) <|
    dss_cons (ds_fld T.tb rfl (de_var 0) (de_int)) <|
    dss_one (ds_fld T.tb rfl (de_var 0) (de_int))
theorem ok_law (T : Tx K mg C0 C1) : FnOk P w K mg base (L2.CX P w) (7) T.d_law.fn T.d_law.fd ["_law_script"] (spF (gx K C0 C1) 1 F_law) := by
  have G_World_init := ok_World_init (P := P) (w := w) (base := base) T
  have G_World_result := ok_World_result (P := P) (w := w) (base := base) T
  have G_World_take := ok_World_take (P := P) (w := w) (base := base) T
  have G_law_cell := ok_law_cell (P := P) (w := w) (base := base) T
  have G_law_deed := ok_law_deed (P := P) (w := w) (base := base) T
  have G_law_inputs := ok_law_inputs (P := P) (w := w) (base := base) T
  have G_law_told := ok_law_told (P := P) (w := w) (base := base) T
  exact fn_do (k := 6) T.d_law.F sc_law rfl rfl fun cdv A outer s0 H E hr =>
    dss_cons (ds_set 1 sc_law.nd (de_fn G_law_inputs (hr.mono (by omega)) T.d_law_inputs.m T.d_law_inputs.k T.d_law_inputs.b (takes_of rfl rfl rfl rfl) (da_cons (de_fn G_law_cell (hr.mono (by omega)) T.d_law_cell.m T.d_law_cell.k T.d_law_cell.b (takes_of rfl rfl rfl rfl) (da_cons (de_var 0) (da_cons (de_int) da_nil))) da_nil))) <|
    dss_cons (ds_set 2 sc_law.nd (de_dict (dps_cons (de_str) (de_callTy (call_listA rfl rfl) list_ok T.z_list PyProof.Rows.boot_list (da_cons (de_var 1) da_nil)) (dps_cons (de_str) (de_int) (dps_cons (de_str) (de_lst da_nil) (dps_cons (de_str) (de_lst da_nil) (dps_cons (de_str) (de_int) (dps_cons (de_str) (de_int) dps_nil)))))))) <|
    dss_cons (ds_st hr (de_var 2) (de_str) (de_mod (de_fdiv (de_fn G_law_cell (hr.mono (by omega)) T.d_law_cell.m T.d_law_cell.k T.d_law_cell.b (takes_of rfl rfl rfl rfl) (da_cons (de_var 0) (da_cons (de_int) da_nil))) (de_int)) (de_int))) <|
    dss_cons (ds_if (dt_cmp (op_eqA rfl hr) eq_ok (de_mod (de_fn G_law_cell (hr.mono (by omega)) T.d_law_cell.m T.d_law_cell.k T.d_law_cell.b (takes_of rfl rfl rfl rfl) (da_cons (de_var 0) (da_cons (de_int) da_nil))) (de_int)) (de_int)) (dss_cons (ds_st hr (de_var 2) (de_str) (de_int)) <|
    dss_one (ds_set 3 sc_law.nd (de_new (c := 0) T.i_World.M G_World_init (hr.mono (by omega)) T.i_World.m T.i_World.b1.choose_spec.2 T.i_World.b1.choose_spec.1 (fun _ _ _ => (.cons _ _ _ _ (.int _) .nil)) (takes_of rfl rfl rfl rfl) (da_cons (de_var 1) da_nil)))) (dss_one (ds_set 3 sc_law.nd (de_new (c := 0) T.i_World.M G_World_init (hr.mono (by omega)) T.i_World.m T.i_World.b .nil (fun _ _ _ => .nil) (takes_of rfl rfl rfl rfl) (da_cons (de_var 1) (da_cons (de_ix rfl hr (de_var 2) (de_str)) da_nil)))))) <|
    dss_cons (ds_expr (de_mt0 PySem.F.plainAttrs_list PySem.F.slot_list_clear PySem.F.type_list_clear mt_clear clr_ok rfl (de_var 1))) <|
    dss_cons (ds_set 4 sc_law.nd (de_new (c := 0) T.i_World.M G_World_init (hr.mono (by omega)) T.i_World.m T.i_World.b1.choose_spec.2 T.i_World.b1.choose_spec.1 (fun _ _ _ => (.cons _ _ _ _ (.int _) .nil)) (takes_of rfl rfl rfl rfl) (da_cons (de_lst (da_cons (de_int) da_nil)) da_nil))) <|
    dss_cons (ds_for (passes_of rfl) rfl (di_any rfl (de_slice rfl (de_var 0) dp_none (dp_some (de_int)))) (dg_name 5 sc_law.nd) (dss_cons (ds_set 6 sc_law.nd (de_mod (de_fdiv (de_var 5) (de_int)) (de_pow (de_int) (de_int)))) <|
    dss_cons (ds_for (passes_of rfl) rfl (di_range1 T.z_range (da_cons (de_add rfl (de_int) (de_mod (de_fdiv (de_var 5) (de_int)) (de_int))) da_nil)) (dg_name 7 sc_law.nd) (dss_one (ds_if (dt_not (dt_tru (de_fn G_law_deed (hr.mono (by omega)) T.d_law_deed.m T.d_law_deed.k T.d_law_deed.b (takes_of rfl rfl rfl rfl) (da_cons (de_var 3) (da_cons (de_var 2) (da_cons (de_mod (de_var 5) (de_int)) (da_cons (de_add rfl (de_var 6) (de_mul (de_int) (de_var 7))) da_nil))))) rfl)) (dss_one (ds_ret (de_bl))) (dss_nil)))) <|
    dss_one (ds_if (dt_not (dt_tru (de_fn G_law_told (hr.mono (by omega)) T.d_law_told.m T.d_law_told.k T.d_law_told.b (takes_of rfl rfl rfl rfl) (da_cons (de_var 3) (da_cons (de_var 2) (da_cons (de_var 6) da_nil)))) rfl)) (dss_one (ds_ret (de_bl))) (dss_nil)))) <|
    dss_one (ds_ret (de_and rfl (de_cmp (op_eqA rfl hr) eq_ok (de_meth (c := 0) T.i_World.cl T.m_World_result.m G_World_result (hr.mono (by omega)) T.m_World_result.b (takes_of rfl rfl rfl rfl) (de_var 4) (da_cons (de_tup (da_cons (de_str) da_nil)) da_nil)) (de_tup (da_cons (de_tup (da_cons (de_str) da_nil)) (da_cons (de_lst da_nil) (da_cons (de_lst da_nil) (da_cons (de_int) da_nil)))))) (de_one (de_cmp (op_eqA rfl hr) eq_ok (de_meth0 (c := 0) T.i_World.cl T.m_World_take.m G_World_take (hr.mono (by omega)) T.m_World_take.b (takes_of rfl rfl rfl rfl) (de_var 4)) (de_int)))))
theorem all_mk {h : Heap} {fa : Addr} (X : K.In h) (G : h.Ns mainGlobals mg) (hfa : mg "law" = some (.ref fa))
    {f_law_cell : Addr} {od_law_cell an_law_cell : Option Addr} {sl_law_cell : Array (Option Value)} {oc_law_cell kV_law_cell dc_law_cell pm_law_cell cd_law_cell ct_law_cell : Value}
    {f_law_inputs : Addr} {od_law_inputs an_law_inputs : Option Addr} {sl_law_inputs : Array (Option Value)} {oc_law_inputs kV_law_inputs dc_law_inputs pm_law_inputs cd_law_inputs ct_law_inputs : Value}
    {f_law_ended : Addr} {od_law_ended an_law_ended : Option Addr} {sl_law_ended : Array (Option Value)} {oc_law_ended kV_law_ended dc_law_ended pm_law_ended cd_law_ended ct_law_ended : Value}
    {f_law_noted : Addr} {od_law_noted an_law_noted : Option Addr} {sl_law_noted : Array (Option Value)} {oc_law_noted kV_law_noted dc_law_noted pm_law_noted cd_law_noted ct_law_noted : Value}
    {f_law_taken : Addr} {od_law_taken an_law_taken : Option Addr} {sl_law_taken : Array (Option Value)} {oc_law_taken kV_law_taken dc_law_taken pm_law_taken cd_law_taken ct_law_taken : Value}
    {f_law_entered : Addr} {od_law_entered an_law_entered : Option Addr} {sl_law_entered : Array (Option Value)} {oc_law_entered kV_law_entered dc_law_entered pm_law_entered cd_law_entered ct_law_entered : Value}
    {f_law_closed : Addr} {od_law_closed an_law_closed : Option Addr} {sl_law_closed : Array (Option Value)} {oc_law_closed kV_law_closed dc_law_closed pm_law_closed cd_law_closed ct_law_closed : Value}
    {f_law_deed : Addr} {od_law_deed an_law_deed : Option Addr} {sl_law_deed : Array (Option Value)} {oc_law_deed kV_law_deed dc_law_deed pm_law_deed cd_law_deed ct_law_deed : Value}
    {f_law_told : Addr} {od_law_told an_law_told : Option Addr} {sl_law_told : Array (Option Value)} {oc_law_told kV_law_told dc_law_told pm_law_told cd_law_told ct_law_told : Value}
    {f_law : Addr} {od_law an_law : Option Addr} {sl_law : Array (Option Value)} {oc_law kV_law dc_law pm_law cd_law ct_law : Value}
    {dT_World_init : Addr} {doc_World_init : Value} {dod_World_init : Option Addr} {dn_World_init : Nat} {dsl_World_init : Array (Option Value)} {dt_World_init_0 : Tok}
    {f_World_init : Addr} {od_World_init an_World_init : Option Addr} {sl_World_init : Array (Option Value)} {oc_World_init kV_World_init dc_World_init pm_World_init cd_World_init ct_World_init : Value}
    {f_World_note : Addr} {od_World_note an_World_note : Option Addr} {sl_World_note : Array (Option Value)} {oc_World_note kV_World_note dc_World_note pm_World_note cd_World_note ct_World_note : Value}
    {f_World_take : Addr} {od_World_take an_World_take : Option Addr} {sl_World_take : Array (Option Value)} {oc_World_take kV_World_take dc_World_take pm_World_take cd_World_take ct_World_take : Value}
    {f_World_say : Addr} {od_World_say an_World_say : Option Addr} {sl_World_say : Array (Option Value)} {oc_World_say kV_World_say dc_World_say pm_World_say cd_World_say ct_World_say : Value}
    {f_World_enter : Addr} {od_World_enter an_World_enter : Option Addr} {sl_World_enter : Array (Option Value)} {oc_World_enter kV_World_enter dc_World_enter pm_World_enter cd_World_enter ct_World_enter : Value}
    {f_World_leave : Addr} {od_World_leave an_World_leave : Option Addr} {sl_World_leave : Array (Option Value)} {oc_World_leave kV_World_leave dc_World_leave pm_World_leave cd_World_leave ct_World_leave : Value}
    {f_World_drop_to : Addr} {od_World_drop_to an_World_drop_to : Option Addr} {sl_World_drop_to : Array (Option Value)} {oc_World_drop_to kV_World_drop_to dc_World_drop_to pm_World_drop_to cd_World_drop_to ct_World_drop_to : Value}
    {f_World_result : Addr} {od_World_result an_World_result : Option Addr} {sl_World_result : Array (Option Value)} {oc_World_result kV_World_result dc_World_result pm_World_result cd_World_result ct_World_result : Value}
    {f_x_Ended : Addr} {od_x_Ended an_x_Ended : Option Addr} {sl_x_Ended : Array (Option Value)} {oc_x_Ended kV_x_Ended dc_x_Ended pm_x_Ended cd_x_Ended ct_x_Ended : Value}
    {nm_x_Ended qn_x_Ended : Str} {N_x_Ended : Addr} {bs_x_Ended bm_x_Ended su_x_Ended : List Value} {sn_x_Ended : List Str} {ab_x_Ended : Bool} {co_x_Ended : Option Bool} {dd_x_Ended : Option Addr} {k0_x_Ended k1_x_Ended k2_x_Ended k3_x_Ended k5_x_Ended : Option Value}
    {B_b_SpaceError : Addr}
    {t_MOST_CALLS : Tok}
    (a_C0 : PySem.W.nsIn K mainGlobals "World" = some (some (.ref C0)))
    (pg_0 : PySem.W.plainGet K C0 Str.empty = true)
    (hd_0 : PySem.W.hasDictIn K C0 = true)
    (po_0 : PySem.W.plainOver K C0 = true)
    (sa_0 : PySem.W.findIn K (.ref C0) "__setattr__" = some (some (.builtin "object.__setattr__")))
    (mk_0 : PySem.W.makesIn K C0 = true)
    (kc_0 : PySem.W.keepIn K (.ref C0) = true)
    (cc_0 : PySem.W.findIn K (.ref C0) "__class__" = some (some (.builtin "object.__class__")))
    (mo_0 : PySem.W.mroIn K C0 (.type "object") = some true)
    (ic_0 : PySem.W.isClsIn K C0 = true)
    (ty_0 : PySem.W.typeIn K (.ref C0) = some (.type "type"))
    (n_0_inputs : PySem.W.findIn K (.ref C0) "inputs" = some none)
    (n_0_most : PySem.W.findIn K (.ref C0) "most" = some none)
    (n_0_log : PySem.W.findIn K (.ref C0) "log" = some none)
    (n_0_deeds : PySem.W.findIn K (.ref C0) "deeds" = some none)
    (n_0_calls : PySem.W.findIn K (.ref C0) "calls" = some none)
    (n_0_deepest : PySem.W.findIn K (.ref C0) "deepest" = some none)
    (n_0_handed : PySem.W.findIn K (.ref C0) "handed" = some none)
    (sg : PySem.W.specialIn K (.builtin "object.__class__") "__get__" = some (some (.builtin "getset_descriptor.__get__")))
    (tk : PySem.W.takesIn K (.builtin "object.__class__") = some true)
    (a_law_cell : PySem.W.nsIn K mainGlobals "_law_cell" = some (some (.ref f_law_cell)))
    (l_law_cell : K.lookup f_law_cell = some ⟨oc_law_cell, od_law_cell, .func (PySem.W.fnOf "_law_cell" "_law_cell" (defArgs st_law_cell) (defBody st_law_cell) (defScope st_law_cell) .none kV_law_cell dc_law_cell pm_law_cell an_law_cell cd_law_cell ct_law_cell), sl_law_cell⟩)
    (c_law_cell : PySem.W.codeIn K cd_law_cell "_law_cell" = true)
    (k_law_cell : PySem.W.keepIn K (.ref f_law_cell) = true)
    (a_law_inputs : PySem.W.nsIn K mainGlobals "_law_inputs" = some (some (.ref f_law_inputs)))
    (l_law_inputs : K.lookup f_law_inputs = some ⟨oc_law_inputs, od_law_inputs, .func (PySem.W.fnOf "_law_inputs" "_law_inputs" (defArgs st_law_inputs) (defBody st_law_inputs) (defScope st_law_inputs) .none kV_law_inputs dc_law_inputs pm_law_inputs an_law_inputs cd_law_inputs ct_law_inputs), sl_law_inputs⟩)
    (c_law_inputs : PySem.W.codeIn K cd_law_inputs "_law_inputs" = true)
    (k_law_inputs : PySem.W.keepIn K (.ref f_law_inputs) = true)
    (a_law_ended : PySem.W.nsIn K mainGlobals "_law_ended" = some (some (.ref f_law_ended)))
    (l_law_ended : K.lookup f_law_ended = some ⟨oc_law_ended, od_law_ended, .func (PySem.W.fnOf "_law_ended" "_law_ended" (defArgs st_law_ended) (defBody st_law_ended) (defScope st_law_ended) .none kV_law_ended dc_law_ended pm_law_ended an_law_ended cd_law_ended ct_law_ended), sl_law_ended⟩)
    (c_law_ended : PySem.W.codeIn K cd_law_ended "_law_ended" = true)
    (k_law_ended : PySem.W.keepIn K (.ref f_law_ended) = true)
    (a_law_noted : PySem.W.nsIn K mainGlobals "_law_noted" = some (some (.ref f_law_noted)))
    (l_law_noted : K.lookup f_law_noted = some ⟨oc_law_noted, od_law_noted, .func (PySem.W.fnOf "_law_noted" "_law_noted" (defArgs st_law_noted) (defBody st_law_noted) (defScope st_law_noted) .none kV_law_noted dc_law_noted pm_law_noted an_law_noted cd_law_noted ct_law_noted), sl_law_noted⟩)
    (c_law_noted : PySem.W.codeIn K cd_law_noted "_law_noted" = true)
    (k_law_noted : PySem.W.keepIn K (.ref f_law_noted) = true)
    (a_law_taken : PySem.W.nsIn K mainGlobals "_law_taken" = some (some (.ref f_law_taken)))
    (l_law_taken : K.lookup f_law_taken = some ⟨oc_law_taken, od_law_taken, .func (PySem.W.fnOf "_law_taken" "_law_taken" (defArgs st_law_taken) (defBody st_law_taken) (defScope st_law_taken) .none kV_law_taken dc_law_taken pm_law_taken an_law_taken cd_law_taken ct_law_taken), sl_law_taken⟩)
    (c_law_taken : PySem.W.codeIn K cd_law_taken "_law_taken" = true)
    (k_law_taken : PySem.W.keepIn K (.ref f_law_taken) = true)
    (a_law_entered : PySem.W.nsIn K mainGlobals "_law_entered" = some (some (.ref f_law_entered)))
    (l_law_entered : K.lookup f_law_entered = some ⟨oc_law_entered, od_law_entered, .func (PySem.W.fnOf "_law_entered" "_law_entered" (defArgs st_law_entered) (defBody st_law_entered) (defScope st_law_entered) .none kV_law_entered dc_law_entered pm_law_entered an_law_entered cd_law_entered ct_law_entered), sl_law_entered⟩)
    (c_law_entered : PySem.W.codeIn K cd_law_entered "_law_entered" = true)
    (k_law_entered : PySem.W.keepIn K (.ref f_law_entered) = true)
    (a_law_closed : PySem.W.nsIn K mainGlobals "_law_closed" = some (some (.ref f_law_closed)))
    (l_law_closed : K.lookup f_law_closed = some ⟨oc_law_closed, od_law_closed, .func (PySem.W.fnOf "_law_closed" "_law_closed" (defArgs st_law_closed) (defBody st_law_closed) (defScope st_law_closed) .none kV_law_closed dc_law_closed pm_law_closed an_law_closed cd_law_closed ct_law_closed), sl_law_closed⟩)
    (c_law_closed : PySem.W.codeIn K cd_law_closed "_law_closed" = true)
    (k_law_closed : PySem.W.keepIn K (.ref f_law_closed) = true)
    (a_law_deed : PySem.W.nsIn K mainGlobals "_law_deed" = some (some (.ref f_law_deed)))
    (l_law_deed : K.lookup f_law_deed = some ⟨oc_law_deed, od_law_deed, .func (PySem.W.fnOf "_law_deed" "_law_deed" (defArgs st_law_deed) (defBody st_law_deed) (defScope st_law_deed) .none kV_law_deed dc_law_deed pm_law_deed an_law_deed cd_law_deed ct_law_deed), sl_law_deed⟩)
    (c_law_deed : PySem.W.codeIn K cd_law_deed "_law_deed" = true)
    (k_law_deed : PySem.W.keepIn K (.ref f_law_deed) = true)
    (a_law_told : PySem.W.nsIn K mainGlobals "_law_told" = some (some (.ref f_law_told)))
    (l_law_told : K.lookup f_law_told = some ⟨oc_law_told, od_law_told, .func (PySem.W.fnOf "_law_told" "_law_told" (defArgs st_law_told) (defBody st_law_told) (defScope st_law_told) .none kV_law_told dc_law_told pm_law_told an_law_told cd_law_told ct_law_told), sl_law_told⟩)
    (c_law_told : PySem.W.codeIn K cd_law_told "_law_told" = true)
    (k_law_told : PySem.W.keepIn K (.ref f_law_told) = true)
    (a_law : PySem.W.nsIn K mainGlobals "law" = some (some (.ref f_law)))
    (l_law : K.lookup f_law = some ⟨oc_law, od_law, .func (PySem.W.fnOf "law" "law" (defArgs st_law) (defBody st_law) (defScope st_law) .none kV_law dc_law pm_law an_law cd_law ct_law), sl_law⟩)
    (c_law : PySem.W.codeIn K cd_law "law" = true)
    (k_law : PySem.W.keepIn K (.ref f_law) = true)
    (a_World_init : PySem.W.findIn K (.ref C0) "__init__" = some (some (.ref f_World_init)))
    (i_World_init : PySem.W.isFn K (.ref f_World_init) = true)
    (l_World_init : K.lookup f_World_init = some ⟨oc_World_init, od_World_init, .func (PySem.W.fnOf "__init__" "World.__init__" (defArgs st_World_init) (defBody st_World_init) (defScope st_World_init) (.ref dT_World_init) kV_World_init dc_World_init pm_World_init an_World_init cd_World_init ct_World_init), sl_World_init⟩)
    (c_World_init : PySem.W.codeIn K cd_World_init "World.__init__" = true)
    (k_World_init : PySem.W.keepIn K (.ref f_World_init) = true)
    (lT_World_init : K.lookup dT_World_init = some ⟨doc_World_init, dod_World_init, .seq ([.int 1000 dt_World_init_0] : List Value).toArray dn_World_init, dsl_World_init⟩)
    (a_World_note : PySem.W.findIn K (.ref C0) "note" = some (some (.ref f_World_note)))
    (i_World_note : PySem.W.isFn K (.ref f_World_note) = true)
    (l_World_note : K.lookup f_World_note = some ⟨oc_World_note, od_World_note, .func (PySem.W.fnOf "note" "World.note" (defArgs st_World_note) (defBody st_World_note) (defScope st_World_note) .none kV_World_note dc_World_note pm_World_note an_World_note cd_World_note ct_World_note), sl_World_note⟩)
    (c_World_note : PySem.W.codeIn K cd_World_note "World.note" = true)
    (k_World_note : PySem.W.keepIn K (.ref f_World_note) = true)
    (a_World_take : PySem.W.findIn K (.ref C0) "take" = some (some (.ref f_World_take)))
    (i_World_take : PySem.W.isFn K (.ref f_World_take) = true)
    (l_World_take : K.lookup f_World_take = some ⟨oc_World_take, od_World_take, .func (PySem.W.fnOf "take" "World.take" (defArgs st_World_take) (defBody st_World_take) (defScope st_World_take) .none kV_World_take dc_World_take pm_World_take an_World_take cd_World_take ct_World_take), sl_World_take⟩)
    (c_World_take : PySem.W.codeIn K cd_World_take "World.take" = true)
    (k_World_take : PySem.W.keepIn K (.ref f_World_take) = true)
    (a_World_say : PySem.W.findIn K (.ref C0) "say" = some (some (.ref f_World_say)))
    (i_World_say : PySem.W.isFn K (.ref f_World_say) = true)
    (l_World_say : K.lookup f_World_say = some ⟨oc_World_say, od_World_say, .func (PySem.W.fnOf "say" "World.say" (defArgs st_World_say) (defBody st_World_say) (defScope st_World_say) .none kV_World_say dc_World_say pm_World_say an_World_say cd_World_say ct_World_say), sl_World_say⟩)
    (c_World_say : PySem.W.codeIn K cd_World_say "World.say" = true)
    (k_World_say : PySem.W.keepIn K (.ref f_World_say) = true)
    (a_World_enter : PySem.W.findIn K (.ref C0) "enter" = some (some (.ref f_World_enter)))
    (i_World_enter : PySem.W.isFn K (.ref f_World_enter) = true)
    (l_World_enter : K.lookup f_World_enter = some ⟨oc_World_enter, od_World_enter, .func (PySem.W.fnOf "enter" "World.enter" (defArgs st_World_enter) (defBody st_World_enter) (defScope st_World_enter) .none kV_World_enter dc_World_enter pm_World_enter an_World_enter cd_World_enter ct_World_enter), sl_World_enter⟩)
    (c_World_enter : PySem.W.codeIn K cd_World_enter "World.enter" = true)
    (k_World_enter : PySem.W.keepIn K (.ref f_World_enter) = true)
    (a_World_leave : PySem.W.findIn K (.ref C0) "leave" = some (some (.ref f_World_leave)))
    (i_World_leave : PySem.W.isFn K (.ref f_World_leave) = true)
    (l_World_leave : K.lookup f_World_leave = some ⟨oc_World_leave, od_World_leave, .func (PySem.W.fnOf "leave" "World.leave" (defArgs st_World_leave) (defBody st_World_leave) (defScope st_World_leave) .none kV_World_leave dc_World_leave pm_World_leave an_World_leave cd_World_leave ct_World_leave), sl_World_leave⟩)
    (c_World_leave : PySem.W.codeIn K cd_World_leave "World.leave" = true)
    (k_World_leave : PySem.W.keepIn K (.ref f_World_leave) = true)
    (a_World_drop_to : PySem.W.findIn K (.ref C0) "drop_to" = some (some (.ref f_World_drop_to)))
    (i_World_drop_to : PySem.W.isFn K (.ref f_World_drop_to) = true)
    (l_World_drop_to : K.lookup f_World_drop_to = some ⟨oc_World_drop_to, od_World_drop_to, .func (PySem.W.fnOf "drop_to" "World.drop_to" (defArgs st_World_drop_to) (defBody st_World_drop_to) (defScope st_World_drop_to) .none kV_World_drop_to dc_World_drop_to pm_World_drop_to an_World_drop_to cd_World_drop_to ct_World_drop_to), sl_World_drop_to⟩)
    (c_World_drop_to : PySem.W.codeIn K cd_World_drop_to "World.drop_to" = true)
    (k_World_drop_to : PySem.W.keepIn K (.ref f_World_drop_to) = true)
    (a_World_result : PySem.W.findIn K (.ref C0) "result" = some (some (.ref f_World_result)))
    (i_World_result : PySem.W.isFn K (.ref f_World_result) = true)
    (l_World_result : K.lookup f_World_result = some ⟨oc_World_result, od_World_result, .func (PySem.W.fnOf "result" "World.result" (defArgs st_World_result) (defBody st_World_result) (defScope st_World_result) .none kV_World_result dc_World_result pm_World_result an_World_result cd_World_result ct_World_result), sl_World_result⟩)
    (c_World_result : PySem.W.codeIn K cd_World_result "World.result" = true)
    (k_World_result : PySem.W.keepIn K (.ref f_World_result) = true)
    (a_C1 : PySem.W.nsIn K mainGlobals "Ended" = some (some (.ref C1)))
    (a_x_Ended : PySem.W.findIn K (.ref C1) "__init__" = some (some (.ref f_x_Ended)))
    (l_x_Ended : K.lookup f_x_Ended = some ⟨oc_x_Ended, od_x_Ended, .func (PySem.W.fnOf "__init__" "Ended.__init__" (defArgs st_x_Ended) (defBody st_x_Ended) (defScope st_x_Ended) .none kV_x_Ended dc_x_Ended pm_x_Ended an_x_Ended cd_x_Ended ct_x_Ended), sl_x_Ended⟩)
    (c_x_Ended : PySem.W.codeIn K cd_x_Ended "Ended.__init__" = true)
    (k_x_Ended : PySem.W.keepIn K (.ref f_x_Ended) = true)
    (xl_x_Ended : K.lookup C1 = some (excClassObj nm_x_Ended qn_x_Ended C1 N_x_Ended bs_x_Ended bm_x_Ended true sn_x_Ended su_x_Ended ab_x_Ended co_x_Ended dd_x_Ended k0_x_Ended k1_x_Ended k2_x_Ended k3_x_Ended k5_x_Ended "ValueError.__new__"))
    (ne_r_x_Ended : PySem.HandSPX.refsVE bm_x_Ended = true)
    (sa_x_Ended : PySem.W.findIn K (.ref C1) "__setattr__" = some (some (.builtin "object.__setattr__")))
    (ex_x_Ended : PySem.W.subIn K (.ref C1) (.type "BaseException") = some true)
    (ty_x_Ended : PySem.W.typeIn K (.ref C1) = some (.type "type"))
    (kc_x_Ended : PySem.W.keepIn K (.ref C1) = true)
    (tf_x_Ended : PySem.W.typeIn K (.ref f_x_Ended) = some (.type "function"))
    (nf_x_Ended : PySem.W.findIn K (.ref C1) "end" = some none)
    (ga_x_Ended : PySem.W.findIn K (.ref C1) "__getattribute__" = some (some (.builtin "BaseException.__getattribute__")))
    (gg_x_Ended : PySem.W.findIn K (.ref C1) "__getattr__" = some none)
    (hd_x_Ended : PySem.W.hasDictIn K C1 = true)
    (ss_x_Ended : PySem.W.subIn K (.ref C1) (.ref C1) = some true)
    (a_b_SpaceError : PySem.W.nsIn K mainGlobals "SpaceError" = some (some (.ref B_b_SpaceError)))
    (rd_b_SpaceError : PySem.W.readsIn K B_b_SpaceError (.type "type") = true)
    (ga_b_SpaceError : PySem.W.specialIn K (.ref B_b_SpaceError) "__getattribute__" = some (some (.builtin "type.__getattribute__")))
    (fc_b_SpaceError : PySem.W.findCls K (.ref B_b_SpaceError) (.type "type") "__init__" = some (.val (.builtin "ValueError.__init__")))
    (z_isinstance : PySem.W.nsIn K mainGlobals "isinstance" = some none)
    (z_len : PySem.W.nsIn K mainGlobals "len" = some none)
    (z_list : PySem.W.nsIn K mainGlobals "list" = some none)
    (z_max : PySem.W.nsIn K mainGlobals "max" = some none)
    (z_range : PySem.W.nsIn K mainGlobals "range" = some none)
    (z_tuple : PySem.W.nsIn K mainGlobals "tuple" = some none)
    (g_MOST_CALLS : PySem.W.nsIn K mainGlobals "MOST_CALLS" = some (some (.int (50) t_MOST_CALLS)))
    (s_7 : PySem.W.subIn K (.ref C0) (.type "tuple") = some false) :
    ∃ fd : FuncData, (∀ (s : Shared) (v : Value), BindsTo s fd ⟨[v], []⟩ [("_law_script", v)]) ∧ ∀ base : Heap, K.In base → base.Ns mainGlobals mg → FnOk P w K mg base (L2.CX P w) 7 fa fd ["_law_script"] (spL 63 K) := by
  have e : fa = f_law := by injection (Option.some.inj (hfa.symm.trans (PySem.W.mg_of X G a_law)))
  rw [e]
  let T : Tx K mg C0 C1 := {
    d_law_cell := ⟨f_law_cell, _, (fun_mk (st := st_law_cell) l_law_cell c_law_cell k_law_cell), ((fun_mk (st := st_law_cell) l_law_cell c_law_cell k_law_cell).binds (ps := ["_law_script", "_law_k"]) fun _ _ _ _ _ _ us hl => match us, hl with | [_, _], _ => rfl), PySem.W.mg_of X G a_law_cell, k_law_cell⟩,
    d_law_inputs := ⟨f_law_inputs, _, (fun_mk (st := st_law_inputs) l_law_inputs c_law_inputs k_law_inputs), ((fun_mk (st := st_law_inputs) l_law_inputs c_law_inputs k_law_inputs).binds (ps := ["_law_cell_here"]) fun _ _ _ _ _ _ us hl => match us, hl with | [_], _ => rfl), PySem.W.mg_of X G a_law_inputs, k_law_inputs⟩,
    d_law_ended := ⟨f_law_ended, _, (fun_mk (st := st_law_ended) l_law_ended c_law_ended k_law_ended), ((fun_mk (st := st_law_ended) l_law_ended c_law_ended k_law_ended).binds (ps := ["_law_world", "_law_word", "_law_place"]) fun _ _ _ _ _ _ us hl => match us, hl with | [_, _, _], _ => rfl), PySem.W.mg_of X G a_law_ended, k_law_ended⟩,
    d_law_noted := ⟨f_law_noted, _, (fun_mk (st := st_law_noted) l_law_noted c_law_noted k_law_noted), ((fun_mk (st := st_law_noted) l_law_noted c_law_noted k_law_noted).binds (ps := ["_law_world", "_law_model", "_law_place"]) fun _ _ _ _ _ _ us hl => match us, hl with | [_, _, _], _ => rfl), PySem.W.mg_of X G a_law_noted, k_law_noted⟩,
    d_law_taken := ⟨f_law_taken, _, (fun_mk (st := st_law_taken) l_law_taken c_law_taken k_law_taken), ((fun_mk (st := st_law_taken) l_law_taken c_law_taken k_law_taken).binds (ps := ["_law_world", "_law_model"]) fun _ _ _ _ _ _ us hl => match us, hl with | [_, _], _ => rfl), PySem.W.mg_of X G a_law_taken, k_law_taken⟩,
    d_law_entered := ⟨f_law_entered, _, (fun_mk (st := st_law_entered) l_law_entered c_law_entered k_law_entered), ((fun_mk (st := st_law_entered) l_law_entered c_law_entered k_law_entered).binds (ps := ["_law_world", "_law_model", "_law_place"]) fun _ _ _ _ _ _ us hl => match us, hl with | [_, _, _], _ => rfl), PySem.W.mg_of X G a_law_entered, k_law_entered⟩,
    d_law_closed := ⟨f_law_closed, _, (fun_mk (st := st_law_closed) l_law_closed c_law_closed k_law_closed), ((fun_mk (st := st_law_closed) l_law_closed c_law_closed k_law_closed).binds (ps := ["_law_world", "_law_model", "_law_number"]) fun _ _ _ _ _ _ us hl => match us, hl with | [_, _, _], _ => rfl), PySem.W.mg_of X G a_law_closed, k_law_closed⟩,
    d_law_deed := ⟨f_law_deed, _, (fun_mk (st := st_law_deed) l_law_deed c_law_deed k_law_deed), ((fun_mk (st := st_law_deed) l_law_deed c_law_deed k_law_deed).binds (ps := ["_law_world", "_law_model", "_law_way", "_law_number"]) fun _ _ _ _ _ _ us hl => match us, hl with | [_, _, _, _], _ => rfl), PySem.W.mg_of X G a_law_deed, k_law_deed⟩,
    d_law_told := ⟨f_law_told, _, (fun_mk (st := st_law_told) l_law_told c_law_told k_law_told), ((fun_mk (st := st_law_told) l_law_told c_law_told k_law_told).binds (ps := ["_law_world", "_law_model", "_law_number"]) fun _ _ _ _ _ _ us hl => match us, hl with | [_, _, _], _ => rfl), PySem.W.mg_of X G a_law_told, k_law_told⟩,
    d_law := ⟨f_law, _, (fun_mk (st := st_law) l_law c_law k_law), ((fun_mk (st := st_law) l_law c_law k_law).binds (ps := ["_law_script"]) fun _ _ _ _ _ _ us hl => match us, hl with | [_], _ => rfl), PySem.W.mg_of X G a_law, k_law⟩,
    i_World := ⟨f_World_init, _, _, funX_mk (st := st_World_init) l_World_init c_World_init k_World_init, (bindsX (dvs := [.int 1000]) 3 1 lT_World_init (.cons ⟨_, rfl⟩ .nil) rfl fun us hl => match us, hl with | [_, _, _], _ => ⟨_, rfl, rfl⟩), ⟨_, (.cons ⟨_, rfl⟩ .nil), (bindsX (dvs := [.int 1000]) 2 0 lT_World_init (.cons ⟨_, rfl⟩ .nil) rfl fun us hl => match us, hl with | [_, _], _ => ⟨_, rfl, rfl⟩)⟩, ⟨mk_0, a_World_init, i_World_init, kc_0⟩, ⟨pg_0, hd_0, po_0, sa_0⟩, PySem.W.mg_of X G a_C0⟩,
    m_World_note := ⟨f_World_note, _, (fun_mk (st := st_World_note) l_World_note c_World_note k_World_note), ((fun_mk (st := st_World_note) l_World_note c_World_note k_World_note).binds (ps := ["self", "place"]) fun _ _ _ _ _ _ us hl => match us, hl with | [_, _], _ => rfl), ⟨a_World_note, i_World_note, k_World_note⟩⟩,
    m_World_take := ⟨f_World_take, _, (fun_mk (st := st_World_take) l_World_take c_World_take k_World_take), ((fun_mk (st := st_World_take) l_World_take c_World_take k_World_take).binds (ps := ["self"]) fun _ _ _ _ _ _ us hl => match us, hl with | [_], _ => rfl), ⟨a_World_take, i_World_take, k_World_take⟩⟩,
    m_World_say := ⟨f_World_say, _, (fun_mk (st := st_World_say) l_World_say c_World_say k_World_say), ((fun_mk (st := st_World_say) l_World_say c_World_say k_World_say).binds (ps := ["self", "number"]) fun _ _ _ _ _ _ us hl => match us, hl with | [_, _], _ => rfl), ⟨a_World_say, i_World_say, k_World_say⟩⟩,
    m_World_enter := ⟨f_World_enter, _, (fun_mk (st := st_World_enter) l_World_enter c_World_enter k_World_enter), ((fun_mk (st := st_World_enter) l_World_enter c_World_enter k_World_enter).binds (ps := ["self", "place"]) fun _ _ _ _ _ _ us hl => match us, hl with | [_, _], _ => rfl), ⟨a_World_enter, i_World_enter, k_World_enter⟩⟩,
    m_World_leave := ⟨f_World_leave, _, (fun_mk (st := st_World_leave) l_World_leave c_World_leave k_World_leave), ((fun_mk (st := st_World_leave) l_World_leave c_World_leave k_World_leave).binds (ps := ["self"]) fun _ _ _ _ _ _ us hl => match us, hl with | [_], _ => rfl), ⟨a_World_leave, i_World_leave, k_World_leave⟩⟩,
    m_World_drop_to := ⟨f_World_drop_to, _, (fun_mk (st := st_World_drop_to) l_World_drop_to c_World_drop_to k_World_drop_to), ((fun_mk (st := st_World_drop_to) l_World_drop_to c_World_drop_to k_World_drop_to).binds (ps := ["self", "many"]) fun _ _ _ _ _ _ us hl => match us, hl with | [_, _], _ => rfl), ⟨a_World_drop_to, i_World_drop_to, k_World_drop_to⟩⟩,
    m_World_result := ⟨f_World_result, _, (fun_mk (st := st_World_result) l_World_result c_World_result k_World_result), ((fun_mk (st := st_World_result) l_World_result c_World_result k_World_result).binds (ps := ["self", "end"]) fun _ _ _ _ _ _ us hl => match us, hl with | [_, _], _ => rfl), ⟨a_World_result, i_World_result, k_World_result⟩⟩,
    x_Ended := ⟨f_x_Ended, _, (fun_mk (st := st_x_Ended) l_x_Ended c_x_Ended k_x_Ended), ((fun_mk (st := st_x_Ended) l_x_Ended c_x_Ended k_x_Ended).binds (ps := ["self", "end"]) fun _ _ _ _ _ _ us hl => match us, hl with | [_, _], _ => rfl), oexC_mk xl_x_Ended ne_r_x_Ended sa_x_Ended ex_x_Ended ty_x_Ended kc_x_Ended, a_x_Ended, tf_x_Ended, nf_x_Ended, ⟨ga_x_Ended, gg_x_Ended, ex_x_Ended, hd_x_Ended⟩, PySem.W.exm_ref ex_x_Ended hd_x_Ended ty_x_Ended ss_x_Ended, PySem.W.mg_of X G a_C1⟩,
    b_SpaceError := ⟨B_b_SpaceError, PySem.W.mg_of X G a_b_SpaceError, rd_b_SpaceError, ga_b_SpaceError, fc_b_SpaceError⟩,
    z_isinstance := PySem.W.mg_none_of X G z_isinstance,
    z_len := PySem.W.mg_none_of X G z_len,
    z_list := PySem.W.mg_none_of X G z_list,
    z_max := PySem.W.mg_none_of X G z_max,
    z_range := PySem.W.mg_none_of X G z_range,
    z_tuple := PySem.W.mg_none_of X G z_tuple,
    g_MOST_CALLS := ⟨_, PySem.W.mg_of X G g_MOST_CALLS⟩,
    tb := tabOk_of (fa_cons (⟨⟨pg_0, hd_0, po_0, sa_0⟩, n_0_inputs⟩) (fa_cons (⟨⟨pg_0, hd_0, po_0, sa_0⟩, n_0_most⟩) (fa_cons (⟨⟨pg_0, hd_0, po_0, sa_0⟩, n_0_log⟩) (fa_cons (⟨⟨pg_0, hd_0, po_0, sa_0⟩, n_0_deeds⟩) (fa_cons (⟨⟨pg_0, hd_0, po_0, sa_0⟩, n_0_calls⟩) (fa_cons (⟨⟨pg_0, hd_0, po_0, sa_0⟩, n_0_deepest⟩) (fa_cons (⟨⟨pg_0, hd_0, po_0, sa_0⟩, n_0_handed⟩) fa_nil))))))),
    jt := isTab_of (fa_cons (kit_tt (by decide +kernel)) (fa_cons (kit_tt (by decide +kernel)) (fa_cons (kit_tt (by decide +kernel)) (fa_cons (kit_tt (by decide +kernel)) (fa_cons (kit_tt (by decide +kernel)) (fa_cons (kit_tt (by decide +kernel)) (fa_cons (kit_tt (by decide +kernel)) (fa_cons (kit_rt (by decide +kernel) s_7) fa_nil)))))))) (fa_cons (fun c e => by cases e) (fa_cons (fun c e => by cases e) (fa_cons (fun c e => by cases e) (fa_cons (fun c e => by cases e) (fa_cons (fun c e => by cases e) (fa_cons (fun c e => by cases e) (fa_cons (fun c e => by cases e) (fa_cons (fun c e => by cases e; exact ⟨⟨pg_0, hd_0, po_0, sa_0⟩, cc_0, sg, tk, mo_0⟩) fa_nil)))))))) }
  exact ⟨_, fun s v => .of_eq rfl, fun base _ _ => law_end (g := (gx K C0 C1)) rfl (ok_law (P := P) (w := w) (base := base) T) plain⟩
end
end K13
open PySem PySem.W PyProof.Rows
set_option maxRecDepth 100000 in
set_option maxHeartbeats 0 in
theorem PySem.Challenge.cw_spacewright_k13_a_world_holds : PySem.Challenge.rw_spacewright_k13_a_world.Holds := by
  w_on; o_law; k_head; (case hw => w_witness2)
  k_fill
  refine Sm.walk_sm (l := PySem.Challenge.rw_spacewright_k13_a_world) (n := 63) (k := 7) (x := "_law_script") rfl (by decide) rfl ⟨rfl, by decide, by decide⟩ (fun w h Y => PySem.W.kIn_of Y) ?F
  case F =>
    intro w mg fa h KX G hmg
    refine' K13.all_mk KX G hmg ?a_C0 ?pg_0 ?hd_0 ?po_0 ?sa_0 ?mk_0 ?kc_0 ?cc_0 ?mo_0 ?ic_0 ?ty_0 ?n_0_inputs ?n_0_most ?n_0_log ?n_0_deeds ?n_0_calls ?n_0_deepest ?n_0_handed ?sg ?tk ?a_law_cell ?l_law_cell ?c_law_cell ?k_law_cell ?a_law_inputs ?l_law_inputs ?c_law_inputs ?k_law_inputs ?a_law_ended ?l_law_ended ?c_law_ended ?k_law_ended ?a_law_noted ?l_law_noted ?c_law_noted ?k_law_noted ?a_law_taken ?l_law_taken ?c_law_taken ?k_law_taken ?a_law_entered ?l_law_entered ?c_law_entered ?k_law_entered ?a_law_closed ?l_law_closed ?c_law_closed ?k_law_closed ?a_law_deed ?l_law_deed ?c_law_deed ?k_law_deed ?a_law_told ?l_law_told ?c_law_told ?k_law_told ?a_law ?l_law ?c_law ?k_law ?a_World_init ?i_World_init ?l_World_init ?c_World_init ?k_World_init ?lT_World_init ?a_World_note ?i_World_note ?l_World_note ?c_World_note ?k_World_note ?a_World_take ?i_World_take ?l_World_take ?c_World_take ?k_World_take ?a_World_say ?i_World_say ?l_World_say ?c_World_say ?k_World_say ?a_World_enter ?i_World_enter ?l_World_enter ?c_World_enter ?k_World_enter ?a_World_leave ?i_World_leave ?l_World_leave ?c_World_leave ?k_World_leave ?a_World_drop_to ?i_World_drop_to ?l_World_drop_to ?c_World_drop_to ?k_World_drop_to ?a_World_result ?i_World_result ?l_World_result ?c_World_result ?k_World_result ?a_C1 ?a_x_Ended ?l_x_Ended ?c_x_Ended ?k_x_Ended ?xl_x_Ended ?ne_r_x_Ended ?sa_x_Ended ?ex_x_Ended ?ty_x_Ended ?kc_x_Ended ?tf_x_Ended ?nf_x_Ended ?ga_x_Ended ?gg_x_Ended ?hd_x_Ended ?ss_x_Ended ?a_b_SpaceError ?rd_b_SpaceError ?ga_b_SpaceError ?fc_b_SpaceError ?z_isinstance ?z_len ?z_list ?z_max ?z_range ?z_tuple ?g_MOST_CALLS ?s_7
    (case a_C0 => k_is)
    (case pg_0 => k_is)
    (case hd_0 => k_is)
    (case po_0 => k_is)
    (case sa_0 => k_is)
    (case mk_0 => k_is)
    (case kc_0 => k_is)
    (case cc_0 => k_is)
    (case mo_0 => k_is)
    (case ic_0 => k_is)
    (case ty_0 => k_is)
    (case n_0_inputs => k_is)
    (case n_0_most => k_is)
    (case n_0_log => k_is)
    (case n_0_deeds => k_is)
    (case n_0_calls => k_is)
    (case n_0_deepest => k_is)
    (case n_0_handed => k_is)
    (case sg => k_is)
    (case tk => k_is)
    (case a_law_cell => k_is)
    (case l_law_cell => k_is)
    (case c_law_cell => k_is)
    (case k_law_cell => k_is)
    (case a_law_inputs => k_is)
    (case l_law_inputs => k_is)
    (case c_law_inputs => k_is)
    (case k_law_inputs => k_is)
    (case a_law_ended => k_is)
    (case l_law_ended => k_is)
    (case c_law_ended => k_is)
    (case k_law_ended => k_is)
    (case a_law_noted => k_is)
    (case l_law_noted => k_is)
    (case c_law_noted => k_is)
    (case k_law_noted => k_is)
    (case a_law_taken => k_is)
    (case l_law_taken => k_is)
    (case c_law_taken => k_is)
    (case k_law_taken => k_is)
    (case a_law_entered => k_is)
    (case l_law_entered => k_is)
    (case c_law_entered => k_is)
    (case k_law_entered => k_is)
    (case a_law_closed => k_is)
    (case l_law_closed => k_is)
    (case c_law_closed => k_is)
    (case k_law_closed => k_is)
    (case a_law_deed => k_is)
    (case l_law_deed => k_is)
    (case c_law_deed => k_is)
    (case k_law_deed => k_is)
    (case a_law_told => k_is)
    (case l_law_told => k_is)
    (case c_law_told => k_is)
    (case k_law_told => k_is)
    (case a_law => k_is)
    (case l_law => k_is)
    (case c_law => k_is)
    (case k_law => k_is)
    (case a_World_init => k_is)
    (case i_World_init => k_is)
    (case l_World_init => k_is)
    (case c_World_init => k_is)
    (case k_World_init => k_is)
    (case lT_World_init => k_is)
    (case a_World_note => k_is)
    (case i_World_note => k_is)
    (case l_World_note => k_is)
    (case c_World_note => k_is)
    (case k_World_note => k_is)
    (case a_World_take => k_is)
    (case i_World_take => k_is)
    (case l_World_take => k_is)
    (case c_World_take => k_is)
    (case k_World_take => k_is)
    (case a_World_say => k_is)
    (case i_World_say => k_is)
    (case l_World_say => k_is)
    (case c_World_say => k_is)
    (case k_World_say => k_is)
    (case a_World_enter => k_is)
    (case i_World_enter => k_is)
    (case l_World_enter => k_is)
    (case c_World_enter => k_is)
    (case k_World_enter => k_is)
    (case a_World_leave => k_is)
    (case i_World_leave => k_is)
    (case l_World_leave => k_is)
    (case c_World_leave => k_is)
    (case k_World_leave => k_is)
    (case a_World_drop_to => k_is)
    (case i_World_drop_to => k_is)
    (case l_World_drop_to => k_is)
    (case c_World_drop_to => k_is)
    (case k_World_drop_to => k_is)
    (case a_World_result => k_is)
    (case i_World_result => k_is)
    (case l_World_result => k_is)
    (case c_World_result => k_is)
    (case k_World_result => k_is)
    (case a_C1 => k_is)
    (case a_x_Ended => k_is)
    (case l_x_Ended => k_is)
    (case c_x_Ended => k_is)
    (case k_x_Ended => k_is)
    (case xl_x_Ended => k_is)
    (case ne_r_x_Ended => exact rfl)
    (case sa_x_Ended => k_is)
    (case ex_x_Ended => k_is)
    (case ty_x_Ended => k_is)
    (case kc_x_Ended => k_is)
    (case tf_x_Ended => k_is)
    (case nf_x_Ended => k_is)
    (case ga_x_Ended => k_is)
    (case gg_x_Ended => k_is)
    (case hd_x_Ended => k_is)
    (case ss_x_Ended => k_is)
    (case a_b_SpaceError => k_is)
    (case rd_b_SpaceError => k_is)
    (case ga_b_SpaceError => k_is)
    (case fc_b_SpaceError => k_is)
    (case z_isinstance => k_is)
    (case z_len => k_is)
    (case z_list => k_is)
    (case z_max => k_is)
    (case z_range => k_is)
    (case z_tuple => k_is)
    (case g_MOST_CALLS => k_is)
    (case s_7 => k_is)
#print axioms PySem.Challenge.cw_spacewright_k13_a_world_holds
end
