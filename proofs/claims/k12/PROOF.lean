import PyProof.Rows.All
import Wide.All
import OpenK.AllK
import Wide.FinOn
import HandS.ForMost
import HandS.ForExc
import HandS.CallSlots
import HandS.Flow
import HandS.Wide
import HandS.TupAny
import HandS.Walk
import HandS.IsInst
import HandS.SortInts
import HandS.EndBits
import PySem.Challenge.RW_spacewright_k12_reckoning
set_option Elab.async false
set_option linter.all false
set_option maxRecDepth 100000
set_option maxHeartbeats 4000000
set_option autoImplicit false
section
/-! Sm, part A: data, the store, results; how they stand for values and the abstract heap of the hand layer. -/
namespace Sm
open PySem PySem.Spec PyProof.Rows L2

/-- data: what never changes is told by value; `loc` names a thing of the store -/
inductive D where
  | non | bl (b : Bool) | int (i : Int) | str (x : Str) | ty (n : String) | cls (c : Nat) | fnc (i : Nat) | loc (l : Nat)
  | tup (xs : List D) | lsc (xs : List D)
/-- things that may change -/
inductive Ob where
  | lst (xs : List D) | dct (kvs : List (Key × D)) | ins (c : Nat) (fs : List (Str × D))
abbrev Sto := List Ob
/-- an exception: its class, its fields -/
abbrev Exn := Nat × List (Str × D)
inductive Rz (α : Type) where
  | ok (a : α) (S : Sto) | ex (e : Exn) (S : Sto) | no
def Rz.andThen {α β : Type} (r : Rz α) (f : α → Sto → Rz β) : Rz β :=
  match r with
  | .ok a S => f a S
  | .ex e S => .ex e S
  | .no => .no
def Mo (α : Type) := Sto → Rz α
instance : Monad Mo where
  pure a := fun S => .ok a S
  bind x f := fun S => (x S).andThen f
abbrev En := List (Option D)
abbrev DE := En → Mo D

section
variable {α β : Type}
@[simp] theorem pure_ap (a : α) (S : Sto) : (pure a : Mo α) S = .ok a S := rfl
@[simp] theorem bind_ap (x : Mo α) (f : α → Mo β) (S : Sto) : (x >>= f) S = (x S).andThen f := rfl
@[simp] theorem andThen_ok (a : α) (S : Sto) (f : α → Sto → Rz β) : (Rz.ok a S).andThen f = f a S := rfl
@[simp] theorem andThen_ex (e : Exn) (S : Sto) (f : α → Sto → Rz β) : (Rz.ex e S : Rz α).andThen f = .ex e S := rfl
@[simp] theorem andThen_no (f : α → Sto → Rz β) : (Rz.no : Rz α).andThen f = .no := rfl
end
def bad {α : Type} : Mo α := fun _ => .no
@[simp] theorem bad_ap {α : Type} (S : Sto) : (bad : Mo α) S = .no := rfl

/-- a length that the model can hold -/
@[irreducible] def fit (n : Nat) : Bool := decide (n ≤ sizeLine)
theorem fit_iff {n : Nat} : fit n = true ↔ n ≤ sizeLine := by
  unfold fit
  exact decide_eq_true_iff
theorem fit_of {n : Nat} (h : n ≤ 16777216) : fit n = true := fit_iff.mpr (by rw [sizeLine_eq]; exact h)
theorem fit_ne {n : Nat} (h : ¬ n ≤ sizeLine) : fit n = false := by
  cases e : fit n with
  | false => rfl
  | true => exact absurd (fit_iff.mp e) h

/-! ### the relation -/
structure Gx where
  K : PySem.W.Frag
  ct : Nat → Addr
  fa : Nat → Addr
/-- a list that nobody changes: locked, or of the written part -/
def Lsc (K : PySem.W.Frag) (H : Hp) (a : Addr) (xs : List V) : Prop :=
  (∃ o, H a = some (.frz o (.lst xs))) ∨
    ∃ (o : Obj) (its : Array Value) (n : Nat), K.lookup a = some o ∧ o.cls = .type "list" ∧ o.dict = none ∧ o.data = .seq its n ∧ its.size ≤ sizeLine ∧ Vals xs its.toList
theorem Lsc.sq {K : PySem.W.Frag} {H : Hp} {a : Addr} {xs : List V} (h : Lsc K H a xs) : SqL K H a xs := by
  rcases h with h | h
  · exact .inl (.inr h)
  · exact .inr h

mutual
inductive VR (g : Gx) (m : Nat → Addr) (n : Nat) (H : Hp) : V → D → Prop
  | non : VR g m n H .non .non
  | bl (b : Bool) : VR g m n H (.bl b) (.bl b)
  | int (i : Int) : VR g m n H (.int i) (.int i)
  | str (x : Str) : VR g m n H (.str x) (.str x)
  | ty (t : String) : VR g m n H (.ty t) (.ty t)
  | cls (c : Nat) : VR g m n H (.ref (g.ct c)) (.cls c)
  | fnc (i : Nat) : VR g m n H (.ref (g.fa i)) (.fnc i)
  | loc (l : Nat) : l < n → VR g m n H (.ref (m l)) (.loc l)
  | tup (a : Addr) (xs : List V) (ds : List D) : SqT g.K H a xs → VRs g m n H xs ds → VR g m n H (.ref a) (.tup ds)
  | lsc (a : Addr) (xs : List V) (ds : List D) : Lsc g.K H a xs → VRs g m n H xs ds → VR g m n H (.ref a) (.lsc ds)
inductive VRs (g : Gx) (m : Nat → Addr) (n : Nat) (H : Hp) : List V → List D → Prop
  | nil : VRs g m n H [] []
  | cons (x : V) (d : D) (xs : List V) (ds : List D) : VR g m n H x d → VRs g m n H xs ds → VRs g m n H (x :: xs) (d :: ds)
end

/-- from one heap to a later one -/
structure Ev (g : Gx) (m : Nat → Addr) (n : Nat) (H : Hp) (m' : Nat → Addr) (n' : Nat) (H' : Hp) : Prop where
  le : n ≤ n'
  ag : ∀ l, l < n → m' l = m l
  tup : ∀ a xs, SqT g.K H a xs → SqT g.K H' a xs
  lsc : ∀ a xs, Lsc g.K H a xs → Lsc g.K H' a xs
section
variable {g : Gx} {m m' m'' : Nat → Addr} {n n' n'' : Nat} {H H' H'' : Hp}
theorem Ev.refl : Ev g m n H m n H := ⟨Nat.le_refl _, fun _ _ => rfl, fun _ _ h => h, fun _ _ h => h⟩
theorem Ev.trans (a : Ev g m n H m' n' H') (b : Ev g m' n' H' m'' n'' H'') : Ev g m n H m'' n'' H'' :=
  ⟨Nat.le_trans a.le b.le, fun l h => (b.ag l (Nat.lt_of_lt_of_le h a.le)).trans (a.ag l h), fun x xs h => b.tup x xs (a.tup x xs h), fun x xs h => b.lsc x xs (a.lsc x xs h)⟩
mutual
theorem VR.ev (e : Ev g m n H m' n' H') : ∀ {v : V} {d : D}, VR g m n H v d → VR g m' n' H' v d
  | _, _, .non => .non
  | _, _, .bl b => .bl b
  | _, _, .int i => .int i
  | _, _, .str x => .str x
  | _, _, .ty t => .ty t
  | _, _, .cls c => .cls c
  | _, _, .fnc i => .fnc i
  | _, _, .loc l h => by rw [← e.ag l h]; exact .loc l (Nat.lt_of_lt_of_le h e.le)
  | _, _, .tup a xs ds h r => .tup a xs ds (e.tup a xs h) (VRs.ev e r)
  | _, _, .lsc a xs ds h r => .lsc a xs ds (e.lsc a xs h) (VRs.ev e r)
theorem VRs.ev (e : Ev g m n H m' n' H') : ∀ {v : List V} {d : List D}, VRs g m n H v d → VRs g m' n' H' v d
  | _, _, .nil => .nil
  | _, _, .cons x d xs ds r t => .cons x d xs ds (VR.ev e r) (VRs.ev e t)
end
theorem VRs.length : ∀ {v : List V} {d : List D}, VRs g m n H v d → v.length = d.length
  | _, _, .nil => rfl
  | _, _, .cons _ _ _ _ _ t => congrArg (· + 1) (VRs.length t)
theorem VRs.append : ∀ {v v' : List V} {d d' : List D}, VRs g m n H v d → VRs g m n H v' d' → VRs g m n H (v ++ v') (d ++ d')
  | _, _, _, _, .nil, s => s
  | _, _, _, _, .cons x d xs ds r t, s => .cons x d _ _ r (VRs.append t s)
theorem VRs.get : ∀ {v : List V} {d : List D} {i : Nat} {x : D}, VRs g m n H v d → d[i]? = some x → ∃ u, v[i]? = some u ∧ VR g m n H u x
  | _, _, _, _, .nil, e => by simp at e
  | _, _, 0, _, .cons x d xs ds r t, e => by simp at e; subst e; exact ⟨x, rfl, r⟩
  | _, _, i + 1, y, .cons x d xs ds r t, e => by
    obtain ⟨u, h1, h2⟩ := VRs.get (i := i) (x := y) t (by simpa using e)
    exact ⟨u, by simpa using h1, h2⟩
theorem VRs.get' : ∀ {v : List V} {d : List D} {i : Nat} {u : V}, VRs g m n H v d → v[i]? = some u → ∃ x, d[i]? = some x ∧ VR g m n H u x
  | _, _, _, _, .nil, e => by simp at e
  | _, _, 0, _, .cons x d xs ds r t, e => by simp at e; subst e; exact ⟨d, rfl, r⟩
  | _, _, i + 1, y, .cons x d xs ds r t, e => by
    obtain ⟨u, h1, h2⟩ := VRs.get' (i := i) (u := y) t (by simpa using e)
    exact ⟨u, by simpa using h1, h2⟩
theorem VRs.set : ∀ {v : List V} {d : List D} (i : Nat) {u : V} {x : D}, VRs g m n H v d → VR g m n H u x → VRs g m n H (v.set i u) (d.set i x)
  | _, _, _, _, _, .nil, _ => .nil
  | _, _, 0, u, y, .cons x d xs ds r t, q => .cons u y xs ds q t
  | _, _, i + 1, u, y, .cons x d xs ds r t, q => .cons x d _ _ r (VRs.set i t q)
theorem VRs.take : ∀ {v : List V} {d : List D} (i : Nat), VRs g m n H v d → VRs g m n H (v.take i) (d.take i)
  | _, _, 0, _ => .nil
  | _, _, i + 1, .nil => .nil
  | _, _, i + 1, .cons x d xs ds r t => .cons x d _ _ r (VRs.take i t)
theorem VRs.drop : ∀ {v : List V} {d : List D} (i : Nat), VRs g m n H v d → VRs g m n H (v.drop i) (d.drop i)
  | _, _, 0, r => r
  | _, _, i + 1, .nil => .nil
  | _, _, i + 1, .cons x d xs ds r t => VRs.drop i t
theorem VRs.reverse {v : List V} {d : List D} (h : VRs g m n H v d) : VRs g m n H v.reverse d.reverse := by
  have go : ∀ {v : List V} {d : List D}, VRs g m n H v d → VRs g m n H v.reverse d.reverse := by
    intro v
    induction v with
    | nil => intro d h; cases h; exact .nil
    | cons x xs ih =>
      intro d h
      cases h with
      | cons _ y _ ys r t =>
        rw [List.reverse_cons, List.reverse_cons]
        exact (ih t).append (.cons _ _ _ _ r .nil)
  exact go h
theorem VRs.ints : ∀ {v : List V} {ns : List Int}, VRs g m n H v (ns.map D.int) → v = ns.map V.int
  | [], [], _ => rfl
  | _ :: _, k :: ns, h => by
    cases h with
    | cons _ _ _ _ r t =>
      cases r
      rw [VRs.ints t]
      rfl
theorem VRs.of_ints : ∀ (ns : List Int), VRs g m n H (ns.map V.int) (ns.map D.int)
  | [] => .nil
  | k :: ns => .cons _ _ _ _ (.int k) (VRs.of_ints ns)
end

/-- a thing of the store stands at a -/
def OR (g : Gx) (m : Nat → Addr) (n : Nat) (H : Hp) (a : Addr) : Ob → Prop
  | .lst ds => ∃ vs, H a = some (.lst vs) ∧ VRs g m n H vs ds
  | .dct kvs => ∃ kvs', H a = some (.dK kvs') ∧ kvs'.map (·.1) = kvs.map (·.1) ∧ VRs g m n H (kvs'.map (·.2)) (kvs.map (·.2))
  | .ins c fs => ∃ dx fs', H a = some (.ins (g.ct c) dx fs') ∧ fs'.map (·.1) = fs.map (·.1) ∧ VRs g m n H (fs'.map (·.2)) (fs.map (·.2))
structure SR (g : Gx) (m : Nat → Addr) (H : Hp) (S : Sto) : Prop where
  ob : ∀ (l : Nat) (o : Ob), S[l]? = some o → OR g m S.length H (m l) o
  inj : ∀ l l', l < S.length → l' < S.length → m l = m l' → l = l'
structure ER (g : Gx) (m : Nat → Addr) (n : Nat) (H : Hp) (σ : L2.St) (ρ : En) : Prop where
  len : σ.length = ρ.length
  at_ : ∀ (i : Nat) (d : D), ρ[i]? = some (some d) → ∃ v, σ[i]? = some (some v) ∧ VR g m n H v d
def XR (g : Gx) (m : Nat → Addr) (n : Nat) (H : Hp) (e : Exn) (c : Value) (d : Option Addr) : Prop :=
  c = .ref (g.ct e.1) ∧ (e.2 = [] ∨ ∃ dd fs', d = some dd ∧ H dd = some (.xd fs') ∧ fs'.map (·.1) = e.2.map (·.1) ∧ VRs g m n H (fs'.map (·.2)) (e.2.map (·.2)))

section
variable {g : Gx} {m m' m'' : Nat → Addr} {n n' n'' : Nat} {H H' H'' : Hp} {S S' : Sto} {σ : L2.St} {ρ : En}
theorem ER.ev (e : Ev g m n H m' n' H') (h : ER g m n H σ ρ) : ER g m' n' H' σ ρ := ⟨h.len, fun i d q => by
  obtain ⟨v, a, b⟩ := h.at_ i d q
  exact ⟨v, a, b.ev e⟩⟩
theorem ER.set (h : ER g m n H σ ρ) {i : Nat} {v : V} {d : D} (r : VR g m n H v d) : ER g m n H (σ.set i (some v)) (ρ.set i (some d)) := by
  refine ⟨by simp [h.len], fun j e q => ?_⟩
  by_cases hj : i = j
  · subst hj
    by_cases hl : i < ρ.length
    · rw [List.getElem?_set_self hl] at q
      cases q
      exact ⟨v, List.getElem?_set_self (by rw [h.len]; exact hl), r⟩
    · rw [List.getElem?_eq_none (by simpa using hl)] at q; cases q
  · rw [List.getElem?_set_ne hj] at q
    obtain ⟨u, a, b⟩ := h.at_ j e q
    exact ⟨u, by rw [List.getElem?_set_ne hj]; exact a, b⟩
theorem ER.unset (h : ER g m n H σ ρ) {i : Nat} {o : Option V} : ER g m n H (σ.set i o) (ρ.set i none) := by
  refine ⟨by simp [h.len], fun j e q => ?_⟩
  by_cases hj : i = j
  · subst hj
    by_cases hl : i < ρ.length
    · rw [List.getElem?_set_self hl] at q; cases q
    · rw [List.getElem?_eq_none (by simpa using hl)] at q; cases q
  · rw [List.getElem?_set_ne hj] at q
    obtain ⟨u, a, b⟩ := h.at_ j e q
    exact ⟨u, by rw [List.getElem?_set_ne hj]; exact a, b⟩

/-- a store's address is tracked -/
theorem SR.has (h : SR g m H S) {l : Nat} (hl : l < S.length) : ∃ o, H (m l) = some o := by
  have q := h.ob l S[l] (List.getElem?_eq_getElem hl)
  cases e : S[l] with
  | lst ds => rw [e] at q; obtain ⟨_, z, _⟩ := q; exact ⟨_, z⟩
  | dct kvs => rw [e] at q; obtain ⟨_, z, _⟩ := q; exact ⟨_, z⟩
  | ins c fs => rw [e] at q; obtain ⟨_, _, z, _⟩ := q; exact ⟨_, z⟩
/-- it is no tuple, no locked thing, no own dict -/
theorem SR.canw (h : SR g m H S) {l : Nat} (hl : l < S.length) : Mut (H (m l)) := by
  have q := h.ob l S[l] (List.getElem?_eq_getElem hl)
  cases e : S[l] with
  | lst ds => rw [e] at q; obtain ⟨_, z, _⟩ := q; rw [z]; trivial
  | dct kvs => rw [e] at q; obtain ⟨_, z, _⟩ := q; rw [z]; trivial
  | ins c fs => rw [e] at q; obtain ⟨_, _, z, _⟩ := q; rw [z]; trivial
theorem SqT.keep {K : PySem.W.Frag} {a : Addr} {xs : List V} (k : ∀ o, H a = some o → (∃ ys, o = .tup ys) ∨ (∃ ob u, o = .frz ob u) → H' a = some o) (h : SqT K H a xs) : SqT K H' a xs := by
  rcases h with (h | ⟨o, h⟩) | h
  · exact .inl (.inl (k _ h (.inl ⟨_, rfl⟩)))
  · exact .inl (.inr ⟨o, k _ h (.inr ⟨_, _, rfl⟩)⟩)
  · exact .inr h
theorem Lsc.keep {K : PySem.W.Frag} {a : Addr} {xs : List V} (k : ∀ o, H a = some o → (∃ ys, o = .tup ys) ∨ (∃ ob u, o = .frz ob u) → H' a = some o) (h : Lsc K H a xs) : Lsc K H' a xs := by
  rcases h with ⟨o, h⟩ | h
  · exact .inl ⟨o, k _ h (.inr ⟨_, _, rfl⟩)⟩
  · exact .inr h
theorem Ev.new {p : Addr} {o : HO} (hp : H p = none) : Ev g m n H m n (upd H p o) := by
  refine ⟨Nat.le_refl _, fun _ _ => rfl, fun a xs h => SqT.keep (fun u e _ => ?_) h, fun a xs h => Lsc.keep (fun u e _ => ?_) h⟩ <;>
    (rw [upd_ne (ne_of_none e hp)]; exact e)
theorem Ev.wr {p : Addr} {o : HO} (hp : Mut (H p)) : Ev g m n H m n (upd H p o) := by
  have ne : ∀ {a : Addr} {u : HO}, H a = some u → (∃ ys, u = .tup ys) ∨ (∃ ob u', u = .frz ob u') → a ≠ p := fun {a u} e q z => by
    subst z
    rw [e] at hp
    rcases q with ⟨_, rfl⟩ | ⟨_, _, rfl⟩ <;> exact hp
  refine ⟨Nat.le_refl _, fun _ _ => rfl, fun a xs h => SqT.keep (fun u e q => ?_) h, fun a xs h => Lsc.keep (fun u e q => ?_) h⟩ <;>
    (rw [upd_ne (ne e q)]; exact e)
/-- m with one more place -/
def ext (m : Nat → Addr) (n : Nat) (p : Addr) : Nat → Addr := fun l => if l = n then p else m l
theorem ext_old {p : Addr} {l : Nat} (h : l < n) : ext m n p l = m l := if_neg (Nat.ne_of_lt h)
theorem ext_new {p : Addr} : ext m n p n = p := if_pos rfl
theorem Ev.ext {p : Addr} (e : Ev g m n H m n H') : Ev g m n H (ext m n p) (n + 1) H' := ⟨Nat.le_succ _, fun l h => ext_old h, e.tup, e.lsc⟩
/-- an object's description through a change elsewhere -/
theorem OR.keep {a : Addr} {o : Ob} (e : Ev g m n H m' n' H') (k : ∀ u, H a = some u → Mut (some u) → H' a = some u) (h : OR g m n H a o) : OR g m' n' H' a o := by
  cases o with
  | lst ds => obtain ⟨vs, a1, a2⟩ := h; exact ⟨vs, k _ a1 trivial, a2.ev e⟩
  | dct kvs => obtain ⟨vs, a1, a2, a3⟩ := h; exact ⟨vs, k _ a1 trivial, a2, a3.ev e⟩
  | ins c fs => obtain ⟨dx, vs, a1, a2, a3⟩ := h; exact ⟨dx, vs, k _ a1 trivial, a2, a3.ev e⟩
/-- something new that the store does not name -/
theorem SR.aside (h : SR g m H S) {p : Addr} {o : HO} (hp : H p = none) : SR g m (upd H p o) S :=
  ⟨fun l u e => (h.ob l u e).keep (Ev.new hp) fun v q _ => by rw [upd_ne (ne_of_none q hp)]; exact q, h.inj⟩
/-- .. or whatever else changed, but the store's things -/
theorem SR.keep (h : SR g m H S) (e : Ev g m S.length H m S.length H') (k : ∀ l u, l < S.length → H (m l) = some u → H' (m l) = some u) : SR g m H' S :=
  ⟨fun l u q => (h.ob l u q).keep e fun v z _ => k l v (List.getElem?_eq_some_iff.mp q).1 z, h.inj⟩
/-- a new thing of the store -/
theorem SR.alloc (h : SR g m H S) {p : Addr} {u : HO} {o : Ob} (hp : H p = none) (ho : OR g (ext m S.length p) (S.length + 1) (upd H p u) p o) : SR g (ext m S.length p) (upd H p u) (S ++ [o]) := by
  have e : Ev g m S.length H (ext m S.length p) (S.length + 1) (upd H p u) := Ev.ext (Ev.new hp)
  have nm : ∀ l, l < S.length → m l ≠ p := fun l hl => by
    obtain ⟨v, q⟩ := h.has hl
    exact ne_of_none q hp
  refine ⟨fun l o' q => ?_, fun l l' h1 h2 q => ?_⟩
  · rw [List.length_append, List.length_singleton]
    by_cases hl : l < S.length
    · rw [List.getElem?_append_left hl] at q
      rw [ext_old hl]
      exact (h.ob l o' q).keep e fun v z _ => by rw [upd_ne (nm l hl)]; exact z
    · have hl' : l = S.length := by
        have := (List.getElem?_eq_some_iff.mp q).1
        rw [List.length_append, List.length_singleton] at this
        omega
      subst hl'
      rw [List.getElem?_concat_length] at q
      cases q
      rw [ext_new]
      exact ho
  · rw [List.length_append, List.length_singleton] at h1 h2
    by_cases a : l < S.length
    · by_cases b : l' < S.length
      · rw [ext_old a, ext_old b] at q
        exact h.inj l l' a b q
      · have : l' = S.length := by omega
        subst this
        rw [ext_old a, ext_new] at q
        exact absurd q (nm l a)
    · have : l = S.length := by omega
      subst this
      by_cases b : l' < S.length
      · rw [ext_old b, ext_new] at q
        exact absurd q.symm (nm l' b)
      · omega
/-- a thing of the store is written -/
theorem SR.wr (h : SR g m H S) {l : Nat} {u : HO} {o : Ob} (hl : l < S.length) (ho : OR g m S.length (upd H (m l) u) (m l) o) : SR g m (upd H (m l) u) (S.set l o) := by
  have e : Ev g m S.length H m S.length (upd H (m l) u) := Ev.wr (h.canw hl)
  refine ⟨fun k o' q => ?_, fun a b h1 h2 q => ?_⟩
  · rw [List.length_set]
    by_cases hk : l = k
    · subst hk
      rw [List.getElem?_set_self hl] at q
      cases q
      exact ho
    · rw [List.getElem?_set_ne hk] at q
      have hkl := (List.getElem?_eq_some_iff.mp q).1
      exact (h.ob k o' q).keep e fun v z _ => by rw [upd_ne (fun z => hk (h.inj _ _ hkl hl z).symm)]; exact z
  · rw [List.length_set] at h1 h2
    exact h.inj a b h1 h2 q
theorem SR.atL (h : SR g m H S) {l : Nat} {ds : List D} (q : S[l]? = some (.lst ds)) : l < S.length ∧ ∃ vs, H (m l) = some (.lst vs) ∧ VRs g m S.length H vs ds :=
  ⟨(List.getElem?_eq_some_iff.mp q).1, h.ob l _ q⟩
theorem SR.atD (h : SR g m H S) {l : Nat} {kvs : List (Key × D)} (q : S[l]? = some (.dct kvs)) : l < S.length ∧ ∃ kvs', H (m l) = some (.dK kvs') ∧ kvs'.map (·.1) = kvs.map (·.1) ∧ VRs g m S.length H (kvs'.map (·.2)) (kvs.map (·.2)) :=
  ⟨(List.getElem?_eq_some_iff.mp q).1, h.ob l _ q⟩
theorem SR.atI (h : SR g m H S) {l : Nat} {c : Nat} {fs : List (Str × D)} (q : S[l]? = some (.ins c fs)) : l < S.length ∧ ∃ dx fs', H (m l) = some (.ins (g.ct c) dx fs') ∧ fs'.map (·.1) = fs.map (·.1) ∧ VRs g m S.length H (fs'.map (·.2)) (fs.map (·.2)) :=
  ⟨(List.getElem?_eq_some_iff.mp q).1, h.ob l _ q⟩
end

/-! ### what is wanted of a result -/
section
variable {α β : Type}
def PRx (g : Gx) (m : Nat → Addr) (S : Sto) (H : Hp) (W : XK) (K : α → (Nat → Addr) → Sto → Hp → Prop) : Rz α → Prop
  | .ok a S' => ∀ m' H', Ev g m S.length H m' S'.length H' → SR g m' H' S' → K a m' S' H'
  | .ex e S' => ∀ c d m' H', Ev g m S.length H m' S'.length H' → SR g m' H' S' → XR g m' S'.length H' e c d → W c d H'
  | .no => False
variable {g : Gx} {m m' : Nat → Addr} {S S' : Sto} {H H' : Hp} {W : XK} {K K' : α → (Nat → Addr) → Sto → Hp → Prop} {r : Rz α}
theorem PRx.ev (e : Ev g m S.length H m' S'.length H') (h : PRx g m S H W K r) : PRx g m' S' H' W K r := by
  cases r with
  | ok a S1 => exact fun m1 H1 e1 s1 => h m1 H1 (e.trans e1) s1
  | ex x S1 => exact fun c d m1 H1 e1 s1 => h c d m1 H1 (e.trans e1) s1
  | no => exact h
theorem PRx.mono (h : PRx g m S H W K r) (k : ∀ a m' S' H', Ev g m S.length H m' S'.length H' → SR g m' H' S' → K a m' S' H' → K' a m' S' H') : PRx g m S H W K' r := by
  cases r with
  | ok a S1 => exact fun m1 H1 e1 s1 => k a m1 S1 H1 e1 s1 (h m1 H1 e1 s1)
  | ex x S1 => exact h
  | no => exact h
theorem PRx.bind {f : α → Sto → Rz β} {K2 : β → (Nat → Addr) → Sto → Hp → Prop} (h : PRx g m S H W K2 (r.andThen f)) :
    PRx g m S H W (fun a m1 S1 H1 => PRx g m1 S1 H1 W K2 (f a S1)) r := by
  cases r with
  | ok a S1 => exact fun m1 H1 e1 _ => PRx.ev e1 h
  | ex x S1 => exact h
  | no => exact h
end
/-- the ends: a value, values, a truth -/
abbrev KD (g : Gx) (Q : VK) : D → (Nat → Addr) → Sto → Hp → Prop := fun d m' S' H' => ∀ v, VR g m' S'.length H' v d → Q v H'
abbrev KA (g : Gx) (Q : List V → Hp → Prop) : List D → (Nat → Addr) → Sto → Hp → Prop := fun d m' S' H' => ∀ v, VRs g m' S'.length H' v d → Q v H'
abbrev KT (Q : Bool → Hp → Prop) : Bool → (Nat → Addr) → Sto → Hp → Prop := fun b _ _ H' => Q b H'
def tD (g : Gx) (W : WX) (f : DE) : TE := fun σ H Q => ∃ m S ρ, SR g m H S ∧ ER g m S.length H σ ρ ∧ PRx g m S H (fun c d H' => W c d σ H') (KD g Q) (f ρ S)
def tDs (g : Gx) (W : WX) (f : En → Mo (List D)) : TA := fun σ H Q => ∃ m S ρ, SR g m H S ∧ ER g m S.length H σ ρ ∧ PRx g m S H (fun c d H' => W c d σ H') (KA g Q) (f ρ S)
def tDb (g : Gx) (W : WX) (f : En → Mo Bool) : TT := fun σ H Q => ∃ m S ρ, SR g m H S ∧ ER g m S.length H σ ρ ∧ PRx g m S H (fun c d H' => W c d σ H') (KT Q) (f ρ S)

theorem PE.imp {X : Cx} {e : Expr} {t t' : TE} (h : PE X e t) (i : ∀ σ H Q, t' σ H Q → t σ H Q) : PE X e t' := ⟨fun pins s σ H Q I q => h.run pins s σ H Q I (i σ H Q q)⟩
theorem PT.imp {X : Cx} {e : Expr} {t t' : TT} (h : PT X e t) (i : ∀ σ H Q, t' σ H Q → t σ H Q) : PT X e t' := ⟨fun pins s σ H Q I q => h.run pins s σ H Q I (i σ H Q q)⟩
theorem PW.imp {X : Cx} {e : Expr} {t t' : TT} (h : PW X e t) (i : ∀ σ H Q, t' σ H Q → t σ H Q) : PW X e t' := ⟨fun w pins s σ H Q I q => h.run w pins s σ H Q I (i σ H Q q)⟩
theorem PA.imp {X : Cx} {e : List Expr} {t t' : TA} (h : PA X e t) (i : ∀ σ H Q, t' σ H Q → t σ H Q) : PA X e t' := ⟨fun pos pins s σ H Q I q => h.run pos pins s σ H Q I (i σ H Q q)⟩
theorem PS.imp {X : Cx} {e : Stmt} {t t' : TS} (h : PS X e t) (i : ∀ D σ H, t' D σ H → t D σ H) : PS X e t' := ⟨fun pins s σ H D I q => h.run pins s σ H D I (i D σ H q)⟩
theorem PSs.imp {X : Cx} {e : List Stmt} {t t' : TS} (h : PSs X e t) (i : ∀ D σ H, t' D σ H → t D σ H) : PSs X e t' := ⟨fun pins s σ H D I q => h.run pins s σ H D I (i D σ H q)⟩
theorem PI.imp {X : Cx} {tg e : Expr} {t t' : TI} (h : PI X tg e t) (i : ∀ σ H R, t' σ H R → t σ H R) : PI X tg e t' := ⟨fun pins s σ H Q I q => h.run pins s σ H Q I (i σ H Q q)⟩
theorem PI.or {X : Cx} {tg e : Expr} {t t' : TI} (h : PI X tg e t) (h' : PI X tg e t') : PI X tg e (fun σ H R => t σ H R ∨ t' σ H R) :=
  ⟨fun pins s σ H Q I q => q.elim (h.run pins s σ H Q I) (h'.run pins s σ H Q I)⟩
end Sm
end
section
/-! Sm, part B: expressions. -/
namespace Sm
open PySem PySem.Spec PyProof.Rows L2

section
variable {X : Cx} {g : Gx} {W : WX} {e a b c : Expr} {es rest : List Expr} {f fa fb fc : DE} {fs : En → Mo (List D)} {ft fu : En → Mo Bool} {pos : Pos}

/-! ### from a part to the rest -/
theorem tD.sub {H : Hp} {σ : L2.St} {m : Nat → Addr} {S : Sto} {ρ : En} {β : Type} {k : D → Sto → Rz β} {K : β → (Nat → Addr) → Sto → Hp → Prop} {Q : VK}
    (sr : SR g m H S) (er : ER g m S.length H σ ρ) (h : PRx g m S H (fun c d H' => W c d σ H') K ((f ρ S).andThen k))
    (q : ∀ d m1 S1 H1 v, SR g m1 H1 S1 → ER g m1 S1.length H1 σ ρ → Ev g m S.length H m1 S1.length H1 → VR g m1 S1.length H1 v d → PRx g m1 S1 H1 (fun c d H' => W c d σ H') K (k d S1) → Q v H1) : tD g W f σ H Q :=
  ⟨m, S, ρ, sr, er, h.bind.mono fun d m1 S1 H1 e1 s1 p v r => q d m1 S1 H1 v s1 (er.ev e1) e1 r p⟩
theorem tDs.sub {H : Hp} {σ : L2.St} {m : Nat → Addr} {S : Sto} {ρ : En} {β : Type} {k : List D → Sto → Rz β} {K : β → (Nat → Addr) → Sto → Hp → Prop} {Q : List V → Hp → Prop}
    (sr : SR g m H S) (er : ER g m S.length H σ ρ) (h : PRx g m S H (fun c d H' => W c d σ H') K ((fs ρ S).andThen k))
    (q : ∀ d m1 S1 H1 v, SR g m1 H1 S1 → ER g m1 S1.length H1 σ ρ → Ev g m S.length H m1 S1.length H1 → VRs g m1 S1.length H1 v d → PRx g m1 S1 H1 (fun c d H' => W c d σ H') K (k d S1) → Q v H1) : tDs g W fs σ H Q :=
  ⟨m, S, ρ, sr, er, h.bind.mono fun d m1 S1 H1 e1 s1 p v r => q d m1 S1 H1 v s1 (er.ev e1) e1 r p⟩
theorem tDb.sub {H : Hp} {σ : L2.St} {m : Nat → Addr} {S : Sto} {ρ : En} {β : Type} {k : Bool → Sto → Rz β} {K : β → (Nat → Addr) → Sto → Hp → Prop} {Q : Bool → Hp → Prop}
    (sr : SR g m H S) (er : ER g m S.length H σ ρ) (h : PRx g m S H (fun c d H' => W c d σ H') K ((ft ρ S).andThen k))
    (q : ∀ d m1 S1 H1, SR g m1 H1 S1 → ER g m1 S1.length H1 σ ρ → Ev g m S.length H m1 S1.length H1 → PRx g m1 S1 H1 (fun c d H' => W c d σ H') K (k d S1) → Q d H1) : tDb g W ft σ H Q :=
  ⟨m, S, ρ, sr, er, h.bind.mono fun d m1 S1 H1 e1 s1 p => q d m1 S1 H1 s1 (er.ev e1) e1 p⟩
theorem PRx.here {α : Type} {m : Nat → Addr} {S : Sto} {H : Hp} {W : XK} {K : α → (Nat → Addr) → Sto → Hp → Prop} {a : α} (h : PRx g m S H W K (.ok a S)) (sr : SR g m H S) : K a m S H := h m H Ev.refl sr

/-! ### names, constants -/
def cVar (i : Nat) : DE := fun ρ S => match ρ[i]? with
  | some (some d) => .ok d S
  | _ => .no
def cC (d : D) : DE := fun _ S => .ok d S
theorem de_var (i : Nat) {x : Str} (hN : X.N[i]? = some x := by rfl) (hv : Vis X.env.scope x := by first | exact Or.inl rfl | exact Or.inr (Or.inl rfl) | exact Or.inr (Or.inr rfl)) (hd : (x == ("__debug__" : Str)) = false := by decide)
    (hcd : (x == ("__classdict__" : Str)) = false := by decide) : PE X (.Name x pos) (tD g W (cVar i)) := by
  refine PE.imp (pe_var hN hv hd hcd) fun σ H Q ⟨m, S, ρ, sr, er, h⟩ => ?_
  unfold cVar at h
  cases q : ρ[i]? with
  | none => rw [q] at h; exact h.elim
  | some o =>
    cases o with
    | none => rw [q] at h; exact h.elim
    | some d =>
      rw [q] at h
      obtain ⟨v, hs, r⟩ := er.at_ i d q
      exact ⟨v, hs, h m H Ev.refl sr v r⟩
theorem de_int {i j} : PE X (.Constant (.int i) j pos) (tD g W (cC (.int i))) := PE.imp pe_int fun _ H _ ⟨m, _, _, sr, _, h⟩ => h m H Ev.refl sr _ (.int i)
theorem de_bl {i j} : PE X (.Constant (.bool i) j pos) (tD g W (cC (.bl i))) := PE.imp pe_bl fun _ H _ ⟨m, _, _, sr, _, h⟩ => h m H Ev.refl sr _ (.bl i)
theorem de_str {i j} : PE X (.Constant (.str i) j pos) (tD g W (cC (.str i))) := PE.imp pe_str fun _ H _ ⟨m, _, _, sr, _, h⟩ => h m H Ev.refl sr _ (.str i)
theorem de_non {j} : PE X (.Constant .none j pos) (tD g W (cC .non)) := PE.imp pe_non fun _ H _ ⟨m, _, _, sr, _, h⟩ => h m H Ev.refl sr _ .non
/-- a module's own name that stands for data -/
structure Cst (g : Gx) (u : Value) (d : D) : Prop where
  ex : ∃ v, RelV v u ∧ ∀ m n H, VR g m n H v d
theorem de_glob {x : Str} {u : Value} {d : D} (hm : X.mg x = some u) (hc : Cst g u d) (hg : Gl X x := by rfl) (hd : (x == ("__debug__" : Str)) = false := by decide) : PE X (.Name x pos) (tD g W (cC d)) := by
  obtain ⟨v, r, hv⟩ := hc.ex
  exact PE.imp (pe_glob hg hm r hd) fun _ H _ ⟨m, S, _, sr, _, h⟩ => h m H Ev.refl sr _ (hv m S.length H)
theorem de_bltn {x : Str} {t : String} (hm : X.mg x = none) (hv : bootBuiltins x = some (.type t)) (hg : Gl X x := by rfl) (hn : x ≠ "__name__" := by decide) (hd : (x == ("__debug__" : Str)) = false := by decide) : PE X (.Name x pos) (tD g W (cC (.ty t))) :=
  PE.imp (pe_bltn (v := .ty t) hg hm hv rfl hn hd) fun _ H _ ⟨m, _, _, sr, _, h⟩ => h m H Ev.refl sr _ (.ty t)

/-! ### arguments, displays -/
def cNil : En → Mo (List D) := fun _ S => .ok [] S
def cCons (f : DE) (fs : En → Mo (List D)) : En → Mo (List D) := fun ρ => do let x ← f ρ; let xs ← fs ρ; pure (x :: xs)
theorem da_nil : PA X [] (tDs g W cNil) := PA.imp pa_nil fun _ H _ ⟨m, _, _, sr, _, h⟩ => h m H Ev.refl sr _ .nil
theorem da_cons (ha : PE X e (tD g W f)) (hr : PA X es (tDs g W fs)) (hs : starEach (e :: es) X.env = (false, eval e X.env) :: starEach es X.env := by rfl) : PA X (e :: es) (tDs g W (cCons f fs)) :=
  PA.imp (pa_cons ha hr hs) fun _ _ _ ⟨_, _, _, sr, er, h⟩ => tD.sub sr er h fun _ _ _ _ _ s1 er1 _ r1 h1 => tDs.sub s1 er1 h1 fun _ m2 _ H2 _ s2 _ e2 r2 h2 =>
    h2 m2 H2 Ev.refl s2 _ (.cons _ _ _ _ (r1.ev e2) r2)
def cTup (fs : En → Mo (List D)) : DE := fun ρ => do let xs ← fs ρ; fun S => if fit xs.length = true then .ok (.tup xs) S else .no
def newL (xs : List D) : Mo D := fun S => if fit xs.length = true then .ok (.loc S.length) (S ++ [.lst xs]) else .no
def cLst (fs : En → Mo (List D)) : DE := fun ρ => fs ρ >>= newL
theorem tup_new {m : Nat → Addr} {S : Sto} {H : Hp} {ds : List D} {vs : List V} {Q : VK} {W : XK} (sr : SR g m H S) (r : VRs g m S.length H vs ds) (h : PRx g m S H W (KD g Q) (.ok (.tup ds) S)) : ∀ p, H p = none → Q (.ref p) (upd H p (.tup vs)) := fun p hp =>
  h m _ (Ev.new hp) (sr.aside hp) _ (.tup p vs ds (.inl (.inl upd_same)) (r.ev (Ev.new hp)))
theorem lst_new {m : Nat → Addr} {S : Sto} {H : Hp} {ds : List D} {vs : List V} {Q : VK} {W : XK} (sr : SR g m H S) (r : VRs g m S.length H vs ds) (h : PRx g m S H W (KD g Q) (.ok (.loc S.length) (S ++ [.lst ds]))) : ∀ p, H p = none → Q (.ref p) (upd H p (.lst vs)) := fun p hp => by
  have e : Ev g m S.length H (ext m S.length p) (S.length + 1) (upd H p (.lst vs)) := Ev.ext (Ev.new hp)
  have q := h (ext m S.length p) _ (by rw [List.length_append, List.length_singleton]; exact e) (sr.alloc hp ⟨vs, upd_same, r.ev e⟩) (.ref (ext m S.length p S.length)) (.loc _ (by rw [List.length_append, List.length_singleton]; exact Nat.lt_succ_self _))
  rw [ext_new] at q
  exact q
theorem dct_new {m : Nat → Addr} {S : Sto} {H : Hp} {ds : List (Key × D)} {vs : List (Key × V)} {Q : VK} {W : XK} (sr : SR g m H S) (rk : vs.map (·.1) = ds.map (·.1)) (r : VRs g m S.length H (vs.map (·.2)) (ds.map (·.2)))
    (h : PRx g m S H W (KD g Q) (.ok (.loc S.length) (S ++ [.dct ds]))) : ∀ p, H p = none → Q (.ref p) (upd H p (.dK vs)) := fun p hp => by
  have e : Ev g m S.length H (ext m S.length p) (S.length + 1) (upd H p (.dK vs)) := Ev.ext (Ev.new hp)
  have q := h (ext m S.length p) _ (by rw [List.length_append, List.length_singleton]; exact e) (sr.alloc hp ⟨vs, upd_same, rk, r.ev e⟩) (.ref (ext m S.length p S.length)) (.loc _ (by rw [List.length_append, List.length_singleton]; exact Nat.lt_succ_self _))
  rw [ext_new] at q
  exact q
theorem de_tup {x1} (ha : PA X es (tDs g W fs)) : PE X (.Tuple es x1 pos) (tD g W (cTup fs)) :=
  PE.imp (pe_tup ha) fun _ _ _ ⟨_, _, _, sr, er, h⟩ => tDs.sub sr er h fun ds m1 S1 H1 vs s1 er1 _ r1 h1 => by
    by_cases hz : fit ds.length = true
    · have h2 : PRx g m1 S1 H1 _ _ (if fit ds.length = true then (Rz.ok (D.tup ds) S1 : Rz D) else .no) := h1
      rw [if_pos hz] at h2
      exact ⟨by rw [r1.length]; exact fit_iff.mp hz, tup_new s1 r1 h2⟩
    · have h2 : PRx g m1 S1 H1 _ _ (if fit ds.length = true then (Rz.ok (D.tup ds) S1 : Rz D) else .no) := h1
      rw [if_neg hz] at h2
      exact h2.elim
theorem de_lst (ha : PA X es (tDs g W fs)) : PE X (.List es pos) (tD g W (cLst fs)) :=
  PE.imp (pe_lst ha) fun _ _ _ ⟨_, _, _, sr, er, h⟩ => tDs.sub sr er h fun ds m1 S1 H1 vs s1 er1 _ r1 h1 => by
    have h2 : PRx g m1 S1 H1 _ _ (if fit ds.length = true then (Rz.ok (D.loc S1.length) (S1 ++ [.lst ds]) : Rz D) else .no) := h1
    by_cases hz : fit ds.length = true
    · rw [if_pos hz] at h2
      exact ⟨by rw [r1.length]; exact fit_iff.mp hz, lst_new s1 r1 h2⟩
    · rw [if_neg hz] at h2
      exact h2.elim

/-! ### operations by values -/
/-- h is sound for the hand layer's r -/
def S2 (g : Gx) (r : R2) (h : D → D → Mo D) : Prop := ∀ (m : Nat → Addr) (S : Sto) (H : Hp) (x y : V) (d e : D) (Q : VK) (W : XK), SR g m H S → VR g m S.length H x d → VR g m S.length H y e → PRx g m S H W (KD g Q) (h d e S) → r x y H Q
def S1 (g : Gx) (r : V → Hp → VK → Prop) (h : D → Mo D) : Prop := ∀ (m : Nat → Addr) (S : Sto) (H : Hp) (x : V) (d : D) (Q : VK) (W : XK), SR g m H S → VR g m S.length H x d → PRx g m S H W (KD g Q) (h d S) → r x H Q
def SC (g : Gx) (r : List V → Hp → VK → Prop) (h : List D → Mo D) : Prop := ∀ (m : Nat → Addr) (S : Sto) (H : Hp) (xs : List V) (ds : List D) (Q : VK) (W : XK), SR g m H S → VRs g m S.length H xs ds → PRx g m S H W (KD g Q) (h ds S) → r xs H Q
def SM (g : Gx) (r : V → List V → Hp → VK → Prop) (h : D → List D → Mo D) : Prop := ∀ (m : Nat → Addr) (S : Sto) (H : Hp) (x : V) (xs : List V) (d : D) (ds : List D) (Q : VK) (W : XK), SR g m H S → VR g m S.length H x d → VRs g m S.length H xs ds → PRx g m S H W (KD g Q) (h d ds S) → r x xs H Q
def cOp (h : D → D → Mo D) (fa fb : DE) : DE := fun ρ => do let x ← fa ρ; let y ← fb ρ; h x y
def cUn (h : D → Mo D) (fa : DE) : DE := fun ρ => do let x ← fa ρ; h x
theorem op_sub2 {r : R2} {h : D → D → Mo D} (hs : S2 g r h) : ∀ σ H Q, tD g W (cOp h fa fb) σ H Q → tOp r (tD g W fa) (tD g W fb) σ H Q := fun _ _ _ ⟨_, _, _, sr, er, k⟩ =>
  tD.sub sr er k fun _ _ _ _ _ s1 er1 _ r1 h1 => tD.sub s1 er1 h1 fun _ m2 S2 H2 _ s2 _ e2 r2 h2 => hs m2 S2 H2 _ _ _ _ _ _ s2 (r1.ev e2) r2 h2
theorem de_op {op : Operator} {r : R2} {h : D → D → Mo D} (ho : OpR X (binaryOp op) r) (hs : S2 g r h) (ha : PE X a (tD g W fa)) (hb : PE X b (tD g W fb)) : PE X (.BinOp a op b pos) (tD g W (cOp h fa fb)) := PE.imp (pe_op ho ha hb) (op_sub2 hs)
theorem de_cmp {op : CmpOp} {r : R2} {h : D → D → Mo D} (ho : OpR X (compareOp op) r) (hs : S2 g r h) (ha : PE X a (tD g W fa)) (hb : PE X b (tD g W fb)) (hm : behindInMarks op b = false := by first | exact nomark _ | rfl | with_unfolding_all rfl) :
    PE X (.Compare a [op] [b] pos) (tD g W (cOp h fa fb)) := PE.imp (pe_cmpR ho ha hb hm) (op_sub2 hs)
theorem de_un {op : UnaryOp} {r : V → Hp → VK → Prop} {h : D → Mo D} (ho : UnR X (unaryOp op) r) (hs : S1 g r h) (ha : PE X a (tD g W fa)) : PE X (.UnaryOp op a pos) (tD g W (cUn h fa)) :=
  PE.imp (pe_un ho ha) fun _ _ _ ⟨_, _, _, sr, er, k⟩ => tD.sub sr er k fun _ m1 S1 H1 _ s1 _ _ r1 h1 => hs m1 S1 H1 _ _ _ _ s1 r1 h1
/-- a truth out of a value that is a bool -/
def asB : D → Mo Bool
  | .bl b => pure b
  | _ => bad
def cTest (f : DE) : En → Mo Bool := fun ρ => f ρ >>= asB
theorem asB_ok {m : Nat → Addr} {S : Sto} {H : Hp} {W : XK} {K : Bool → (Nat → Addr) → Sto → Hp → Prop} {d : D} {v : V} (sr : SR g m H S) (r : VR g m S.length H v d) (h : PRx g m S H W K (asB d S)) : ∃ k, v = .bl k ∧ K k m S H := by
  cases d with
  | bl k => cases r; exact ⟨k, rfl, h m H Ev.refl sr⟩
  | _ => exact h.elim
theorem dt_cmp {op : CmpOp} {r : R2} {h : D → D → Mo D} (ho : OpR X (compareOp op) r) (hs : S2 g r h) (ha : PE X a (tD g W fa)) (hb : PE X b (tD g W fb)) (hm : behindInMarks op b = false := by first | exact nomark _ | rfl | with_unfolding_all rfl) :
    PT X (.Compare a [op] [b] pos) (tDb g W (cTest (cOp h fa fb))) := by
  refine PT.imp (pt_cmpR ho ha hb hm) fun σ H Q ⟨m, S, ρ, sr, er, k⟩ => ?_
  refine op_sub2 hs _ _ _ ⟨m, S, ρ, sr, er, k.bind.mono fun d m1 S1 H1 e1 s1 p v rv => ?_⟩
  exact asB_ok s1 rv p
def cChain (h h' : D → D → Mo D) (fa fb fc : DE) : DE := fun ρ => do
  let x ← fa ρ; let y ← fb ρ; let z ← h x y; let k ← asB z
  match k with
  | true => do let u ← fc ρ; h' y u
  | false => pure (.bl false)
theorem chain_sub {r r' : R2} {h h' : D → D → Mo D} (hs : S2 g r h) (hs' : S2 g r' h') : ∀ σ H Q, tD g W (cChain h h' fa fb fc) σ H Q → tChain r r' (tD g W fa) (tD g W fb) (tD g W fc) σ H Q := fun _ _ _ ⟨_, _, _, sr, er, k⟩ =>
  tD.sub sr er k fun _ _ _ _ _ s1 er1 _ r1 h1 => tD.sub s1 er1 h1 fun _ m2 S2 H2 _ s2 er2 e2 r2 h2 => hs m2 S2 H2 _ _ _ _ _ _ s2 (r1.ev e2) r2 (h2.bind.mono fun d m3 S3 H3 e3 s3 p v rv => by
    cases d with
    | bl c =>
      cases rv
      refine ⟨c, rfl, ?_⟩
      cases c with
      | true =>
        rw [if_pos rfl]
        exact tD.sub s3 (er2.ev e3) p fun _ m4 S4 H4 _ s4 _ e4 r4 h4 => hs' m4 S4 H4 _ _ _ _ _ _ s4 ((r2.ev e3).ev e4) r4 h4
      | false =>
        rw [if_neg Bool.false_ne_true]
        exact p m3 H3 Ev.refl s3 _ (.bl false)
    | _ => exact p.elim)
theorem de_chain {op op' : CmpOp} {r r' : R2} {h h' : D → D → Mo D} (ho : OpR X (compareOp op) r) (hs : S2 g r h) (ho' : OpR X (compareOp op') r') (hs' : S2 g r' h') (ha : PE X a (tD g W fa)) (hb : PE X b (tD g W fb)) (hc : PE X c (tD g W fc)) (hm : lastMarks [op, op'] [b, c] = false := by rfl) :
    PE X (.Compare a [op, op'] [b, c] pos) (tD g W (cChain h h' fa fb fc)) := PE.imp (pe_chain ho ho' ha hb hc hm) (chain_sub hs hs')
theorem dt_chain {op op' : CmpOp} {r r' : R2} {h h' : D → D → Mo D} (ho : OpR X (compareOp op) r) (hs : S2 g r h) (ho' : OpR X (compareOp op') r') (hs' : S2 g r' h') (ha : PE X a (tD g W fa)) (hb : PE X b (tD g W fb)) (hc : PE X c (tD g W fc)) (hm : lastMarks [op, op'] [b, c] = false := by rfl) :
    PT X (.Compare a [op, op'] [b, c] pos) (tDb g W (cTest (cChain h h' fa fb fc))) := by
  refine PT.imp (pt_chain ho ho' ha hb hc hm) fun σ H Q ⟨m, S, ρ, sr, er, k⟩ => ?_
  refine chain_sub hs hs' _ _ _ ⟨m, S, ρ, sr, er, k.bind.mono fun d m1 S1 H1 e1 s1 p v rv => ?_⟩
  exact asB_ok s1 rv p

/-! ### truth -/
def trO (S : Sto) : Option Ob → Rz Bool
  | some (.lst xs) => .ok (!xs.isEmpty) S
  | some (.dct kvs) => .ok (!kvs.isEmpty) S
  | _ => .no
def trD : D → Mo Bool
  | .non => pure false
  | .bl b => pure b
  | .int i => pure (i != 0)
  | .str y => fun S => if fit y.length = true then .ok ((y.length : Int) != 0) S else .no
  | .tup xs => pure (!xs.isEmpty)
  | .lsc xs => pure (!xs.isEmpty)
  | .loc l => fun S => trO S S[l]?
  | .ty _ => bad
  | .cls _ => bad
  | .fnc _ => bad
theorem trD_loc {l : Nat} {S : Sto} : trD (.loc l) S = trO S S[l]? := rfl
theorem trD_str {y : Str} {S : Sto} (hz : fit y.length = true) : trD (.str y) S = .ok ((y.length : Int) != 0) S := by
  unfold trD
  exact if_pos hz
theorem trD_strN {y : Str} {S : Sto} (hz : ¬ fit y.length = true) : trD (.str y) S = .no := by
  unfold trD
  exact if_neg hz
theorem VRs.empty {m : Nat → Addr} {n : Nat} {H : Hp} {vs : List V} {ds : List D} (r : VRs g m n H vs ds) : vs.isEmpty = ds.isEmpty := by cases r <;> rfl
theorem map_empty {α β γ : Type} {xs : List (α × β)} {ys : List (α × γ)} (h : xs.map (·.1) = ys.map (·.1)) : xs.isEmpty = ys.isEmpty := by
  cases xs <;> cases ys <;> first | rfl | cases h
theorem trD_ok {m : Nat → Addr} {S : Sto} {H : Hp} {W : XK} {K : Bool → (Nat → Addr) → Sto → Hp → Prop} {d : D} {v : V} (sr : SR g m H S) (r : VR g m S.length H v d) (h : PRx g m S H W K (trD d S)) : ∃ k, TruV g.K v H k ∧ K k m S H ∧ trD d S = .ok k S := by
  cases r with
  | non => exact ⟨_, rfl, h m H Ev.refl sr, rfl⟩
  | bl b => exact ⟨_, rfl, h m H Ev.refl sr, rfl⟩
  | int i => exact ⟨_, rfl, h m H Ev.refl sr, rfl⟩
  | str y =>
    by_cases hz : fit y.length = true
    · have e : trD (.str y) S = .ok ((y.length : Int) != 0) S := trD_str hz
      rw [e] at h
      have t : TruV g.K (.str y) H ((y.length : Int) != 0) := And.intro (fit_iff.mp hz) rfl
      exact ⟨_, t, h m H Ev.refl sr, e⟩
    · have e : trD (.str y) S = .no := trD_strN hz
      rw [e] at h; exact h.elim
  | ty t => exact h.elim
  | cls a => exact h.elim
  | fnc a => exact h.elim
  | tup a xs ds hq rs => exact ⟨_, .inr (.inl ⟨xs, hq, by rw [rs.empty]⟩), h m H Ev.refl sr, rfl⟩
  | lsc a xs ds hq rs => exact ⟨_, .inl ⟨xs, hq.sq, by rw [rs.empty]⟩, h m H Ev.refl sr, rfl⟩
  | loc l hl =>
    rw [trD_loc] at h ⊢
    cases q : S[l]? with
    | none => rw [q] at h; exact h.elim
    | some o =>
      rw [q] at h
      cases o with
      | lst ds =>
        obtain ⟨_, vs, hv, rs⟩ := sr.atL q
        exact ⟨_, .inl ⟨vs, SqL.of hv, by rw [rs.empty]⟩, h m H Ev.refl sr, rfl⟩
      | dct kvs =>
        obtain ⟨_, vs, hv, hk, rs⟩ := sr.atD q
        exact ⟨_, .inr (.inr ⟨vs, hv, by rw [map_empty hk]⟩), h m H Ev.refl sr, rfl⟩
      | ins c fs => exact h.elim
def cTru (f : DE) : En → Mo Bool := fun ρ => f ρ >>= trD
theorem dt_tru (ha : PE X a (tD g W fa)) (hK : X.K = g.K) (he : ∀ whole, isTrue a X.env whole = (do let v ← whole; standAt a.pos; holding [v] (truthy v)) := by intro _; rfl) : PT X a (tDb g W (cTru fa)) :=
  PT.imp (pt_truth ha he) fun _ _ _ ⟨_, _, _, sr, er, h⟩ => tD.sub sr er h fun _ _ _ _ _ s1 _ _ r1 h1 => by
    obtain ⟨k, t, q, _⟩ := trD_ok s1 r1 h1
    rw [hK]
    exact ⟨k, t, q⟩
def cNotT (f : En → Mo Bool) : En → Mo Bool := fun ρ => do let k ← f ρ; pure (!k)
def cAndT (f h : En → Mo Bool) : En → Mo Bool := fun ρ => do
  let k ← f ρ
  match k with
  | true => h ρ
  | false => pure false
def cOrT (f h : En → Mo Bool) : En → Mo Bool := fun ρ => do
  let k ← f ρ
  match k with
  | true => pure true
  | false => h ρ
theorem dt_not (ha : PT X a (tDb g W ft)) : PT X (.UnaryOp .Not a pos) (tDb g W (cNotT ft)) :=
  PT.imp (pt_not ha) fun _ _ _ ⟨_, _, _, sr, er, h⟩ => tDb.sub sr er h fun _ _ _ _ s1 _ _ h1 => h1.here s1
theorem dw_and1 (ha : PT X a (tDb g W ft)) : PW X (.BoolOp .And [a] pos) (tDb g W ft) := pw_and1 ha
theorem dw_or1 (ha : PT X a (tDb g W ft)) : PW X (.BoolOp .Or [a] pos) (tDb g W ft) := pw_or1 ha
theorem dw_and (ha : PT X a (tDb g W ft)) (hb : PW X (.BoolOp .And (b :: rest) pos) (tDb g W fu)) : PW X (.BoolOp .And (a :: b :: rest) pos) (tDb g W (cAndT ft fu)) :=
  PW.imp (pw_and ha hb) fun _ _ _ ⟨_, _, _, sr, er, h⟩ => tDb.sub sr er h fun k m1 S1 H1 s1 er1 _ h1 => by
    cases k with
    | true => rw [if_pos rfl]; exact ⟨m1, S1, _, s1, er1, h1⟩
    | false => rw [if_neg Bool.false_ne_true]; exact h1.here s1
theorem dw_or (ha : PT X a (tDb g W ft)) (hb : PW X (.BoolOp .Or (b :: rest) pos) (tDb g W fu)) : PW X (.BoolOp .Or (a :: b :: rest) pos) (tDb g W (cOrT ft fu)) :=
  PW.imp (pw_or ha hb) fun _ _ _ ⟨_, _, _, sr, er, h⟩ => tDb.sub sr er h fun k m1 S1 H1 s1 er1 _ h1 => by
    cases k with
    | true => rw [if_pos rfl]; exact h1.here s1
    | false => rw [if_neg Bool.false_ne_true]; exact ⟨m1, S1, _, s1, er1, h1⟩
theorem dt_pw (h : PW X a (tDb g W ft)) : PT X a (tDb g W ft) := h.pt
/-- .. as values, by truth -/
def cOr (fa fb : DE) : DE := fun ρ => do
  let x ← fa ρ; let k ← trD x
  match k with
  | true => pure x
  | false => fb ρ
def cAnd (fa fb : DE) : DE := fun ρ => do
  let x ← fa ρ; let k ← trD x
  match k with
  | true => fb ρ
  | false => pure x
def cNot (fa : DE) : DE := fun ρ => do let x ← fa ρ; let k ← trD x; pure (.bl (!k))
theorem trD_bind {α : Type} {m : Nat → Addr} {S : Sto} {H : Hp} {W : XK} {K : α → (Nat → Addr) → Sto → Hp → Prop} {k : Bool → Sto → Rz α} {d : D} {v : V} (sr : SR g m H S) (r : VR g m S.length H v d) (h : PRx g m S H W K ((trD d S).andThen k)) : ∃ c, TruV g.K v H c ∧ PRx g m S H W K (k c S) := by
  obtain ⟨c, t, q, e⟩ := trD_ok sr r h.bind
  exact ⟨c, t, q⟩
theorem de_or (hK : X.K = g.K) (ha : PE X a (tD g W fa)) (hb : PE X (.BoolOp .Or (b :: rest) pos) (tD g W fb)) : PE X (.BoolOp .Or (a :: b :: rest) pos) (tD g W (cOr fa fb)) :=
  PE.imp (pe_orT ha hb) fun _ _ _ ⟨_, _, _, sr, er, h⟩ => tD.sub sr er h fun d m1 S1 H1 v s1 er1 _ r1 h1 => by
    obtain ⟨c, t, q⟩ := trD_bind s1 r1 h1
    rw [hK]
    refine ⟨c, t, ?_⟩
    cases c with
    | true => rw [if_pos rfl]; exact q.here s1 _ r1
    | false => rw [if_neg Bool.false_ne_true]; exact ⟨m1, S1, _, s1, er1, q⟩
theorem de_and (hK : X.K = g.K) (ha : PE X a (tD g W fa)) (hb : PE X (.BoolOp .And (b :: rest) pos) (tD g W fb)) : PE X (.BoolOp .And (a :: b :: rest) pos) (tD g W (cAnd fa fb)) :=
  PE.imp (pe_andT ha hb) fun _ _ _ ⟨_, _, _, sr, er, h⟩ => tD.sub sr er h fun d m1 S1 H1 v s1 er1 _ r1 h1 => by
    obtain ⟨c, t, q⟩ := trD_bind s1 r1 h1
    rw [hK]
    refine ⟨c, t, ?_⟩
    cases c with
    | true => rw [if_pos rfl]; exact ⟨m1, S1, _, s1, er1, q⟩
    | false => rw [if_neg Bool.false_ne_true]; exact q.here s1 _ r1
theorem de_one {op} (h : PE X a (tD g W fa)) : PE X (.BoolOp op [a] pos) (tD g W fa) := pe_one h
theorem de_not (hK : X.K = g.K) (ha : PE X a (tD g W fa)) : PE X (.UnaryOp .Not a pos) (tD g W (cNot fa)) :=
  PE.imp (pe_notT ha) fun _ _ _ ⟨_, _, _, sr, er, h⟩ => tD.sub sr er h fun d m1 S1 H1 v s1 er1 _ r1 h1 => by
    obtain ⟨c, t, q⟩ := trD_bind s1 r1 h1
    rw [hK]
    exact ⟨c, t, q.here s1 _ (.bl _)⟩
def cIf (ft : En → Mo Bool) (fa fb : DE) : DE := fun ρ => do
  let k ← ft ρ
  match k with
  | true => fa ρ
  | false => fb ρ
theorem de_ifExp (hc : PT X c (tDb g W ft)) (ha : PE X a (tD g W fa)) (hb : PE X b (tD g W fb)) : PE X (.IfExp c a b pos) (tD g W (cIf ft fa fb)) :=
  PE.imp (pe_ifExp hc ha hb) fun _ _ _ ⟨_, _, _, sr, er, h⟩ => tDb.sub sr er h fun k m1 S1 H1 s1 er1 _ h1 => by
    cases k with
    | true => rw [if_pos rfl]; exact ⟨m1, S1, _, s1, er1, h1⟩
    | false => rw [if_neg Bool.false_ne_true]; exact ⟨m1, S1, _, s1, er1, h1⟩

/-! ### calls of built-ins; subscripts; methods of built-in types -/
def cCall (h : List D → Mo D) (fs : En → Mo (List D)) : DE := fun ρ => do let xs ← fs ρ; h xs
theorem call_sub {r : List V → Hp → VK → Prop} {h : List D → Mo D} (hs : SC g r h) : ∀ σ H Q, tD g W (cCall h fs) σ H Q → tCB r (tDs g W fs) σ H Q := fun _ _ _ ⟨_, _, _, sr, er, k⟩ =>
  tDs.sub sr er k fun _ m1 S1 H1 _ s1 _ _ r1 h1 => hs m1 S1 H1 _ _ _ _ s1 r1 h1
theorem de_callB {x : Str} {id : String} {p : Pos} {r : List V → Hp → VK → Prop} {h : List D → Mo D} (hc : CallR X (.builtin id) r) (hs : SC g r h) (hm : X.mg x = none) (hv : bootBuiltins x = some (.builtin id)) (ha : PA X (e :: es) (tDs g W fs)) (hg : Gl X x := by rfl)
    (he : starEach (e :: es) X.env = (false, eval e X.env) :: starEach es X.env := by rfl) (hpl : (backTo pos (starEach es X.env)).any (·.1) = false := by rfl) (hn : x ≠ "__name__" := by decide) (hd : (x == ("__debug__" : Str)) = false := by decide) :
    PE X (.Call (.Name x p) (e :: es) [] pos) (tD g W (cCall h fs)) := PE.imp (pe_callB hc hg hm hv ha hn hd he hpl) (call_sub hs)
theorem de_callTy {x : Str} {T : String} {p : Pos} {r : List V → Hp → VK → Prop} {h : List D → Mo D} (hc : CallR X (.type T) r) (hs : SC g r h) (hm : X.mg x = none) (hv : bootBuiltins x = some (.type T)) (ha : PA X (e :: es) (tDs g W fs)) (hg : Gl X x := by rfl)
    (he : starEach (e :: es) X.env = (false, eval e X.env) :: starEach es X.env := by rfl) (hpl : (backTo pos (starEach es X.env)).any (·.1) = false := by rfl) (hn : x ≠ "__name__" := by decide) (hd : (x == ("__debug__" : Str)) = false := by decide) :
    PE X (.Call (.Name x p) (e :: es) [] pos) (tD g W (cCall h fs)) := PE.imp (pe_callTy hc hg hm hv ha hn hd he hpl) (call_sub hs)
/-- a method of a built-in type: the type looked at ahead of the arguments -/
def tyD (T : String) : D → Sto → Bool
  | .str _, _ => T == "str"
  | .lsc _, _ => T == "list"
  | .loc l, S => match S[l]? with
    | some (.lst _) => T == "list"
    | some (.dct _) => T == "dict"
    | _ => false
  | _, _ => false
theorem tyD_ok {m : Nat → Addr} {S : Sto} {H : Hp} {T : String} {d : D} {v : V} (sr : SR g m H S) (r : VR g m S.length H v d) (h : tyD T d S = true) : tyV g.K T v H := by
  cases r with
  | str x => exact beq_iff_eq.mp h
  | lsc a xs ds hq rs => exact .inl ⟨beq_iff_eq.mp h, xs, hq.sq⟩
  | loc l hl =>
    simp only [tyD] at h
    cases q : S[l]? with
    | none => rw [q] at h; cases h
    | some o =>
      rw [q] at h
      cases o with
      | lst ds =>
        obtain ⟨_, vs, hv, _⟩ := sr.atL q
        exact .inl ⟨beq_iff_eq.mp h, vs, SqL.of hv⟩
      | dct kvs =>
        obtain ⟨_, vs, hv, _⟩ := sr.atD q
        exact .inr (.inr (.inl ⟨beq_iff_eq.mp h, .inl ⟨vs, hv⟩⟩))
      | ins c fs => cases h
  | _ => cases h
def chk (T : String) (d : D) : Mo Unit := fun S => if tyD T d S = true then .ok () S else .no
theorem chk_bind {α : Type} {m : Nat → Addr} {S : Sto} {H : Hp} {W : XK} {K : α → (Nat → Addr) → Sto → Hp → Prop} {T : String} {k : Unit → Sto → Rz α} {d : D} (h : PRx g m S H W K ((chk T d S).andThen k)) : tyD T d S = true ∧ PRx g m S H W K (k () S) := by
  unfold chk at h
  by_cases q : tyD T d S = true
  · rw [if_pos q] at h; exact ⟨q, h⟩
  · rw [if_neg q] at h; exact h.elim
def cMt (T : String) (h : D → List D → Mo D) (fa : DE) (fs : En → Mo (List D)) : DE := fun ρ => do
  let x ← fa ρ; chk T x; let xs ← fs ρ; h x xs
def cMt0 (T : String) (h : D → List D → Mo D) (fa : DE) : DE := fun ρ => do
  let x ← fa ρ; chk T x; h x []
variable {o : Expr} {fo : DE} {name : Str} {apos cpos : Pos} {T id : String} {r : V → List V → Hp → VK → Prop} {h : D → List D → Mo D}
theorem de_mt0 (pa : PlainAttrs T) (slot : Slot T name id) (hty : typeOf (.builtin id) = pure (.type "method_descriptor")) (hm : MtR X id r) (hs : SM g r h) (hK : X.K = g.K) (ho : PE X o (tD g W fo))
    (hbase : attributeBase o name X.env (eval o X.env) = eval o X.env := by rfl) (hline : (apos.endLine == cpos.line) = true := by rfl) : PE X (.Call (.Attribute o name apos) [] [] cpos) (tD g W (cMt0 T h fo)) :=
  PE.imp (pe_bm0 pa slot hty hm ho hbase hline) fun _ _ _ ⟨_, _, _, sr, er, k⟩ => tD.sub sr er k fun _ m1 S1 H1 _ s1 _ _ r1 h1 => by
    obtain ⟨t, h2⟩ := chk_bind h1
    rw [hK]
    exact ⟨tyD_ok s1 r1 t, hs m1 S1 H1 _ _ _ _ _ _ s1 r1 .nil h2⟩
theorem de_mt (pa : PlainAttrs T) (slot : Slot T name id) (hty : typeOf (.builtin id) = pure (.type "method_descriptor")) (hm : MtR X id r) (hs : SM g r h) (hK : X.K = g.K) (ho : PE X o (tD g W fo)) (ha : PA X (e :: es) (tDs g W fs))
    (hbase : attributeBase o name X.env (eval o X.env) = eval o X.env := by rfl)
    (hfew : ((backTo cpos (starEach (e :: es) X.env)).all (fun x => !x.1) && (backToKw cpos (keywordEach [] X.env)).all (fun x => x.1.isSome)
      && decide ((e :: es).length + ([] : List Keyword).length + (if ([] : List Keyword).isEmpty then 0 else 1) < 30)) = true := by rfl)
    (hline : (apos.endLine == cpos.line) = true := by rfl) (hst : starEach (e :: es) X.env = (false, eval e X.env) :: starEach es X.env := by rfl) (hplain : (backTo cpos (starEach es X.env)).any (·.1) = false := by rfl) :
    PE X (.Call (.Attribute o name apos) (e :: es) [] cpos) (tD g W (cMt T h fo fs)) :=
  PE.imp (pe_bm pa slot hty hm ho ha hbase hfew hline hst hplain) fun _ _ _ ⟨_, _, _, sr, er, k⟩ => tD.sub sr er k fun _ m1 S1 H1 _ s1 er1 _ r1 h1 => by
    obtain ⟨t, h2⟩ := chk_bind h1
    rw [hK]
    exact ⟨tyD_ok s1 r1 t, tDs.sub s1 er1 h2 fun _ m2 S2 H2 _ s2 _ e2 r2 h3 => hs m2 S2 H2 _ _ _ _ _ _ s2 (r1.ev e2) r2 h3⟩
end
end Sm
end
section
/-! Sm, part C: statements, loops, comprehensions. -/
namespace Sm
open PySem PySem.Spec PyProof.Rows L2

/-- how a statement ends -/
inductive Fz where
  | nx (ρ : En) (S : Sto) | brk (ρ : En) (S : Sto) | cnt (ρ : En) (S : Sto) | ret (d : D) (S : Sto) | ex (e : Exn) (ρ : En) (S : Sto) | no
abbrev DS := En → Sto → Fz
def Rz.toF {α : Type} (r : Rz α) (ρ : En) (k : α → Sto → Fz) : Fz :=
  match r with
  | .ok a S => k a S
  | .ex e S => .ex e ρ S
  | .no => .no
section
variable {α : Type}
@[simp] theorem toF_ok (a : α) (S : Sto) (ρ : En) (k : α → Sto → Fz) : (Rz.ok a S).toF ρ k = k a S := rfl
@[simp] theorem toF_ex (e : Exn) (S : Sto) (ρ : En) (k : α → Sto → Fz) : (Rz.ex e S : Rz α).toF ρ k = .ex e ρ S := rfl
@[simp] theorem toF_no (ρ : En) (k : α → Sto → Fz) : (Rz.no : Rz α).toF ρ k = .no := rfl
end
def PF (g : Gx) (m : Nat → Addr) (S : Sto) (H : Hp) (W : WX) (E : Ends) : Fz → Prop
  | .nx ρ' S' => ∀ σ' m' H', Ev g m S.length H m' S'.length H' → SR g m' H' S' → ER g m' S'.length H' σ' ρ' → E.nx σ' H'
  | .brk ρ' S' => ∀ σ' m' H', Ev g m S.length H m' S'.length H' → SR g m' H' S' → ER g m' S'.length H' σ' ρ' → E.bk σ' H'
  | .cnt ρ' S' => ∀ σ' m' H', Ev g m S.length H m' S'.length H' → SR g m' H' S' → ER g m' S'.length H' σ' ρ' → E.ct σ' H'
  | .ret d S' => ∀ v m' H', Ev g m S.length H m' S'.length H' → SR g m' H' S' → VR g m' S'.length H' v d → E.rt v H'
  | .ex e ρ' S' => ∀ c d σ' m' H', Ev g m S.length H m' S'.length H' → SR g m' H' S' → ER g m' S'.length H' σ' ρ' → XR g m' S'.length H' e c d → W c d σ' H'
  | .no => False
def tS (g : Gx) (W : WX) (f : DS) : TS := fun E σ H => ∃ m S ρ, SR g m H S ∧ ER g m S.length H σ ρ ∧ PF g m S H W E (f ρ S)

section
variable {g : Gx} {m m' : Nat → Addr} {S S' : Sto} {H H' : Hp} {W : WX} {E : Ends} {r : Fz} {σ : L2.St} {ρ : En}
theorem PF.ev (e : Ev g m S.length H m' S'.length H') (h : PF g m S H W E r) : PF g m' S' H' W E r := by
  cases r with
  | nx ρ1 S1 => exact fun s1 m1 H1 e1 => h s1 m1 H1 (e.trans e1)
  | brk ρ1 S1 => exact fun s1 m1 H1 e1 => h s1 m1 H1 (e.trans e1)
  | cnt ρ1 S1 => exact fun s1 m1 H1 e1 => h s1 m1 H1 (e.trans e1)
  | ret d S1 => exact fun s1 m1 H1 e1 => h s1 m1 H1 (e.trans e1)
  | ex x ρ1 S1 => exact fun c d s1 m1 H1 e1 => h c d s1 m1 H1 (e.trans e1)
  | no => exact h
/-- an expression ahead of the rest of a statement -/
theorem PF.bind {α : Type} {x : Rz α} {k : α → Sto → Fz} (er : ER g m S.length H σ ρ) (h : PF g m S H W E (x.toF ρ k)) :
    PRx g m S H (fun c d H' => W c d σ H') (fun a m1 S1 H1 => PF g m1 S1 H1 W E (k a S1)) x := by
  cases x with
  | ok a S1 => exact fun m1 H1 e1 _ => PF.ev e1 h
  | ex e S1 => exact fun c d m1 H1 e1 s1 x1 => h c d σ m1 H1 e1 s1 (er.ev e1) x1
  | no => exact h
theorem PF.here (h : PF g m S H W E (.nx ρ S)) (sr : SR g m H S) (er : ER g m S.length H σ ρ) : E.nx σ H := h σ m H Ev.refl sr er
end

section
variable {X : Cx} {g : Gx} {W : WX} {e a b c : Expr} {st : Stmt} {sts rest : List Stmt} {f fa fb : DE} {fs : En → Mo (List D)} {ft : En → Mo Bool} {s t u : DS} {pos : Pos}

theorem tD.subF {H : Hp} {σ : L2.St} {m : Nat → Addr} {S : Sto} {ρ : En} {k : D → Sto → Fz} {E : Ends} {Q : VK}
    (sr : SR g m H S) (er : ER g m S.length H σ ρ) (h : PF g m S H W E ((f ρ S).toF ρ k))
    (q : ∀ d m1 S1 H1 v, SR g m1 H1 S1 → ER g m1 S1.length H1 σ ρ → Ev g m S.length H m1 S1.length H1 → VR g m1 S1.length H1 v d → PF g m1 S1 H1 W E (k d S1) → Q v H1) : tD g W f σ H Q :=
  ⟨m, S, ρ, sr, er, (h.bind er).mono fun d m1 S1 H1 e1 s1 p v r => q d m1 S1 H1 v s1 (er.ev e1) e1 r p⟩
theorem tDb.subF {H : Hp} {σ : L2.St} {m : Nat → Addr} {S : Sto} {ρ : En} {k : Bool → Sto → Fz} {E : Ends} {Q : Bool → Hp → Prop}
    (sr : SR g m H S) (er : ER g m S.length H σ ρ) (h : PF g m S H W E ((ft ρ S).toF ρ k))
    (q : ∀ d m1 S1 H1, SR g m1 H1 S1 → ER g m1 S1.length H1 σ ρ → Ev g m S.length H m1 S1.length H1 → PF g m1 S1 H1 W E (k d S1) → Q d H1) : tDb g W ft σ H Q :=
  ⟨m, S, ρ, sr, er, (h.bind er).mono fun d m1 S1 H1 e1 s1 p => q d m1 S1 H1 s1 (er.ev e1) e1 p⟩

/-! ### blocks -/
def cNext : DS := fun ρ S => .nx ρ S
def cSeq (s t : DS) : DS := fun ρ S => match s ρ S with
  | .nx ρ' S' => t ρ' S'
  | o => o
theorem dss_nil : PSs X [] (tS g W cNext) := PSs.imp pss_nil fun _ _ _ ⟨_, _, _, sr, er, h⟩ => h.here sr er
theorem seq_sub : ∀ E σ H, tS g W (cSeq s t) E σ H → tSeq (tS g W s) (tS g W t) E σ H := fun E σ H ⟨m, S, ρ, sr, er, h⟩ => by
  refine ⟨m, S, ρ, sr, er, ?_⟩
  unfold cSeq at h
  cases q : s ρ S with
  | nx ρ1 S1 => rw [q] at h; exact fun s1 m1 H1 e1 sr1 er1 => ⟨m1, S1, ρ1, sr1, er1, PF.ev e1 h⟩
  | brk ρ1 S1 => rw [q] at h; exact h
  | cnt ρ1 S1 => rw [q] at h; exact h
  | ret d S1 => rw [q] at h; exact h
  | ex x ρ1 S1 => rw [q] at h; exact h
  | no => rw [q] at h; exact h
theorem dss_cons (h1 : PS X st (tS g W s)) (h2 : PSs X rest (tS g W t)) : PSs X (st :: rest) (tS g W (cSeq s t)) := PSs.imp (pss_cons h1 h2) seq_sub
theorem dss_one (h1 : PS X st (tS g W s)) : PSs X [st] (tS g W s) := pss_one h1
def cBrk : DS := fun ρ S => .brk ρ S
def cCnt : DS := fun ρ S => .cnt ρ S
def cNever : DS := fun _ _ => .no
theorem ds_pass : PS X (.Pass pos) (tS g W cNext) := PS.imp ps_pass fun _ _ _ ⟨_, _, _, sr, er, h⟩ => h.here sr er
theorem ds_break : PS X (.Break pos) (tS g W cBrk) := PS.imp ps_break fun _ _ H ⟨m, _, _, sr, er, h⟩ => h _ m H Ev.refl sr er
theorem ds_continue : PS X (.Continue pos) (tS g W cCnt) := PS.imp ps_continue fun _ _ H ⟨m, _, _, sr, er, h⟩ => h _ m H Ev.refl sr er
/-- a statement that is not served: the proof must never come to it -/
theorem ds_never : PS X st (tS g W cNever) := PS.imp ps_never fun _ _ _ ⟨_, _, _, _, _, h⟩ => h
def cExpr (f : DE) : DS := fun ρ S => (f ρ S).toF ρ fun _ S' => .nx ρ S'
theorem ds_expr (he : PE X e (tD g W f)) (hs : swapsWith e none pos.line X.env = pure false := by rfl) : PS X (.Expr e pos) (tS g W (cExpr f)) :=
  PS.imp (ps_expr he hs) fun _ _ _ ⟨_, _, _, sr, er, h⟩ => tD.subF sr er h fun _ _ _ _ _ s1 er1 _ _ h1 => h1.here s1 er1
def cRet (f : DE) : DS := fun ρ S => (f ρ S).toF ρ fun d S' => .ret d S'
theorem ds_ret (he : PE X e (tD g W f)) : PS X (.Return (some e) pos) (tS g W (cRet f)) :=
  PS.imp (ps_ret he) fun _ _ _ ⟨_, _, _, sr, er, h⟩ => tD.subF sr er h fun _ m1 _ H1 v s1 er1 _ r1 h1 => h1 v m1 H1 Ev.refl s1 r1
def cRetN : DS := fun _ S => .ret .non S
theorem ds_retN : PS X (.Return none pos) (tS g W cRetN) := PS.imp ps_retN fun _ _ H ⟨m, _, _, sr, _, h⟩ => h _ m H Ev.refl sr .non
def cIfS (c : En → Mo Bool) (s t : DS) : DS := fun ρ S => (c ρ S).toF ρ fun k S' => match k with
  | true => s ρ S'
  | false => t ρ S'
theorem ds_if {p q : List Stmt} (hc : PT X c (tDb g W ft)) (ha : PSs X p (tS g W s)) (hb : PSs X q (tS g W t)) : PS X (.If c p q pos) (tS g W (cIfS ft s t)) :=
  PS.imp (ps_if hc ha hb) fun _ _ _ ⟨_, _, _, sr, er, h⟩ => tDb.subF sr er h fun k m1 S1 H1 s1 er1 _ h1 => by
    cases k with
    | true => rw [if_pos rfl]; exact ⟨m1, S1, _, s1, er1, h1⟩
    | false => rw [if_neg Bool.false_ne_true]; exact ⟨m1, S1, _, s1, er1, h1⟩

/-! ### targets -/
/-- what a target makes of a value -/
abbrev DG := D → En → Sto → Fz
def tG (g : Gx) (W : WX) (f : DG) : TG := fun v σ H Q => ∃ m S ρ d, SR g m H S ∧ ER g m S.length H σ ρ ∧ VR g m S.length H v d ∧ PF g m S H W { nx := Q, rt := fun _ _ => False } (f d ρ S)
theorem PG.imp {tg : Expr} {t t' : TG} (h : PG X tg t) (i : ∀ v σ H Q, t' v σ H Q → t v σ H Q) : PG X tg t' := ⟨fun pins s σ H v u Q I r q => h.run pins s σ H v u Q I r (i v σ H Q q)⟩
theorem PGs.imp {tg : List Expr} {t t' : TGs} (h : PGs X tg t) (i : ∀ v σ H Q, t' v σ H Q → t v σ H Q) : PGs X tg t' := ⟨fun pins s σ H v u Q I r q => h.run pins s σ H v u Q I r (i v σ H Q q)⟩
def kName (i : Nat) : DG := fun d ρ S => .nx (ρ.set i (some d)) S
theorem dg_name (i : Nat) {x : Str} (hN : X.N.Nodup) (hi : X.N[i]? = some x := by rfl) (hx : Loc X.env.scope x := by first | exact Or.inl rfl | exact Or.inr rfl) (hf : X.fn x = true ∨ X.env.scope.names.lookup x = some .local := by first | exact .inl rfl | exact .inr rfl) :
    PG X (.Name x pos) (tG g W (kName i)) := PG.imp (pg_name hN hi hx hf) fun _ _ H _ ⟨m, _, _, _, sr, er, r, h⟩ => h _ m H Ev.refl sr (er.set r)
abbrev DGs := List D → En → Sto → Fz
def tGs (g : Gx) (W : WX) (f : DGs) : TGs := fun vs σ H Q => ∃ m S ρ ds, SR g m H S ∧ ER g m S.length H σ ρ ∧ VRs g m S.length H vs ds ∧ PF g m S H W { nx := Q, rt := fun _ _ => False } (f ds ρ S)
def kNil : DGs := fun ds ρ S => match ds with
  | [] => .nx ρ S
  | _ :: _ => .no
def kCons (f : DG) (fs : DGs) : DGs := fun ds ρ S => match ds with
  | [] => .no
  | d :: r => match f d ρ S with
    | .nx ρ' S' => fs r ρ' S'
    | _ => .no
theorem dgs_nil : PGs X [] (tGs g W kNil) := PGs.imp pgs_nil fun _ _ _ _ ⟨_, _, _, ds, sr, er, r, h⟩ => by
  cases r with
  | nil => exact ⟨rfl, h.here sr er⟩
  | cons _ _ _ _ _ _ => exact h.elim
theorem dgs_cons {es : List Expr} {k : DG} {ks : DGs} (h1 : PG X e (tG g W k)) (h2 : PGs X es (tGs g W ks))
    (hs : (assignEach (e :: es) X.env).map (·.2) = assign e X.env :: (assignEach es X.env).map (·.2) := by rfl) : PGs X (e :: es) (tGs g W (kCons k ks)) :=
  PGs.imp (pgs_cons h1 h2 hs) fun vs σ H Q ⟨m, S, ρ, ds, sr, er, r, h⟩ => by
    cases r with
    | nil => exact h.elim
    | cons x d xs ds rx rs =>
      refine ⟨x, xs, rfl, m, S, ρ, d, sr, er, rx, ?_⟩
      unfold kCons at h
      cases q : k d ρ S with
      | nx ρ1 S1 =>
        simp only [q] at h
        exact fun s1 m1 H1 e1 sr1 er1 => ⟨m1, S1, ρ1, ds, sr1, er1, rs.ev e1, PF.ev e1 h⟩
      | _ => simp only [q] at h; exact h.elim
/-- unpacking a tuple -/
def kTup (ks : DGs) (n : Nat) : DG := fun d ρ S => match d with
  | .tup xs => if xs.length = n then ks xs ρ S else .no
  | _ => .no
theorem dg_tup {es : List Expr} {k n : Nat} {ks : DGs} (hc : X.calm = true) (hK : X.K = g.K) (h : PGs X es (tGs g W ks)) (hn : (assignEach es X.env).length = n := by rfl) (hst : (assignEach es X.env).findIdx? (·.1) = none := by rfl) :
    PG X (.Tuple es k pos) (tG g W (kTup ks n)) := PG.imp (pg_tup hc h hn hst) fun v σ H Q ⟨m, S, ρ, d, sr, er, r, q⟩ => by
  rw [hK]
  cases r with
  | tup a xs ds hq rs =>
    have q2 : PF g m S H W { nx := Q, rt := fun _ _ => False } (if ds.length = n then ks ds ρ S else .no) := q
    by_cases hz : ds.length = n
    · rw [if_pos hz] at q2
      exact ⟨a, xs, rfl, hq, by rw [rs.length]; exact hz, m, S, ρ, ds, sr, er, rs, q2⟩
    · rw [if_neg hz] at q2; exact q2.elim
  | _ => exact q.elim
/-- target = e -/
def cAsg (f : DE) (k : DG) : DS := fun ρ S => (f ρ S).toF ρ fun d S' => match k d ρ S' with
  | .nx ρ' S'' => .nx ρ' S''
  | _ => .no
theorem asg_sub {k : DG} : ∀ E σ H, tS g W (cAsg f k) E σ H → tAsg (tD g W f) (tG g W k) E σ H := fun E σ H ⟨m, S, ρ, sr, er, h⟩ =>
  tD.subF sr er h fun d m1 S1 H1 v s1 er1 _ r1 h1 => by
    refine ⟨m1, S1, ρ, d, s1, er1, r1, ?_⟩
    cases q : k d ρ S1 with
    | nx ρ2 S2 => simp only [q] at h1; exact h1
    | _ => simp only [q] at h1; exact h1.elim
theorem ds_asg {tg : Expr} {k : DG} (he : PE X e (tD g W f)) (hg : PG X tg (tG g W k)) (hs : swapsWithSole [tg] e pos.line X.env = pure false := by rfl) (hw : swappedStores [tg] e X.env = pure none := by rfl)
    (h1 : (assignEach [tg] X.env).map (·.2) = [assign tg X.env] := by rfl) : PS X (.Assign [tg] e pos) (tS g W (cAsg f k)) := PS.imp (ps_asg he hg hs hw h1) asg_sub
theorem ds_set (i : Nat) {x : Str} {pos' : Pos} (hN : X.N.Nodup) (he : PE X e (tD g W f)) (hi : X.N[i]? = some x := by rfl) (hx : Loc X.env.scope x := by first | exact Or.inl rfl | exact Or.inr rfl) (hs : swapsWith e (some (.Name x pos')) pos.line X.env = pure false := by rfl)
    (hf : X.fn x = true ∨ X.env.scope.names.lookup x = some .local := by first | exact .inl rfl | exact .inr rfl) : PS X (.Assign [.Name x pos'] e pos) (tS g W (cAsg f (kName i))) :=
  PS.imp (ps_set hN hi hx he hs hf) fun _ _ _ ⟨_, _, _, sr, er, h⟩ => tD.subF sr er h fun _ m1 _ H1 v s1 er1 _ r1 h1 => h1 _ m1 H1 Ev.refl s1 (er1.set r1)
/-- a, b = e1, e2 (two plain locals): stored from the right -/
def cPar (i j : Nat) (fs : En → Mo (List D)) : DS := fun ρ S => (fs ρ S).toF ρ fun ds S' => match ds with
  | [d, e] => .nx ((ρ.set i (some d)).set j (some e)) S'
  | _ => .no
theorem tDs.subF {H : Hp} {σ : L2.St} {m : Nat → Addr} {S : Sto} {ρ : En} {k : List D → Sto → Fz} {E : Ends} {Q : List V → Hp → Prop}
    (sr : SR g m H S) (er : ER g m S.length H σ ρ) (h : PF g m S H W E ((fs ρ S).toF ρ k))
    (q : ∀ d m1 S1 H1 v, SR g m1 H1 S1 → ER g m1 S1.length H1 σ ρ → Ev g m S.length H m1 S1.length H1 → VRs g m1 S1.length H1 v d → PF g m1 S1 H1 W E (k d S1) → Q v H1) : tDs g W fs σ H Q :=
  ⟨m, S, ρ, sr, er, (h.bind er).mono fun d m1 S1 H1 e1 s1 p v r => q d m1 S1 H1 v s1 (er.ev e1) e1 r p⟩
theorem ds_par (i j : Nat) {x y : Str} {px py pt : Pos} {kt k2 pt2} (hc : X.calm = true) (hN : X.N.Nodup) (hw : swappedStores [.Tuple [.Name x px, .Name y py] kt pt] (.Tuple [a, b] k2 pt2) X.env = pure (some [x, y])) (ha : PA X [a, b] (tDs g W fs)) (hi : X.N[i]? = some x := by rfl) (hj : X.N[j]? = some y := by rfl) (hij : i ≠ j := by decide)
    (hx : X.env.scope.names.lookup x = some .local := by rfl) (hy : X.env.scope.names.lookup y = some .local := by rfl)
    (hs : swapsWithSole [.Tuple [.Name x px, .Name y py] kt pt] (.Tuple [a, b] k2 pt2) pos.line X.env = pure false := by rfl) :
    PS X (.Assign [.Tuple [.Name x px, .Name y py] kt pt] (.Tuple [a, b] k2 pt2) pos) (tS g W (cPar i j fs)) :=
  PS.imp (ps_par hc hN hi hj hij hx hy ha hw hs) fun _ _ _ ⟨_, _, _, sr, er, h⟩ => tDs.subF sr er h fun ds m1 S1 H1 vs s1 er1 _ r1 h1 => by
    cases r1 with
    | nil => exact h1.elim
    | cons x d xs ds rx rs =>
      cases rs with
      | nil => exact h1.elim
      | cons x' d' xs' ds' rx' rs' =>
        cases rs' with
        | nil => exact ⟨x, x', rfl, h1 _ m1 H1 Ev.refl s1 ((er1.set rx).set rx')⟩
        | cons _ _ _ _ _ _ => exact h1.elim
/-- x op= e at a local -/
def cAug (i : Nat) (h : D → D → Mo D) (f : DE) : DS := fun ρ S => match ρ[i]? with
  | some (some x) => (f ρ S).toF ρ fun y S' => (h x y S').toF ρ fun z S'' => .nx (ρ.set i (some z)) S''
  | _ => .no
theorem ds_aug (i : Nat) {x : Str} {op : Operator} {r : R2} {h : D → D → Mo D} {pos' : Pos} (hN : X.N.Nodup) (ho : OpR X (inplaceOp op) r) (hs : S2 g r h) (he : PE X e (tD g W f)) (hi : X.N[i]? = some x := by rfl) (hx : Loc X.env.scope x := by first | exact Or.inl rfl | exact Or.inr rfl)
    (hf : X.fn x = true ∨ X.env.scope.names.lookup x = some .local := by first | exact .inl rfl | exact .inr rfl) : PS X (.AugAssign (.Name x pos') op e pos) (tS g W (cAug i h f)) :=
  PS.imp (ps_aug (ti := r) hN hi hx he (fun pins s σ H x y v u Q I r1 r2 q => ho pins s σ H x y v u Q I r1 r2 q) hf) fun E σ H ⟨m, S, ρ, sr, er, k⟩ => by
    unfold cAug at k
    cases q : ρ[i]? with
    | none => rw [q] at k; exact k.elim
    | some o =>
      rw [q] at k
      cases o with
      | none => exact k.elim
      | some d =>
        obtain ⟨v, hv, rv⟩ := er.at_ i d q
        refine ⟨v, hv, tD.subF sr er k fun y m1 S1 H1 u s1 er1 e1 r1 h1 => ?_⟩
        exact hs m1 S1 H1 _ _ _ _ _ _ s1 (rv.ev e1) r1 ((h1.bind er1).mono fun z m2 S2 H2 e2 s2 p w rw' => p _ m2 H2 Ev.refl s2 ((er1.ev e2).set rw'))

/-! ### while -/
def cWhile (c : En → Mo Bool) (s : DS) : Nat → DS
  | 0 => fun _ _ => .no
  | n + 1 => fun ρ S => (c ρ S).toF ρ fun k S' => match k with
    | true => match s ρ S' with
      | .nx ρ' S'' => cWhile c s n ρ' S''
      | .cnt ρ' S'' => cWhile c s n ρ' S''
      | .brk ρ' S'' => .nx ρ' S''
      | o => o
    | false => .nx ρ S'
theorem ds_while (n : Nat) {body : List Stmt} (hp : PassesOwn (model X.prog X.w) X.A X.env X.xe) (hc : PT X c (tDb g W ft)) (hb : PSs X body (tS g W s)) : PS X (.While c body [] pos) (tS g W (cWhile ft s n)) :=
  PS.imp (ps_while hp hc hb) fun E σ H h => by
    refine ⟨fun k => tS g W (cWhile ft s k) E, ⟨n, h⟩, ?_⟩
    rintro k σ H ⟨m, S, ρ, sr, er, q⟩
    cases k with
    | zero => exact q.elim
    | succ k =>
      refine tDb.subF sr er q fun b m1 S1 H1 s1 er1 _ q1 => ?_
      cases b with
      | false => rw [if_neg Bool.false_ne_true]; exact q1.here s1 er1
      | true =>
        rw [if_pos rfl]
        refine ⟨tS g W (cWhile ft s k) E, fun σ' H' z => ⟨k, Nat.lt_succ_self k, z⟩, m1, S1, ρ, s1, er1, ?_⟩
        have q2 : PF g m1 S1 H1 W E (match s ρ S1 with
          | .nx ρ' S'' => cWhile ft s k ρ' S''
          | .cnt ρ' S'' => cWhile ft s k ρ' S''
          | .brk ρ' S'' => .nx ρ' S''
          | o => o) := q1
        cases z : s ρ S1 with
        | nx ρ2 S2 => rw [z] at q2; exact fun s3 m3 H3 e3 sr3 er3 => ⟨m3, S2, ρ2, sr3, er3, PF.ev e3 q2⟩
        | cnt ρ2 S2 => rw [z] at q2; exact fun s3 m3 H3 e3 sr3 er3 => ⟨m3, S2, ρ2, sr3, er3, PF.ev e3 q2⟩
        | brk ρ2 S2 => rw [z] at q2; exact q2
        | ret d S2 => rw [z] at q2; exact q2
        | ex x ρ2 S2 => rw [z] at q2; exact q2
        | no => rw [z] at q2; exact q2

/-! ### what is walked -/
/-- items that stand fast, or a list of the store as it is at each turn -/
inductive Wk where
  | items (ds : List D) | live (l : Nat)
/-- J walks the items -/
def ItmOk (g : Gx) (J : It) (m : Nat → Addr) (n : Nat) (H : Hp) (ds : List D) : Prop :=
  ∀ i m' n' H', Ev g m n H m' n' H' → (ds.length ≤ i → J.stop i H') ∧ (∀ d, ds[i]? = some d → J.go i H' ∧ ∀ x H'', J.yld i H' x H'' → Ev g m' n' H' m' n' H'' ∧ (∀ S, n' = S.length → SR g m' H' S → SR g m' H'' S) ∧ VR g m' n' H'' x d)
def ItOk (g : Gx) (J : It) (m : Nat → Addr) (n : Nat) (H : Hp) : Wk → Prop
  | .items ds => ItmOk g J m n H ds
  | .live l => l < n ∧ J = Itl g.K (m l)
def tIt (g : Gx) (W : WX) (f : En → Mo Wk) : TI := fun σ H R => ∃ m S ρ, SR g m H S ∧ ER g m S.length H σ ρ ∧
  PRx g m S H (fun c d H' => W c d σ H') (fun w m1 S1 H1 => ∀ J, ItOk g J m1 S1.length H1 w → R J H1) (f ρ S)
/-- the turns over items -/
def loopI (k : DG) (s : DS) : List D → DS
  | [] => fun ρ S => .nx ρ S
  | d :: r => fun ρ S => match k d ρ S with
    | .nx ρ1 S1 => match s ρ1 S1 with
      | .nx ρ' S' => loopI k s r ρ' S'
      | .cnt ρ' S' => loopI k s r ρ' S'
      | .brk ρ' S' => .nx ρ' S'
      | o => o
    | _ => .no
/-- the turns over a list of the store: i turns done, n at most to come -/
def loopL (k : DG) (s : DS) (l : Nat) : Nat → Nat → DS
  | 0, i => fun ρ S => match S[l]? with
    | some (.lst xs) => if xs.length ≤ i then .nx ρ S else .no
    | _ => .no
  | n + 1, i => fun ρ S => match S[l]? with
    | some (.lst xs) => match xs[i]? with
      | some d => match k d ρ S with
        | .nx ρ1 S1 => match s ρ1 S1 with
          | .nx ρ' S' => loopL k s l n (i + 1) ρ' S'
          | .cnt ρ' S' => loopL k s l n (i + 1) ρ' S'
          | .brk ρ' S' => .nx ρ' S'
          | o => o
        | _ => .no
      | none => .nx ρ S
    | _ => .no
def lenL (S : Sto) (l : Nat) : Nat := match S[l]? with
  | some (.lst xs) => xs.length
  | _ => 0
def cFor (it : En → Mo Wk) (k : DG) (s : DS) : DS := fun ρ S => (it ρ S).toF ρ fun w S' => match w with
  | .items ds => loopI k s ds ρ S'
  | .live l => loopL k s l (lenL S' l) 0 ρ S'
theorem turn_sub {k : DG} {rest' : DS} {E : Ends} {σ : L2.St} {H : Hp} {m : Nat → Addr} {S : Sto} {ρ : En} {d : D} {v : V} (sr : SR g m H S) (er : ER g m S.length H σ ρ) (r : VR g m S.length H v d)
    (h : PF g m S H W E (match k d ρ S with
      | .nx ρ1 S1 => match s ρ1 S1 with
        | .nx ρ' S' => rest' ρ' S'
        | .cnt ρ' S' => rest' ρ' S'
        | .brk ρ' S' => .nx ρ' S'
        | o => o
      | _ => .no)) :
    tG g W k v σ H fun σ2 H2 => tS g W s { E with nx := tS g W rest' E, ct := tS g W rest' E, bk := E.nx } σ2 H2 := by
  refine ⟨m, S, ρ, d, sr, er, r, ?_⟩
  cases q : k d ρ S with
  | nx ρ1 S1 =>
    rw [q] at h
    intro s1 m1 H1 e1 sr1 er1
    refine ⟨m1, S1, ρ1, sr1, er1, ?_⟩
    have h2 := PF.ev e1 h
    dsimp only at h2
    cases z : s ρ1 S1 with
    | nx ρ2 S2 => rw [z] at h2; exact fun s3 m3 H3 e3 sr3 er3 => ⟨m3, S2, ρ2, sr3, er3, PF.ev e3 h2⟩
    | cnt ρ2 S2 => rw [z] at h2; exact fun s3 m3 H3 e3 sr3 er3 => ⟨m3, S2, ρ2, sr3, er3, PF.ev e3 h2⟩
    | brk ρ2 S2 => rw [z] at h2; exact h2
    | ret d S2 => rw [z] at h2; exact h2
    | ex x ρ2 S2 => rw [z] at h2; exact h2
    | no => rw [z] at h2; exact h2
  | _ => rw [q] at h; exact h.elim
theorem ds_for {tg iter : Expr} {body : List Stmt} {it : En → Mo Wk} {k : DG} (hp : PassesOwn (model X.prog X.w) X.A X.env X.xe) (hc : X.calm = true) (hi : PI X tg iter (tIt g W it)) (hg : PG X tg (tG g W k)) (hb : PSs X body (tS g W s))
    (hs : ∀ x, foldedSetIterable iter X.env x = pure x := by intro _; rfl) : PS X (.For tg iter body [] pos) (tS g W (cFor it k s)) :=
  PS.imp (ps_for hp hc hi hg hb hs) fun E σ H ⟨m, S, ρ, sr, er, h⟩ => by
    refine ⟨m, S, ρ, sr, er, (h.bind er).mono fun w m1 S1 H1 e1 s1 q J ok => ?_⟩
    have er1 := er.ev e1
    cases w with
    | items ds =>
      have ok : ItmOk g J m1 S1.length H1 ds := ok
      refine ⟨fun i μ σ' H' => ∃ m' S' ρ', μ = ds.length - i ∧ i ≤ ds.length ∧ Ev g m1 S1.length H1 m' S'.length H' ∧ SR g m' H' S' ∧ ER g m' S'.length H' σ' ρ' ∧ PF g m' S' H' W E (loopI k s (ds.drop i) ρ' S'),
        ⟨ds.length, m1, S1, ρ, by simp, Nat.zero_le _, Ev.refl, s1, er1, by simpa using q⟩, ?_⟩
      rintro i μ σ' H' ⟨m', S', ρ', rfl, hil, e', sr', er', q'⟩
      obtain ⟨st, gos⟩ := ok i m' S'.length H' e'
      by_cases hlt : i < ds.length
      · have hd : ds[i]? = some ds[i] := List.getElem?_eq_getElem hlt
        obtain ⟨go, yl⟩ := gos _ hd
        refine .inr ⟨go, fun σ2 H2 => ∃ m2 S2 ρ2, Ev g m1 S1.length H1 m2 S2.length H2 ∧ SR g m2 H2 S2 ∧ ER g m2 S2.length H2 σ2 ρ2 ∧ PF g m2 S2 H2 W E (loopI k s (ds.drop (i + 1)) ρ2 S2), fun σ2 H2 ⟨m2, S2, ρ2, a1, a2, a3, a4⟩ => ⟨ds.length - (i + 1), by omega, m2, S2, ρ2, rfl, hlt, a1, a2, a3, a4⟩, fun x H'' y => ?_⟩
        obtain ⟨e2, keepS, rx⟩ := yl x H'' y
        have sr2 := keepS S' rfl sr'
        have er2 := er'.ev e2
        rw [List.drop_eq_getElem_cons hlt] at q'
        have q2 := PF.ev e2 q'
        have e12 := e'.trans e2
        -- the turn, remembering how the heap came to be
        obtain ⟨m3, S3, ρ3, d3, b1, b2, b3, b4⟩ := turn_sub (rest' := loopI k s (ds.drop (i + 1))) sr2 er2 rx q2
        refine ⟨m', S', ρ', ds[i], sr2, er2, rx, ?_⟩
        clear b1 b2 b3 b4
        have q3 : PF g m' S' H'' W E (match k ds[i] ρ' S' with
          | .nx ρ1 S1 => match s ρ1 S1 with
            | .nx ρ' S' => loopI k s (ds.drop (i + 1)) ρ' S'
            | .cnt ρ' S' => loopI k s (ds.drop (i + 1)) ρ' S'
            | .brk ρ' S' => .nx ρ' S'
            | o => o
          | _ => .no) := q2
        cases z : k ds[i] ρ' S' with
        | nx ρ5 S5 =>
          rw [z] at q3
          intro s6 m6 H6 e6 sr6 er6
          refine ⟨m6, S5, ρ5, sr6, er6, ?_⟩
          have h2 := PF.ev e6 q3
          dsimp only at h2
          have e16 := e12.trans e6
          cases z2 : s ρ5 S5 with
          | nx ρ7 S7 => rw [z2] at h2; exact fun s8 m8 H8 e8 sr8 er8 => ⟨m8, S7, ρ7, e16.trans e8, sr8, er8, PF.ev e8 h2⟩
          | cnt ρ7 S7 => rw [z2] at h2; exact fun s8 m8 H8 e8 sr8 er8 => ⟨m8, S7, ρ7, e16.trans e8, sr8, er8, PF.ev e8 h2⟩
          | brk ρ7 S7 => rw [z2] at h2; exact h2
          | ret d S7 => rw [z2] at h2; exact h2
          | ex x ρ7 S7 => rw [z2] at h2; exact h2
          | no => rw [z2] at h2; exact h2
        | _ => rw [z] at q3; exact q3.elim
      · have e0 : i = ds.length := by omega
        subst e0
        rw [List.drop_length] at q'
        exact .inl ⟨st (Nat.le_refl _), q'.here sr' er'⟩
    | live l =>
      obtain ⟨hl, rfl⟩ := ok
      refine ⟨fun i μ σ' H' => ∃ m' S' ρ', l < S'.length ∧ m' l = m1 l ∧ SR g m' H' S' ∧ ER g m' S'.length H' σ' ρ' ∧ PF g m' S' H' W E (loopL k s l μ i ρ' S'),
        ⟨lenL S1 l, m1, S1, ρ, hl, rfl, s1, er1, q⟩, ?_⟩
      rintro i μ σ' H' ⟨m', S', ρ', hl', hm', sr', er', q'⟩
      cases μ with
      | zero =>
        unfold loopL at q'
        cases z : S'[l]? with
        | none => rw [z] at q'; exact q'.elim
        | some o =>
          rw [z] at q'
          cases o with
          | lst xs =>
            dsimp only at q'
            obtain ⟨_, vs, hv, rs⟩ := sr'.atL z
            by_cases hx : xs.length ≤ i
            · rw [if_pos hx] at q'
              refine .inl ⟨⟨vs, by rw [← hm']; exact SqL.of hv, by rw [rs.length]; exact hx⟩, q'.here sr' er'⟩
            · rw [if_neg hx] at q'; exact q'.elim
          | _ => exact q'.elim
      | succ μ =>
        unfold loopL at q'
        cases z : S'[l]? with
        | none => rw [z] at q'; exact q'.elim
        | some o =>
          rw [z] at q'
          cases o with
          | lst xs =>
            dsimp only at q'
            obtain ⟨_, vs, hv, rs⟩ := sr'.atL z
            cases zx : xs[i]? with
            | none =>
              rw [zx] at q'
              have hx : xs.length ≤ i := List.getElem?_eq_none_iff.mp zx
              exact .inl ⟨⟨vs, by rw [← hm']; exact SqL.of hv, by rw [rs.length]; exact hx⟩, q'.here sr' er'⟩
            | some d =>
              rw [zx] at q'
              obtain ⟨v, hvi, rv⟩ := rs.get zx
              refine .inr ⟨⟨vs, v, by rw [← hm']; exact SqL.of hv, hvi⟩, fun σ2 H2 => ∃ m2 S2 ρ2, l < S2.length ∧ m2 l = m1 l ∧ SR g m2 H2 S2 ∧ ER g m2 S2.length H2 σ2 ρ2 ∧ PF g m2 S2 H2 W E (loopL k s l μ (i + 1) ρ2 S2),
                fun σ2 H2 a => ⟨μ, Nat.lt_succ_self _, a⟩, fun x H'' y => ?_⟩
              obtain ⟨rfl, yx⟩ := y
              have ex : x = v := by
                have := yx vs (by rw [← hm']; exact SqL.of hv)
                rw [hvi] at this
                exact (Option.some.inj this).symm
              subst ex
              refine ⟨m', S', ρ', d, sr', er', rv, ?_⟩
              dsimp only at q'
              cases z3 : k d ρ' S' with
              | nx ρ5 S5 =>
                rw [z3] at q'
                intro s6 m6 H6 e6 sr6 er6
                refine ⟨m6, S5, ρ5, sr6, er6, ?_⟩
                have h2 := PF.ev e6 q'
                dsimp only at h2
                have l6 : l < S5.length := Nat.lt_of_lt_of_le hl' e6.le
                have m6' : m6 l = m1 l := (e6.ag l hl').trans hm'
                cases z2 : s ρ5 S5 with
                | nx ρ7 S7 => rw [z2] at h2; exact fun s8 m8 H8 e8 sr8 er8 => ⟨m8, S7, ρ7, Nat.lt_of_lt_of_le l6 e8.le, (e8.ag l l6).trans m6', sr8, er8, PF.ev e8 h2⟩
                | cnt ρ7 S7 => rw [z2] at h2; exact fun s8 m8 H8 e8 sr8 er8 => ⟨m8, S7, ρ7, Nat.lt_of_lt_of_le l6 e8.le, (e8.ag l l6).trans m6', sr8, er8, PF.ev e8 h2⟩
                | brk ρ7 S7 => rw [z2] at h2; exact h2
                | ret d S7 => rw [z2] at h2; exact h2
                | ex x ρ7 S7 => rw [z2] at h2; exact h2
                | no => rw [z2] at h2; exact h2
              | _ => rw [z3] at q'; exact q'.elim
          | _ => exact q'.elim
/-- iterating data -/
def itD : D → Mo Wk
  | .tup ds => pure (.items ds)
  | .lsc ds => pure (.items ds)
  | .str x => pure (.items (x.cps.toList.map fun c => .str ⟨#[c]⟩))
  | .loc l => fun S => match S[l]? with
    | some (.lst _) => .ok (.live l) S
    | _ => .no
  | _ => bad
def cIt (f : DE) : En → Mo Wk := fun ρ => f ρ >>= itD
theorem itt_ok {m : Nat → Addr} {n : Nat} {H : Hp} {a : Addr} {xs : List V} {ds : List D} (hq : SqT g.K H a xs) (rs : VRs g m n H xs ds) : ItmOk g (Itt g.K a) m n H ds := fun i m' n' H' e =>
  ⟨fun h => ⟨xs, e.tup _ _ hq, by rw [rs.length]; exact h⟩, fun d hd => by
    obtain ⟨v, hv, rv⟩ := (rs.ev e).get hd
    refine ⟨⟨xs, v, e.tup _ _ hq, hv⟩, fun x H'' ⟨eq, y⟩ => ?_⟩
    subst eq
    have := y xs (e.tup _ _ hq)
    rw [hv] at this
    cases this
    exact ⟨Ev.refl, fun _ _ h => h, rv⟩⟩
theorem itl_ok {m : Nat → Addr} {n : Nat} {H : Hp} {a : Addr} {xs : List V} {ds : List D} (hq : Lsc g.K H a xs) (rs : VRs g m n H xs ds) : ItmOk g (Itl g.K a) m n H ds := fun i m' n' H' e =>
  ⟨fun h => ⟨xs, (e.lsc _ _ hq).sq, by rw [rs.length]; exact h⟩, fun d hd => by
    obtain ⟨v, hv, rv⟩ := (rs.ev e).get hd
    refine ⟨⟨xs, v, (e.lsc _ _ hq).sq, hv⟩, fun x H'' ⟨eq, y⟩ => ?_⟩
    subst eq
    have := y xs (e.lsc _ _ hq).sq
    rw [hv] at this
    cases this
    exact ⟨Ev.refl, fun _ _ h => h, rv⟩⟩
end
end Sm
end
section
/-! Sm, part D: what is walked, comprehensions, fields, own classes, calls, the entry of a def. -/
namespace Sm
open PySem PySem.Spec PyProof.Rows L2

section
variable {X : Cx} {g : Gx} {W : WX} {e a b c : Expr} {es rest : List Expr} {f fa fb : DE} {fs : En → Mo (List D)} {ft : En → Mo Bool} {s t u : DS} {pos : Pos}

/-! ### iterators -/
def iAny (K : PySem.W.Frag) (tl : TE) : TI := fun σ H R => tl σ H fun v H1 =>
  (∃ a, v = .ref a ∧ (∃ xs, SqL K H1 a xs) ∧ R (Itl K a) H1) ∨ (∃ a, v = .ref a ∧ (∃ xs, SqT K H1 a xs) ∧ R (Itt K a) H1) ∨ ∃ x, v = .str x ∧ R (L2.Its x) H1
theorem pi_any {tg l : Expr} {tl : TE} (hl : PE X l tl) : PI X tg l (iAny X.K tl) := by
  refine ⟨fun pins s σ H R I h => ?_⟩
  refine thn (hl.run pins s σ H _ I h) fun v s1 ⟨x, H1, I1, r1, q1⟩ => ?_
  rcases q1 with ⟨a, e, ⟨xs, hq⟩, q⟩ | ⟨a, e, ⟨xs, hq⟩, q⟩ | ⟨x, e, q⟩
  · subst e
    cases r1
    obtain ⟨its, rv, p, hz⟩ := I1.list hq
    refine wpAny_pyIter_list p.isList ?_
    refine ⟨s1.heap.objs.size, [s1.heap.objs.size], _, _, H1, rfl, I1.kept (t' := s1.toks) fun b o e => Heap.get?_push_of_some _ e, turn_list a _, ⟨_, Heap.get?_push_size _ rfl, rfl, rfl⟩, fun b hb => ?_, q⟩
    have e : b = s1.heap.objs.size := by simpa using hb
    subst e
    exact I1.fpOk (Nat.le_refl _) (I1.hok.fresh (Nat.le_refl _))
  · subst e
    cases r1
    obtain ⟨its, rv, p, hz⟩ := I1.tuple hq
    refine wpAny_pyIter_tuple (show s1.heap.IsTuple a its.toArray from p) ?_
    refine ⟨s1.heap.objs.size, [s1.heap.objs.size], _, _, H1, rfl, I1.kept (t' := s1.toks) fun b o e => Heap.get?_push_of_some _ e, turn_tuple a _, ⟨_, Heap.get?_push_size _ rfl, rfl, rfl⟩, fun b hb => ?_, q⟩
    have e : b = s1.heap.objs.size := by simpa using hb
    subst e
    exact I1.fpOk (Nat.le_refl _) (I1.hok.fresh (Nat.le_refl _))
  · subst e
    obtain ⟨t, rfl⟩ := r1
    cases ha : x.cps.all (· < 128)
    · exact wpAny_pyIter_wide ha (pi_one (tk := s1.toks) I1 _ (turn_str _ x t "str_iterator" (.inr rfl)) ⟨_, Heap.get?_push_size _ rfl, rfl, rfl⟩ q)
    · exact wpAny_pyIter_ascii ha (pi_one (tk := s1.toks) I1 _ (turn_str _ x t "str_ascii_iterator" (.inl rfl)) ⟨_, Heap.get?_push_size _ rfl, rfl, rfl⟩ q)
theorem its_ok {m : Nat → Addr} {n : Nat} {H : Hp} (x : Str) : ItmOk g (L2.Its x) m n H (x.cps.toList.map fun c => D.str ⟨#[c]⟩) := fun i m' n' H' e =>
  ⟨fun h => by
    rw [List.length_map, Array.length_toList] at h
    exact h, fun d hd => by
    have hi : i < x.cps.size := by
      have := (List.getElem?_eq_some_iff.mp hd).1
      simpa using this
    refine ⟨hi, fun v H'' ⟨eq, c, hc, ev⟩ => ?_⟩
    subst eq
    subst ev
    rw [List.getElem?_map, Array.getElem?_toList, hc] at hd
    cases hd
    exact ⟨Ev.refl, fun _ _ h => h, .str _⟩⟩
theorem itD_ok {m : Nat → Addr} {S : Sto} {H : Hp} {W : XK} {d : D} {v : V} {R : It → Hp → Prop} (sr : SR g m H S) (r : VR g m S.length H v d)
    (h : PRx g m S H W (fun w m1 S1 H1 => ∀ J, ItOk g J m1 S1.length H1 w → R J H1) (itD d S)) :
    (∃ a, v = .ref a ∧ (∃ xs, SqL g.K H a xs) ∧ R (Itl g.K a) H) ∨ (∃ a, v = .ref a ∧ (∃ xs, SqT g.K H a xs) ∧ R (Itt g.K a) H) ∨ ∃ x, v = .str x ∧ R (L2.Its x) H := by
  cases r with
  | str x => exact .inr (.inr ⟨x, rfl, h m H Ev.refl sr _ (its_ok x)⟩)
  | tup a xs ds hq rs => exact .inr (.inl ⟨a, rfl, ⟨xs, hq⟩, h m H Ev.refl sr _ (itt_ok hq rs)⟩)
  | lsc a xs ds hq rs => exact .inl ⟨a, rfl, ⟨xs, hq.sq⟩, h m H Ev.refl sr _ (itl_ok hq rs)⟩
  | loc l hl =>
    have h2 : PRx g m S H W (fun w m1 S1 H1 => ∀ J, ItOk g J m1 S1.length H1 w → R J H1) (match S[l]? with
      | some (.lst _) => (Rz.ok (Wk.live l) S : Rz Wk)
      | _ => .no) := h
    cases q : S[l]? with
    | none => rw [q] at h2; exact h2.elim
    | some o =>
      rw [q] at h2
      cases o with
      | lst ds =>
        obtain ⟨_, vs, hv, _⟩ := sr.atL q
        exact .inl ⟨m l, rfl, ⟨vs, SqL.of hv⟩, h2 m H Ev.refl sr _ ⟨hl, rfl⟩⟩
      | _ => exact h2.elim
  | _ => exact h.elim
theorem di_any {tg : Expr} (hK : X.K = g.K) (he : PE X e (tD g W f)) : PI X tg e (tIt g W (cIt f)) :=
  PI.imp (pi_any he) fun σ H R ⟨m, S, ρ, sr, er, h⟩ => by
    rw [hK]
    exact tD.sub sr er h fun d m1 S1 H1 v s1 er1 _ r1 h1 => itD_ok s1 r1 h1
/-- range(a, b), range(n) -/
def rgD (lo : Int) (n : Nat) : List D := (List.range n).map fun i => D.int (lo + (i : Nat))
theorem itr_ok {m : Nat → Addr} {n : Nat} {H : Hp} (lo : Int) (k : Nat) : ItmOk g (Itr lo k) m n H (rgD lo k) := fun i m' n' H' e =>
  ⟨fun h => by
    unfold rgD at h
    rw [List.length_map, List.length_range] at h
    exact h, fun d hd => by
    have hi : i < k := by
      have := (List.getElem?_eq_some_iff.mp hd).1
      simpa [rgD] using this
    refine ⟨hi, fun v H'' ⟨eq, ev⟩ => ?_⟩
    subst eq
    subst ev
    unfold rgD at hd
    rw [List.getElem?_map, List.getElem?_range hi] at hd
    cases hd
    exact ⟨Ev.refl, fun _ _ h => h, .int _⟩⟩
@[irreducible] def okR (j : Int) : Bool := decide (-(2 ^ 62) ≤ j ∧ j < 2 ^ 62)
theorem okR_iff {j : Int} : okR j = true ↔ (-(2 ^ 62) ≤ j ∧ j < 2 ^ 62) := by
  unfold okR
  exact decide_eq_true_iff
def rng1 : List D → Mo Wk
  | [.int j] => fun S => if okR j = true then .ok (.items (rgD 0 j.toNat)) S else .no
  | _ => bad
def rng2 : List D → Mo Wk
  | [.int i, .int j] => fun S => if (okR i && okR j) = true then .ok (.items (rgD i (j - i).toNat)) S else .no
  | _ => bad
def cRng (h : List D → Mo Wk) (fs : En → Mo (List D)) : En → Mo Wk := fun ρ => fs ρ >>= h
theorem di_range1 {tg : Expr} {p : Pos} (hm : X.mg "range" = none) (ha : PA X [a] (tDs g W fs)) (hg : Gl X "range" := by rfl) (hs : starEach [a] X.env = [(false, eval a X.env)] := by rfl) : PI X tg (.Call (.Name "range" p) [a] [] pos) (tIt g W (cRng rng1 fs)) :=
  PI.imp (pi_range1 hg hm ha hs) fun σ H R ⟨m, S, ρ, sr, er, h⟩ => tDs.sub sr er h fun ds m1 S1 H1 vs s1 _ _ r1 h1 => by
    cases r1 with
    | nil => exact h1.elim
    | cons x d xs ds rx rs =>
      cases rs with
      | cons _ _ _ _ _ _ => cases rx <;> exact h1.elim
      | nil =>
        cases rx with
        | int j =>
          have h2 : PRx g m1 S1 H1 _ _ (if okR j = true then (Rz.ok (Wk.items (rgD 0 j.toNat)) S1 : Rz Wk) else .no) := h1
          by_cases q : okR j = true
          · rw [if_pos q] at h2
            obtain ⟨q1, q2⟩ := okR_iff.mp q
            exact ⟨j, rfl, q1, q2, h2 m1 H1 Ev.refl s1 _ (itr_ok 0 j.toNat)⟩
          · rw [if_neg q] at h2; exact h2.elim
        | _ => exact h1.elim
theorem di_range2 {tg : Expr} {p : Pos} (hm : X.mg "range" = none) (ha : PA X [a, b] (tDs g W fs)) (hg : Gl X "range" := by rfl) (hs : starEach [a, b] X.env = [(false, eval a X.env), (false, eval b X.env)] := by rfl) (hs2 : starEach [b] X.env = [(false, eval b X.env)] := by rfl) :
    PI X tg (.Call (.Name "range" p) [a, b] [] pos) (tIt g W (cRng rng2 fs)) :=
  PI.imp (pi_range2 hg hm ha hs hs2) fun σ H R ⟨m, S, ρ, sr, er, h⟩ => tDs.sub sr er h fun ds m1 S1 H1 vs s1 _ _ r1 h1 => by
    cases r1 with
    | nil => exact h1.elim
    | cons x d xs ds rx rs =>
      cases rs with
      | nil => cases rx <;> exact h1.elim
      | cons y e xs ds ry rs =>
        cases rs with
        | cons _ _ _ _ _ _ => cases rx <;> cases ry <;> exact h1.elim
        | nil =>
          cases rx with
          | int i =>
            cases ry with
            | int j =>
              have h2 : PRx g m1 S1 H1 _ _ (if (okR i && okR j) = true then (Rz.ok (Wk.items (rgD i (j - i).toNat)) S1 : Rz Wk) else .no) := h1
              by_cases q : (okR i && okR j) = true
              · rw [if_pos q] at h2
                rw [Bool.and_eq_true] at q
                obtain ⟨q1, q2⟩ := okR_iff.mp q.1
                obtain ⟨q3, q4⟩ := okR_iff.mp q.2
                exact ⟨i, j, rfl, ⟨q1, q2, q3, q4⟩, h2 m1 H1 Ev.refl s1 _ (itr_ok i _)⟩
              · rw [if_neg q] at h2; exact h2.elim
            | _ => exact h1.elim
          | _ => exact h1.elim

/-! ### comprehensions -/
/-- the names' slots set, one after another -/
def setAll (ρ : En) : List Nat → List D → En
  | i :: is, d :: ds => setAll (ρ.set i (some d)) is ds
  | _, _ => ρ
def setV (σ : L2.St) : List Nat → List V → L2.St
  | i :: is, d :: ds => setV (σ.set i (some d)) is ds
  | _, _ => σ
def gNames : List Nat → TGs
  | [] => gNil
  | i :: is => gCons (gName i) (gNames is)
theorem gNames_of : ∀ {is : List Nat} {xs : List V} {σ : L2.St} {H : Hp} {Q : L2.St → Hp → Prop}, xs.length = is.length → Q (setV σ is xs) H → gNames is xs σ H Q
  | [], [], _, _, _, _, h => ⟨rfl, h⟩
  | i :: is, x :: xs, σ, H, Q, hl, h => ⟨x, xs, rfl, gNames_of (is := is) (xs := xs) (σ := σ.set i (some x)) (by simpa using hl) h⟩
theorem wipe_at (σ : L2.St) (i : Nat) : ∀ vs : List Nat, (wipe σ vs)[i]? = if i ∈ vs then (if i < σ.length then some none else none) else σ[i]?
  | [] => by simp [wipe]
  | v :: vs => by
    unfold wipe
    by_cases hv : v = i
    · subst hv
      by_cases hl : v < σ.length
      · rw [List.getElem?_set_self (by rw [wipe_length]; exact hl)]
        simp [hl]
      · rw [List.getElem?_eq_none (by rw [List.length_set, wipe_length]; omega)]
        simp [hl]
    · rw [List.getElem?_set_ne hv, wipe_at σ i vs]
      simp [Ne.symm hv]
theorem wipe_set (σ : L2.St) {i : Nat} {vs : List Nat} (hi : i ∈ vs) (o : Option V) : wipe (σ.set i o) vs = wipe σ vs := by
  apply List.ext_getElem?
  intro j
  rw [wipe_at, wipe_at]
  by_cases hj : j ∈ vs
  · rw [if_pos hj, if_pos hj, List.length_set]
  · rw [if_neg hj, if_neg hj, List.getElem?_set_ne (fun z => hj (by rw [← z]; exact hi))]
theorem wipe_wipe (σ : L2.St) (vs : List Nat) : wipe (wipe σ vs) vs = wipe σ vs := by
  apply List.ext_getElem?
  intro j
  rw [wipe_at, wipe_at, wipe_length]
  by_cases hj : j ∈ vs
  · simp [hj]
  · simp [hj]
theorem wipe_setV {vs : List Nat} : ∀ {is : List Nat} {xs : List V} (σ : L2.St), (∀ i ∈ is, i ∈ vs) → wipe (setV σ is xs) vs = wipe σ vs
  | [], _, _, _ => by simp [setV]
  | i :: is, [], _, _ => by simp [setV]
  | i :: is, x :: xs, σ, h => by
    unfold setV
    rw [wipe_setV (is := is) (xs := xs) _ fun j hj => h j (List.mem_cons_of_mem _ hj), wipe_set σ (h i List.mem_cons_self)]
def wipeE (ρ : En) : List Nat → En
  | [] => ρ
  | v :: vs => (wipeE ρ vs).set v none
theorem ER.wipe {m : Nat → Addr} {n : Nat} {H : Hp} {σ : L2.St} {ρ : En} (h : ER g m n H σ ρ) : ∀ vs : List Nat, ER g m n H (L2.wipe σ vs) (wipeE ρ vs)
  | [] => h
  | v :: vs => (ER.wipe h vs).unset
theorem ER.setAll : ∀ {is : List Nat} {xs : List V} {ds : List D} {m : Nat → Addr} {n : Nat} {H : Hp} {σ : L2.St} {ρ : En}, ER g m n H σ ρ → VRs g m n H xs ds → ER g m n H (setV σ is xs) (setAll ρ is ds)
  | [], _, _, _, _, _, _, _, h, _ => by simpa [setV, Sm.setAll] using h
  | i :: is, _, _, _, _, _, _, _, h, .nil => by simpa [setV, Sm.setAll] using h
  | i :: is, _, _, _, _, _, _, _, h, .cons x d xs ds r t => ER.setAll (is := is) (h.set r) t
/-- the comprehension's names: one, or a tuple of them -/
inductive CT where
  | one (i : Nat) | many (is : List Nat)
def CT.vs : CT → List Nat
  | .one i => [i]
  | .many is => is
def CT.tg (K : PySem.W.Frag) : CT → TG
  | .one i => gName i
  | .many is => gTup K is.length (gNames is)
def CT.put (ρ : En) : CT → D → Option En
  | .one i, d => some (ρ.set i (some d))
  | .many is, .tup ds => if ds.length = is.length then some (setAll ρ is ds) else none
  | .many _, _ => none
theorem CT.ok {K : PySem.W.Frag} {t : CT} {m : Nat → Addr} {n : Nat} {H : Hp} {σ : L2.St} {ρ ρ' : En} {v : V} {d : D} {Q : L2.St → Hp → Prop} (hK : K = g.K) (er : ER g m n H σ ρ) (r : VR g m n H v d) (h : t.put ρ d = some ρ')
    (q : ∀ σ', ER g m n H σ' ρ' → (∀ ws, (∀ i ∈ t.vs, i ∈ ws) → L2.wipe σ' ws = L2.wipe σ ws) → Q σ' H) : t.tg K v σ H Q := by
  cases t with
  | one i =>
    cases h
    exact q _ (er.set r) fun ws hw => wipe_set σ (hw i (by simp [CT.vs])) _
  | many is =>
    cases r with
    | tup a xs ds hq rs =>
      have h2 : (if ds.length = is.length then some (setAll ρ is ds) else none) = some ρ' := h
      by_cases hl : ds.length = is.length
      · rw [if_pos hl] at h2
        cases h2
        subst hK
        exact ⟨a, xs, rfl, hq, by rw [rs.length]; exact hl, gNames_of (by rw [rs.length]; exact hl) (q _ (er.setAll rs) fun ws hw => wipe_setV σ hw)⟩
      · rw [if_neg hl] at h2; cases h2
    | _ => cases h
/-- the end of one turn: the new item at the list n -/
def pushL (n : Nat) (y : D) (S : Sto) : Option Sto := match S[n]? with
  | some (.lst acc) => if fit (acc.length + 1) = true then some (S.set n (.lst (acc ++ [y]))) else none
  | _ => none
/-- one turn of a comprehension -/
def lcTurn (t : CT) (tst : En → Mo Bool) (elt : DE) (ρ : En) (n : Nat) (d : D) (S : Sto) : Option Sto := match t.put ρ d with
  | some ρ' => match tst ρ' S with
    | .ok true S1 => match elt ρ' S1 with
      | .ok y S2 => pushL n y S2
      | _ => none
    | .ok false S1 => some S1
    | _ => none
  | none => none
def lcI (t : CT) (tst : En → Mo Bool) (elt : DE) (ρ : En) (n : Nat) : List D → Sto → Rz D
  | [], S => .ok (.loc n) S
  | d :: r, S => match lcTurn t tst elt ρ n d S with
    | some S' => lcI t tst elt ρ n r S'
    | none => .no
def lcL (t : CT) (tst : En → Mo Bool) (elt : DE) (ρ : En) (n l : Nat) : Nat → Nat → Sto → Rz D
  | 0, i, S => match S[l]? with
    | some (.lst xs) => if xs.length ≤ i then .ok (.loc n) S else .no
    | _ => .no
  | k + 1, i, S => match S[l]? with
    | some (.lst xs) => match xs[i]? with
      | some d => match lcTurn t tst elt ρ n d S with
        | some S' => lcL t tst elt ρ n l k (i + 1) S'
        | none => .no
      | none => .ok (.loc n) S
    | _ => .no
def cLc (it : En → Mo Wk) (t : CT) (tst : En → Mo Bool) (elt : DE) : DE := fun ρ => do
  let w ← it ρ
  fun S => match w with
    | .items ds => lcI t tst elt (wipeE ρ t.vs) S.length ds (S ++ [.lst []])
    | .live l => lcL t tst elt (wipeE ρ t.vs) S.length l (lenL S l) 0 (S ++ [.lst []])
/-- a turn, over the hand layer's reading; what is known of the rest (Nx) is said of every later heap -/
theorem lcTurn_ok {K : PySem.W.Frag} {t : CT} {tst : En → Mo Bool} {elt : DE} {m : Nat → Addr} {S S' : Sto} {H : Hp} {σ : L2.St} {ρ : En} {n : Nat} {d : D} {x : V} {Nx : Hp → Prop} (hK : K = g.K)
    (sr : SR g m H S) (er : ER g m S.length H (L2.wipe σ t.vs) ρ) (r : VR g m S.length H x d) (hn : n < S.length) (h : lcTurn t tst elt ρ n d S = some S')
    (q : ∀ m' H', Ev g m S.length H m' S'.length H' → SR g m' H' S' → Nx H') :
    t.tg K x (L2.wipe σ t.vs) H fun σ2 H2 => L2.wipe σ2 t.vs = L2.wipe σ t.vs ∧ tDb g (fun _ _ _ _ => False) tst σ2 H2 fun b H3 =>
      if b = true then tD g (fun _ _ _ _ => False) elt σ2 H3 fun y H4 => ∃ acc, H4 (m n) = some (.lst acc) ∧ acc.length < sizeLine ∧ Nx (upd H4 (m n) (.lst (acc ++ [y]))) else Nx H3 := by
  unfold lcTurn at h
  cases q1 : t.put ρ d with
  | none => rw [q1] at h; cases h
  | some ρ' =>
    rw [q1] at h
    dsimp only at h
    refine CT.ok hK er r q1 fun σ' er' hw => ?_
    refine ⟨(hw t.vs fun _ z => z).trans (wipe_wipe σ t.vs), m, S, ρ', sr, er', ?_⟩
    cases q2 : tst ρ' S with
    | no => rw [q2] at h; cases h
    | ex e S1 => rw [q2] at h; cases h
    | ok b S1 =>
      rw [q2] at h
      intro m1 H1 e1 s1
      cases b with
      | false =>
        cases h
        exact iteF (q m1 H1 e1 s1)
      | true =>
        refine iteT ?_
        dsimp only at h
        refine ⟨m1, S1, ρ', s1, er'.ev e1, ?_⟩
        cases q3 : elt ρ' S1 with
        | no => rw [q3] at h; cases h
        | ex e S2 => rw [q3] at h; cases h
        | ok y S2 =>
          rw [q3] at h
          dsimp only at h
          intro m2 H2 e2 s2 v rv
          have e12 := e1.trans e2
          have en : m2 n = m n := e12.ag n hn
          unfold pushL at h
          cases q4 : S2[n]? with
          | none => rw [q4] at h; cases h
          | some o =>
            rw [q4] at h
            cases o with
            | lst acc =>
              dsimp only at h
              by_cases hf : fit (acc.length + 1) = true
              · rw [if_pos hf] at h
                cases h
                obtain ⟨hl, vs, hv, rs⟩ := s2.atL q4
                have z := fit_iff.mp hf
                refine ⟨vs, by rw [← en]; exact hv, by rw [rs.length]; omega, ?_⟩
                rw [← en]
                have ew : Ev g m2 S2.length H2 m2 S2.length (upd H2 (m2 n) (.lst (vs ++ [v]))) := Ev.wr (s2.canw hl)
                refine q m2 _ (by rw [List.length_set]; exact e12.trans ew) (s2.wr hl ⟨_, upd_same, ?_⟩)
                exact (rs.append (.cons _ _ _ _ rv .nil)).ev ew
              · rw [if_neg hf] at h; cases h
            | _ => cases h
theorem lc_sub {K : PySem.W.Frag} {it : En → Mo Wk} {t : CT} {tst : En → Mo Bool} {elt : DE} (hK : K = g.K) : ∀ σ H Q, tD g W (cLc it t tst elt) σ H Q →
    tLc (tIt g W it) (t.tg K) (tDb g (fun _ _ _ _ => False) tst) (tD g (fun _ _ _ _ => False) elt) t.vs σ H Q := fun σ H Q ⟨m, S, ρ, sr, er, h⟩ => by
  refine ⟨m, S, ρ, sr, er, h.bind.mono fun w m1 S1 H1 e1 s1 q J ok D hD => ?_⟩
  have er1 := er.ev e1
  have eA : Ev g m1 S1.length H1 (ext m1 S1.length D) (S1.length + 1) (upd H1 D (.lst [])) := Ev.ext (Ev.new hD)
  have sA : SR g (ext m1 S1.length D) (upd H1 D (.lst [])) (S1 ++ [.lst []]) := s1.alloc hD ⟨[], upd_same, .nil⟩
  have lA : (S1 ++ [Ob.lst []]).length = S1.length + 1 := by rw [List.length_append, List.length_singleton]
  have fin : ∀ {m' : Nat → Addr} {S' : Sto} {H' : Hp}, m' S1.length = D → S1.length < S'.length → SR g m' H' S' → PRx g m' S' H' (fun c d H' => W c d σ H') (KD g Q) (.ok (.loc S1.length) S') → Q (.ref D) H' := fun {m' S' H'} ed hl s' p => by
    have := p m' H' Ev.refl s' (.ref (m' S1.length)) (.loc _ hl)
    rw [ed] at this
    exact this
  cases w with
  | items ds =>
    have ok : ItmOk g J m1 S1.length H1 ds := ok
    have q : PRx g m1 S1 H1 (fun c d H' => W c d σ H') (KD g Q) (lcI t tst elt (wipeE ρ t.vs) S1.length ds (S1 ++ [.lst []])) := q
    have q0 := PRx.ev (S' := S1 ++ [Ob.lst []]) (by rw [lA]; exact eA) q
    refine ⟨fun i μ H' => ∃ m' S', μ = ds.length - i ∧ i ≤ ds.length ∧ m' S1.length = D ∧ S1.length < S'.length ∧ Ev g m1 S1.length H1 m' S'.length H' ∧ SR g m' H' S' ∧ PRx g m' S' H' (fun c d H' => W c d σ H') (KD g Q) (lcI t tst elt (wipeE ρ t.vs) S1.length (ds.drop i) S'),
      ⟨ds.length, _, _, by simp, Nat.zero_le _, ext_new, by rw [lA]; exact Nat.lt_succ_self _, by rw [lA]; exact eA, sA, by simpa using q0⟩, ?_⟩
    rintro i μ H' ⟨m', S', rfl, hil, ed, hl, e', s', q'⟩
    obtain ⟨st, gos⟩ := ok i m' S'.length H' e'
    by_cases hlt : i < ds.length
    · have hd : ds[i]? = some ds[i] := List.getElem?_eq_getElem hlt
      obtain ⟨go, yl⟩ := gos _ hd
      rw [List.drop_eq_getElem_cons hlt] at q'
      refine .inr ⟨go, fun H2 => ∃ m2 S2, m2 S1.length = D ∧ S1.length < S2.length ∧ Ev g m1 S1.length H1 m2 S2.length H2 ∧ SR g m2 H2 S2 ∧ PRx g m2 S2 H2 (fun c d H' => W c d σ H') (KD g Q) (lcI t tst elt (wipeE ρ t.vs) S1.length (ds.drop (i + 1)) S2),
        fun H2 ⟨m2, S2, a1, a2, a3, a4, a5⟩ => ⟨ds.length - (i + 1), by omega, m2, S2, rfl, hlt, a1, a2, a3, a4, a5⟩, fun x H'' y => ?_⟩
      obtain ⟨e2, keepS, rx⟩ := yl x H'' y
      have s2 := keepS S' rfl s'
      have q2 := PRx.ev e2 q'
      unfold lcI at q2
      cases z : lcTurn t tst elt (wipeE ρ t.vs) S1.length ds[i] S' with
      | none => rw [z] at q2; exact q2.elim
      | some S5 =>
        rw [z] at q2
        dsimp only at q2
        have erw := (er1.ev (e'.trans e2)).wipe t.vs
        have tk := lcTurn_ok (Nx := fun H2 => ∃ m2 S2, m2 S1.length = D ∧ S1.length < S2.length ∧ Ev g m1 S1.length H1 m2 S2.length H2 ∧ SR g m2 H2 S2 ∧ PRx g m2 S2 H2 (fun c d H' => W c d σ H') (KD g Q) (lcI t tst elt (wipeE ρ t.vs) S1.length (ds.drop (i + 1)) S2))
          hK s2 erw rx hl z fun m6 H6 e6 s6 => ⟨m6, S5, (e6.ag _ hl).trans ed, Nat.lt_of_lt_of_le hl e6.le, (e'.trans e2).trans e6, s6, PRx.ev e6 q2⟩
        rw [ed] at tk
        exact tk
    · have e0 : i = ds.length := by omega
      subst e0
      rw [List.drop_length] at q'
      exact .inl ⟨st (Nat.le_refl _), fin ed hl s' q'⟩
  | live l =>
    obtain ⟨hl0, rfl⟩ := ok
    have q : PRx g m1 S1 H1 (fun c d H' => W c d σ H') (KD g Q) (lcL t tst elt (wipeE ρ t.vs) S1.length l (lenL S1 l) 0 (S1 ++ [.lst []])) := q
    have q0 := PRx.ev (S' := S1 ++ [Ob.lst []]) (by rw [lA]; exact eA) q
    refine ⟨fun i μ H' => ∃ m' S', m' S1.length = D ∧ S1.length < S'.length ∧ Ev g m1 S1.length H1 m' S'.length H' ∧ SR g m' H' S' ∧ PRx g m' S' H' (fun c d H' => W c d σ H') (KD g Q) (lcL t tst elt (wipeE ρ t.vs) S1.length l μ i S'),
      ⟨_, _, _, ext_new, by rw [lA]; exact Nat.lt_succ_self _, by rw [lA]; exact eA, sA, q0⟩, ?_⟩
    rintro i μ H' ⟨m', S', ed, hl, e', s', q'⟩
    have hm' : m' l = m1 l := e'.ag l hl0
    have erw := (er1.ev e').wipe t.vs
    cases μ with
    | zero =>
      unfold lcL at q'
      cases z : S'[l]? with
      | none => rw [z] at q'; exact q'.elim
      | some o =>
        rw [z] at q'
        cases o with
        | lst xs =>
          dsimp only at q'
          obtain ⟨_, vs, hv, rs⟩ := s'.atL z
          by_cases hx : xs.length ≤ i
          · rw [if_pos hx] at q'
            exact .inl ⟨⟨vs, by rw [← hm']; exact SqL.of hv, by rw [rs.length]; exact hx⟩, fin ed hl s' q'⟩
          · rw [if_neg hx] at q'; exact q'.elim
        | _ => exact q'.elim
    | succ μ =>
      unfold lcL at q'
      cases z : S'[l]? with
      | none => rw [z] at q'; exact q'.elim
      | some o =>
        rw [z] at q'
        cases o with
        | lst xs =>
          dsimp only at q'
          obtain ⟨_, vs, hv, rs⟩ := s'.atL z
          cases zx : xs[i]? with
          | none =>
            rw [zx] at q'
            have hx : xs.length ≤ i := List.getElem?_eq_none_iff.mp zx
            exact .inl ⟨⟨vs, by rw [← hm']; exact SqL.of hv, by rw [rs.length]; exact hx⟩, fin ed hl s' q'⟩
          | some d =>
            rw [zx] at q'
            dsimp only at q'
            obtain ⟨v, hvi, rv⟩ := rs.get zx
            refine .inr ⟨⟨vs, v, by rw [← hm']; exact SqL.of hv, hvi⟩, fun H2 => ∃ m2 S2, m2 S1.length = D ∧ S1.length < S2.length ∧ Ev g m1 S1.length H1 m2 S2.length H2 ∧ SR g m2 H2 S2 ∧ PRx g m2 S2 H2 (fun c d H' => W c d σ H') (KD g Q) (lcL t tst elt (wipeE ρ t.vs) S1.length l μ (i + 1) S2),
              fun H2 a => ⟨μ, Nat.lt_succ_self _, a⟩, fun x H'' y => ?_⟩
            obtain ⟨rfl, yx⟩ := y
            have ex : x = v := by
              have := yx vs (by rw [← hm']; exact SqL.of hv)
              rw [hvi] at this
              exact (Option.some.inj this).symm
            subst ex
            cases z2 : lcTurn t tst elt (wipeE ρ t.vs) S1.length d S' with
            | none => rw [z2] at q'; exact q'.elim
            | some S5 =>
              rw [z2] at q'
              dsimp only at q'
              have tk := lcTurn_ok (Nx := fun H2 => ∃ m2 S2, m2 S1.length = D ∧ S1.length < S2.length ∧ Ev g m1 S1.length H1 m2 S2.length H2 ∧ SR g m2 H2 S2 ∧ PRx g m2 S2 H2 (fun c d H' => W c d σ H') (KD g Q) (lcL t tst elt (wipeE ρ t.vs) S1.length l μ (i + 1) S2))
                hK s' erw rv hl z2 fun m6 H6 e6 s6 => ⟨m6, S5, (e6.ag _ hl).trans ed, Nat.lt_of_lt_of_le hl e6.le, e'.trans e6, s6, PRx.ev e6 q'⟩
              rw [ed] at tk
              exact tk
        | _ => exact q'.elim
theorem de_lc {elt tg iter : Expr} {ifs : List Expr} {scope : Scope} {own : List (Str × Nat)} {it : En → Mo Wk} {t : CT} {tst : En → Mo Bool} {fe : DE} (hc : X.calm = true) (hK : X.K = g.K) (hN : X.N.Nodup) (hi : PI X tg iter (tIt g W it)) (ok : BlkOk X.N X.env.scope scope own) (hv : own.map (·.2) = t.vs)
    (hg : ∀ (s : Shared) (H : Hp) (C : Addr) (cl : List (Str × Addr)) (fp : List Addr), PG (X.blk s H scope (compEnvC scope cl C X.env) fp) tg (t.tg X.K)) (ht : ∀ (s : Shared) (H : Hp) (C : Addr) (cl : List (Str × Addr)) (fp : List Addr), PTs (X.blk s H scope (compEnvC scope cl C X.env) fp) ifs (tDb g (fun _ _ _ _ => False) tst))
    (he : ∀ (s : Shared) (H : Hp) (C : Addr) (cl : List (Str × Addr)) (fp : List Addr), PE (X.blk s H scope (compEnvC scope cl C X.env) fp) elt (tD g (fun _ _ _ _ => False) fe)) (hs : ∀ x, foldedSetIterable iter X.env x = pure x := by intro _; rfl) :
    PE X (.ListComp elt [⟨tg, iter, ifs, 0⟩] scope pos) (tD g W (cLc it t tst fe)) := by
  have h := pe_lc (pos := pos) hc hN hi ok hg ht he hs
  rw [hv] at h
  exact PE.imp h (lc_sub hK)
theorem ds_setLc (i : Nat) {y : Str} {py spos : Pos} {elt tg iter : Expr} {ifs : List Expr} {scope : Scope} {own : List (Str × Nat)} {it : En → Mo Wk} {t : CT} {tst : En → Mo Bool} {fe : DE} (hc : X.calm = true) (hK : X.K = g.K) (hN : X.N.Nodup)
    (hsw : swapsWith (.ListComp elt [⟨tg, iter, ifs, 0⟩] scope pos) (some (.Name y py)) spos.line X.env = pure true) (hi : PI X tg iter (tIt g W it)) (ok : BlkOk X.N X.env.scope scope own) (hv : own.map (·.2) = t.vs)
    (hg : ∀ (s : Shared) (H : Hp) (C : Addr) (cl : List (Str × Addr)) (fp : List Addr), PG (X.blk s H scope (compEnvC scope cl C X.env) fp) tg (t.tg X.K)) (ht : ∀ (s : Shared) (H : Hp) (C : Addr) (cl : List (Str × Addr)) (fp : List Addr), PTs (X.blk s H scope (compEnvC scope cl C X.env) fp) ifs (tDb g (fun _ _ _ _ => False) tst))
    (he : ∀ (s : Shared) (H : Hp) (C : Addr) (cl : List (Str × Addr)) (fp : List Addr), PE (X.blk s H scope (compEnvC scope cl C X.env) fp) elt (tD g (fun _ _ _ _ => False) fe)) (hy : X.N[i]? = some y := by rfl) (hyl : X.env.scope.names.lookup y = some .local := by rfl) (hs : ∀ x, foldedSetIterable iter X.env x = pure x := by intro _; rfl) :
    PS X (.Assign [.Name y py] (.ListComp elt [⟨tg, iter, ifs, 0⟩] scope pos) spos) (tS g W (cAsg (cLc it t tst fe) (kName i))) := by
  have h := ps_setLc (i := i) (pos := pos) (spos := spos) hc hN hy hyl hsw hi ok hg ht he hs
  rw [hv] at h
  refine PS.imp h fun E σ H ⟨m, S, ρ, sr, er, q⟩ => ?_
  refine lc_sub hK _ _ _ ⟨m, S, ρ, sr, er, (q.bind er).mono fun d m1 S1 H1 e1 s1 p v r => ?_⟩
  exact p _ m1 H1 Ev.refl s1 ((er.ev e1).set r)
theorem dts_nil : PTs X [] (tDb g W fun _ S => .ok true S) := by
  have h := pts_nil (X := X)
  exact ⟨fun pins s σ H Q I ⟨m, S, ρ, sr, er, q⟩ => h.run pins s σ H Q I (q m H Ev.refl sr)⟩
theorem dts_one (h : PT X c (tDb g W ft)) : PTs X [c] (tDb g W ft) := pts_one h
theorem dg_names : ∀ (is : List Nat) {es : List Expr}, PGs X es (gNames is) → PGs X es (gNames is) := fun _ _ h => h
end
end Sm
end
section
/-! Sm, part E: fields, own classes, calls of defs, the entry of a def. -/
namespace Sm
open PySem PySem.Spec PyProof.Rows L2

/-! ### fields -/
@[irreducible] def few (n : Nat) : Bool := decide (n < 1000)
theorem few_iff {n : Nat} : few n = true ↔ n < 1000 := by
  unfold few
  exact decide_eq_true_iff
/-- which class has which fields -/
abbrev FTab := Nat → Str → Bool
structure TabOk (g : Gx) (T : FTab) : Prop where
  ok : ∀ c f, T c f = true → Cls g.K (g.ct c) ∧ NoAttr g.K (g.ct c) f
def putFD (f : Str) (v : D) : List (Str × D) → List (Str × D)
  | [] => [(f, v)]
  | (h, x) :: r => if h = f then (h, v) :: r else (h, x) :: putFD f v r
def fldO (T : FTab) (f : Str) : Option Ob → Option D
  | some (.ins c fs) => if T c f = true then fs.lookup f else none
  | _ => none
def fldG (T : FTab) (f : Str) : D → Sto → Option D
  | .loc l, S => fldO T f S[l]?
  | _, _ => none
def setO (T : FTab) (f : Str) (v : D) (l : Nat) (S : Sto) : Option Ob → Option Sto
  | some (.ins c fs) => if (T c f && few fs.length) = true then some (S.set l (.ins c (putFD f v fs))) else none
  | _ => none
def setG (T : FTab) (f : Str) (v : D) : D → Sto → Option Sto
  | .loc l, S => setO T f v l S S[l]?
  | _, _ => none
def optD {α : Type} (o : Option α) : Mo α := fun S => match o with
  | some a => .ok a S
  | none => .no
def fldD (T : FTab) (f : Str) (d : D) : Mo D := fun S => optD (fldG T f d S) S
def setD (T : FTab) (f : Str) (v : D) (d : D) : Mo Unit := fun S => match setG T f v d S with
  | some S' => .ok () S'
  | none => .no
section
variable {g : Gx} {m : Nat → Addr} {n : Nat} {H : Hp}
theorem lookup_rel {f : Str} : ∀ {fs' : List (Str × V)} {fs : List (Str × D)} {d : D}, fs'.map (·.1) = fs.map (·.1) → VRs g m n H (fs'.map (·.2)) (fs.map (·.2)) → fs.lookup f = some d → ∃ v, fs'.lookup f = some v ∧ VR g m n H v d
  | [], [], _, _, _, h => by cases h
  | (a, x) :: r', (b, y) :: r, d, hk, hv, h => by
    have hk' : a = b ∧ r'.map (·.1) = r.map (·.1) := by simpa using hk
    obtain ⟨rfl, hk2⟩ := hk'
    cases hv with
    | cons _ _ _ _ r1 rs =>
      rw [List.lookup_cons] at h ⊢
      cases q : f == a with
      | true => rw [q] at h; cases h; exact ⟨x, rfl, r1⟩
      | false => rw [q] at h; exact lookup_rel hk2 rs h
  | [], _ :: _, _, hk, _, _ => by simp at hk
  | _ :: _, [], _, hk, _, _ => by simp at hk
theorem lookup_none {f : Str} : ∀ {fs' : List (Str × V)} {fs : List (Str × D)}, fs'.map (·.1) = fs.map (·.1) → fs.lookup f = none → fs'.lookup f = none
  | [], [], _, _ => rfl
  | (a, x) :: r', (b, y) :: r, hk, h => by
    have hk' : a = b ∧ r'.map (·.1) = r.map (·.1) := by simpa using hk
    obtain ⟨rfl, hk2⟩ := hk'
    rw [List.lookup_cons] at h ⊢
    cases q : f == a with
    | true => rw [q] at h; cases h
    | false => rw [q] at h; exact lookup_none hk2 h
  | [], _ :: _, hk, _ => by simp at hk
  | _ :: _, [], hk, _ => by simp at hk
theorem putF_rel {f : Str} {v : V} {d : D} (rv : VR g m n H v d) : ∀ {fs' : List (Str × V)} {fs : List (Str × D)}, fs'.map (·.1) = fs.map (·.1) → VRs g m n H (fs'.map (·.2)) (fs.map (·.2)) →
    (putF f v fs').map (·.1) = (putFD f d fs).map (·.1) ∧ VRs g m n H ((putF f v fs').map (·.2)) ((putFD f d fs).map (·.2))
  | [], [], _, _ => ⟨rfl, .cons _ _ _ _ rv .nil⟩
  | (a, x) :: r', (b, y) :: r, hk, hv => by
    have hk' : a = b ∧ r'.map (·.1) = r.map (·.1) := by simpa using hk
    obtain ⟨rfl, hk2⟩ := hk'
    cases hv with
    | cons _ _ _ _ r1 rs =>
      unfold putF putFD
      by_cases q : a = f
      · rw [if_pos q, if_pos q]
        exact ⟨by simp [hk2], .cons _ _ _ _ rv rs⟩
      · rw [if_neg q, if_neg q]
        obtain ⟨h1, h2⟩ := putF_rel rv hk2 rs
        exact ⟨by simp [h1], .cons _ _ _ _ r1 h2⟩
  | [], _ :: _, hk, _ => by simp at hk
  | _ :: _, [], hk, _ => by simp at hk
end
section
variable {X : Cx} {g : Gx} {W : WX} {T : FTab} {e o a b c : Expr} {es rest : List Expr} {f fa fb fo : DE} {fs : En → Mo (List D)} {ft : En → Mo Bool} {s t u : DS} {pos apos : Pos} {x nm : Str}
def cFld (T : FTab) (nm : Str) (fo : DE) : DE := fun ρ => fo ρ >>= fldD T nm
theorem fldG_ok {m : Nat → Addr} {S : Sto} {H : Hp} {d x : D} {v : V} (hT : TabOk g T) (sr : SR g m H S) (r : VR g m S.length H v d) (h : fldG T nm d S = some x) :
    ∃ p C dx fs w, v = .ref p ∧ H p = some (.ins C dx fs) ∧ Cls g.K C ∧ NoAttr g.K C nm ∧ fs.lookup nm = some w ∧ VR g m S.length H w x := by
  cases r with
  | loc l hl =>
    have h2 : fldO T nm S[l]? = some x := h
    cases q : S[l]? with
    | none => rw [q] at h2; cases h2
    | some ob =>
      rw [q] at h2
      cases ob with
      | ins c fs =>
        obtain ⟨_, dx, fs', hv, hk, rs⟩ := sr.atI q
        have h3 : (if T c nm = true then fs.lookup nm else none) = some x := h2
        by_cases q1 : T c nm = true
        · rw [if_pos q1] at h3
          obtain ⟨c1, c2⟩ := hT.ok c nm q1
          obtain ⟨w, hw, rw'⟩ := lookup_rel hk rs h3
          exact ⟨m l, g.ct c, dx, fs', w, rfl, hv, c1, c2, hw, rw'⟩
        · rw [if_neg q1] at h3; cases h3
      | _ => cases h2
  | _ => cases h
theorem optD_bind {α β : Type} {m : Nat → Addr} {S : Sto} {H : Hp} {W : XK} {K : β → (Nat → Addr) → Sto → Hp → Prop} {o : Option α} {k : α → Sto → Rz β} (h : PRx g m S H W K ((optD o S).andThen k)) : ∃ a, o = some a ∧ PRx g m S H W K (k a S) := by
  cases o with
  | none => exact h.elim
  | some a => exact ⟨a, rfl, h⟩
theorem de_fld (hT : TabOk g T) (hK : X.K = g.K) (ho : PE X o (tD g W fo)) (hb : attributeBase o nm X.env (eval o X.env) = eval o X.env := by rfl) : PE X (.Attribute o nm pos) (tD g W (cFld T nm fo)) :=
  PE.imp (pe_fld ho hb) fun σ H Q ⟨m, S, ρ, sr, er, h⟩ => by
    rw [hK]
    refine tD.sub sr er h fun d m1 S1 H1 v s1 er1 _ r1 h1 => ?_
    have h2 : PRx g m1 S1 H1 _ (KD g Q) (optD (fldG T nm d S1) S1) := h1
    cases q : fldG T nm d S1 with
    | none => rw [q] at h2; exact h2.elim
    | some x =>
      rw [q] at h2
      obtain ⟨p, C, dx, fs, w, e1, e2, e3, e4, e5, e6⟩ := fldG_ok hT s1 r1 q
      exact ⟨p, C, dx, fs, w, e1, e2, e3, e4, e5, h2 m1 H1 Ev.refl s1 w e6⟩
def cSetF (T : FTab) (nm : Str) (fo fv : DE) : DS := fun ρ S => (fv ρ S).toF ρ fun v S1 => (fo ρ S1).toF ρ fun o S2 => match setG T nm v o S2 with
  | some S3 => .nx ρ S3
  | none => .no
theorem setG_ok {m : Nat → Addr} {S S' : Sto} {H : Hp} {d dv : D} {v w : V} (hT : TabOk g T) (sr : SR g m H S) (r : VR g m S.length H v d) (rv : VR g m S.length H w dv) (h : setG T nm dv d S = some S') :
    ∃ p C dx fs, v = .ref p ∧ H p = some (.ins C dx fs) ∧ Cls g.K C ∧ NoAttr g.K C nm ∧ fs.length < 1000 ∧ Ev g m S.length H m S'.length (upd H p (.ins C dx (putF nm w fs))) ∧ SR g m (upd H p (.ins C dx (putF nm w fs))) S' := by
  cases r with
  | loc l hl =>
    have h2 : setO T nm dv l S S[l]? = some S' := h
    cases q : S[l]? with
    | none => rw [q] at h2; cases h2
    | some ob =>
      rw [q] at h2
      cases ob with
      | ins c fs =>
        obtain ⟨hl, dx, fs', hv, hk, rs⟩ := sr.atI q
        have h3 : (if (T c nm && few fs.length) = true then some (S.set l (.ins c (putFD nm dv fs))) else none) = some S' := h2
        by_cases q1 : (T c nm && few fs.length) = true
        · rw [if_pos q1] at h3
          cases h3
          rw [Bool.and_eq_true] at q1
          obtain ⟨c1, c2⟩ := hT.ok c nm q1.1
          have hlen : fs'.length = fs.length := by
            have := congrArg List.length hk
            simpa using this
          have ew : Ev g m S.length H m S.length (upd H (m l) (.ins (g.ct c) dx (putF nm w fs'))) := Ev.wr (sr.canw hl)
          obtain ⟨p1, p2⟩ := putF_rel (f := nm) rv hk rs
          have sw := sr.wr (u := .ins (g.ct c) dx (putF nm w fs')) (o := .ins c (putFD nm dv fs)) hl ⟨dx, _, upd_same, p1, p2.ev ew⟩
          exact ⟨m l, g.ct c, dx, fs', rfl, hv, c1, c2, by rw [hlen]; exact few_iff.mp q1.2, by rw [List.length_set]; exact ew, sw⟩
        · rw [if_neg q1] at h3; cases h3
      | _ => cases h2
  | _ => cases h
theorem ds_fld {pos' : Pos} {fv : DE} {value : Expr} (hT : TabOk g T) (hK : X.K = g.K) (ho : PE X o (tD g W fo)) (hv : PE X value (tD g W fv)) (hs : swapsWith value (some (.Attribute o nm pos')) pos.line X.env = pure false := by rfl) :
    PS X (.Assign [.Attribute o nm pos'] value pos) (tS g W (cSetF T nm fo fv)) :=
  PS.imp (ps_fld ho hv hs) fun E σ H ⟨m, S, ρ, sr, er, h⟩ => by
    rw [hK]
    refine tD.subF sr er h fun dv m1 S1 H1 v s1 er1 _ r1 h1 => tD.subF s1 er1 h1 fun d m2 S2 H2 w s2 er2 e2 r2 h2 => ?_
    cases q : setG T nm dv d S2 with
    | none => rw [q] at h2; exact h2.elim
    | some S3 =>
      rw [q] at h2
      obtain ⟨p, C, dx, fs, e1, e3, e4, e5, e6, e7, e8⟩ := setG_ok hT s2 r2 (r1.ev e2) q
      exact ⟨p, C, dx, fs, e1, e3, e4, e5, e6, h2 _ m2 _ e7 e8 (er2.ev e7)⟩
def clsD : D → Sto → Option Nat
  | .loc l, S => match S[l]? with
    | some (.ins c _) => some c
    | _ => none
  | _, _ => none
theorem clsD_ok {m : Nat → Addr} {S : Sto} {H : Hp} {d : D} {p C dx : Addr} {fs : List (Str × V)} (sr : SR g m H S) (r : VR g m S.length H (.ref p) d) (hp : H p = some (.ins C dx fs)) (hd : ∃ l, d = .loc l) : ∃ c, clsD d S = some c ∧ C = g.ct c := by
  obtain ⟨l, rfl⟩ := hd
  cases r with
  | loc l hl =>
    have z := sr.ob l S[l] (List.getElem?_eq_getElem hl)
    have q : S[l]? = some S[l] := List.getElem?_eq_getElem hl
    cases e : S[l] with
    | lst ds => rw [e] at z; obtain ⟨_, z, _⟩ := z; rw [hp] at z; cases z
    | dct ds => rw [e] at z; obtain ⟨_, z, _⟩ := z; rw [hp] at z; cases z
    | ins c gs =>
      rw [e] at z q
      obtain ⟨_, _, z, _⟩ := z
      rw [hp] at z
      cases z
      refine ⟨c, ?_, rfl⟩
      unfold clsD
      simp only [q]
theorem fldG_loc {d x : D} {S : Sto} (h : fldG T nm d S = some x) : ∃ l, d = .loc l := by
  cases d with
  | loc l => exact ⟨l, rfl⟩
  | _ => cases h
def cAugF (T : FTab) (nm : Str) (h : D → D → Mo D) (fo fv : DE) : DS := fun ρ S => (fo ρ S).toF ρ fun o S1 => match fldG T nm o S1 with
  | some x => (fv ρ S1).toF ρ fun y S3 => (h x y S3).toF ρ fun z S4 => if clsD o S1 = clsD o S4 then match setG T nm z o S4 with
    | some S5 => .nx ρ S5
    | none => .no else .no
  | none => .no
theorem ds_augF {op : Operator} {tpos : Pos} {fv : DE} {value : Expr} {r : R2} {h : D → D → Mo D} (hT : TabOk g T) (hK : X.K = g.K) (hop : InOp X op r) (hs : S2 g r h) (ho : PE X o (tD g W fo)) (hv : PE X value (tD g W fv)) :
    PS X (.AugAssign (.Attribute o nm tpos) op value pos) (tS g W (cAugF T nm h fo fv)) :=
  PS.imp (ps_fldaug ho hv hop) fun E σ H ⟨m, S, ρ, sr, er, h⟩ => by
    rw [hK]
    refine tD.subF sr er h fun d m1 S1 H1 v s1 er1 _ r1 h1 => ?_
    cases q : fldG T nm d S1 with
    | none => rw [q] at h1; exact h1.elim
    | some x =>
      rw [q] at h1
      obtain ⟨p, C, dx, fs, w, e1, e3, e4, e5, e6, rx⟩ := fldG_ok hT s1 r1 q
      subst e1
      refine ⟨p, C, dx, fs, w, rfl, e3, e4, e5, e6, tD.subF s1 er1 h1 fun y m2 S2 H2 u s2 er2 e2 r2 h2 => ?_⟩
      refine hs m2 S2 H2 _ _ _ _ _ _ s2 (rx.ev e2) r2 ((h2.bind er2).mono fun z m3 S3 H3 ev3 s3 h3 zz rz => ?_)
      have er3 := er2.ev ev3
      have rd := (r1.ev e2).ev ev3
      obtain ⟨c1, k1, k2⟩ := clsD_ok s1 r1 e3 (fldG_loc q)
      by_cases qc : clsD d S1 = clsD d S3
      · rw [if_pos qc] at h3
        cases q2 : setG T nm z d S3 with
        | none => rw [q2] at h3; exact h3.elim
        | some S4 =>
          rw [q2] at h3
          obtain ⟨p', C', dx', fs', a1, a3, a4, a5, a6, a7, a8⟩ := setG_ok hT s3 rd rz q2
          cases a1
          obtain ⟨c2, k3, k4⟩ := clsD_ok s3 rd a3 (fldG_loc q)
          rw [k1, k3] at qc
          cases qc
          subst k2
          subst k4
          exact ⟨dx', fs', a3, a6, h3 _ m3 _ a7 a8 (er3.ev a7)⟩
      · rw [if_neg qc] at h3; exact h3.elim

/-! ### calls of defs -/
/-- what a def of np parameters promises: it does what F does -/
def spF (g : Gx) (np : Nat) (F : List D → Mo D) : Sp := fun vs H Q E => vs.length = np ∧ ∃ m S ds, SR g m H S ∧ VRs g m S.length H vs ds ∧ PRx g m S H E (KD g Q) (F ds S)
/-- a call with np arguments -/
def apF (np : Nat) (F : List D → Mo D) : List D → Mo D := fun ds => if ds.length = np then F ds else bad
theorem apF_ok {np : Nat} {F : List D → Mo D} {m : Nat → Addr} {S : Sto} {H : Hp} {Q : VK} {E : XK} {vs : List V} {ds : List D} (sr : SR g m H S) (r : VRs g m S.length H vs ds) (h : PRx g m S H E (KD g Q) (apF np F ds S)) : spF g np F vs H Q E := by
  unfold apF at h
  by_cases q : ds.length = np
  · rw [if_pos q] at h
    exact ⟨by rw [r.length]; exact q, m, S, ds, sr, r, h⟩
  · rw [if_neg q] at h; exact h.elim
variable {fd : FuncData} {fn : Addr} {k np : Nat} {ps : List Str} {F : List D → Mo D} {p : Pos}
theorem de_fn (G : FnOk X.prog X.w X.K X.mg X.base (L2.CX X.prog X.w) k fn fd ps (spF g np F)) (hr : Room k X.A) (hm : X.mg x = some (.ref fn)) (hk : PySem.W.keepIn X.K (.ref fn) = true) (hb : Binds X.K fd ps []) (tk : Takes X W) (ha : PA X (e :: es) (tDs g W fs))
    (hg : Gl X x := by rfl) (hdb : (x == ("__debug__" : Str)) = false := by decide) (he : starEach (e :: es) X.env = (false, eval e X.env) :: starEach es X.env := by rfl) (hpl : (backTo pos (starEach es X.env)).any (·.1) = false := by rfl) :
    PE X (.Call (.Name x p) (e :: es) [] pos) (tD g W (cCall (apF np F) fs)) :=
  PE.imp (pe_callS G hr hg hm hk hb (fun σ => passAt tk σ) ha hdb he hpl) fun σ H Q ⟨m, S, ρ, sr, er, h⟩ => tDs.sub sr er h fun ds m1 S1 H1 vs s1 _ _ r1 h1 => apF_ok s1 r1 h1
theorem de_fn0 (G : FnOk X.prog X.w X.K X.mg X.base (L2.CX X.prog X.w) k fn fd ps (spF g np F)) (hr : Room k X.A) (hm : X.mg x = some (.ref fn)) (hk : PySem.W.keepIn X.K (.ref fn) = true) (hb : Binds X.K fd ps []) (tk : Takes X W)
    (hg : Gl X x := by rfl) (hdb : (x == ("__debug__" : Str)) = false := by decide) :
    PE X (.Call (.Name x p) [] [] pos) (tD g W (cCall (apF np F) cNil)) := by
  refine ⟨fun pins s σ H Q I ⟨m, S, ρ, sr, er, h⟩ => ?_⟩
  refine wpAny_Call_Name_kw (ld_glob I hg hm ?_ hdb)
  exact PySem.W.callWith_K0 I.kIn hk (run_fnS (us := []) G hr hb (passAt tk σ) I .nil (apF_ok (vs := []) (ds := []) sr .nil h))
/-- with some parameters left to their defaults -/
theorem de_fnD {dvs : List V} {dvals : List Value} {dds : List D} (G : FnOk X.prog X.w X.K X.mg X.base (L2.CX X.prog X.w) k fn fd ps (spF g np F)) (hr : Room k X.A) (hm : X.mg x = some (.ref fn)) (hk : PySem.W.keepIn X.K (.ref fn) = true) (hb : Binds X.K fd ps dvals) (hd : Vals dvs dvals) (hdd : ∀ m n H, VRs g m n H dvs dds) (tk : Takes X W) (ha : PA X (e :: es) (tDs g W fs))
    (hg : Gl X x := by rfl) (hdb : (x == ("__debug__" : Str)) = false := by decide) (he : starEach (e :: es) X.env = (false, eval e X.env) :: starEach es X.env := by rfl) (hpl : (backTo pos (starEach es X.env)).any (·.1) = false := by rfl) :
    PE X (.Call (.Name x p) (e :: es) [] pos) (tD g W (cCall (fun ds => apF np F (ds ++ dds)) fs)) :=
  PE.imp (pe_callSD (E := WE W) G hr hg hm hk hb hd (fun σ => passAt tk σ) ha hdb he hpl) fun σ H Q ⟨m, S, ρ, sr, er, h⟩ => tDs.sub sr er h fun ds m1 S1 H1 vs s1 _ _ r1 h1 => apF_ok s1 (r1.append (hdd _ _ _)) h1

/-! ### methods of own classes -/
/-- the receiver is an instance of class c without a field of that name -/
def insG (c : Nat) (nm : Str) : D → Sto → Bool
  | .loc l, S => match S[l]? with
    | some (.ins c' fs) => decide (c' = c) && (fs.lookup nm).isNone
    | _ => false
  | _, _ => false
def chkI (c : Nat) (nm : Str) (d : D) : Mo Unit := fun S => if insG c nm d S = true then .ok () S else .no
def cMeth (c : Nat) (nm : Str) (np : Nat) (F : List D → Mo D) (fo : DE) (fs : En → Mo (List D)) : DE := fun ρ => do
  let x ← fo ρ; chkI c nm x; let xs ← fs ρ; apF np F (x :: xs)
theorem insG_ok {c : Nat} {m : Nat → Addr} {S : Sto} {H : Hp} {d : D} {v : V} (sr : SR g m H S) (r : VR g m S.length H v d) (h : insG c nm d S = true) : ∃ a dx fs, v = .ref a ∧ H a = some (.ins (g.ct c) dx fs) ∧ fs.lookup nm = none := by
  cases r with
  | loc l hl =>
    unfold insG at h
    cases q : S[l]? with
    | none => simp only [q] at h; cases h
    | some ob =>
      simp only [q] at h
      cases ob with
      | ins c' fs =>
        obtain ⟨_, dx, fs', hv, hk, rs⟩ := sr.atI q
        simp only [Bool.and_eq_true, decide_eq_true_eq, Option.isNone_iff_eq_none] at h
        obtain ⟨rfl, h2⟩ := h
        exact ⟨m l, dx, fs', rfl, hv, lookup_none hk h2⟩
      | _ => cases h
  | _ => cases h
theorem chkI_bind {α : Type} {c : Nat} {m : Nat → Addr} {S : Sto} {H : Hp} {W : XK} {K : α → (Nat → Addr) → Sto → Hp → Prop} {k : Unit → Sto → Rz α} {d : D} (h : PRx g m S H W K ((chkI c nm d S).andThen k)) : insG c nm d S = true ∧ PRx g m S H W K (k () S) := by
  unfold chkI at h
  by_cases q : insG c nm d S = true
  · rw [if_pos q] at h; exact ⟨q, h⟩
  · rw [if_neg q] at h; exact h.elim
def tMethS (C : Addr) (nm : Str) (sp : Sp) (E : L2.St → XK) (ta : TE) (t : TA) : TE := fun σ H Q => ta σ H fun x H1 => ∃ a dx fs, x = .ref a ∧ H1 a = some (.ins C dx fs) ∧ fs.lookup nm = none ∧
  t σ H1 fun vs H2 => sp (x :: vs) H2 Q (E σ)
theorem pe_methS {C : Addr} {pl : Sem Bool} {ta : TE} {t : TA} {sp : Sp} {E : L2.St → XK} {CX : CXT} (he : PE X o ta) (c : Cls X.K C) (hm : Meth X.K C nm fn) (G : FnOk X.prog X.w X.K X.mg X.base CX k fn fd ps sp) (hr : Room k X.A) (hb : Binds X.K fd ps []) (hx : ∀ σ, PassesAt CX X σ (E σ)) (ha : PA X (e :: es) t)
    (hst : starEach (e :: es) X.env = (false, eval e X.env) :: starEach es X.env := by rfl) (hpl : (backTo pos (starEach es X.env)).any (·.1) = false := by rfl)
    (ht : eval (.Call (.Attribute o nm apos) (e :: es) [] pos) X.env = (do
      let ov ← eval o X.env
      standAt apos.atName
      let (f, first) ← holding [ov] (getMethod ov nm pl)
      callWith pos f first (backTo pos (starEach (e :: es) X.env)) (backToKw pos (keywordEach [] X.env))) := by rfl) :
    PE X (.Call (.Attribute o nm apos) (e :: es) [] pos) (tMethS C nm sp E ta t) := by
  refine ⟨fun pins s σ H Q I h => ?_⟩
  refine PySem.W.methodCall_KW (pl := pl) (thn (he.run pins s σ H _ I h) fun u s1 ⟨x, H1, I1, rx, a, dx, fs, ex, ea, l, q⟩ => ?_) ht
  subst ex
  obtain rfl : u = Value.ref a := rx
  refine getmeth_ok I1 ea c hm l ?_
  refine PySem.W.callWith_K (first := [.ref a]) (h₀ := X.base) I.ok.mod.kin hm.kp (thn (ha.run pos pins s1 σ H1 _ I1 q) fun us s2 ⟨vs, H2, I2, r, q2⟩ => ⟨I2.kIn, ?_⟩) hst hpl
  exact run_fnS (us := .ref a :: us) (vs := .ref a :: vs) G hr hb (hx σ) I2 (.cons rfl r) q2
theorem pe_meth0S {C : Addr} {pl : Sem Bool} {ta : TE} {sp : Sp} {E : L2.St → XK} {CX : CXT} (he : PE X o ta) (c : Cls X.K C) (hm : Meth X.K C nm fn) (G : FnOk X.prog X.w X.K X.mg X.base CX k fn fd ps sp) (hr : Room k X.A) (hb : Binds X.K fd ps []) (hx : ∀ σ, PassesAt CX X σ (E σ))
    (ht : eval (.Call (.Attribute o nm apos) [] [] pos) X.env = (do
      let ov ← eval o X.env
      standAt apos.atName
      let (f, first) ← holding [ov] (getMethod ov nm pl)
      callWith pos f first (backTo pos (starEach [] X.env)) (backToKw pos (keywordEach [] X.env))) := by rfl) :
    PE X (.Call (.Attribute o nm apos) [] [] pos) (tMethS C nm sp E ta tNil) := by
  refine ⟨fun pins s σ H Q I h => ?_⟩
  refine PySem.W.methodCall_KW (pl := pl) (thn (he.run pins s σ H _ I h) fun u s1 ⟨x, H1, I1, rx, a, dx, fs, ex, ea, l, q⟩ => ?_) ht
  subst ex
  obtain rfl : u = Value.ref a := rx
  refine getmeth_ok I1 ea c hm l ?_
  exact PySem.W.callWith_K0 (first := [.ref a]) I1.kIn hm.kp (run_fnS (us := [.ref a]) (vs := [.ref a]) G hr hb (hx σ) I1 (.cons rfl .nil) q)
theorem meth_sub {c : Nat} : ∀ σ H Q, tD g W (cMeth c nm np F fo fs) σ H Q → tMethS (g.ct c) nm (spF g np F) (WE W) (tD g W fo) (tDs g W fs) σ H Q := fun σ H Q ⟨m, S, ρ, sr, er, h⟩ =>
  tD.sub sr er h fun d m1 S1 H1 v s1 er1 _ r1 h1 => by
    obtain ⟨q, h2⟩ := chkI_bind h1
    obtain ⟨a, dx, fs', e1, e2, e3⟩ := insG_ok s1 r1 q
    exact ⟨a, dx, fs', e1, e2, e3, tDs.sub s1 er1 h2 fun ds m2 S2 H2 vs s2 _ ev2 r2 h3 => apF_ok s2 (.cons _ _ _ _ (r1.ev ev2) r2) h3⟩
theorem de_meth {c : Nat} {pl : Sem Bool} (hcl : Cls X.K (g.ct c)) (hm : Meth X.K (g.ct c) nm fn) (G : FnOk X.prog X.w X.K X.mg X.base (L2.CX X.prog X.w) k fn fd ps (spF g np F)) (hr : Room k X.A) (hb : Binds X.K fd ps []) (tk : Takes X W) (ho : PE X o (tD g W fo)) (ha : PA X (e :: es) (tDs g W fs))
    (hst : starEach (e :: es) X.env = (false, eval e X.env) :: starEach es X.env := by rfl) (hpl : (backTo pos (starEach es X.env)).any (·.1) = false := by rfl)
    (ht : eval (.Call (.Attribute o nm apos) (e :: es) [] pos) X.env = (do
      let ov ← eval o X.env
      standAt apos.atName
      let (f, first) ← holding [ov] (getMethod ov nm pl)
      callWith pos f first (backTo pos (starEach (e :: es) X.env)) (backToKw pos (keywordEach [] X.env))) := by rfl) :
    PE X (.Call (.Attribute o nm apos) (e :: es) [] pos) (tD g W (cMeth c nm np F fo fs)) := PE.imp (pe_methS ho hcl hm G hr hb (fun σ => passAt tk σ) ha hst hpl ht) meth_sub
theorem de_meth0 {c : Nat} {pl : Sem Bool} (hcl : Cls X.K (g.ct c)) (hm : Meth X.K (g.ct c) nm fn) (G : FnOk X.prog X.w X.K X.mg X.base (L2.CX X.prog X.w) k fn fd ps (spF g np F)) (hr : Room k X.A) (hb : Binds X.K fd ps []) (tk : Takes X W) (ho : PE X o (tD g W fo))
    (ht : eval (.Call (.Attribute o nm apos) [] [] pos) X.env = (do
      let ov ← eval o X.env
      standAt apos.atName
      let (f, first) ← holding [ov] (getMethod ov nm pl)
      callWith pos f first (backTo pos (starEach [] X.env)) (backToKw pos (keywordEach [] X.env))) := by rfl) :
    PE X (.Call (.Attribute o nm apos) [] [] pos) (tD g W (cMeth c nm np F fo cNil)) := PE.imp (pe_meth0S ho hcl hm G hr hb (fun σ => passAt tk σ) ht) fun σ H Q h => by
  obtain ⟨m, S, ρ, sr, er, h⟩ := h
  exact tD.sub sr er h fun d m1 S1 H1 v s1 er1 _ r1 h1 => by
    obtain ⟨q, h2⟩ := chkI_bind h1
    obtain ⟨a, dx, fs', e1, e2, e3⟩ := insG_ok s1 r1 q
    exact ⟨a, dx, fs', e1, e2, e3, apF_ok s1 (.cons _ _ _ _ r1 .nil) h2⟩

/-! ### own classes made -/
def newI (c np : Nat) (F : List D → Mo D) : List D → Mo D := fun ds S => (apF np F (.loc S.length :: ds) (S ++ [.ins c []])).andThen fun r S' => match r with
  | .non => .ok (.loc S.length) S'
  | _ => .no
def tMakeS (C : Addr) (sp : Sp) (E : L2.St → XK) (t : TA) : TE := fun σ H Q => t σ H fun vs H1 => ∀ x dx, H1 x = none → H1 dx = none → dx ≠ x →
  sp (.ref x :: vs) (upd (upd H1 dx (.own x)) x (.ins C dx [])) (fun v H2 => v = .non ∧ Q (.ref x) H2) (E σ)
theorem run_makeS {C : Addr} {sp : Sp} {E : L2.St → XK} {CX : CXT} {pins : List (Addr × Obj)} {σ : L2.St} {H : Hp} {s : Shared} {Q : VK} {us ds : List Value} {vs dvs : List V} (M : Mk X.K C fn) (G : FnOk X.prog X.w X.K X.mg X.base CX k fn fd ps sp) (hr : Room (k + 1) X.A) (hb : Binds X.K fd ps ds) (hd : Vals dvs ds)
    (hx : PassesAt CX X σ (E σ)) (I : Inv X pins σ H s) (r : Vals vs us)
    (h : ∀ x dx, H x = none → H dx = none → dx ≠ x → sp (.ref x :: (vs ++ dvs)) (upd (upd H dx (.own x)) x (.ins C dx [])) (fun v H2 => v = .non ∧ Q (.ref x) H2) (E σ)) :
    wpAny (model X.prog X.w) X.A (call (.ref C) us) (EP X pins σ Q) X.xe s := by
  have hq := h (s.heap.objs.size + 1) s.heap.objs.size (I.hok.fresh (Nat.le_succ _)) (I.hok.fresh (Nat.le_refl _)) (Nat.ne_of_lt (Nat.lt_succ_self _))
  have I2 := Inv.made (C := C) I
  have r2 : Vals (V.ref (s.heap.objs.size + 1) :: (vs ++ dvs)) (Value.ref (s.heap.objs.size + 1) :: (us ++ ds)) := .cons rfl (r.append hd)
  have hl : (Value.ref (s.heap.objs.size + 1) :: us ++ ds).length = ps.length := by
    have e := r2.length
    rw [G.len _ _ _ _ hq] at e
    exact e.symm
  refine wpAny_call (make_map (f := fn) I.kIn M.makes M.init (beq_iff_eq.mp M.fn) (codeAny_mono (G.run _ X.stack _ _ ⟨Value.ref (s.heap.objs.size + 1) :: us, []⟩ (Value.ref (s.heap.objs.size + 1) :: (us ++ ds)) _ _ (E σ) (hr.make C us [])
    (I2.env0.make C us []) (hb _ (Value.ref (s.heap.objs.size + 1) :: us) I2.kIn hl) r2 hq) fun r s' hq' => ?_))
  cases r with
  | error e => exact hx pins _ _ e s' I2 hq'
  | ok fl =>
    cases fl with
    | ret u =>
      obtain ⟨v, H', I3, rv, ev, q3⟩ := I2.after hq'
      subst ev
      exact ⟨rv, ⟨V.ref (s.heap.objs.size + 1), H', I3, rfl, q3⟩⟩
    | next => exact False.elim hq'
    | brk => exact False.elim hq'
    | cont => exact False.elim hq'
theorem newI_ok {c : Nat} {m : Nat → Addr} {S : Sto} {H : Hp} {Q : VK} {E : XK} {vs : List V} {ds : List D} (sr : SR g m H S) (r : VRs g m S.length H vs ds) (h : PRx g m S H E (KD g Q) (newI c np F ds S)) :
    ∀ x dx, H x = none → H dx = none → dx ≠ x → spF g np F (.ref x :: vs) (upd (upd H dx (.own x)) x (.ins (g.ct c) dx [])) (fun v H2 => v = .non ∧ Q (.ref x) H2) E := fun x dx hx hdx ne => by
  have hx' : upd H dx (.own x) x = none := by rw [upd_ne (Ne.symm ne)]; exact hx
  have e1 : Ev g m S.length H m S.length (upd H dx (.own x)) := Ev.new hdx
  have s1 := sr.aside (o := .own x) hdx
  have e2 : Ev g m S.length H (ext m S.length x) (S.length + 1) (upd (upd H dx (.own x)) x (.ins (g.ct c) dx [])) := Ev.ext (e1.trans (Ev.new hx'))
  have s2 := s1.alloc (u := .ins (g.ct c) dx []) (o := .ins c []) hx' ⟨dx, [], upd_same, rfl, .nil⟩
  have lA : (S ++ [Ob.ins c []]).length = S.length + 1 := by rw [List.length_append, List.length_singleton]
  have h2 := (PRx.ev (m' := ext m S.length x) (S' := S ++ [Ob.ins c []]) (by rw [lA]; exact e2) h).bind
  refine apF_ok (S := S ++ [Ob.ins c []]) s2 (.cons _ (.loc S.length) _ _ ?_ (by rw [lA]; exact r.ev e2)) (h2.mono fun d m3 S3 H3 e3 s3 q v rv => ?_)
  · have := VR.loc (g := g) (m := ext m S.length x) (n := (S ++ [Ob.ins c []]).length) (H := upd (upd H dx (.own x)) x (.ins (g.ct c) dx [])) S.length (by rw [lA]; exact Nat.lt_succ_self _)
    rw [ext_new] at this
    exact this
  · cases d with
    | non =>
      cases rv
      have lt : S.length < (S ++ [Ob.ins c []]).length := by rw [lA]; exact Nat.lt_succ_self _
      have q2 := q m3 H3 Ev.refl s3 (.ref (m3 S.length)) (.loc _ (Nat.lt_of_lt_of_le lt e3.le))
      rw [e3.ag _ lt, ext_new] at q2
      exact ⟨rfl, q2⟩
    | _ => exact q.elim
theorem de_new {c : Nat} {dvs : List V} {dvals : List Value} {dds : List D} (M : Mk X.K (g.ct c) fn) (G : FnOk X.prog X.w X.K X.mg X.base (L2.CX X.prog X.w) k fn fd ps (spF g np F)) (hr : Room (k + 1) X.A) (hm : X.mg x = some (.ref (g.ct c))) (hb : Binds X.K fd ps dvals) (hd : Vals dvs dvals) (hdd : ∀ m n H, VRs g m n H dvs dds) (tk : Takes X W) (ha : PA X (e :: es) (tDs g W fs))
    (hg : Gl X x := by rfl) (hdb : (x == ("__debug__" : Str)) = false := by decide) (he : starEach (e :: es) X.env = (false, eval e X.env) :: starEach es X.env := by rfl) (hpl : (backTo pos (starEach es X.env)).any (·.1) = false := by rfl) :
    PE X (.Call (.Name x p) (e :: es) [] pos) (tD g W (cCall (fun ds => newI c np F (ds ++ dds)) fs)) := by
  refine ⟨fun pins s σ H Q I ⟨m, S, ρ, sr, er, h⟩ => ?_⟩
  refine wpAny_Call_Name_kw (ld_glob I hg hm ?_ hdb)
  refine PySem.W.callWith_K (h₀ := X.base) I.ok.mod.kin M.kp (thn (ha.run pos pins s σ H _ I (tDs.sub (Q := fun vs H1 => ∀ x dx, H1 x = none → H1 dx = none → dx ≠ x → spF g np F (.ref x :: (vs ++ dvs)) (upd (upd H1 dx (.own x)) x (.ins (g.ct c) dx [])) (fun v H2 => v = .non ∧ Q (.ref x) H2) (WE W σ)) sr er h
    fun ds m1 S1 H1 vs s1 _ _ r1 h1 => newI_ok s1 (r1.append (hdd _ _ _)) h1)) fun us s1 ⟨vs, H1, I1, r, q⟩ => ⟨I1.kIn, ?_⟩) he hpl
  exact run_makeS (E := WE W) M G hr hb hd (passAt tk σ) I1 r q
theorem de_new0 {c : Nat} (M : Mk X.K (g.ct c) fn) (G : FnOk X.prog X.w X.K X.mg X.base (L2.CX X.prog X.w) k fn fd ps (spF g np F)) (hr : Room (k + 1) X.A) (hm : X.mg x = some (.ref (g.ct c))) (hb : Binds X.K fd ps []) (tk : Takes X W)
    (hg : Gl X x := by rfl) (hdb : (x == ("__debug__" : Str)) = false := by decide) :
    PE X (.Call (.Name x p) [] [] pos) (tD g W (cCall (newI c np F) cNil)) := by
  refine ⟨fun pins s σ H Q I ⟨m, S, ρ, sr, er, h⟩ => ?_⟩
  refine wpAny_Call_Name_kw (ld_glob I hg hm ?_ hdb)
  refine PySem.W.callWith_K0 I.kIn M.kp (run_makeS (us := []) (vs := []) (E := WE W) M G hr hb .nil (passAt tk σ) I .nil ?_)
  exact newI_ok (vs := []) (ds := []) sr .nil h
/-- by the level: F k for a body that has Room k -/
def upK (k : Nat) (h : Nat → List D → Mo D) : List D → Mo D := match k with
  | 0 => fun _ => bad
  | j + 1 => h j
theorem de_upK {k : Nat} {h : Nat → List D → Mo D} (h0 : ∀ j, k = j + 1 → PE X a (tD g W (cCall (h j) fs))) (hn : ∃ t, PA X es t) : PE X a (tD g W (cCall (upK k h) fs)) ∨ k = 0 := by
  cases k with
  | zero => exact .inr rfl
  | succ j => exact .inl (h0 j rfl)

/-! ### the entry of a def -/
def startE (n : Nat) (ds : List D) : En := ds.map some ++ List.replicate (n - ds.length) none
def Fz.toR : Fz → Rz D
  | .nx _ S => .ok .non S
  | .ret d S => .ok d S
  | .ex e _ S => .ex e S
  | _ => .no
def cDef (n : Nat) (s : DS) : List D → Mo D := fun ds S => (s (startE n ds) S).toR
theorem start_er {m : Nat → Addr} {n : Nat} {H : Hp} {N : List Str} {vs : List V} {ds : List D} (r : VRs g m n H vs ds) : ER g m n H (L2.start N vs) (startE N.length ds) := by
  have hl := r.length
  refine ⟨by simp [L2.start, startE, hl], fun i d q => ?_⟩
  unfold startE at q
  by_cases hi : i < ds.length
  · rw [List.getElem?_append_left (by simpa using hi), List.getElem?_map] at q
    cases z : ds[i]? with
    | none => rw [z] at q; cases q
    | some d' =>
      rw [z] at q
      cases q
      obtain ⟨v, hv, rv⟩ := r.get z
      refine ⟨v, ?_, rv⟩
      unfold L2.start
      rw [List.getElem?_append_left (by rw [List.length_map, hl]; exact hi), List.getElem?_map, hv]
      rfl
  · rw [List.getElem?_append_right (by simpa using hi), List.getElem?_replicate] at q
    split at q <;> cases q
theorem fn_sm {P : Program} {w : World} {K : PySem.W.Frag} {mg : Str → Option Value} {base : Heap} {nm qual : Str} {st : Stmt} {fn : Addr} {fd : FuncData} {N ps : List Str} {k : Nat} {s : DS} (F : L2.Fun K nm qual st fn fd) (S : FnScope N ps (defScope st))
    (hbody : ∀ (cdv : Value) (A : Around) (outer : List Env) (s0 : Shared) (H : Hp) (E : XK), Room k (A.deeper (envOfC qual (defScope st) s0.heap.objs.size fn cdv)) →
      PSs (cxOf (L2.CX P w) P w K mg base N qual (defScope st) fn cdv A outer s0 H E) (defBody st) (tS g (fun cls d _ H => E cls d H) s)) :
    FnOk P w K mg base (L2.CX P w) (k + 1) fn fd ps (spF g ps.length (cDef N.length s)) := by
  refine F.okX S (fun vs H Q E h => h.1) fun cdv A outer s0 H vs Q E hr h => ⟨_, hbody cdv A outer s0 H E hr, ?_⟩
  obtain ⟨_, m, S0, ds, sr, r, q⟩ := h
  refine ⟨m, S0, startE N.length ds, sr, start_er r, ?_⟩
  unfold cDef at q
  cases z : s (startE N.length ds) S0 with
  | nx ρ1 S1 => rw [z] at q; exact fun _ m1 H1 e1 s1 _ => q m1 H1 e1 s1 .non .non
  | ret d S1 => rw [z] at q; exact fun v m1 H1 e1 s1 r1 => q m1 H1 e1 s1 v r1
  | ex e ρ1 S1 => rw [z] at q; exact fun c d _ m1 H1 e1 s1 _ x1 => q c d m1 H1 e1 s1 x1
  | brk ρ1 S1 => rw [z] at q; exact q.elim
  | cnt ρ1 S1 => rw [z] at q; exact q.elim
  | no => rw [z] at q; exact q.elim
/-- at level 0 nothing is promised -/
theorem fn_zero {P : Program} {w : World} {K : PySem.W.Frag} {mg : Str → Option Value} {base : Heap} {CX : CXT} {fn : Addr} {fd : FuncData} {ps : List Str} {np : Nat} : FnOk P w K mg base CX 0 fn fd ps (spF g np fun _ => bad) :=
  ⟨fun _ _ _ _ h => by obtain ⟨_, _, _, _, _, _, h⟩ := h; exact h.elim, fun _ _ _ _ _ _ _ _ _ _ _ _ _ h => by obtain ⟨_, _, _, _, _, _, h⟩ := h; exact h.elim⟩
end
end Sm
end
section
/-! Sm, part F: what the operations do with data. -/
namespace Sm
open PySem PySem.Spec PyProof.Rows L2

section
variable {X : Cx} {g : Gx}
theorem OpR.imp {f : Value → Value → Sem Value} {r r' : R2} (h : OpR X f r) (i : ∀ x y H Q, r' x y H Q → r x y H Q) : OpR X f r' := fun pins s σ H x y v u Q I rx ry q => h pins s σ H x y v u Q I rx ry (i _ _ _ _ q)

/-! ### + -/
def joinL (xs ys : List D) (S : Sto) : Rz D := if fit (xs.length + ys.length) = true then .ok (.loc S.length) (S ++ [.lst (xs ++ ys)]) else .no
def addO (S : Sto) : Option Ob → Option Ob → Rz D
  | some (.lst xs), some (.lst ys) => joinL xs ys S
  | _, _ => .no
def addD : D → D → Mo D
  | .int i, .int j => pure (.int (i + j))
  | .str x, .str y => fun S => if fit (x.length + y.length) = true then .ok (.str (x ++ y)) S else .no
  | .tup xs, .tup ys => fun S => if fit (xs.length + ys.length) = true then .ok (.tup (xs ++ ys)) S else .no
  | .loc l, .loc l' => fun S => addO S S[l]? S[l']?
  | _, _ => bad
def rAddA (K : PySem.W.Frag) : R2 := fun x y H Q => (∃ i j, x = .int i ∧ y = .int j ∧ Q (.int (i + j)) H) ∨ (∃ i j, x = .str i ∧ y = .str j ∧ i.length + j.length ≤ sizeLine ∧ Q (.str (i ++ j)) H) ∨ rCatA K x y H Q ∨ rCat x y H Q
theorem op_addA : OpR X (binaryOp .Add) (rAddA X.K) := op_add.or (op_add_str.or (op_catA.or op_cat))
theorem add_ok : S2 g (rAddA g.K) addD := fun m S H x y d e Q W sr rx ry h => by
  cases rx with
  | int i => cases ry with
    | int j => exact .inl ⟨i, j, rfl, rfl, h.here sr _ (.int _)⟩
    | _ => exact h.elim
  | str a => cases ry with
    | str b =>
      have h2 : PRx g m S H W (KD g Q) (if fit (a.length + b.length) = true then (Rz.ok (D.str (a ++ b)) S : Rz D) else .no) := h
      by_cases q : fit (a.length + b.length) = true
      · rw [if_pos q] at h2
        exact .inr (.inl ⟨a, b, rfl, rfl, fit_iff.mp q, h2.here sr _ (.str _)⟩)
      · rw [if_neg q] at h2; exact h2.elim
    | _ => exact h.elim
  | tup a xs ds hq rs => cases ry with
    | tup b ys es hq' rs' =>
      have h2 : PRx g m S H W (KD g Q) (if fit (ds.length + es.length) = true then (Rz.ok (D.tup (ds ++ es)) S : Rz D) else .no) := h
      by_cases q : fit (ds.length + es.length) = true
      · rw [if_pos q] at h2
        refine .inr (.inr (.inl ⟨a, b, xs, ys, rfl, rfl, hq, hq', by rw [rs.length, rs'.length]; exact fit_iff.mp q, fun e => ?_, fun _ e => ?_, fun _ _ => tup_new sr (rs.append rs') h2⟩))
        · subst e
          cases rs
          exact h2.here sr _ (.tup b ys es hq' rs')
        · subst e
          cases rs'
          rw [List.append_nil] at h2
          exact h2.here sr _ (.tup a xs ds hq rs)
      · rw [if_neg q] at h2; exact h2.elim
    | _ => exact h.elim
  | loc l hl => cases ry with
    | loc l' hl' =>
      have h2 : PRx g m S H W (KD g Q) (addO S S[l]? S[l']?) := h
      cases q : S[l]? with
      | none => rw [q] at h2; exact h2.elim
      | some ob =>
        rw [q] at h2
        cases ob with
        | lst ds =>
          cases q' : S[l']? with
          | none => rw [q'] at h2; exact h2.elim
          | some ob' =>
            rw [q'] at h2
            cases ob' with
            | lst es =>
              obtain ⟨_, xs, hx, rs⟩ := sr.atL q
              obtain ⟨_, ys, hy, rs'⟩ := sr.atL q'
              have h3 : PRx g m S H W (KD g Q) (if fit (ds.length + es.length) = true then (Rz.ok (D.loc S.length) (S ++ [.lst (ds ++ es)]) : Rz D) else .no) := h2
              by_cases qf : fit (ds.length + es.length) = true
              · rw [if_pos qf] at h3
                exact .inr (.inr (.inr ⟨m l, m l', xs, ys, rfl, rfl, hx, hy, by rw [rs.length, rs'.length]; exact fit_iff.mp qf, lst_new sr (rs.append rs') h3⟩))
              · rw [if_neg qf] at h3; exact h3.elim
            | _ => exact h2.elim
        | _ => exact h2.elim
    | _ => exact h.elim
  | _ => exact h.elim
theorem de_add {a b : Expr} {fa fb : DE} {W : WX} {pos : Pos} (hK : X.K = g.K) (ha : PE X a (tD g W fa)) (hb : PE X b (tD g W fb)) : PE X (.BinOp a .Add b pos) (tD g W (cOp addD fa fb)) := de_op op_addA (by rw [hK]; exact add_ok) ha hb

/-! ### other arithmetic -/
def intOp (C : Int → Int → Bool) (f : Int → Int → D) : D → D → Mo D
  | .int i, .int j => fun S => if C i j = true then .ok (f i j) S else .no
  | _, _ => bad
theorem intOp_ok {C : Int → Int → Bool} {P : Int → Int → Prop} {f : Int → Int → D} {fv : Int → Int → V} (hC : ∀ i j, C i j = true → P i j) (hf : ∀ i j m n H, VR g m n H (fv i j) (f i j)) : S2 g (rI P fv) (intOp C f) := fun m S H x y d e Q W sr rx ry h => by
  cases rx with
  | int i => cases ry with
    | int j =>
      have h2 : PRx g m S H W (KD g Q) (if C i j = true then (Rz.ok (f i j) S : Rz D) else .no) := h
      by_cases q : C i j = true
      · rw [if_pos q] at h2
        exact ⟨i, j, rfl, rfl, hC i j q, h2.here sr _ (hf i j _ _ _)⟩
      · rw [if_neg q] at h2; exact h2.elim
    | _ => exact h.elim
  | _ => exact h.elim
def intOp0 (f : Int → Int → D) : D → D → Mo D
  | .int i, .int j => pure (f i j)
  | _, _ => bad
theorem intOp0_ok {f : Int → Int → D} {fv : Int → Int → V} (hf : ∀ i j m n H, VR g m n H (fv i j) (f i j)) : S2 g (rI0 fv) (intOp0 f) := fun m S H x y d e Q W sr rx ry h => by
  cases rx with
  | int i => cases ry with
    | int j => exact ⟨i, j, rfl, rfl, h.here sr _ (hf i j _ _ _)⟩
    | _ => exact h.elim
  | _ => exact h.elim
abbrev subD : D → D → Mo D := intOp0 fun i j => .int (i - j)
instance decCMul (i j : Int) : Decidable (CMul i j) := inferInstanceAs (Decidable ((-(2 ^ 64) < i ∧ i < 2 ^ 64) ∨ (-(2 ^ 64) < j ∧ j < 2 ^ 64)))
instance decCMulW (i j : Int) : Decidable (CMulW i j) := inferInstanceAs (Decidable (i.natAbs.log2 + j.natAbs.log2 < 1000000))
/-- a product that the model can hold -/
@[irreducible] def okMul (i j : Int) : Bool := decide (CMul i j) || decide (CMulW i j)
@[irreducible] def okDiv (_ j : Int) : Bool := decide (j ≠ 0) && decide (j.natAbs.log2 < 9000)
@[irreducible] def okMod (_ j : Int) : Bool := decide (0 < j)
@[irreducible] def okPow (i j : Int) : Bool := decide (0 ≤ j) && (decide (j ≤ 1000000) && decide (i.natAbs < 2 ^ 64))
@[irreducible] def okShr (_ j : Int) : Bool := decide (0 ≤ j)
theorem okMul_iff {i j : Int} : okMul i j = true ↔ (CMul i j ∨ CMulW i j) := by unfold okMul; simp
theorem okDiv_iff {i j : Int} : okDiv i j = true ↔ (j ≠ 0 ∧ j.natAbs.log2 < 9000) := by unfold okDiv; simp
theorem okMod_iff {i j : Int} : okMod i j = true ↔ 0 < j := by unfold okMod; simp
theorem okPow_iff {i j : Int} : okPow i j = true ↔ (0 ≤ j ∧ j ≤ 1000000 ∧ i.natAbs < 2 ^ 64) := by unfold okPow; simp only [Bool.and_eq_true, decide_eq_true_eq]
theorem okShr_iff {i j : Int} : okShr i j = true ↔ 0 ≤ j := by unfold okShr; simp
abbrev mulD : D → D → Mo D := intOp okMul fun i j => .int (i * j)
abbrev fdivD : D → D → Mo D := intOp okDiv fun i j => .int (i.fdiv j)
abbrev modD : D → D → Mo D := intOp okMod fun i j => .int (i % j)
abbrev powD : D → D → Mo D := intOp okPow fun i j => .int (i ^ j.toNat)
abbrev shrD : D → D → Mo D := intOp okShr fun i j => .int (i / 2 ^ j.toNat)
abbrev andD : D → D → Mo D := intOp0 fun i j => .int (Builtin.bitAnd i j)
theorem op_fdivA : OpR X (binaryOp .FloorDiv) (rI (fun _ j => j ≠ 0 ∧ j.natAbs.log2 < 9000) fun i j => .int (i.fdiv j)) := opI fun _ _ _ _ _ _ _ hc q => floordiv_int hc.1 q (.inl (PyProof.noPylong_of_log2 hc.2))
theorem op_mulA : OpR X (binaryOp .Mult) (rI (fun i j => CMul i j ∨ CMulW i j) fun i j => .int (i * j)) := opI fun _ _ _ _ _ _ _ hc q => mul_int q (hc.elim CMul.ok CMulW.ok)
variable {a b : Expr} {fa fb : DE} {W : WX} {pos : Pos}
theorem de_sub (ha : PE X a (tD g W fa)) (hb : PE X b (tD g W fb)) : PE X (.BinOp a .Sub b pos) (tD g W (cOp subD fa fb)) := de_op op_sub (intOp0_ok fun _ _ _ _ _ => .int _) ha hb
theorem de_mul (ha : PE X a (tD g W fa)) (hb : PE X b (tD g W fb)) : PE X (.BinOp a .Mult b pos) (tD g W (cOp mulD fa fb)) := de_op op_mulA (intOp_ok (fun _ _ => okMul_iff.mp) fun _ _ _ _ _ => .int _) ha hb
theorem de_fdiv (ha : PE X a (tD g W fa)) (hb : PE X b (tD g W fb)) : PE X (.BinOp a .FloorDiv b pos) (tD g W (cOp fdivD fa fb)) := de_op op_fdivA (intOp_ok (fun _ _ => okDiv_iff.mp) fun _ _ _ _ _ => .int _) ha hb
theorem de_mod (ha : PE X a (tD g W fa)) (hb : PE X b (tD g W fb)) : PE X (.BinOp a .Mod b pos) (tD g W (cOp modD fa fb)) := de_op op_mod (intOp_ok (fun _ _ => okMod_iff.mp) fun _ _ _ _ _ => .int _) ha hb
theorem de_pow (ha : PE X a (tD g W fa)) (hb : PE X b (tD g W fb)) : PE X (.BinOp a .Pow b pos) (tD g W (cOp powD fa fb)) := de_op op_pow (intOp_ok (fun _ _ => okPow_iff.mp) fun _ _ _ _ _ => .int _) ha hb
theorem de_shr (ha : PE X a (tD g W fa)) (hb : PE X b (tD g W fb)) : PE X (.BinOp a .RShift b pos) (tD g W (cOp shrD fa fb)) := de_op op_shr (intOp_ok (fun _ _ => okShr_iff.mp) fun _ _ _ _ _ => .int _) ha hb
theorem de_band (ha : PE X a (tD g W fa)) (hb : PE X b (tD g W fb)) : PE X (.BinOp a .BitAnd b pos) (tD g W (cOp andD fa fb)) := de_op op_and (intOp0_ok fun _ _ _ _ _ => .int _) ha hb
def negD : D → Mo D
  | .int i => pure (.int (-i))
  | _ => bad
theorem de_neg (ha : PE X a (tD g W fa)) : PE X (.UnaryOp .USub a pos) (tD g W (cUn negD fa)) := de_un un_neg (fun m S H x d Q W sr rx h => by
  cases rx with
  | int i => exact ⟨i, rfl, h.here sr _ (.int _)⟩
  | _ => exact h.elim) ha

/-! ### comparisons -/
abbrev ltI : D → D → Mo D := intOp0 fun i j => .bl (decide (i < j))
abbrev leI : D → D → Mo D := intOp0 fun i j => .bl (decide (i ≤ j))
abbrev gtI : D → D → Mo D := intOp0 fun i j => .bl (decide (j < i))
abbrev geI : D → D → Mo D := intOp0 fun i j => .bl (decide (j ≤ i))
theorem lt_ok : S2 g (rI0 fun i j => .bl (decide (i < j))) ltI := intOp0_ok fun _ _ _ _ _ => .bl _
theorem le_ok : S2 g (rI0 fun i j => .bl (decide (i ≤ j))) leI := intOp0_ok fun _ _ _ _ _ => .bl _
theorem gt_ok : S2 g (rI0 fun i j => .bl (decide (j < i))) gtI := intOp0_ok fun _ _ _ _ _ => .bl _
theorem ge_ok : S2 g (rI0 fun i j => .bl (decide (j ≤ i))) geI := intOp0_ok fun _ _ _ _ _ => .bl _
def isNone : D → D → Mo D
  | .non, .non => pure (.bl true)
  | .bl _, .non => pure (.bl false)
  | .int _, .non => pure (.bl false)
  | .str _, .non => pure (.bl false)
  | .tup _, .non => pure (.bl false)
  | .lsc _, .non => pure (.bl false)
  | .loc _, .non => pure (.bl false)
  | .cls _, .non => pure (.bl false)
  | .fnc _, .non => pure (.bl false)
  | .ty _, .non => pure (.bl false)
  | _, _ => bad
def notB : D → Mo D
  | .bl b => pure (.bl (!b))
  | _ => bad
def notNone (d e : D) : Mo D := isNone d e >>= notB
theorem isN_ok : S2 g (fun x y H Q => y = .non ∧ Q (.bl (decide (x = .non))) H) isNone := fun m S H x y d e Q W sr rx ry h => by
  cases ry with
  | non => cases rx <;> exact ⟨rfl, h.here sr _ (.bl _)⟩
  | _ => cases rx <;> exact h.elim
theorem notN_ok : S2 g (fun x y H Q => y = .non ∧ Q (.bl (!decide (x = .non))) H) notNone := fun m S H x y d e Q W sr rx ry h => by
  cases ry with
  | non => cases rx <;> exact ⟨rfl, h.here sr _ (.bl _)⟩
  | _ => cases rx <;> exact h.elim

/-! ### == of data -/
mutual
/-- data as plain data -/
inductive IsP (S : Sto) : D → PyData → Prop
  | non : IsP S .non .none
  | bl (b : Bool) : IsP S (.bl b) (.bool b)
  | int (i : Int) : IsP S (.int i) (.int i)
  | str (x : Str) : IsP S (.str x) (.str x)
  | tup (xs : List D) (ps : List PyData) : IsPs S xs ps → IsP S (.tup xs) (.tuple ps)
  | lsc (xs : List D) (ps : List PyData) : IsPs S xs ps → IsP S (.lsc xs) (.list ps)
  | loc (l : Nat) (xs : List D) (ps : List PyData) : S[l]? = some (.lst xs) → IsPs S xs ps → IsP S (.loc l) (.list ps)
inductive IsPs (S : Sto) : List D → List PyData → Prop
  | nil : IsPs S [] []
  | cons (x : D) (p : PyData) (xs : List D) (ps : List PyData) : IsP S x p → IsPs S xs ps → IsPs S (x :: xs) (p :: ps)
end
mutual
theorem IsP.uniq {S : Sto} : ∀ {d : D} {p q : PyData}, IsP S d p → IsP S d q → p = q
  | _, _, _, .non, .non => rfl
  | _, _, _, .bl _, .bl _ => rfl
  | _, _, _, .int _, .int _ => rfl
  | _, _, _, .str _, .str _ => rfl
  | _, _, _, .tup _ _ a, .tup _ _ b => by rw [IsPs.uniq a b]
  | _, _, _, .lsc _ _ a, .lsc _ _ b => by rw [IsPs.uniq a b]
  | _, _, _, .loc l xs _ h a, .loc _ ys _ h' b => by
    have e : xs = ys := by rw [h] at h'; cases h'; rfl
    subst e
    rw [IsPs.uniq a b]
theorem IsPs.uniq {S : Sto} : ∀ {d : List D} {p q : List PyData}, IsPs S d p → IsPs S d q → p = q
  | _, _, _, .nil, .nil => rfl
  | _, _, _, .cons _ _ _ _ a b, .cons _ _ _ _ a' b' => by rw [IsP.uniq a a', IsPs.uniq b b']
end
mutual
theorem IsP.dp {m : Nat → Addr} {S : Sto} {H : Hp} (sr : SR g m H S) : ∀ {v : V} {d : D} {p : PyData}, VR g m S.length H v d → IsP S d p → Dp g.K H v p
  | _, _, _, .non, .non => .non
  | _, _, _, .bl _, .bl b => .bl b
  | _, _, _, .int _, .int i => .int i
  | _, _, _, .str _, .str x => .str x
  | _, _, _, .tup a xs ds hq rs, .tup _ ps h => .tup hq (IsPs.dp sr rs h)
  | _, _, _, .lsc a xs ds hq rs, .lsc _ ps h => .lst hq.sq (IsPs.dp sr rs h)
  | _, _, _, .loc l hl, .loc _ ds ps q h => by
    obtain ⟨_, xs, hx, rs⟩ := sr.atL q
    exact .lst (SqL.of hx) (IsPs.dp sr rs h)
theorem IsPs.dp {m : Nat → Addr} {S : Sto} {H : Hp} (sr : SR g m H S) : ∀ {v : List V} {d : List D} {p : List PyData}, VRs g m S.length H v d → IsPs S d p → DpAll g.K H v p
  | _, _, _, .nil, .nil => .nil
  | _, _, _, .cons x d xs ds r rs, .cons _ p _ ps a b => .cons (IsP.dp sr r a) (IsPs.dp sr rs b)
end
/-- what == says of scalars -/
def scalQ : D → D → Option Bool
  | .non, .non => some true
  | .int i, .int j => some (i == j)
  | .bl i, .bl j => some (i == j)
  | .str i, .str j => some (i == j)
  | .non, .int _ => some false
  | .int _, .non => some false
  | .non, .bl _ => some false
  | .bl _, .non => some false
  | .non, .str _ => some false
  | .str _, .non => some false
  | .int _, .str _ => some false
  | .str _, .int _ => some false
  | .bl _, .str _ => some false
  | .str _, .bl _ => some false
  | _, _ => none
def EqIs (S : Sto) (d e : D) (b : Bool) : Prop := ∃ p q, IsP S d p ∧ IsP S e q ∧ SeqAt.shaped p = true ∧ SeqAt.shaped q = true ∧ b = PyData.eqv p q
open Classical in
noncomputable def eqQ (d e : D) (S : Sto) : Option Bool := match scalQ d e with
  | some b => some b
  | none => if h : ∃ b, EqIs S d e b then some h.choose else none
noncomputable def eqD (d e : D) : Mo D := fun S => match eqQ d e S with
  | some b => .ok (.bl b) S
  | none => .no
noncomputable def neD (d e : D) : Mo D := fun S => match eqQ d e S with
  | some b => .ok (.bl (!b)) S
  | none => .no
theorem eqQ_of {S : Sto} {d e : D} {p q : PyData} (h0 : scalQ d e = none) (h1 : IsP S d p) (h2 : IsP S e q) (h3 : SeqAt.shaped p = true) (h4 : SeqAt.shaped q = true) : eqQ d e S = some (PyData.eqv p q) := by
  unfold eqQ
  rw [h0]
  have h : ∃ b, EqIs S d e b := ⟨_, p, q, h1, h2, h3, h4, rfl⟩
  dsimp only
  rw [dif_pos h]
  obtain ⟨p', q', a1, a2, _, _, a5⟩ := h.choose_spec
  rw [a5, a1.uniq h1, a2.uniq h2]
theorem eqQ_cases {S : Sto} {d e : D} {b : Bool} (h : eqQ d e S = some b) : scalQ d e = some b ∨ EqIs S d e b := by
  unfold eqQ at h
  cases q : scalQ d e with
  | some c => rw [q] at h; exact .inl h
  | none =>
    rw [q] at h
    dsimp only at h
    by_cases z : ∃ b, EqIs S d e b
    · rw [dif_pos z] at h
      cases h
      exact .inr z.choose_spec
    · rw [dif_neg z] at h; cases h
theorem scalQ_ok {m : Nat → Addr} {n : Nat} {H : Hp} {x y : V} {d e : D} {b : Bool} (rx : VR g m n H x d) (ry : VR g m n H y e) (h : scalQ d e = some b) : scal x y = true ∧ decide (x = y) = b := by
  cases rx <;> cases ry <;> first
    | (cases h; exact ⟨rfl, dec_int⟩)
    | (cases h; exact ⟨rfl, dec_bl⟩)
    | (cases h; exact ⟨rfl, dec_str⟩)
    | (cases h; exact ⟨rfl, by simp⟩)
    | cases h
def rEqA (K : PySem.W.Frag) : R2 := fun x y H Q => rEq x y H Q ∨ rEqD K x y H Q
def rNeA (K : PySem.W.Frag) : R2 := fun x y H Q => rNe x y H Q ∨ rNeD K x y H Q
theorem eq_ok : S2 g (rEqA g.K) eqD := fun m S H x y d e Q W sr rx ry h => by
  unfold eqD at h
  cases z : eqQ d e S with
  | none => rw [z] at h; exact h.elim
  | some b =>
    rw [z] at h
    rcases eqQ_cases z with q | ⟨p, q, a1, a2, a3, a4, rfl⟩
    · obtain ⟨s1, s2⟩ := scalQ_ok rx ry q
      exact .inl ⟨s1, by rw [s2]; exact h.here sr _ (.bl _)⟩
    · exact .inr ⟨p, q, a1.dp sr rx, a2.dp sr ry, a3, a4, h.here sr _ (.bl _)⟩
theorem ne_ok : S2 g (rNeA g.K) neD := fun m S H x y d e Q W sr rx ry h => by
  unfold neD at h
  cases z : eqQ d e S with
  | none => rw [z] at h; exact h.elim
  | some b =>
    rw [z] at h
    rcases eqQ_cases z with q | ⟨p, q, a1, a2, a3, a4, rfl⟩
    · obtain ⟨s1, s2⟩ := scalQ_ok rx ry q
      exact .inl ⟨s1, by rw [s2]; exact h.here sr _ (.bl _)⟩
    · exact .inr ⟨p, q, a1.dp sr rx, a2.dp sr ry, a3, a4, h.here sr _ (.bl _)⟩
theorem op_eqA {k : Nat} (hK : X.K = g.K) (hr : Room k X.A) : OpR X (compareOp .Eq) (rEqA g.K) := by rw [← hK]; exact op_eq.or (op_eqD hr.units)
theorem op_neA {k : Nat} (hK : X.K = g.K) (hr : Room k X.A) : OpR X (compareOp .NotEq) (rNeA g.K) := by rw [← hK]; exact op_ne.or (op_neD hr.units)
end
end Sm
end
section
/-! Sm, part G: subscripts, slices, membership, dicts, built-in functions, methods of lists. -/
namespace Sm
open PySem PySem.Spec PyProof.Rows L2

section
variable {X : Cx} {g : Gx} {W : WX} {a b c e o : Expr} {es : List Expr} {fa fb fc fo : DE} {fs : En → Mo (List D)} {pos : Pos}
def ar1 (h : D → Mo D) : List D → Mo D
  | [d] => h d
  | _ => bad
def ar2 (h : D → D → Mo D) : List D → Mo D
  | [d, e] => h d e
  | _ => bad
theorem SC.one {r : List V → Hp → VK → Prop} {h : D → Mo D} (k : ∀ (m : Nat → Addr) (S : Sto) (H : Hp) (x : V) (d : D) (Q : VK) (W : XK), SR g m H S → VR g m S.length H x d → PRx g m S H W (KD g Q) (h d S) → r [x] H Q) : SC g r (ar1 h) := fun m S H xs ds Q W sr rs p => by
  cases rs with
  | nil => exact p.elim
  | cons x d xs ds rx rs =>
    cases rs with
    | nil => exact k m S H x d Q W sr rx p
    | cons _ _ _ _ _ _ => exact p.elim
theorem SC.two {r : List V → Hp → VK → Prop} {h : D → D → Mo D} (k : ∀ (m : Nat → Addr) (S : Sto) (H : Hp) (x y : V) (d e : D) (Q : VK) (W : XK), SR g m H S → VR g m S.length H x d → VR g m S.length H y e → PRx g m S H W (KD g Q) (h d e S) → r [x, y] H Q) : SC g r (ar2 h) := fun m S H xs ds Q W sr rs p => by
  cases rs with
  | nil => exact p.elim
  | cons x d xs ds rx rs =>
    cases rs with
    | nil => exact p.elim
    | cons y e xs ds ry rs =>
      cases rs with
      | nil => exact k m S H x y d e Q W sr rx ry p
      | cons _ _ _ _ _ _ => exact p.elim
theorem SM.none {r : V → List V → Hp → VK → Prop} {h : D → List D → Mo D} (k : ∀ (m : Nat → Addr) (S : Sto) (H : Hp) (x : V) (d : D) (Q : VK) (W : XK), SR g m H S → VR g m S.length H x d → PRx g m S H W (KD g Q) (h d [] S) → r x [] H Q) (hb : ∀ d e es S, h d (e :: es) S = .no) : SM g r h := fun m S H x xs d ds Q W sr rx rs p => by
  cases rs with
  | nil => exact k m S H x d Q W sr rx p
  | cons _ _ _ _ _ _ => rw [hb] at p; exact p.elim
def am0 (h : D → Mo D) : D → List D → Mo D := fun d ds => match ds with
  | [] => h d
  | _ :: _ => bad
def am1 (h : D → D → Mo D) : D → List D → Mo D := fun d ds => ar1 (h d) ds
theorem SM.zero {r : V → List V → Hp → VK → Prop} {h : D → Mo D} (k : ∀ (m : Nat → Addr) (S : Sto) (H : Hp) (x : V) (d : D) (Q : VK) (W : XK), SR g m H S → VR g m S.length H x d → PRx g m S H W (KD g Q) (h d S) → r x [] H Q) : SM g r (am0 h) := SM.none k fun _ _ _ _ => rfl
theorem SM.one {r : V → List V → Hp → VK → Prop} {h : D → D → Mo D} (k : ∀ (m : Nat → Addr) (S : Sto) (H : Hp) (x y : V) (d e : D) (Q : VK) (W : XK), SR g m H S → VR g m S.length H x d → VR g m S.length H y e → PRx g m S H W (KD g Q) (h d e S) → r x [y] H Q) : SM g r (am1 h) := fun m S H x xs d ds Q W sr rx rs p => by
  cases rs with
  | nil => exact p.elim
  | cons y e xs ds ry rs =>
    cases rs with
    | nil => exact k m S H x y d e Q W sr rx ry p
    | cons _ _ _ _ _ _ => exact p.elim

/-! ### subscripts -/
def keyD : D → Option Key
  | .int i => some (.inl i)
  | .str x => some (.inr x)
  | _ => none
theorem keyD_ok {m : Nat → Addr} {n : Nat} {H : Hp} {x : V} {d : D} {k : Key} (r : VR g m n H x d) (h : keyD d = some k) : x = kV k := by
  cases r <;> first | (cases h; rfl) | cases h
def valD (kvs : List (Key × D)) (k : Key) : Option D := (kvs.find? fun kv => decide (kv.1 = k)).map (·.2)
theorem valD_rel {m : Nat → Addr} {n : Nat} {H : Hp} {k : Key} : ∀ {ks' : List (Key × V)} {ks : List (Key × D)}, ks'.map (·.1) = ks.map (·.1) → VRs g m n H (ks'.map (·.2)) (ks.map (·.2)) →
    (∀ d, valD ks k = some d → ∃ v, valV ks' k = some v ∧ VR g m n H v d) ∧ (valD ks k = none → valV ks' k = none)
  | [], [], _, _ => ⟨fun _ h => by simp [valD] at h, fun _ => rfl⟩
  | (a, x) :: r', (b, y) :: r, hk, hv => by
    have hk' : a = b ∧ r'.map (·.1) = r.map (·.1) := by simpa using hk
    obtain ⟨rfl, hk2⟩ := hk'
    cases hv with
    | cons _ _ _ _ r1 rs =>
      obtain ⟨i1, i2⟩ := valD_rel (k := k) hk2 rs
      by_cases q : a = k
      · subst q
        have e1 : valD ((a, y) :: r) a = some y := by simp [valD]
        have e2 : valV ((a, x) :: r') a = some x := valV_pos rfl
        rw [e1, e2]
        exact ⟨fun d h => by cases h; exact ⟨x, rfl, r1⟩, fun h => by cases h⟩
      · have e1 : valD ((a, y) :: r) k = valD r k := by simp [valD, q]
        have e2 : valV ((a, x) :: r') k = valV r' k := valV_neg q
        rw [e1, e2]
        exact ⟨i1, i2⟩
  | [], _ :: _, hk, _ => by simp at hk
  | _ :: _, [], hk, _ => by simp at hk
def atD (xs : List D) : D → Option D
  | .int i => atI xs i
  | _ => none
def getO (y : D) : Option Ob → Option D
  | some (.lst xs) => atD xs y
  | some (.dct kvs) => match keyD y with
    | some k => valD kvs k
    | none => none
  | _ => none
def getS (z : Str) : D → Option D
  | .int i => if fit z.length = true then (atI z.cps.toList i).map fun c => .str ⟨#[c]⟩ else none
  | _ => none
def getQ : D → D → Sto → Option D
  | .tup xs, y, _ => atD xs y
  | .lsc xs, y, _ => atD xs y
  | .str z, y, _ => getS z y
  | .loc l, y, S => getO y S[l]?
  | _, _, _ => none
def getD (x y : D) : Mo D := fun S => optD (getQ x y S) S
def rIxA (K : PySem.W.Frag) : R2 := fun x y H Q => rIx K x y H Q ∨ ∃ a v, x = .ref a ∧ DGet H a y (some v) ∧ Q v H
theorem ix_dict (hu : X.A.units + 1 < cLine) : IxR X (fun x y H Q => ∃ a v, x = .ref a ∧ DGet H a y (some v) ∧ Q v H) := by
  intro value slice pins s σ H x y v u Q I rx ry h hs
  obtain ⟨a, w, rfl, dg, q⟩ := h
  obtain rfl : v = Value.ref a := rx
  exact tail_any (dict_typeIs I dg) PySem.F.slot_dict_getitem.lookup (d_getItem hu I dg ry fun w' s' I' rw' => ⟨w, H, I', rw', q⟩) hs
theorem atD_int {xs : List D} {y d : D} (h : atD xs y = some d) : ∃ i, y = .int i ∧ atI xs i = some d := by
  cases y with
  | int i => exact ⟨i, rfl, h⟩
  | _ => cases h
theorem atI_rel {m : Nat → Addr} {n : Nat} {H : Hp} {vs : List V} {xs : List D} {i : Int} {d : D} (r : VRs g m n H vs xs) (h : atI xs i = some d) : ∃ v, atI vs i = some v ∧ VR g m n H v d := by
  unfold atI at h ⊢
  rw [r.length]
  cases q : ixN xs.length i with
  | none => rw [q] at h; cases h
  | some j =>
    rw [q] at h
    exact r.get h
theorem getQ_ok {m : Nat → Addr} {S : Sto} {H : Hp} {x y : V} {d e w : D} {Q : VK} (sr : SR g m H S) (rx : VR g m S.length H x d) (ry : VR g m S.length H y e) (h : getQ d e S = some w) (q : ∀ v, VR g m S.length H v w → Q v H) : rIxA g.K x y H Q := by
  cases rx with
  | tup a xs ds hq rs =>
    obtain ⟨i, rfl, hi⟩ := atD_int h
    cases ry
    obtain ⟨v, hv, rv⟩ := atI_rel rs hi
    exact .inl (.inr (.inl ⟨a, xs, i, v, rfl, rfl, hq, hv, q v rv⟩))
  | lsc a xs ds hq rs =>
    obtain ⟨i, rfl, hi⟩ := atD_int h
    cases ry
    obtain ⟨v, hv, rv⟩ := atI_rel rs hi
    exact .inl (.inl ⟨a, xs, i, v, rfl, rfl, hq.sq, hv, q v rv⟩)
  | str z =>
    have h2 : getS z e = some w := h
    cases ry with
    | int i =>
      have h3 : (if fit z.length = true then (atI z.cps.toList i).map fun c => D.str ⟨#[c]⟩ else none) = some w := h2
      by_cases qf : fit z.length = true
      · rw [if_pos qf] at h3
        cases qc : atI z.cps.toList i with
        | none => rw [qc] at h3; cases h3
        | some c =>
          rw [qc] at h3
          cases h3
          exact .inl (.inr (.inr ⟨z, i, c, rfl, rfl, fit_iff.mp qf, qc, q _ (.str _)⟩))
      · rw [if_neg qf] at h3; cases h3
    | _ => cases h2
  | loc l hl =>
    have h2 : getO e S[l]? = some w := h
    cases q0 : S[l]? with
    | none => rw [q0] at h2; cases h2
    | some ob =>
      rw [q0] at h2
      cases ob with
      | lst ds =>
        obtain ⟨_, xs, hx, rs⟩ := sr.atL q0
        obtain ⟨i, rfl, hi⟩ := atD_int h2
        cases ry
        obtain ⟨v, hv, rv⟩ := atI_rel rs hi
        exact .inl (.inl ⟨m l, xs, i, v, rfl, rfl, SqL.of hx, hv, q v rv⟩)
      | dct kvs =>
        obtain ⟨_, ks', hx, hk, rs⟩ := sr.atD q0
        have h3 : (match keyD e with
          | some k => valD kvs k
          | none => none) = some w := h2
        cases qk : keyD e with
        | none => rw [qk] at h3; cases h3
        | some k =>
          rw [qk] at h3
          obtain rfl := keyD_ok ry qk
          obtain ⟨v, hv, rv⟩ := (valD_rel (k := k) hk rs).1 w h3
          refine .inr ⟨m l, v, rfl, ?_, q v rv⟩
          rw [← hv]
          exact DGet.k hx
      | _ => cases h2
  | _ => cases h
theorem get_ok : S2 g (rIxA g.K) getD := fun m S H x y d e Q W sr rx ry h => by
  have h2 : PRx g m S H W (KD g Q) (optD (getQ d e S) S) := h
  cases z : getQ d e S with
  | none => rw [z] at h2; exact h2.elim
  | some w =>
    rw [z] at h2
    exact getQ_ok sr rx ry z fun v rv => h2.here sr v rv
theorem de_ix {k : Nat} (hK : X.K = g.K) (hr : Room k X.A) (ha : PE X a (tD g W fa)) (hb : PE X b (tD g W fb)) (hs : PlainIx b := by exact fun _ _ => rfl) : PE X (.Subscript a b pos) (tD g W (cOp getD fa fb)) := by
  refine PE.imp (pe_ix (r := rIxA g.K) ?_ ha hb hs) (op_sub2 get_ok)
  rw [← hK]
  exact ix_seq.or (ix_dict (hu_of hr))

/-! ### slices -/
def cPart (f : Option DE) : En → Mo (Option Int) := fun ρ => match f with
  | none => pure none
  | some f => do
    let x ← f ρ
    match x with
    | .int i => pure (some i)
    | _ => bad
def tDp (g : Gx) (W : WX) (f : En → Mo (Option Int)) : TO := fun σ H Q => ∃ m S ρ, SR g m H S ∧ ER g m S.length H σ ρ ∧ PRx g m S H (fun c d H' => W c d σ H') (fun i _ _ H' => Q i H') (f ρ S)
theorem PO.imp {e : Option Expr} {t t' : TO} (h : PO X e t) (i : ∀ σ H Q, t' σ H Q → t σ H Q) : PO X e t' := ⟨fun pins s σ H Q I q => h.run pins s σ H Q I (i σ H Q q)⟩
theorem dp_none : PO X none (tDp g W (cPart none)) := PO.imp po_none fun _ H _ ⟨m, _, _, sr, _, h⟩ => h m H Ev.refl sr
theorem dp_some (ha : PE X a (tD g W fa)) : PO X (some a) (tDp g W (cPart (some fa))) := PO.imp (po_some ha) fun σ H Q ⟨m, S, ρ, sr, er, h⟩ => tD.sub sr er h fun d m1 S1 H1 v s1 _ _ r1 h1 => by
  cases r1 with
  | int i => exact ⟨i, rfl, h1.here s1⟩
  | _ => exact h1.elim
def cutD (xs : List D) (lo hi : Option Int) : List D := (xs.drop (HT.sIx xs.length 0 lo)).take (HT.sIx xs.length xs.length hi - HT.sIx xs.length 0 lo)
theorem cut_rel {m : Nat → Addr} {n : Nat} {H : Hp} {vs : List V} {xs : List D} (r : VRs g m n H vs xs) (lo hi : Option Int) : VRs g m n H (cutV vs lo hi) (cutD xs lo hi) := by
  unfold cutV cutD
  rw [r.length]
  exact (r.drop _).take _
def slO (lo hi : Option Int) (S : Sto) : Option Ob → Rz D
  | some (.lst xs) => .ok (.loc S.length) (S ++ [.lst (cutD xs lo hi)])
  | _ => .no
def slD (lo hi : Option Int) : D → Mo D
  | .tup xs => pure (.tup (cutD xs lo hi))
  | .lsc xs => fun S => .ok (.loc S.length) (S ++ [.lst (cutD xs lo hi)])
  | .str z => fun S => if fit z.length = true then .ok (.str (cutS z lo hi)) S else .no
  | .loc l => fun S => slO lo hi S S[l]?
  | _ => bad
def cSl (f : DE) (lo hi : En → Mo (Option Int)) : DE := fun ρ => do
  let x ← f ρ; let l ← lo ρ; let h ← hi ρ; slD l h x
def rSlAll (K : PySem.W.Frag) : V → Option Int → Option Int → Hp → VK → Prop := fun x lo hi H Q => rSlA K x lo hi H Q ∨ rSlL K x lo hi H Q ∨ rSlS x lo hi H Q
theorem cut_whole {n k l : Nat} (h : HT.sIx n 0 none = 0) : True := trivial
theorem cutD_whole {xs : List D} {lo hi : Option Int} (h : HT.sIx xs.length 0 lo = 0 ∧ HT.sIx xs.length xs.length hi = xs.length) : cutD xs lo hi = xs := by
  unfold cutD
  rw [h.1, h.2, Nat.sub_zero, List.drop_zero, List.take_length]
theorem slD_ok {m : Nat → Addr} {S : Sto} {H : Hp} {x : V} {d : D} {lo hi : Option Int} {Q : VK} {W : XK} (sr : SR g m H S) (r : VR g m S.length H x d) (h : PRx g m S H W (KD g Q) (slD lo hi d S)) : rSlAll g.K x lo hi H Q := by
  cases r with
  | tup a xs ds hq rs =>
    have h2 : PRx g m S H W (KD g Q) (.ok (.tup (cutD ds lo hi)) S) := h
    refine .inl ⟨a, xs, rfl, hq, fun w => ?_, fun _ => tup_new sr (cut_rel rs lo hi) h2⟩
    rw [rs.length] at w
    rw [cutD_whole w] at h2
    exact h2.here sr _ (.tup a xs ds hq rs)
  | lsc a xs ds hq rs =>
    have h2 : PRx g m S H W (KD g Q) (.ok (.loc S.length) (S ++ [.lst (cutD ds lo hi)])) := h
    exact .inr (.inl ⟨a, xs, rfl, hq.sq, lst_new sr (cut_rel rs lo hi) h2⟩)
  | str z =>
    have h2 : PRx g m S H W (KD g Q) (if fit z.length = true then (Rz.ok (D.str (cutS z lo hi)) S : Rz D) else .no) := h
    by_cases qf : fit z.length = true
    · rw [if_pos qf] at h2
      exact .inr (.inr ⟨z, rfl, fit_iff.mp qf, h2.here sr _ (.str _)⟩)
    · rw [if_neg qf] at h2; exact h2.elim
  | loc l hl =>
    have h2 : PRx g m S H W (KD g Q) (slO lo hi S S[l]?) := h
    cases q0 : S[l]? with
    | none => rw [q0] at h2; exact h2.elim
    | some ob =>
      rw [q0] at h2
      cases ob with
      | lst ds =>
        obtain ⟨_, xs, hx, rs⟩ := sr.atL q0
        exact .inr (.inl ⟨m l, xs, rfl, SqL.of hx, lst_new sr (cut_rel rs lo hi) h2⟩)
      | _ => exact h2.elim
  | _ => exact h.elim
theorem de_slice {lo hi : Option Expr} {fl fh : En → Mo (Option Int)} {p2 : Pos} (hK : X.K = g.K) (ha : PE X a (tD g W fa)) (hl : PO X lo (tDp g W fl)) (hh : PO X hi (tDp g W fh)) : PE X (.Subscript a (.Slice lo hi none p2) pos) (tD g W (cSl fa fl fh)) := by
  refine PE.imp (pe_slice (r := rSlAll g.K) (by rw [← hK]; exact sl_tupA.or (sl_list.or sl_str)) ha hl hh) fun σ H Q ⟨m, S, ρ, sr, er, h⟩ => ?_
  refine tD.sub sr er h fun d m1 S1 H1 v s1 er1 _ r1 h1 => ?_
  refine ⟨m1, S1, ρ, s1, er1, h1.bind.mono fun l m2 S2 H2 e2 s2 h2 => ?_⟩
  exact ⟨m2, S2, ρ, s2, er1.ev e2, h2.bind.mono fun u m3 S3 H3 e3 s3 h3 => slD_ok s3 ((r1.ev e2).ev e3) h3⟩

/-! ### membership -/
def flatD : D → Bool
  | .non => true
  | .bl _ => true
  | .int _ => true
  | .str _ => true
  | _ => false
def eqF : D → D → Bool
  | .non, .non => true
  | .bl a, .bl b => a == b
  | .bl a, .int b => (if a then 1 else 0) == b
  | .int a, .bl b => a == (if b then 1 else 0)
  | .int a, .int b => a == b
  | .str a, .str b => a == b
  | _, _ => false
def inL (x : D) (xs : List D) : Option Bool := if (flatD x && xs.all flatD) = true then some (xs.any fun y => eqF y x) else none
/-- one text in another: by its signs where it is one sign -/
def inS (x z : Str) : Bool := match x.cps.toList with
  | [c] => decide (c ∈ z.cps.toList)
  | _ => !(Builtin.Str.occurrences z x 0 z.length 1).isEmpty
def inO (x : D) : Option Ob → Option Bool
  | some (.lst xs) => inL x xs
  | some (.dct kvs) => match keyD x with
    | some k => some (valD kvs k).isSome
    | none => none
  | _ => none
def inQ : D → D → Sto → Option Bool
  | x, .tup xs, _ => inL x xs
  | x, .lsc xs, _ => inL x xs
  | .str x, .str z, _ => some (inS x z)
  | x, .loc l, S => inO x S[l]?
  | _, _, _ => none
def inD (x y : D) : Mo D := fun S => optD ((inQ x y S).map D.bl) S
def ninD (x y : D) : Mo D := fun S => optD ((inQ x y S).map fun b => D.bl (!b)) S
theorem flat_rel {m : Nat → Addr} {n : Nat} {H : Hp} {x : V} {d : D} (r : VR g m n H x d) (h : flatD d = true) : flatV x = true := by
  cases r <;> first | rfl | cases h
theorem flats_rel {m : Nat → Addr} {n : Nat} {H : Hp} : ∀ {xs : List V} {ds : List D}, VRs g m n H xs ds → ds.all flatD = true → xs.all flatV = true
  | _, _, .nil, _ => rfl
  | _, _, .cons x d xs ds r rs, h => by
    rw [List.all_cons, Bool.and_eq_true] at h
    rw [List.all_cons, flat_rel r h.1, flats_rel rs h.2]
    rfl
theorem eqF_rel {m : Nat → Addr} {n : Nat} {H : Hp} {x y : V} {d e : D} (rx : VR g m n H x d) (ry : VR g m n H y e) (hx : flatD d = true) (hy : flatD e = true) : eqV x y = eqF d e := by
  cases rx <;> first | (cases hx; done) | skip
  all_goals (cases ry <;> first | rfl | (cases hy; done))
theorem inV_rel {m : Nat → Addr} {n : Nat} {H : Hp} {x : V} {d : D} (rx : VR g m n H x d) (hx : flatD d = true) : ∀ {xs : List V} {ds : List D}, VRs g m n H xs ds → ds.all flatD = true → inV x xs = ds.any fun y => eqF y d
  | _, _, .nil, _ => rfl
  | _, _, .cons y e xs ds r rs, h => by
    rw [List.all_cons, Bool.and_eq_true] at h
    have ih := inV_rel rx hx rs h.2
    unfold inV at ih ⊢
    rw [List.any_cons, List.any_cons, eqF_rel r rx h.1 hx, ih]
/-- the four kinds -/
def rInA (K : PySem.W.Frag) (neg : Bool) : R2 := fun x y H Q => rIn K neg x y H Q ∨ (∃ (c : Nat) (z : Str), x = .str ⟨#[c]⟩ ∧ y = .str z ∧ Q (.bl (if neg then !decide (c ∈ z.cps.toList) else decide (c ∈ z.cps.toList))) H) ∨
  (∃ i j, x = .str i ∧ y = .str j ∧ Q (.bl (if neg then !(!(Builtin.Str.occurrences j i 0 j.length 1).isEmpty) else !(Builtin.Str.occurrences j i 0 j.length 1).isEmpty)) H) ∨ ∃ a ov, y = .ref a ∧ DGet H a x ov ∧ Q (.bl (if neg then !ov.isSome else ov.isSome)) H
theorem op_inA {k : Nat} (hr : Room k X.A) : OpR X (compareOp .In) (rInA X.K false) := op_in_seq.or (op_in_sign.or (op_in_str.or fun pins s σ H x y v u Q I rx ry h => by
  obtain ⟨a, ov, rfl, dg, q⟩ := h
  obtain rfl : u = Value.ref a := ry
  exact d_in (hu_of hr) I dg rx fun s' I' => ⟨.bl ov.isSome, H, I', rfl, q⟩))
theorem op_ninA {k : Nat} (hr : Room k X.A) : OpR X (compareOp .NotIn) (rInA X.K true) := op_notIn_seq.or (op_notIn_sign.or (op_notin_str.or fun pins s σ H x y v u Q I rx ry h => by
  obtain ⟨a, ov, rfl, dg, q⟩ := h
  obtain rfl : u = Value.ref a := ry
  exact d_notIn (hu_of hr) I dg rx fun s' I' => ⟨.bl (!ov.isSome), H, I', rfl, q⟩))
theorem inL_ok {m : Nat → Addr} {n : Nat} {H : Hp} {x : V} {d : D} {p : Addr} {xs : List V} {ds : List D} {b neg : Bool} {Q : VK} (hq : SqL g.K H p xs ∨ SqT g.K H p xs) (rs : VRs g m n H xs ds) (rx : VR g m n H x d) (h : inL d ds = some b) (q : Q (.bl (if neg then !b else b)) H) : rInA g.K neg x (.ref p) H Q := by
  unfold inL at h
  by_cases z : (flatD d && ds.all flatD) = true
  · rw [if_pos z] at h
    cases h
    rw [Bool.and_eq_true] at z
    refine .inl ⟨p, xs, rfl, hq, flat_rel rx z.1, flats_rel rs z.2, ?_⟩
    rw [inV_rel rx z.1 rs z.2]
    exact q
  · rw [if_neg z] at h; cases h
theorem inQ_ok {m : Nat → Addr} {S : Sto} {H : Hp} {x y : V} {d e : D} {b neg : Bool} {Q : VK} (sr : SR g m H S) (rx : VR g m S.length H x d) (ry : VR g m S.length H y e) (h : inQ d e S = some b) (q : Q (.bl (if neg then !b else b)) H) : rInA g.K neg x y H Q := by
  cases ry with
  | tup a xs ds hq rs => exact inL_ok (.inr hq) rs rx (by cases d <;> exact h) q
  | lsc a xs ds hq rs => exact inL_ok (.inl hq.sq) rs rx (by cases d <;> exact h) q
  | str z =>
    cases rx with
    | str w =>
      have h2 : some (inS w z) = some b := h
      cases h2
      unfold inS at q
      cases hw : w.cps.toList with
      | nil => rw [hw] at q; exact .inr (.inr (.inl ⟨w, z, rfl, rfl, q⟩))
      | cons c r =>
        rw [hw] at q
        cases r with
        | nil =>
          have ew : w = ⟨#[c]⟩ := by
            cases w with
            | mk cs =>
              have z : cs = #[c] := Array.ext' (by simpa using hw)
              rw [z]
          subst ew
          exact .inr (.inl ⟨c, z, rfl, rfl, q⟩)
        | cons c2 r2 => exact .inr (.inr (.inl ⟨w, z, rfl, rfl, q⟩))
    | _ => cases h
  | loc l hl =>
    have h2 : inO d S[l]? = some b := by cases d <;> exact h
    cases q0 : S[l]? with
    | none => rw [q0] at h2; cases h2
    | some ob =>
      rw [q0] at h2
      cases ob with
      | lst ds =>
        obtain ⟨_, xs, hx, rs⟩ := sr.atL q0
        exact inL_ok (.inl (SqL.of hx)) rs rx h2 q
      | dct kvs =>
        obtain ⟨_, ks', hx, hk, rs⟩ := sr.atD q0
        have h3 : (match keyD d with
          | some k => some (valD kvs k).isSome
          | none => none) = some b := h2
        cases qk : keyD d with
        | none => rw [qk] at h3; cases h3
        | some k =>
          rw [qk] at h3
          cases h3
          obtain rfl := keyD_ok rx qk
          refine .inr (.inr (.inr ⟨m l, valV ks' k, rfl, DGet.k hx, ?_⟩))
          obtain ⟨i1, i2⟩ := valD_rel (k := k) hk rs
          have e : (valV ks' k).isSome = (valD kvs k).isSome := by
            cases z : valD kvs k with
            | none => rw [i2 z]; rfl
            | some w => obtain ⟨v, hv, _⟩ := i1 w z; rw [hv]; rfl
          rw [e]
          exact q
      | _ => cases h2
  | _ => cases d <;> cases h
theorem in_ok : S2 g (rInA g.K false) inD := fun m S H x y d e Q W sr rx ry h => by
  have h2 : PRx g m S H W (KD g Q) (optD ((inQ d e S).map D.bl) S) := h
  cases z : inQ d e S with
  | none => rw [z] at h2; exact h2.elim
  | some b => rw [z] at h2; exact inQ_ok (neg := false) sr rx ry z (h2.here sr _ (.bl _))
theorem nin_ok : S2 g (rInA g.K true) ninD := fun m S H x y d e Q W sr rx ry h => by
  have h2 : PRx g m S H W (KD g Q) (optD ((inQ d e S).map fun b => D.bl (!b)) S) := h
  cases z : inQ d e S with
  | none => rw [z] at h2; exact h2.elim
  | some b => rw [z] at h2; exact inQ_ok (neg := true) sr rx ry z (h2.here sr _ (.bl _))
end
end Sm
end
section
/-! Sm, part H: dicts made and written, built-in functions, methods of lists. -/
namespace Sm
open PySem PySem.Spec PyProof.Rows L2

section
variable {X : Cx} {g : Gx} {W : WX} {a b c e o : Expr} {es : List Expr} {fa fb fc fo fv : DE} {fs : En → Mo (List D)} {pos : Pos}
/-! ### writing into a dict, a list -/
def putD (kvs : List (Key × D)) (k : Key) (v : D) : List (Key × D) :=
  if (kvs.any fun kv => decide (kv.1 = k)) = true then kvs.map (fun kv => if kv.1 = k then (kv.1, v) else kv) else kvs ++ [(k, v)]
theorem any_rel {k : Key} : ∀ {ks' : List (Key × V)} {ks : List (Key × D)}, ks'.map (·.1) = ks.map (·.1) → (ks'.any fun kv => decide (kv.1 = k)) = (ks.any fun kv => decide (kv.1 = k))
  | [], [], _ => rfl
  | (a, x) :: r', (b, y) :: r, hk => by
    have hk' : a = b ∧ r'.map (·.1) = r.map (·.1) := by simpa using hk
    obtain ⟨rfl, hk2⟩ := hk'
    rw [List.any_cons, List.any_cons, any_rel hk2]
  | [], _ :: _, hk => by simp at hk
  | _ :: _, [], hk => by simp at hk
theorem mapk_rel {m : Nat → Addr} {n : Nat} {H : Hp} {k : Key} {v : V} {d : D} (rv : VR g m n H v d) : ∀ {ks' : List (Key × V)} {ks : List (Key × D)}, ks'.map (·.1) = ks.map (·.1) → VRs g m n H (ks'.map (·.2)) (ks.map (·.2)) →
    (ks'.map fun kv => if kv.1 = k then (kv.1, v) else kv).map (·.1) = (ks.map fun kv => if kv.1 = k then (kv.1, d) else kv).map (·.1) ∧
    VRs g m n H ((ks'.map fun kv => if kv.1 = k then (kv.1, v) else kv).map (·.2)) ((ks.map fun kv => if kv.1 = k then (kv.1, d) else kv).map (·.2))
  | [], [], _, _ => ⟨rfl, .nil⟩
  | (a, x) :: r', (b, y) :: r, hk, hv => by
    have hk' : a = b ∧ r'.map (·.1) = r.map (·.1) := by simpa using hk
    obtain ⟨rfl, hk2⟩ := hk'
    cases hv with
    | cons _ _ _ _ r1 rs =>
      obtain ⟨i1, i2⟩ := mapk_rel rv hk2 rs
      simp only [List.map_cons]
      by_cases q : a = k
      · rw [if_pos q, if_pos q]
        exact ⟨by rw [i1], .cons _ _ _ _ rv i2⟩
      · rw [if_neg q, if_neg q]
        exact ⟨by rw [i1], .cons _ _ _ _ r1 i2⟩
  | [], _ :: _, hk, _ => by simp at hk
  | _ :: _, [], hk, _ => by simp at hk
theorem putD_rel {m : Nat → Addr} {n : Nat} {H : Hp} {k : Key} {v : V} {d : D} (rv : VR g m n H v d) {ks' : List (Key × V)} {ks : List (Key × D)} (hk : ks'.map (·.1) = ks.map (·.1)) (hv : VRs g m n H (ks'.map (·.2)) (ks.map (·.2))) :
    (putK ks' k v).map (·.1) = (putD ks k d).map (·.1) ∧ VRs g m n H ((putK ks' k v).map (·.2)) ((putD ks k d).map (·.2)) := by
  unfold putK putD
  rw [any_rel hk]
  by_cases q : (ks.any fun kv => decide (kv.1 = k)) = true
  · rw [if_pos q, if_pos q]
    exact mapk_rel rv hk hv
  · rw [if_neg q, if_neg q, List.map_append, List.map_append, List.map_append, List.map_append, hk]
    exact ⟨rfl, hv.append (.cons _ _ _ _ rv .nil)⟩
/-- o[i] = v -/
def stO (i v : D) (l : Nat) (S : Sto) : Option Ob → Option Sto
  | some (.dct kvs) => match keyD i with
    | some k => if fit (kvs.length + 1) = true then some (S.set l (.dct (putD kvs k v))) else none
    | none => none
  | some (.lst xs) => match i with
    | .int j => (ixN xs.length j).map fun j => S.set l (.lst (xs.set j v))
    | _ => none
  | _ => none
def stQ : D → D → D → Sto → Option Sto
  | .loc l, i, v, S => stO i v l S S[l]?
  | _, _, _, _ => none
def rStA : TSet := fun o i v H Q => (∃ a H', o = .ref a ∧ DPut H a i v H' ∧ Q H') ∨ ∃ (p : Addr) (ys : List V) (j : Int) (k : Nat), o = .ref p ∧ i = .int j ∧ H p = some (.lst ys) ∧ ixN ys.length j = some k ∧ Q (upd H p (.lst (ys.set k v)))
theorem stQ_ok {m : Nat → Addr} {S S' : Sto} {H : Hp} {x y z : V} {d i v : D} {Q : Hp → Prop} (sr : SR g m H S) (rx : VR g m S.length H x d) (ry : VR g m S.length H y i) (rz : VR g m S.length H z v) (h : stQ d i v S = some S')
    (q : ∀ H', Ev g m S.length H m S'.length H' → SR g m H' S' → Q H') : rStA x y z H Q := by
  cases rx with
  | loc l hl =>
    have h2 : stO i v l S S[l]? = some S' := h
    cases q0 : S[l]? with
    | none => rw [q0] at h2; cases h2
    | some ob =>
      rw [q0] at h2
      cases ob with
      | lst ds =>
        obtain ⟨hl, xs, hx, rs⟩ := sr.atL q0
        cases ry with
        | int j =>
          have h3 : (ixN ds.length j).map (fun j => S.set l (.lst (ds.set j v))) = some S' := h2
          cases qj : ixN ds.length j with
          | none => rw [qj] at h3; cases h3
          | some k =>
            rw [qj] at h3
            cases h3
            have ew : Ev g m S.length H m S.length (upd H (m l) (.lst (xs.set k z))) := Ev.wr (sr.canw hl)
            refine .inr ⟨m l, xs, j, k, rfl, rfl, hx, by rw [rs.length]; exact qj, q _ (by rw [List.length_set]; exact ew) (sr.wr hl ⟨_, upd_same, ?_⟩)⟩
            exact (rs.set k rz).ev ew
        | _ => cases h2
      | dct kvs =>
        obtain ⟨hl, ks', hx, hk, rs⟩ := sr.atD q0
        have h3 : (match keyD i with
          | some k => if fit (kvs.length + 1) = true then some (S.set l (.dct (putD kvs k v))) else none
          | none => none) = some S' := h2
        cases qk : keyD i with
        | none => rw [qk] at h3; cases h3
        | some k =>
          rw [qk] at h3
          dsimp only at h3
          by_cases qf : fit (kvs.length + 1) = true
          · rw [if_pos qf] at h3
            cases h3
            obtain rfl := keyD_ok ry qk
            have hlen : ks'.length = kvs.length := by
              have := congrArg List.length hk
              simpa using this
            have ew : Ev g m S.length H m S.length (upd H (m l) (.dK (putK ks' k z))) := Ev.wr (sr.canw hl)
            have z1 := fit_iff.mp qf
            obtain ⟨p1, p2⟩ := putD_rel (k := k) rz hk rs
            refine .inl ⟨m l, _, rfl, DPut.k hx (by rw [hlen]; omega), q _ (by rw [List.length_set]; exact ew) (sr.wr hl ⟨_, upd_same, p1, p2.ev ew⟩)⟩
          · rw [if_neg qf] at h3; cases h3
      | _ => cases h2
  | _ => cases h
theorem set_A {k : Nat} (hr : Room k X.A) : PSet X rStA := by
  intro pins s σ H o i v ov iv u Q I ro ri rv h
  rcases h with ⟨a, H', rfl, dp, q⟩ | ⟨p, ys, j, k, rfl, rfl, hp, hk, q⟩
  · obtain rfl : ov = Value.ref a := ro
    exact d_setItem (hu_of hr) I dp ri rv fun s' I' => ⟨H', I', q⟩
  · exact set_list pins s σ H _ _ v ov iv u Q I ro ri rv ⟨p, ys, j, k, rfl, rfl, hp, hk, q⟩
def cSt (fo fi fv : DE) : DS := fun ρ S => (fv ρ S).toF ρ fun v S1 => (fo ρ S1).toF ρ fun o S2 => (fi ρ S2).toF ρ fun i S3 => match stQ o i v S3 with
  | some S4 => .nx ρ S4
  | none => .no
theorem ds_st {k : Nat} {i value : Expr} {fi : DE} {pos' : Pos} (hr : Room k X.A) (ho : PE X o (tD g W fo)) (hi : PE X i (tD g W fi)) (hv : PE X value (tD g W fv))
    (hs : swapsWithSole [.Subscript o i pos'] value pos.line X.env = pure false := by rfl) (hw : swappedStores [.Subscript o i pos'] value X.env = pure none := by rfl) (h1 : (assignEach [.Subscript o i pos'] X.env).map (·.2) = [assign (.Subscript o i pos') X.env] := by rfl)
    (hasg : ∀ v, assign (.Subscript o i pos') X.env v = (do
      let ov ← holding [v] (eval o X.env)
      let iv ← holding [v, ov] (eval i X.env)
      standAt pos'
      holding [v, ov, iv] (setItem ov iv v)
      release [v, ov, iv] []) := by intro _; rfl) : PS X (.Assign [.Subscript o i pos'] value pos) (tS g W (cSt fo fi fv)) :=
  PS.imp (ps_asg hv (pg_sub ho hi (set_A hr) hasg) hs hw h1) fun E σ H ⟨m, S, ρ, sr, er, h⟩ => by
    refine tD.subF sr er h fun v m1 S1 H1 x s1 er1 _ r1 h1 => tD.subF s1 er1 h1 fun o m2 S2 H2 y s2 er2 e2 r2 h2 => tD.subF s2 er2 h2 fun i m3 S3 H3 z s3 er3 e3 r3 h3 => ?_
    cases q : stQ o i v S3 with
    | none => rw [q] at h3; exact h3.elim
    | some S4 =>
      rw [q] at h3
      exact stQ_ok s3 (r2.ev e3) r3 ((r1.ev e2).ev e3) q fun H' e' s' => h3 _ m3 _ e' s' (er3.ev e')

/-! ### displays of dicts -/
def cPairs : List (DE × DE) → En → Mo (List (D × D))
  | [] => fun _ => pure []
  | (fk, fv) :: r => fun ρ => do
    let k ← fk ρ; let v ← fv ρ; let ps ← cPairs r ρ; pure ((k, v) :: ps)
/-- keys and values as the display wants them -/
def asKvs : List (D × D) → Option (List (Key × D))
  | [] => some []
  | (k, v) :: r => match keyD k, asKvs r with
    | some k, some r => some ((k, v) :: r)
    | _, _ => none
def mergeD (kvs more : List (Key × D)) : List (Key × D) := more.foldl (fun acc kv => putD acc kv.1 kv.2) kvs
@[irreducible] def few15 (n : Nat) : Bool := decide (n ≤ 15)
theorem few15_iff {n : Nat} : few15 n = true ↔ n ≤ 15 := by unfold few15; exact decide_eq_true_iff
def dispF (n : Nat) (ps : List (D × D)) (S : Sto) : Rz D := match asKvs ps, S[n]? with
  | some kvs, some (.dct []) => if few15 kvs.length = true then .ok (.loc n) (S.set n (.dct (mergeD [] kvs))) else .no
  | _, _ => .no
def cDict (fs : List (DE × DE)) : DE := fun ρ S => (cPairs fs ρ (S ++ [.dct []])).andThen fun ps S' => dispF S.length ps S'
inductive VPs (g : Gx) (m : Nat → Addr) (n : Nat) (H : Hp) : List (V × V) → List (D × D) → Prop
  | nil : VPs g m n H [] []
  | cons (x y : V) (d e : D) (r : List (V × V)) (q : List (D × D)) : VR g m n H x d → VR g m n H y e → VPs g m n H r q → VPs g m n H ((x, y) :: r) ((d, e) :: q)
theorem pairs_sub : ∀ {fs : List (DE × DE)} {σ : L2.St} {H : Hp} {m : Nat → Addr} {S : Sto} {ρ : En} {Q : List (V × V) → Hp → Prop}, SR g m H S → ER g m S.length H σ ρ →
    PRx g m S H (fun c d H' => W c d σ H') (fun ps m1 S1 H1 => ∀ vs, VPs g m1 S1.length H1 vs ps → Q vs H1) (cPairs fs ρ S) → tPairs (fs.map fun p => (tD g W p.1, tD g W p.2)) σ H Q
  | [], σ, H, m, S, ρ, Q, sr, er, h => h m H Ev.refl sr _ .nil
  | (fk, fv) :: r, σ, H, m, S, ρ, Q, sr, er, h => by
    refine tD.sub sr er h fun k m1 S1 H1 x s1 er1 _ r1 h1 => tD.sub s1 er1 h1 fun v m2 S2 H2 y s2 er2 e2 r2 h2 => ?_
    refine pairs_sub (fs := r) s2 er2 (h2.bind.mono fun ps m3 S3 H3 e3 s3 h3 vs rvs => ?_)
    exact h3 m3 H3 Ev.refl s3 _ (.cons _ _ _ _ _ _ ((r1.ev e2).ev e3) (r2.ev e3) rvs)
theorem asKvs_ok {m : Nat → Addr} {n : Nat} {H : Hp} : ∀ {ps : List (D × D)} {vs : List (V × V)} {kvs : List (Key × D)}, VPs g m n H vs ps → asKvs ps = some kvs →
    ∃ kvs' : List (Key × V), vs = kvs'.map (fun kv => (kV kv.1, kv.2)) ∧ kvs'.map (·.1) = kvs.map (·.1) ∧ VRs g m n H (kvs'.map (·.2)) (kvs.map (·.2))
  | _, _, _, .nil, h => by cases h; exact ⟨[], rfl, rfl, .nil⟩
  | _, _, _, .cons x y d e r q rx ry rs, h => by
    unfold asKvs at h
    cases q1 : keyD d with
    | none => rw [q1] at h; cases h
    | some k =>
      rw [q1] at h
      cases q2 : asKvs q with
      | none => rw [q2] at h; cases h
      | some kr =>
        rw [q2] at h
        cases h
        obtain ⟨kr', a1, a2, a3⟩ := asKvs_ok rs q2
        obtain rfl := keyD_ok rx q1
        exact ⟨(k, y) :: kr', by rw [a1]; rfl, by simp [a2], .cons _ _ _ _ ry a3⟩
theorem merge_rel {m : Nat → Addr} {n : Nat} {H : Hp} : ∀ {more' : List (Key × V)} {more : List (Key × D)} {ks' : List (Key × V)} {ks : List (Key × D)}, more'.map (·.1) = more.map (·.1) → VRs g m n H (more'.map (·.2)) (more.map (·.2)) → ks'.map (·.1) = ks.map (·.1) → VRs g m n H (ks'.map (·.2)) (ks.map (·.2)) →
    (mergeK ks' more').map (·.1) = (mergeD ks more).map (·.1) ∧ VRs g m n H ((mergeK ks' more').map (·.2)) ((mergeD ks more).map (·.2))
  | [], [], _, _, _, _, h1, h2 => ⟨h1, h2⟩
  | (a, x) :: r', (b, y) :: r, ks', ks, hk, hv, h1, h2 => by
    have hk' : a = b ∧ r'.map (·.1) = r.map (·.1) := by simpa using hk
    obtain ⟨rfl, hk2⟩ := hk'
    cases hv with
    | cons _ _ _ _ r1 rs =>
      obtain ⟨p1, p2⟩ := putD_rel (k := a) r1 h1 h2
      exact merge_rel (more' := r') (more := r) (ks' := putK ks' a x) (ks := putD ks a y) hk2 rs p1 p2
  | [], _ :: _, _, _, hk, _, _, _ => by simp at hk
  | _ :: _, [], _, _, hk, _, _, _ => by simp at hk
theorem de_dict {keys : List (Option Expr)} {values : List Expr} {fs : List (DE × DE)} (h : PPs X pos keys values (fs.map fun p => (tD g W p.1, tD g W p.2))) (hall : keys.all (·.isSome) = true := by rfl) (hl : keys.length = values.length := by rfl) (h0 : keys ≠ [] := by exact fun z => nomatch z)
    (h15 : keys.length ≤ 15 := by decide) : PE X (.Dict keys values pos) (tD g W (cDict fs)) :=
  PE.imp (pe_disp h hall hl h0 h15) fun σ H Q ⟨m, S, ρ, sr, er, h⟩ p hp => by
    have h : PRx g m S H (fun c d H' => W c d σ H') (KD g Q) ((cPairs fs ρ (S ++ [.dct []])).andThen fun ps S' => dispF S.length ps S') := h
    have e1 : Ev g m S.length H (ext m S.length p) (S.length + 1) (upd H p (.dK [])) := Ev.ext (Ev.new hp)
    have s1 : SR g (ext m S.length p) (upd H p (.dK [])) (S ++ [.dct []]) := sr.alloc hp ⟨[], upd_same, rfl, .nil⟩
    have lA : (S ++ [Ob.dct []]).length = S.length + 1 := by rw [List.length_append, List.length_singleton]
    have h2 := (PRx.ev (m' := ext m S.length p) (S' := S ++ [Ob.dct []]) (by rw [lA]; exact e1) h).bind
    refine pairs_sub s1 (by rw [lA]; exact er.ev e1) (h2.mono fun ps m3 S3 H3 e3 s3 h3 vs rvs => ?_)
    have lt : S.length < (S ++ [Ob.dct []]).length := by rw [lA]; exact Nat.lt_succ_self _
    have em : m3 S.length = p := by rw [e3.ag _ lt, ext_new]
    unfold dispF at h3
    cases q1 : asKvs ps with
    | none => rw [q1] at h3; exact h3.elim
    | some kvs =>
      rw [q1] at h3
      cases q2 : S3[S.length]? with
      | none => rw [q2] at h3; exact h3.elim
      | some ob =>
        rw [q2] at h3
        cases ob with
        | dct ks =>
          cases ks with
          | cons _ _ => exact h3.elim
          | nil =>
            dsimp only at h3
            by_cases qf : few15 kvs.length = true
            · rw [if_pos qf] at h3
              obtain ⟨hl, ks', hx, hk, _⟩ := s3.atD q2
              have hk0 : ks' = [] := by simpa using hk
              subst hk0
              obtain ⟨kvs', a1, a2, a3⟩ := asKvs_ok rvs q1
              have hlen : kvs'.length = kvs.length := by
                have := congrArg List.length a2
                simpa using this
              obtain ⟨b1, b2⟩ := merge_rel (ks' := []) (ks := []) a2 a3 rfl .nil
              rw [em] at hx
              refine ⟨hx, kvs', a1, by rw [hlen]; exact few15_iff.mp qf, ?_⟩
              have ew : Ev g m3 S3.length H3 m3 S3.length (upd H3 (m3 S.length) (.dK (mergeK [] kvs'))) := Ev.wr (s3.canw hl)
              have sw := s3.wr (u := .dK (mergeK [] kvs')) (o := .dct (mergeD [] kvs)) hl ⟨_, upd_same, b1, b2.ev ew⟩
              have q9 := h3 m3 _ (by rw [List.length_set]; exact ew) sw (.ref (m3 S.length)) (.loc _ (by rw [List.length_set]; exact hl))
              rw [em] at q9
              exact q9
            · rw [if_neg qf] at h3; exact h3.elim
        | _ => exact h3.elim
def newDct : Mo D := fun S => .ok (.loc S.length) (S ++ [.dct []])
theorem de_dict0 : PE X (.Dict [] [] pos) (tD g W fun _ => newDct) := PE.imp pe_dnewK fun _ _ _ ⟨_, _, _, sr, _, h⟩ => dct_new sr rfl .nil h
theorem dps_nil : PPs X pos [] [] (([] : List (DE × DE)).map fun p => (tD g W p.1, tD g W p.2)) := pps_nil
theorem dps_cons {k v : Expr} {fk fv : DE} {ks : List (Option Expr)} {vs : List Expr} {fs : List (DE × DE)} (hk : PE X k (tD g W fk)) (hv : PE X v (tD g W fv)) (hr : PPs X pos ks vs (fs.map fun p => (tD g W p.1, tD g W p.2))) :
    PPs X pos (some k :: ks) (v :: vs) (((fk, fv) :: fs).map fun p => (tD g W p.1, tD g W p.2)) := pps_cons hk hv hr

/-! ### built-in functions -/
theorem CallR.or {f : Value} {r r' : List V → Hp → VK → Prop} (h : CallR X f r) (h' : CallR X f r') : CallR X f (fun xs H Q => r xs H Q ∨ r' xs H Q) := by
  intro pins s σ H xs us Q I rx q
  rcases q with q | q
  · exact h pins s σ H xs us Q I rx q
  · exact h' pins s σ H xs us Q I rx q
def lenO : Option Ob → Option D
  | some (.lst xs) => some (.int xs.length)
  | some (.dct kvs) => some (.int kvs.length)
  | _ => none
def lenQ : D → Sto → Option D
  | .tup xs, _ => some (.int xs.length)
  | .lsc xs, _ => some (.int xs.length)
  | .str z, _ => if fit z.length = true then some (.int z.length) else none
  | .loc l, S => lenO S[l]?
  | _, _ => none
def lenD (d : D) : Mo D := fun S => optD (lenQ d S) S
theorem len_ok : SC g (fun xs H Q => (∃ x n, xs = [x] ∧ LenV g.K x H n ∧ Q (.int n) H) ∨ ∃ a kvs, xs = [V.ref a] ∧ H a = some (.dK kvs) ∧ Q (.int kvs.length) H) (ar1 lenD) := SC.one fun m S H x d Q W sr rx h => by
  have h2 : PRx g m S H W (KD g Q) (optD (lenQ d S) S) := h
  cases rx with
  | tup a xs ds hq rs => exact .inl ⟨_, ds.length, rfl, .inr ⟨xs, hq, rs.length.symm⟩, h2.here sr _ (.int _)⟩
  | lsc a xs ds hq rs => exact .inl ⟨_, ds.length, rfl, .inl ⟨xs, hq.sq, rs.length.symm⟩, h2.here sr _ (.int _)⟩
  | str z =>
    have h3 : PRx g m S H W (KD g Q) (optD (if fit z.length = true then some (.int z.length) else none) S) := h2
    by_cases qf : fit z.length = true
    · rw [if_pos qf] at h3
      exact .inl ⟨_, z.length, rfl, ⟨fit_iff.mp qf, rfl⟩, h3.here sr _ (.int _)⟩
    · rw [if_neg qf] at h3; exact h3.elim
  | loc l hl =>
    have h3 : PRx g m S H W (KD g Q) (optD (lenO S[l]?) S) := h2
    cases q0 : S[l]? with
    | none => rw [q0] at h3; exact h3.elim
    | some ob =>
      rw [q0] at h3
      cases ob with
      | lst ds =>
        obtain ⟨_, xs, hx, rs⟩ := sr.atL q0
        exact .inl ⟨_, ds.length, rfl, .inl ⟨xs, SqL.of hx, rs.length.symm⟩, h3.here sr _ (.int _)⟩
      | dct kvs =>
        obtain ⟨_, ks', hx, hk, rs⟩ := sr.atD q0
        have hlen : ks'.length = kvs.length := by
          have := congrArg List.length hk
          simpa using this
        exact .inr ⟨_, ks', rfl, hx, by rw [hlen]; exact h3.here sr _ (.int _)⟩
      | _ => exact h3.elim
  | _ => exact h2.elim
theorem de_len {p : Pos} (hK : X.K = g.K) (hm : X.mg "len" = none) (ha : PA X (e :: es) (tDs g W fs)) (hg : Gl X "len" := by rfl) (he : starEach (e :: es) X.env = (false, eval e X.env) :: starEach es X.env := by rfl) (hpl : (backTo pos (starEach es X.env)).any (·.1) = false := by rfl) :
    PE X (.Call (.Name "len" p) (e :: es) [] pos) (tD g W (cCall (ar1 lenD) fs)) := de_callB (by rw [← hK]; exact call_len.or call_lenD) len_ok hm PySem.boot_len ha hg he hpl
def intD : D → Mo D
  | .int i => pure (.int i)
  | .bl b => pure (.int (if b then 1 else 0))
  | _ => bad
theorem int_ok : SC g (fun xs H Q => (∃ i, xs = [.int i] ∧ Q (.int i) H) ∨ ∃ k, xs = [.bl k] ∧ Q (.int (if k then 1 else 0)) H) (ar1 intD) := SC.one fun m S H x d Q W sr rx h => by
  cases rx with
  | int i => exact .inl ⟨i, rfl, h.here sr _ (.int _)⟩
  | bl k => exact .inr ⟨k, rfl, h.here sr _ (.int _)⟩
  | _ => exact h.elim
def absD : D → Mo D
  | .int i => pure (.int (if i < 0 then -i else i))
  | _ => bad
theorem abs_ok : SC g (fun xs H Q => ∃ i, xs = [.int i] ∧ Q (.int (if i < 0 then -i else i)) H) (ar1 absD) := SC.one fun m S H x d Q W sr rx h => by
  cases rx with
  | int i => exact ⟨i, rfl, h.here sr _ (.int _)⟩
  | _ => exact h.elim
def maxD : D → D → Mo D
  | .int i, .int j => pure (.int (if j > i then j else i))
  | _, _ => bad
def minD : D → D → Mo D
  | .int i, .int j => pure (.int (if j < i then j else i))
  | _, _ => bad
theorem max_ok : SC g (fun xs H Q => ∃ i j, xs = [.int i, .int j] ∧ Q (.int (if j > i then j else i)) H) (ar2 maxD) := SC.two fun m S H x y d e Q W sr rx ry h => by
  cases rx with
  | int i => cases ry with
    | int j => exact ⟨i, j, rfl, h.here sr _ (.int _)⟩
    | _ => exact h.elim
  | _ => exact h.elim
theorem min_ok : SC g (fun xs H Q => ∃ i j, xs = [.int i, .int j] ∧ Q (.int (if j < i then j else i)) H) (ar2 minD) := SC.two fun m S H x y d e Q W sr rx ry h => by
  cases rx with
  | int i => cases ry with
    | int j => exact ⟨i, j, rfl, h.here sr _ (.int _)⟩
    | _ => exact h.elim
  | _ => exact h.elim

/-! ### isinstance -/
/-- a type: a built-in one by its name, an own class by its number -/
abbrev TK := Sum String Nat
def tv (g : Gx) : TK → Value
  | .inl n => .type n
  | .inr c => .ref (g.ct c)
def tyO : Option Ob → Option TK
  | some (.lst _) => some (.inl "list")
  | some (.dct _) => some (.inl "dict")
  | some (.ins c _) => some (.inr c)
  | none => none
def tyQ : D → Sto → Option TK
  | .non, _ => some (.inl "NoneType")
  | .bl _, _ => some (.inl "bool")
  | .int _, _ => some (.inl "int")
  | .str _, _ => some (.inl "str")
  | .tup _, _ => some (.inl "tuple")
  | .loc l, S => tyO S[l]?
  | _, _ => none
/-- a class as an argument -/
def clQ : D → Option TK
  | .ty n => some (.inl n)
  | .cls c => some (.inr c)
  | _ => none
structure IsTab (g : Gx) (J : TK → TK → Option Bool) : Prop where
  kit : ∀ t c b, J t c = some b → PySem.W.kitOne g.K (tv g t) (tv g c) = some b
  own : ∀ c t b, J (.inr c) t = some b → Cls g.K (g.ct c) ∧ PySem.W.findIn g.K (.ref (g.ct c)) "__class__" = some (some (.builtin "object.__class__")) ∧ PySem.W.specialIn g.K (.builtin "object.__class__") "__get__" = some (some (.builtin "getset_descriptor.__get__")) ∧
    PySem.W.takesIn g.K (.builtin "object.__class__") = some true ∧ PySem.W.mroIn g.K (g.ct c) (.type "object") = some true
def isiQ (J : TK → TK → Option Bool) (x c : D) (S : Sto) : Option Bool := match tyQ x S, clQ c with
  | some t, some k => J t k
  | _, _ => none
def isiD (J : TK → TK → Option Bool) (x c : D) : Mo D := fun S => optD ((isiQ J x c S).map D.bl) S
theorem isi_ok {J : TK → TK → Option Bool} (hJ : IsTab g J) : SC g (rIsi g.K) (ar2 (isiD J)) := SC.two fun m S H x y d e Q W sr rx ry h => by
  have h2 : PRx g m S H W (KD g Q) (optD ((isiQ J d e S).map D.bl) S) := h
  cases z : isiQ J d e S with
  | none => rw [z] at h2; exact h2.elim
  | some b =>
    rw [z] at h2
    unfold isiQ at z
    cases q1 : tyQ d S with
    | none => rw [q1] at z; cases z
    | some t =>
      rw [q1] at z
      cases q2 : clQ e with
      | none => rw [q2] at z; cases z
      | some k =>
        rw [q2] at z
        dsimp only at z
        have kit := hJ.kit t k b z
        have kc : ClsV y (tv g k) := by
          cases ry <;> first | (cases q2; exact .ty _) | (cases q2; exact .own _) | cases q2
        have kt : TyX g.K H x (tv g t) := by
          cases rx with
          | non => cases q1; exact .base .non
          | bl _ => cases q1; exact .base (.bl _)
          | int _ => cases q1; exact .base (.int _)
          | str _ => cases q1; exact .base (.str _)
          | tup a xs ds hq rs =>
            cases q1
            rcases hq with (hq | ⟨o, hq⟩) | ⟨o, its, n, hk, hc, _⟩
            · exact .base (.tup hq)
            · exact .fTuple hq
            · exact .kTuple hk hc
          | loc l hl =>
            have q3 : tyO S[l]? = some t := q1
            cases q0 : S[l]? with
            | none => rw [q0] at q3; cases q3
            | some ob =>
              rw [q0] at q3
              cases ob with
              | lst ds => cases q3; obtain ⟨_, xs, hx, _⟩ := sr.atL q0; exact .base (.lst hx)
              | dct kvs => cases q3; obtain ⟨_, xs, hx, _⟩ := sr.atD q0; exact .base (.dK hx)
              | ins c fs =>
                cases q3
                obtain ⟨_, dx, fs', hx, _⟩ := sr.atI q0
                obtain ⟨o1, o2, o3, o4, o5⟩ := hJ.own c k b z
                exact .base (.ins hx o1 o2 o3 o4 o5)
          | _ => cases q1
        exact ⟨x, y, tv g t, tv g k, b, rfl, kc, kt, kit, h2.here sr _ (.bl _)⟩
theorem de_isi {J : TK → TK → Option Bool} {p : Pos} (hJ : IsTab g J) (hK : X.K = g.K) (hm : X.mg "isinstance" = none) (hv : bootBuiltins "isinstance" = some (.builtin "isinstance")) (ha : PA X (e :: es) (tDs g W fs)) (hg : Gl X "isinstance" := by rfl) (he : starEach (e :: es) X.env = (false, eval e X.env) :: starEach es X.env := by rfl) (hpl : (backTo pos (starEach es X.env)).any (·.1) = false := by rfl) :
    PE X (.Call (.Name "isinstance" p) (e :: es) [] pos) (tD g W (cCall (ar2 (isiD J)) fs)) := de_callB (by rw [← hK]; exact call_isi) (isi_ok hJ) hm hv ha hg he hpl
/-- an own class's name -/
theorem de_cls {x : Str} (c : Nat) (hm : X.mg x = some (.ref (g.ct c))) (hg : Gl X x := by rfl) (hd : (x == ("__debug__" : Str)) = false := by decide) : PE X (.Name x pos) (tD g W (cC (.cls c))) := de_glob hm ⟨.ref (g.ct c), rfl, fun _ _ _ => .cls c⟩ hg hd

/-! ### methods of lists -/
def appO (y : D) (l : Nat) (S : Sto) : Option Ob → Option Sto
  | some (.lst xs) => if fit (xs.length + 1) = true then some (S.set l (.lst (xs ++ [y]))) else none
  | _ => none
def appQ : D → D → Sto → Option Sto
  | .loc l, y, S => appO y l S S[l]?
  | _, _, _ => none
/-- a method that changes the store and gives None -/
def unitQ (o : Option Sto) : Rz D := match o with
  | some S' => .ok .non S'
  | none => .no
def appD (x y : D) : Mo D := fun S => unitQ (appQ x y S)
theorem app_ok : SM g rAppend (am1 appD) := SM.one fun m S H x y d e Q W sr rx ry h => by
  have h2 : PRx g m S H W (KD g Q) (unitQ (appQ d e S)) := h
  cases z : appQ d e S with
  | none => rw [z] at h2; exact h2.elim
  | some S' =>
    rw [z] at h2
    cases rx with
    | loc l hl =>
      have z2 : appO e l S S[l]? = some S' := z
      cases q0 : S[l]? with
      | none => rw [q0] at z2; cases z2
      | some ob =>
        rw [q0] at z2
        cases ob with
        | lst ds =>
          have z3 : (if fit (ds.length + 1) = true then some (S.set l (.lst (ds ++ [e]))) else none) = some S' := z2
          by_cases qf : fit (ds.length + 1) = true
          · rw [if_pos qf] at z3
            cases z3
            obtain ⟨hl, xs, hx, rs⟩ := sr.atL q0
            have zf := fit_iff.mp qf
            have ew : Ev g m S.length H m S.length (upd H (m l) (.lst (xs ++ [y]))) := Ev.wr (sr.canw hl)
            refine ⟨m l, xs, y, rfl, rfl, hx, by rw [rs.length]; omega, h2 m _ (by rw [List.length_set]; exact ew) (sr.wr hl ⟨_, upd_same, ?_⟩) _ .non⟩
            exact (rs.append (.cons _ _ _ _ ry .nil)).ev ew
          · rw [if_neg qf] at z3; cases z3
        | _ => cases z2
    | _ => cases z
end
end Sm
end
section
/-! Sm, part I: the glue: what the top has made, the end of a law. -/
namespace Sm
open PySem PySem.Spec PyProof.Rows L2

/-- addresses by number -/
def pick (l : List Addr) : Nat → Addr := fun i => l.getD i 0
/-- a def of the module -/
structure FnT (K : PySem.W.Frag) (mg : Str → Option Value) (nm : Str) (st : Stmt) (ps : List Str) : Type where
  fn : Addr
  fd : FuncData
  F : L2.Fun K nm nm st fn fd
  b : Binds K fd ps []
  m : mg nm = some (.ref fn)
  k : PySem.W.keepIn K (.ref fn) = true
/-- a method of a class -/
structure MeT (K : PySem.W.Frag) (C : Addr) (nm qual : Str) (st : Stmt) (ps : List Str) : Type where
  fn : Addr
  fd : FuncData
  F : L2.Fun K nm qual st fn fd
  b : Binds K fd ps []
  m : Meth K C nm fn
/-- a class with its own __init__ -/
structure InT (K : PySem.W.Frag) (mg : Str → Option Value) (C : Addr) (nm qual : Str) (st : Stmt) (ps : List Str) : Type where
  fn : Addr
  fd : FuncData
  F : L2.Fun K "__init__" qual st fn fd
  b : Binds K fd ps []
  M : Mk K C fn
  cl : Cls K C
  m : mg nm = some (.ref C)
/-- the table of isinstance as a list -/
def look {α β : Type} [DecidableEq α] (a : α) : List (α × β) → Option β
  | [] => none
  | (x, y) :: r => if a = x then some y else look a r
def tabJ (l : List ((TK × TK) × Bool)) (t c : TK) : Option Bool := look (t, c) l
theorem look_mem {α β : Type} [DecidableEq α] {a : α} {b : β} : ∀ {l : List (α × β)}, look a l = some b → (a, b) ∈ l
  | [], h => by cases h
  | (x, y) :: r, h => by
    unfold look at h
    by_cases q : a = x
    · rw [if_pos q] at h; cases h; rw [q]; exact List.mem_cons_self
    · rw [if_neg q] at h; exact List.mem_cons_of_mem _ (look_mem h)
section
variable {P : Program} {w : World} {K : PySem.W.Frag} {mg : Str → Option Value} {base : Heap} {g : Gx}
theorem isTab_of {l : List ((TK × TK) × Bool)} (h1 : ∀ e ∈ l, PySem.W.kitOne g.K (tv g e.1.1) (tv g e.1.2) = some e.2)
    (h2 : ∀ e ∈ l, ∀ c, e.1.1 = .inr c → Cls g.K (g.ct c) ∧ PySem.W.findIn g.K (.ref (g.ct c)) "__class__" = some (some (.builtin "object.__class__")) ∧ PySem.W.specialIn g.K (.builtin "object.__class__") "__get__" = some (some (.builtin "getset_descriptor.__get__")) ∧
      PySem.W.takesIn g.K (.builtin "object.__class__") = some true ∧ PySem.W.mroIn g.K (g.ct c) (.type "object") = some true) : IsTab g (tabJ l) :=
  ⟨fun t c b h => h1 _ (look_mem h), fun c t b h => h2 _ (look_mem h) c rfl⟩
/-- the table of fields as a list -/
def tabF (l : List (Nat × Str)) : FTab := fun c f => decide ((c, f) ∈ l)
theorem tabOk_of {l : List (Nat × Str)} (h : ∀ e ∈ l, Cls g.K (g.ct e.1) ∧ NoAttr g.K (g.ct e.1) e.2) : TabOk g (tabF l) := ⟨fun c f q => h (c, f) (of_decide_eq_true q)⟩

theorem kit_tt {a b : String} {r : Bool} (h : kitB a b = some r) : PySem.W.kitOne K (.type a) (.type b) = some r := kit_ty h
theorem kit_self {t : Value} : PySem.W.kitOne K t t = some true := if_pos (beq_self_eq_true _)
theorem kit_rt {C : Addr} {T : String} {b : Bool} (h : PySem.W.kitMeta T = true) (s : PySem.W.subIn K (.ref C) (.type T) = some b) : PySem.W.kitOne K (.ref C) (.type T) = some b := by
  unfold PySem.W.kitOne
  rw [if_neg (by intro z; exact absurd (beq_iff_eq.mp z) (by intro q; cases q))]
  show (if PySem.W.kitMeta T = true then _ else _) = _
  rw [if_pos h]
  exact s
theorem kit_xr {C D : Addr} {b : Bool} (ne : (D == C) = false) (i : PySem.W.isClsIn K C = true) (ty : PySem.W.typeIn K (.ref C) = some (.type "type")) (s : PySem.W.subIn K (.ref D) (.ref C) = some b) : PySem.W.kitOne K (.ref D) (.ref C) = some b := by
  unfold PySem.W.kitOne
  rw [if_neg (by intro z; have := beq_iff_eq.mp z; cases this; simp at ne)]
  have e2 : ((PySem.W.clsIn K C).isSome && PySem.W.typeIn K (.ref C) == some (.type "type")) = true := by
    have i' : (PySem.W.clsIn K C).isSome = true := i
    rw [i', ty] <;> rfl
  show (if ((PySem.W.clsIn K C).isSome && PySem.W.typeIn K (.ref C) == some (.type "type")) = true then _ else _) = _
  rw [if_pos e2]
  exact s
theorem kit_tr {C : Addr} {T : String} {b : Bool} (i : PySem.W.isClsIn K C = true) (ty : PySem.W.typeIn K (.ref C) = some (.type "type")) (s : PySem.W.subIn K (.type T) (.ref C) = some b) : PySem.W.kitOne K (.type T) (.ref C) = some b := by
  unfold PySem.W.kitOne
  rw [if_neg (by intro z; have := beq_iff_eq.mp z; cases this)]
  have e2 : ((PySem.W.clsIn K C).isSome && PySem.W.typeIn K (.ref C) == some (.type "type")) = true := by
    have i' : (PySem.W.clsIn K C).isSome = true := i
    rw [i', ty] <;> rfl
  show (if ((PySem.W.clsIn K C).isSome && PySem.W.typeIn K (.ref C) == some (.type "type")) = true then _ else _) = _
  rw [if_pos e2]
  exact s
theorem fa_nil {α : Type} {P : α → Prop} : ∀ e ∈ ([] : List α), P e := fun _ h => by cases h
theorem fa_cons {α : Type} {P : α → Prop} {a : α} {l : List α} (h : P a) (r : ∀ e ∈ l, P e) : ∀ e ∈ a :: l, P e := fun e q => by
  rcases List.mem_cons.mp q with z | z
  · rw [z]; exact h
  · exact r e z
theorem cst_int (i : Int) (t : Tok) : Cst g (.int i t) (.int i) := ⟨.int i, ⟨t, rfl⟩, fun _ _ _ => .int i⟩
theorem cst_str (i : Str) (t : Tok) : Cst g (.str i t) (.str i) := ⟨.str i, ⟨t, rfl⟩, fun _ _ _ => .str i⟩
theorem fn_bad {CX : CXT} {k : Nat} {fn : Addr} {fd : FuncData} {ps : List Str} {np : Nat} : FnOk P w K mg base CX k fn fd ps (spF g np fun _ => bad) :=
  ⟨fun _ _ _ _ h => by obtain ⟨_, _, _, _, _, _, h⟩ := h; exact h.elim, fun _ _ _ _ _ _ _ _ _ _ _ _ _ h => by obtain ⟨_, _, _, _, _, _, h⟩ := h; exact h.elim⟩
theorem fn_do {nm qual : Str} {st : Stmt} {fn : Addr} {fd : FuncData} {N ps : List Str} {k np n : Nat} {s : DS} (F : L2.Fun K nm qual st fn fd) (S : FnScope N ps (defScope st)) (hp : ps.length = np := by rfl) (hn : N.length = n := by rfl)
    (hbody : ∀ (cdv : Value) (A : Around) (outer : List Env) (s0 : Shared) (H : Hp) (E : XK), Room k (A.deeper (envOfC qual (defScope st) s0.heap.objs.size fn cdv)) →
      PSs (cxOf (L2.CX P w) P w K mg base N qual (defScope st) fn cdv A outer s0 H E) (defBody st) (tS g (fun cls d _ H => E cls d H) s)) :
    FnOk P w K mg base (L2.CX P w) (k + 1) fn fd ps (spF g np (cDef n s)) := by
  subst hp
  subst hn
  exact fn_sm F S hbody
/-- a level's denotation: below 2 nothing -/
def lev (F : Nat → List D → Mo D) : Nat → List D → Mo D
  | 0 => fun _ => bad
  | 1 => fun _ => bad
  | k + 2 => F k
@[simp] theorem lev_succ {F : Nat → List D → Mo D} {k : Nat} : lev F (k + 2) = F k := rfl
theorem fn_lev {CX : CXT} {k : Nat} {fn : Addr} {fd : FuncData} {ps : List Str} {np : Nat} {F : Nat → List D → Mo D} (h : ∀ j, FnOk P w K mg base CX (j + 2) fn fd ps (spF g np (F j))) : FnOk P w K mg base CX k fn fd ps (spF g np (lev F k)) := by
  match k with
  | 0 => exact fn_bad
  | 1 => exact fn_bad
  | k + 2 => exact h k

/-! ### the end of a law -/
def spL (n : Nat) (K : PySem.W.Frag) : Sp := fun vs H Q _ => ∃ (a : Addr) (ns : List Int), vs = [.ref a] ∧ ns.length ≤ n ∧ (∀ z ∈ ns, Builtin.Int.intBits z ≤ 1048576) ∧ Only H ∧ SqL K H a (ns.map V.int) ∧ ∀ H', Q (.bl true) H'
theorem lsc_of {H : Hp} {a : Addr} {xs : List V} (hO : Only H) (h : SqL K H a xs) : Lsc K H a xs := by
  rcases h with h | h
  · refine .inl ?_
    rcases h with h | ⟨o, h⟩
    · rcases hO a with z | ⟨o, ys, z⟩
      · rw [z] at h; cases h
      · rw [z] at h; cases h
    · exact ⟨o, h⟩
  · exact .inr h
theorem sr_nil {m : Nat → Addr} {H : Hp} : SR g m H [] := ⟨fun l o h => by simp at h, fun l l' h => by simp at h⟩
theorem law_end {CX : CXT} {n k : Nat} {fn : Addr} {fd : FuncData} {ps : List Str} {F : List D → Mo D} (hK : g.K = K) (G : FnOk P w K mg base CX k fn fd ps (spF g 1 F)) (h : ∀ ns : List Int, ns.length ≤ n → (∀ z ∈ ns, Builtin.Int.intBits z ≤ 1048576) → ∃ S', F [.lsc (ns.map .int)] [] = .ok (.bl true) S') :
    FnOk P w K mg base CX k fn fd ps (spL n K) := by
  refine G.imp fun vs H Q E q => ?_
  obtain ⟨a, ns, rfl, hl, hb, hO, hS, hQ⟩ := q
  obtain ⟨S', e⟩ := h ns hl hb
  refine ⟨rfl, fun _ => 0, [], [.lsc (ns.map .int)], sr_nil, .cons _ _ _ _ (.lsc a (ns.map V.int) _ (by rw [hK]; exact lsc_of hO hS) (VRs.of_ints ns)) .nil, ?_⟩
  rw [e]
  intro m' H' _ _ v rv
  cases rv
  exact hQ H'
theorem walk_sm {l : PySem.W.OpenLaw} {n k : Nat} {q : Program} {loose : List Str} {XP : (Str → Option Value) → Heap → Prop} {YP : World → Heap → Prop} {d : DefRec} {K : Params → PySem.W.Frag} {x : Str}
    (hn : l.most = some n) (hn2 : n ≤ sizeLine) (hdf : d.params.defaults = []) (hr : Room k callerA)
    (hY : ∀ (w : World) (h : Heap), YP w h → (K w.params).In h)
    (F : ∀ (w : World) (mg : Str → Option Value) (fa : Addr) (h : Heap), (K w.params).In h → h.Ns mainGlobals mg → mg d.name = some (.ref fa) →
      ∃ fd : FuncData, (∀ (s : Shared) (u : Value), BindsTo s fd ⟨[u], []⟩ [(x, u)]) ∧
        ∀ base : Heap, (K w.params).In base → base.Ns mainGlobals mg → FnOk l.prog w (K w.params) mg base (L2.CX l.prog w) k fa fd [x] (spL n (K w.params))) :
    PySem.W.WalkO q loose XP YP l.row.toRowW d [] (fun f vs => PySem.call f vs) :=
  L2.walk_ofB (CX := fun w => L2.CX l.prog w) (sp := fun w => spL n (K w.params)) hn hn2 hdf hr hY F (fun w H a ns hl hb hO hS => ⟨a, ns, rfl, hl, hb, hO, hS, fun _ => rfl⟩)
    fun w H s e s' z => by
      obtain ⟨_, _, _, _, _, _, _, _, _, _, _, _, z⟩ := z
      exact z.elim
end
end Sm
end
section
/-! Sm, part J: how denotations are reckoned (for simp). -/
namespace Sm
open PySem PySem.Spec PyProof.Rows L2
section
variable {S S' : Sto} {ρ : En} {f fa fb fc : DE} {fs : En → Mo (List D)} {ft fu : En → Mo Bool} {s t u : DS} {d e : D} {i j : Int}
/-! ### expressions -/
@[simp] theorem cVar_e (i : Nat) : cVar i ρ S = (match ρ[i]? with
  | some (some d) => .ok d S
  | _ => .no) := rfl
@[simp] theorem cC_e : cC d ρ S = .ok d S := rfl
@[simp] theorem cNil_e : cNil ρ S = .ok [] S := rfl
@[simp] theorem cCons_e : cCons f fs ρ S = (f ρ S).andThen fun x S1 => (fs ρ S1).andThen fun xs S2 => .ok (x :: xs) S2 := rfl
@[simp] theorem cTup_e : cTup fs ρ S = (fs ρ S).andThen fun xs S1 => if fit xs.length = true then .ok (.tup xs) S1 else .no := rfl
@[simp] theorem cLst_e : cLst fs ρ S = (fs ρ S).andThen fun xs S1 => newL xs S1 := rfl
@[simp] theorem cOp_e {h : D → D → Mo D} : cOp h fa fb ρ S = (fa ρ S).andThen fun x S1 => (fb ρ S1).andThen fun y S2 => h x y S2 := rfl
@[simp] theorem cUn_e {h : D → Mo D} : cUn h fa ρ S = (fa ρ S).andThen fun x S1 => h x S1 := rfl
@[simp] theorem cTest_e : cTest f ρ S = (f ρ S).andThen fun x S1 => asB x S1 := rfl
@[simp] theorem asB_e {b : Bool} : asB (.bl b) S = .ok b S := rfl
@[simp] theorem cTru_e : cTru f ρ S = (f ρ S).andThen fun x S1 => trD x S1 := rfl
@[simp] theorem cNotT_e : cNotT ft ρ S = (ft ρ S).andThen fun k S1 => .ok (!k) S1 := rfl
@[simp] theorem cAndT_e : cAndT ft fu ρ S = (ft ρ S).andThen fun k S1 => if k = true then fu ρ S1 else .ok false S1 := by
  show (ft ρ S).andThen _ = _
  congr
  funext k S1
  cases k <;> rfl
@[simp] theorem cOrT_e : cOrT ft fu ρ S = (ft ρ S).andThen fun k S1 => if k = true then .ok true S1 else fu ρ S1 := by
  show (ft ρ S).andThen _ = _
  congr
  funext k S1
  cases k <;> rfl
@[simp] theorem cAnd_e : cAnd fa fb ρ S = (fa ρ S).andThen fun x S1 => (trD x S1).andThen fun k S2 => if k = true then fb ρ S2 else .ok x S2 := by
  show (fa ρ S).andThen _ = _
  congr
  funext x S1
  show (trD x S1).andThen _ = _
  congr
  funext k S2
  cases k <;> rfl
@[simp] theorem cOr_e : cOr fa fb ρ S = (fa ρ S).andThen fun x S1 => (trD x S1).andThen fun k S2 => if k = true then .ok x S2 else fb ρ S2 := by
  show (fa ρ S).andThen _ = _
  congr
  funext x S1
  show (trD x S1).andThen _ = _
  congr
  funext k S2
  cases k <;> rfl
@[simp] theorem cNot_e : cNot fa ρ S = (fa ρ S).andThen fun x S1 => (trD x S1).andThen fun k S2 => .ok (.bl (!k)) S2 := rfl
@[simp] theorem cIf_e : cIf ft fa fb ρ S = (ft ρ S).andThen fun k S1 => if k = true then fa ρ S1 else fb ρ S1 := by
  show (ft ρ S).andThen _ = _
  congr
  funext k S1
  cases k <;> rfl
@[simp] theorem cCall_e {h : List D → Mo D} : cCall h fs ρ S = (fs ρ S).andThen fun xs S1 => h xs S1 := rfl
@[simp] theorem cChain_e {h h' : D → D → Mo D} : cChain h h' fa fb fc ρ S = (fa ρ S).andThen fun x S1 => (fb ρ S1).andThen fun y S2 => (h x y S2).andThen fun z S3 => (asB z S3).andThen fun k S4 => if k = true then (fc ρ S4).andThen fun u S5 => h' y u S5 else .ok (.bl false) S4 := by
  show (fa ρ S).andThen _ = _
  congr
  funext x S1
  show (fb ρ S1).andThen _ = _
  congr
  funext y S2
  show (h x y S2).andThen _ = _
  congr
  funext z S3
  show (asB z S3).andThen _ = _
  congr
  funext k S4
  cases k <;> rfl
@[simp] theorem cMt_e {T : String} {h : D → List D → Mo D} : cMt T h fa fs ρ S = (fa ρ S).andThen fun x S1 => (chk T x S1).andThen fun _ S2 => (fs ρ S2).andThen fun xs S3 => h x xs S3 := rfl
@[simp] theorem cMt0_e {T : String} {h : D → List D → Mo D} : cMt0 T h fa ρ S = (fa ρ S).andThen fun x S1 => (chk T x S1).andThen fun _ S2 => h x [] S2 := rfl
@[simp] theorem cFld_e {T : FTab} {nm : Str} : cFld T nm fa ρ S = (fa ρ S).andThen fun x S1 => fldD T nm x S1 := rfl
@[simp] theorem apF_e {np : Nat} {F : List D → Mo D} {ds : List D} : apF np F ds S = if ds.length = np then F ds S else .no := by
  unfold apF
  split <;> rfl
@[simp] theorem ar1_e {h : D → Mo D} : ar1 h [d] S = h d S := rfl
@[simp] theorem ar2_e {h : D → D → Mo D} : ar2 h [d, e] S = h d e S := rfl
@[simp] theorem am0_e {h : D → Mo D} : am0 h d [] S = h d S := rfl
@[simp] theorem am1_e {h : D → D → Mo D} : am1 h d [e] S = h d e S := rfl
@[simp] theorem optD_some {α : Type} {a : α} : optD (some a) S = .ok a S := rfl
@[simp] theorem optD_none {α : Type} : optD (none : Option α) S = .no := rfl
@[simp] theorem newL_e {xs : List D} (h : xs.length ≤ 16777216) : newL xs S = .ok (.loc S.length) (S ++ [.lst xs]) := by
  unfold newL
  rw [if_pos (fit_of h)]
@[simp] theorem fit_e {n : Nat} (h : n ≤ 16777216) : fit n = true := fit_of h
@[simp] theorem cSl_e {lo hi : En → Mo (Option Int)} : cSl fa lo hi ρ S = (fa ρ S).andThen fun x S1 => (lo ρ S1).andThen fun l S2 => (hi ρ S2).andThen fun h S3 => slD l h x S3 := rfl
@[simp] theorem cPart_none : cPart none ρ S = .ok none S := rfl
@[simp] theorem cPart_some : cPart (some fa) ρ S = (fa ρ S).andThen fun x S1 => match x with
    | .int i => .ok (some i) S1
    | _ => .no := by
  show (fa ρ S).andThen _ = _
  congr
  funext x S1
  cases x <;> rfl
/-! ### operations -/
@[simp] theorem addD_int : addD (.int i) (.int j) S = .ok (.int (i + j)) S := rfl
@[simp] theorem addD_str {x y : Str} : addD (.str x) (.str y) S = if fit (x.length + y.length) = true then .ok (.str (x ++ y)) S else .no := rfl
@[simp] theorem addD_tup {x y : List D} : addD (.tup x) (.tup y) S = if fit (x.length + y.length) = true then .ok (.tup (x ++ y)) S else .no := rfl
@[simp] theorem addD_loc {l l' : Nat} : addD (.loc l) (.loc l') S = addO S S[l]? S[l']? := rfl
@[simp] theorem subD_int : subD (.int i) (.int j) S = .ok (.int (i - j)) S := rfl
@[simp] theorem mulD_int : mulD (.int i) (.int j) S = if okMul i j = true then .ok (.int (i * j)) S else .no := rfl
@[simp] theorem fdivD_int : fdivD (.int i) (.int j) S = if okDiv i j = true then .ok (.int (i.fdiv j)) S else .no := rfl
@[simp] theorem modD_int : modD (.int i) (.int j) S = if okMod i j = true then .ok (.int (i % j)) S else .no := rfl
@[simp] theorem powD_int : powD (.int i) (.int j) S = if okPow i j = true then .ok (.int (i ^ j.toNat)) S else .no := rfl
@[simp] theorem shrD_int : shrD (.int i) (.int j) S = if okShr i j = true then .ok (.int (i / 2 ^ j.toNat)) S else .no := rfl
@[simp] theorem andD_int : andD (.int i) (.int j) S = .ok (.int (Builtin.bitAnd i j)) S := rfl
@[simp] theorem negD_int : negD (.int i) S = .ok (.int (-i)) S := rfl
@[simp] theorem ltI_int : ltI (.int i) (.int j) S = .ok (.bl (decide (i < j))) S := rfl
@[simp] theorem leI_int : leI (.int i) (.int j) S = .ok (.bl (decide (i ≤ j))) S := rfl
@[simp] theorem gtI_int : gtI (.int i) (.int j) S = .ok (.bl (decide (j < i))) S := rfl
@[simp] theorem geI_int : geI (.int i) (.int j) S = .ok (.bl (decide (j ≤ i))) S := rfl
@[simp] theorem okMod_e (h : 0 < j) : okMod i j = true := okMod_iff.mpr h
@[simp] theorem okShr_e (h : 0 ≤ j) : okShr i j = true := okShr_iff.mpr h
@[simp] theorem okPow_e (h : 0 ≤ j) (h2 : j ≤ 1000000) (h3 : i.natAbs < 18446744073709551616) : okPow i j = true := okPow_iff.mpr ⟨h, h2, h3⟩
theorem log2_lt {n k : Nat} (hk : 0 < k) (h : n < 2 ^ k) : n.log2 < k := by
  rcases Nat.eq_zero_or_pos n with z | z
  · subst z; simpa using hk
  · exact (Nat.log2_lt (Nat.ne_of_gt z)).mpr h
@[simp] theorem okDiv_e (h : 0 < j) (h2 : j < 18446744073709551616) : okDiv i j = true := okDiv_iff.mpr ⟨by omega, by
  have : j.natAbs.log2 < 64 := log2_lt (by decide) (by omega)
  omega⟩
theorem okDiv_n (h : j ≠ 0) (h2 : j.natAbs < 2 ^ 9000) : okDiv i j = true := okDiv_iff.mpr ⟨h, log2_lt (by decide) h2⟩
@[simp] theorem fdiv_e (h : 0 < j) : i.fdiv j = i / j := Int.fdiv_eq_ediv_of_nonneg i (by omega)
@[simp] theorem okMul_e (h : -18446744073709551616 < i) (h2 : i < 18446744073709551616) : okMul i j = true := okMul_iff.mpr (.inl (.inl ⟨by simpa using h, by simpa using h2⟩))
theorem okMul_n {a b : Nat} (ha : i.natAbs < 2 ^ a) (hb : j.natAbs < 2 ^ b) (h0 : 0 < a) (h1 : 0 < b) (h : a + b ≤ 1000000) : okMul i j = true := okMul_iff.mpr (.inr (wide_mul ha hb h0 h1 h))
@[simp] theorem intD_int : intD (.int i) S = .ok (.int i) S := rfl
@[simp] theorem intD_bl {b : Bool} : intD (.bl b) S = .ok (.int (if b = true then 1 else 0)) S := rfl
@[simp] theorem absD_int : absD (.int i) S = .ok (.int (if i < 0 then -i else i)) S := rfl
@[simp] theorem maxD_int : maxD (.int i) (.int j) S = .ok (.int (if j > i then j else i)) S := rfl
@[simp] theorem minD_int : minD (.int i) (.int j) S = .ok (.int (if j < i then j else i)) S := rfl
@[simp] theorem eqD_int : eqD (.int i) (.int j) S = .ok (.bl (i == j)) S := rfl
@[simp] theorem neD_int : neD (.int i) (.int j) S = .ok (.bl (!(i == j))) S := rfl
@[simp] theorem eqD_str {x y : Str} : eqD (.str x) (.str y) S = .ok (.bl (x == y)) S := rfl
@[simp] theorem neD_str {x y : Str} : neD (.str x) (.str y) S = .ok (.bl (!(x == y))) S := rfl
@[simp] theorem eqD_bl {x y : Bool} : eqD (.bl x) (.bl y) S = .ok (.bl (x == y)) S := rfl
@[simp] theorem neD_bl {x y : Bool} : neD (.bl x) (.bl y) S = .ok (.bl (!(x == y))) S := rfl
@[simp] theorem eqD_ni : eqD .non (.int j) S = .ok (.bl false) S := rfl
@[simp] theorem eqD_in : eqD (.int j) .non S = .ok (.bl false) S := rfl
@[simp] theorem eqD_ns {x : Str} : eqD .non (.str x) S = .ok (.bl false) S := rfl
@[simp] theorem eqD_sn {x : Str} : eqD (.str x) .non S = .ok (.bl false) S := rfl
@[simp] theorem eqD_is {x : Str} : eqD (.int i) (.str x) S = .ok (.bl false) S := rfl
@[simp] theorem eqD_si {x : Str} : eqD (.str x) (.int i) S = .ok (.bl false) S := rfl
@[simp] theorem neD_ni : neD .non (.int j) S = .ok (.bl true) S := rfl
@[simp] theorem neD_in : neD (.int j) .non S = .ok (.bl true) S := rfl
/-- plain data out of data: n deep at most -/
def toP (S : Sto) : Nat → D → Option PyData
  | 0, _ => none
  | n + 1, d => match d with
    | .non => some .none
    | .bl b => some (.bool b)
    | .int i => some (.int i)
    | .str x => some (.str x)
    | .tup xs => (toPs (toP S n) xs).map .tuple
    | .lsc xs => (toPs (toP S n) xs).map .list
    | .loc l => match S[l]? with
      | some (.lst xs) => (toPs (toP S n) xs).map .list
      | _ => none
    | _ => none
where toPs (f : D → Option PyData) : List D → Option (List PyData)
  | [] => some []
  | x :: xs => match f x, toPs f xs with
    | some p, some ps => some (p :: ps)
    | _, _ => none
theorem toPs_is {f : D → Option PyData} (hf : ∀ d p, f d = some p → IsP S d p) : ∀ {xs : List D} {ps : List PyData}, toP.toPs f xs = some ps → IsPs S xs ps
  | [], _, h => by cases h; exact .nil
  | x :: xs, ps, h => by
    unfold toP.toPs at h
    cases q : f x with
    | none => simp only [q] at h; cases h
    | some p =>
      cases q2 : toP.toPs f xs with
      | none => simp only [q, q2] at h; cases h
      | some r =>
        simp only [q, q2] at h
        cases h
        exact .cons _ _ _ _ (hf _ _ q) (toPs_is hf q2)
theorem toP_is : ∀ {n : Nat} {d : D} {p : PyData}, toP S n d = some p → IsP S d p
  | 0, _, _, h => by cases h
  | n + 1, d, p, h => by
    cases d with
    | non => cases h; exact .non
    | bl b => cases h; exact .bl b
    | int i => cases h; exact .int i
    | str x => cases h; exact .str x
    | tup xs =>
      obtain ⟨ps, q, rfl⟩ := Option.map_eq_some_iff.mp (show (toP.toPs (toP S n) xs).map PyData.tuple = some p from h)
      exact .tup _ _ (toPs_is (fun _ _ => toP_is) q)
    | lsc xs =>
      obtain ⟨ps, q, rfl⟩ := Option.map_eq_some_iff.mp (show (toP.toPs (toP S n) xs).map PyData.list = some p from h)
      exact .lsc _ _ (toPs_is (fun _ _ => toP_is) q)
    | loc l =>
      have h2 : (match S[l]? with
        | some (.lst xs) => (toP.toPs (toP S n) xs).map PyData.list
        | _ => none) = some p := h
      cases q0 : S[l]? with
      | none => rw [q0] at h2; cases h2
      | some o =>
        rw [q0] at h2
        cases o with
        | lst xs =>
          obtain ⟨ps, q, rfl⟩ := Option.map_eq_some_iff.mp (show (toP.toPs (toP S n) xs).map PyData.list = some p from h2)
          exact .loc _ _ _ q0 (toPs_is (fun _ _ => toP_is) q)
        | _ => cases h2
    | _ => cases h
theorem eqD_of (n : Nat) {p q : PyData} (h0 : scalQ d e = none) (h1 : toP S n d = some p) (h2 : toP S n e = some q) (h3 : SeqAt.shaped p = true) (h4 : SeqAt.shaped q = true) : eqD d e S = .ok (.bl (PyData.eqv p q)) S := by
  unfold eqD
  rw [eqQ_of h0 (toP_is h1) (toP_is h2) h3 h4]
theorem neD_of (n : Nat) {p q : PyData} (h0 : scalQ d e = none) (h1 : toP S n d = some p) (h2 : toP S n e = some q) (h3 : SeqAt.shaped p = true) (h4 : SeqAt.shaped q = true) : neD d e S = .ok (.bl (!PyData.eqv p q)) S := by
  unfold neD
  rw [eqQ_of h0 (toP_is h1) (toP_is h2) h3 h4]
@[simp] theorem isNone_n : isNone .non .non S = .ok (.bl true) S := rfl
@[simp] theorem isNone_i : isNone (.int i) .non S = .ok (.bl false) S := rfl
@[simp] theorem isNone_s {x : Str} : isNone (.str x) .non S = .ok (.bl false) S := rfl
@[simp] theorem isNone_t {x : List D} : isNone (.tup x) .non S = .ok (.bl false) S := rfl
@[simp] theorem isNone_l {x : Nat} : isNone (.loc x) .non S = .ok (.bl false) S := rfl
@[simp] theorem notNone_n : notNone .non .non S = .ok (.bl false) S := rfl
@[simp] theorem notNone_i : notNone (.int i) .non S = .ok (.bl true) S := rfl
@[simp] theorem notNone_s {x : Str} : notNone (.str x) .non S = .ok (.bl true) S := rfl
@[simp] theorem notNone_t {x : List D} : notNone (.tup x) .non S = .ok (.bl true) S := rfl
@[simp] theorem notNone_l {x : Nat} : notNone (.loc x) .non S = .ok (.bl true) S := rfl
@[simp] theorem getD_tup {xs : List D} : getD (.tup xs) (.int i) S = optD (L2.atI xs i) S := rfl
@[simp] theorem getD_lsc {xs : List D} : getD (.lsc xs) (.int i) S = optD (L2.atI xs i) S := rfl
@[simp] theorem getD_loc {l : Nat} : getD (.loc l) d S = optD (getO d S[l]?) S := rfl
@[simp] theorem getO_lst {xs : List D} : getO (.int i) (some (.lst xs)) = L2.atI xs i := rfl
@[simp] theorem getO_dctI {kvs : List (Key × D)} : getO (.int i) (some (.dct kvs)) = valD kvs (.inl i) := rfl
@[simp] theorem getO_dctS {x : Str} {kvs : List (Key × D)} : getO (.str x) (some (.dct kvs)) = valD kvs (.inr x) := rfl
@[simp] theorem isiD_e {J : TK → TK → Option Bool} : isiD J d e S = optD ((isiQ J d e S).map D.bl) S := rfl
@[simp] theorem fldD_loc {T : FTab} {nm : Str} {l : Nat} : fldD T nm (.loc l) S = optD (fldO T nm S[l]?) S := rfl
@[simp] theorem fldO_ins {T : FTab} {nm : Str} {c : Nat} {fs : List (Str × D)} : fldO T nm (some (.ins c fs)) = if T c nm = true then fs.lookup nm else none := rfl
@[simp] theorem lenD_e : lenD d S = optD (lenQ d S) S := rfl
@[simp] theorem lenQ_tup {xs : List D} : lenQ (.tup xs) S = some (.int xs.length) := rfl
@[simp] theorem lenQ_lsc {xs : List D} : lenQ (.lsc xs) S = some (.int xs.length) := rfl
@[simp] theorem lenQ_loc {l : Nat} : lenQ (.loc l) S = lenO S[l]? := rfl
@[simp] theorem lenO_lst {xs : List D} : lenO (some (.lst xs)) = some (.int xs.length) := rfl
@[simp] theorem lenO_dct {xs : List (Key × D)} : lenO (some (.dct xs)) = some (.int xs.length) := rfl
@[simp] theorem tyQ_non : tyQ .non S = some (.inl "NoneType") := rfl
@[simp] theorem tyQ_bl {b : Bool} : tyQ (.bl b) S = some (.inl "bool") := rfl
@[simp] theorem tyQ_int : tyQ (.int i) S = some (.inl "int") := rfl
@[simp] theorem tyQ_str {x : Str} : tyQ (.str x) S = some (.inl "str") := rfl
@[simp] theorem tyQ_tup {x : List D} : tyQ (.tup x) S = some (.inl "tuple") := rfl
@[simp] theorem tyQ_loc {l : Nat} : tyQ (.loc l) S = tyO S[l]? := rfl
@[simp] theorem tyO_lst {x : List D} : tyO (some (.lst x)) = some (.inl "list") := rfl
@[simp] theorem tyO_dct {x : List (Key × D)} : tyO (some (.dct x)) = some (.inl "dict") := rfl
@[simp] theorem tyO_ins {c : Nat} {x : List (Str × D)} : tyO (some (.ins c x)) = some (.inr c) := rfl
@[simp] theorem clQ_ty {n : String} : clQ (.ty n) = some (.inl n) := rfl
@[simp] theorem clQ_cls {n : Nat} : clQ (.cls n) = some (.inr n) := rfl
@[simp] theorem trD_bl {b : Bool} : trD (.bl b) S = .ok b S := rfl
@[simp] theorem trD_int : trD (.int i) S = .ok (i != 0) S := rfl
@[simp] theorem trD_non : trD .non S = .ok false S := rfl
@[simp] theorem trD_tup {x : List D} : trD (.tup x) S = .ok (!x.isEmpty) S := rfl
@[simp] theorem trD_locs {l : Nat} : trD (.loc l) S = trO S S[l]? := rfl
@[simp] theorem trO_lst {x : List D} : trO S (some (.lst x)) = .ok (!x.isEmpty) S := rfl
@[simp] theorem trO_dct {x : List (Key × D)} : trO S (some (.dct x)) = .ok (!x.isEmpty) S := rfl
@[simp] theorem chk_e {T : String} : chk T d S = if tyD T d S = true then .ok () S else .no := rfl
@[simp] theorem appD_loc {l : Nat} : appD (.loc l) e S = unitQ (appO e l S S[l]?) := rfl
@[simp] theorem appO_lst {l : Nat} {xs : List D} : appO e l S (some (.lst xs)) = if fit (xs.length + 1) = true then some (S.set l (.lst (xs ++ [e]))) else none := rfl
@[simp] theorem unitQ_some : unitQ (some S) = .ok .non S := rfl
/-! ### statements -/
def Fz.sq (r : Fz) (t : DS) : Fz := match r with
  | .nx ρ' S' => t ρ' S'
  | o => o
@[simp] theorem sq_nx : (Fz.nx ρ S).sq t = t ρ S := rfl
@[simp] theorem sq_ret : (Fz.ret d S).sq t = .ret d S := rfl
@[simp] theorem sq_no : Fz.no.sq t = .no := rfl
@[simp] theorem sq_brk : (Fz.brk ρ S).sq t = .brk ρ S := rfl
@[simp] theorem sq_cnt : (Fz.cnt ρ S).sq t = .cnt ρ S := rfl
@[simp] theorem sq_ex {x : Exn} : (Fz.ex x ρ S).sq t = .ex x ρ S := rfl
@[simp] theorem cSeq_e : cSeq s t ρ S = (s ρ S).sq t := by
  unfold cSeq Fz.sq
  rfl
@[simp] theorem cNext_e : cNext ρ S = .nx ρ S := rfl
@[simp] theorem cBrk_e : cBrk ρ S = .brk ρ S := rfl
@[simp] theorem cCnt_e : cCnt ρ S = .cnt ρ S := rfl
@[simp] theorem cExpr_e : cExpr f ρ S = (f ρ S).toF ρ fun _ S1 => .nx ρ S1 := rfl
@[simp] theorem cRet_e : cRet f ρ S = (f ρ S).toF ρ fun d S1 => .ret d S1 := rfl
@[simp] theorem cRetN_e : cRetN ρ S = .ret .non S := rfl
@[simp] theorem cIfS_e : cIfS ft s t ρ S = (ft ρ S).toF ρ fun k S1 => if k = true then s ρ S1 else t ρ S1 := by
  show (ft ρ S).toF ρ _ = _
  congr
  funext k S1
  cases k <;> rfl
@[simp] theorem kName_e {i : Nat} : kName i d ρ S = .nx (ρ.set i (some d)) S := rfl
def Fz.nxO (r : Fz) : Fz := match r with
  | .nx ρ' S' => .nx ρ' S'
  | _ => .no
@[simp] theorem nxO_nx : (Fz.nx ρ S).nxO = .nx ρ S := rfl
@[simp] theorem cAsg_e {k : DG} : cAsg f k ρ S = (f ρ S).toF ρ fun d S1 => (k d ρ S1).nxO := rfl
@[simp] theorem kTup_e {ks : DGs} {n : Nat} {xs : List D} : kTup ks n (.tup xs) ρ S = if xs.length = n then ks xs ρ S else .no := rfl
@[simp] theorem kCons_e {k : DG} {ks : DGs} {r : List D} : kCons k ks (d :: r) ρ S = match k d ρ S with
    | .nx ρ' S' => ks r ρ' S'
    | _ => .no := rfl
@[simp] theorem kNil_e : kNil [] ρ S = .nx ρ S := rfl
@[simp] theorem cPar_e {i j : Nat} : cPar i j fs ρ S = (fs ρ S).toF ρ fun ds S1 => match ds with
  | [d, e] => .nx ((ρ.set i (some d)).set j (some e)) S1
  | _ => .no := rfl
@[simp] theorem cSt_e {fo fi fv : DE} : cSt fo fi fv ρ S = (fv ρ S).toF ρ fun v S1 => (fo ρ S1).toF ρ fun o S2 => (fi ρ S2).toF ρ fun i S3 => match stQ o i v S3 with
  | some S4 => .nx ρ S4
  | none => .no := rfl
@[simp] theorem stQ_loc {l : Nat} {i v : D} : stQ (.loc l) i v S = stO i v l S S[l]? := rfl
@[simp] theorem stO_lst {l : Nat} {v : D} {xs : List D} : stO (.int i) v l S (some (.lst xs)) = (L2.ixN xs.length i).map fun j => S.set l (.lst (xs.set j v)) := rfl
@[simp] theorem stO_dctI {l : Nat} {v : D} {kvs : List (Key × D)} : stO (.int i) v l S (some (.dct kvs)) = if fit (kvs.length + 1) = true then some (S.set l (.dct (putD kvs (.inl i) v))) else none := rfl
@[simp] theorem stO_dctS {l : Nat} {v : D} {x : Str} {kvs : List (Key × D)} : stO (.str x) v l S (some (.dct kvs)) = if fit (kvs.length + 1) = true then some (S.set l (.dct (putD kvs (.inr x) v))) else none := rfl
@[simp] theorem cSetF_e {T : FTab} {nm : Str} {fo fv : DE} : cSetF T nm fo fv ρ S = (fv ρ S).toF ρ fun v S1 => (fo ρ S1).toF ρ fun o S2 => match setG T nm v o S2 with
  | some S3 => .nx ρ S3
  | none => .no := rfl
@[simp] theorem setG_loc {T : FTab} {nm : Str} {l : Nat} {v : D} : setG T nm v (.loc l) S = setO T nm v l S S[l]? := rfl
@[simp] theorem few_e {n : Nat} (h : n < 1000) : few n = true := few_iff.mpr h
@[simp] theorem setO_ins {T : FTab} {nm : Str} {l c : Nat} {v : D} {fs : List (Str × D)} : setO T nm v l S (some (.ins c fs)) = if (T c nm && few fs.length) = true then some (S.set l (.ins c (putFD nm v fs))) else none := rfl
@[simp] theorem newI_e {c np : Nat} {F : List D → Mo D} {ds : List D} : newI c np F ds S = (apF np F (.loc S.length :: ds) (S ++ [.ins c []])).andThen fun r S' => match r with
  | .non => .ok (.loc S.length) S'
  | _ => .no := rfl
@[simp] theorem cFor_e {it : En → Mo Wk} {k : DG} : cFor it k s ρ S = (it ρ S).toF ρ fun w S1 => match w with
  | .items ds => loopI k s ds ρ S1
  | .live l => loopL k s l (lenL S1 l) 0 ρ S1 := rfl
@[simp] theorem cIt_e : cIt f ρ S = (f ρ S).andThen fun x S1 => itD x S1 := rfl
@[simp] theorem itD_tup {xs : List D} : itD (.tup xs) S = .ok (.items xs) S := rfl
@[simp] theorem itD_lsc {xs : List D} : itD (.lsc xs) S = .ok (.items xs) S := rfl
@[simp] theorem itD_str {x : Str} : itD (.str x) S = .ok (.items (x.cps.toList.map fun c => .str ⟨#[c]⟩)) S := rfl
@[simp] theorem itD_loc {l : Nat} : itD (.loc l) S = match S[l]? with
    | some (.lst _) => .ok (.live l) S
    | _ => .no := rfl
@[simp] theorem loopI_nil {k : DG} : loopI k s [] ρ S = .nx ρ S := rfl
/-- what a turn leaves to the rest -/
def Fz.tn (r : Fz) (rest : DS) : Fz := match r with
  | .nx ρ' S' => rest ρ' S'
  | .cnt ρ' S' => rest ρ' S'
  | .brk ρ' S' => .nx ρ' S'
  | o => o
@[simp] theorem tn_nx : (Fz.nx ρ S).tn t = t ρ S := rfl
@[simp] theorem tn_cnt : (Fz.cnt ρ S).tn t = t ρ S := rfl
@[simp] theorem tn_brk : (Fz.brk ρ S).tn t = .nx ρ S := rfl
@[simp] theorem tn_ret : (Fz.ret d S).tn t = .ret d S := rfl
@[simp] theorem tn_no : Fz.no.tn t = .no := rfl
theorem loopI_cons {k : DG} {r : List D} : loopI k s (d :: r) ρ S = match k d ρ S with
    | .nx ρ1 S1 => (s ρ1 S1).tn (loopI k s r)
    | _ => .no := by
  conv => lhs; unfold loopI
  cases k d ρ S with
  | nx ρ1 S1 => cases s ρ1 S1 <;> rfl
  | _ => rfl
theorem loopL_zero {k : DG} {l i : Nat} {xs : List D} (h : S[l]? = some (.lst xs)) (hi : xs.length ≤ i) : loopL k s l 0 i ρ S = .nx ρ S := by
  unfold loopL
  simp only [h]
  rw [if_pos hi]
theorem loopL_succ {k : DG} {l i n : Nat} {xs : List D} (h : S[l]? = some (.lst xs)) (hi : xs[i]? = some d) : loopL k s l (n + 1) i ρ S = match k d ρ S with
    | .nx ρ1 S1 => (s ρ1 S1).tn (loopL k s l n (i + 1))
    | _ => .no := by
  conv => lhs; unfold loopL
  simp only [h, hi]
  cases k d ρ S with
  | nx ρ1 S1 => cases s ρ1 S1 <;> rfl
  | _ => rfl
/-- a loop that keeps an invariant: over items -/
theorem loopI_inv {k : DG} (P : Nat → En → Sto → Prop) {ds : List D} (h : ∀ i d ρ S, ds[i]? = some d → P i ρ S → ∃ ρ1 S1, k d ρ S = .nx ρ1 S1 ∧ ∃ ρ' S', (s ρ1 S1 = .nx ρ' S' ∨ s ρ1 S1 = .cnt ρ' S') ∧ P (i + 1) ρ' S') (h0 : P 0 ρ S) :
    ∃ ρ' S', loopI k s ds ρ S = .nx ρ' S' ∧ P ds.length ρ' S' := by
  suffices ∀ (n : Nat) (r : List D) (ρ : En) (S : Sto), ds.drop n = r → n ≤ ds.length → P n ρ S → ∃ ρ' S', loopI k s r ρ S = .nx ρ' S' ∧ P ds.length ρ' S' from this 0 ds ρ S rfl (Nat.zero_le _) h0
  intro n r
  induction r generalizing n with
  | nil =>
    intro ρ S e hn p
    have : ds.length ≤ n := by simpa using e
    have e2 : n = ds.length := by omega
    subst e2
    exact ⟨ρ, S, rfl, p⟩
  | cons d r ih =>
    intro ρ S e hn p
    have hd : ds[n]? = some d := by
      have := congrArg (fun l => l[0]?) e
      simpa using this
    have hr : ds.drop (n + 1) = r := by
      have := congrArg List.tail e
      simpa using this
    have hlt : n < ds.length := by
      rw [List.getElem?_eq_some_iff] at hd
      exact hd.1
    obtain ⟨ρ1, S1, e1, ρ', S', e2, p2⟩ := h n d ρ S hd p
    obtain ⟨ρ2, S2, e3, p3⟩ := ih (n + 1) ρ' S' hr hlt p2
    refine ⟨ρ2, S2, ?_, p3⟩
    rw [loopI_cons, e1]
    show (s ρ1 S1).tn _ = _
    rcases e2 with e2 | e2 <;> (rw [e2]; exact e3)
/-- .. over a list of the store, that stands fast -/
theorem loopL_inv {k : DG} {l : Nat} {ds : List D} (P : Nat → En → Sto → Prop) (hl : ∀ i ρ S, P i ρ S → S[l]? = some (.lst ds)) (h : ∀ i d ρ S, ds[i]? = some d → P i ρ S → ∃ ρ1 S1, k d ρ S = .nx ρ1 S1 ∧ ∃ ρ' S', (s ρ1 S1 = .nx ρ' S' ∨ s ρ1 S1 = .cnt ρ' S') ∧ P (i + 1) ρ' S') (h0 : P 0 ρ S) :
    ∃ ρ' S', loopL k s l (lenL S l) 0 ρ S = .nx ρ' S' ∧ P ds.length ρ' S' := by
  have e : lenL S l = ds.length := by unfold lenL; rw [hl _ _ _ h0]
  rw [e]
  suffices ∀ (m n : Nat) (ρ : En) (S : Sto), n + m = ds.length → P n ρ S → ∃ ρ' S', loopL k s l m n ρ S = .nx ρ' S' ∧ P ds.length ρ' S' from this ds.length 0 ρ S (by omega) h0
  intro m
  induction m with
  | zero =>
    intro n ρ S e p
    have e2 : n = ds.length := by omega
    subst e2
    exact ⟨ρ, S, loopL_zero (hl _ _ _ p) (Nat.le_refl _), p⟩
  | succ m ih =>
    intro n ρ S e p
    have hlt : n < ds.length := by omega
    have hd : ds[n]? = some ds[n] := List.getElem?_eq_getElem hlt
    obtain ⟨ρ1, S1, e1, ρ', S', e2, p2⟩ := h n _ ρ S hd p
    obtain ⟨ρ2, S2, e3, p3⟩ := ih (n + 1) ρ' S' (by omega) p2
    refine ⟨ρ2, S2, ?_, p3⟩
    rw [loopL_succ (hl _ _ _ p) hd, e1]
    show (s ρ1 S1).tn _ = _
    rcases e2 with e2 | e2 <;> (rw [e2]; exact e3)
@[simp] theorem toR_nx : (Fz.nx ρ S).toR = .ok .non S := rfl
@[simp] theorem toR_ret : (Fz.ret d S).toR = .ok d S := rfl
@[simp] theorem cDef_e {n : Nat} {ds : List D} : cDef n s ds S = (s (startE n ds) S).toR := rfl
end
end Sm
namespace Sm
open PySem PySem.Spec PyProof.Rows L2
section
variable {S X : Sto} {o : Ob}
@[simp] theorem get_app0 : (S ++ X)[S.length]? = X[0]? := by
  rw [List.getElem?_append_right (Nat.le_refl _), Nat.sub_self]
@[simp] theorem get_appk {k : Nat} : (S ++ X)[S.length + k]? = X[k]? := by
  rw [List.getElem?_append_right (by omega)]
  congr 1
  omega
@[simp] theorem set_app0 : (S ++ X).set S.length o = S ++ X.set 0 o := by
  rw [List.set_append_right _ _ (Nat.le_refl _), Nat.sub_self]
@[simp] theorem set_appk {k : Nat} : (S ++ X).set (S.length + k) o = S ++ X.set k o := by
  rw [List.set_append_right _ _ (by omega)]
  congr 2
  omega
theorem get_old {l : Nat} {q : Ob} (h : S[l]? = some q) : (S ++ X)[l]? = some q := by
  rw [List.getElem?_append_left (List.getElem?_eq_some_iff.mp h).1]
  exact h
end
end Sm
namespace Sm
open PySem PySem.Spec PyProof.Rows L2
@[simp] theorem str_inj {a b : String} : (Str.ofString a = Str.ofString b) = (a = b) := by
  refine propext ⟨fun h => ?_, fun h => by rw [h]⟩
  rw [Str.ofString_eq_toList, Str.ofString_eq_toList] at h
  have h2 : (a.toList.map Char.toNat) = b.toList.map Char.toNat := by
    have := congrArg (fun s => s.cps.toList) h
    simpa using this
  have h3 : a.toList = b.toList := by
    have inj : ∀ x y : Char, x.toNat = y.toNat → x = y := fun x y e => Char.ext (UInt32.toNat_inj.mp e)
    exact (List.map_inj_right (fun x y e => inj x y e)).mp h2
  exact String.toList_inj.mp h3
@[simp] theorem str_len {a : String} : (Str.ofString a).length = a.length := by
  rw [Str.ofString_eq_toList]
  show ((a.toList.map Char.toNat).toArray).size = a.length
  simp only [List.size_toArray, List.length_map]
  first | rfl | exact String.length_toList
end Sm
namespace Sm
open PySem PySem.Spec PyProof.Rows L2
section
variable {S X : Sto} {o : Ob} {ρ : En} {d v : D} {i : Int} {k k' : Key}
@[simp] theorem cDict_e {fs : List (DE × DE)} : cDict fs ρ S = (cPairs fs ρ (S ++ [.dct []])).andThen fun ps S' => dispF S.length ps S' := rfl
@[simp] theorem cPairs_nil : cPairs [] ρ S = .ok [] S := rfl
@[simp] theorem cPairs_cons {fk fv : DE} {r : List (DE × DE)} : cPairs ((fk, fv) :: r) ρ S = (fk ρ S).andThen fun k S1 => (fv ρ S1).andThen fun v S2 => (cPairs r ρ S2).andThen fun ps S3 => .ok ((k, v) :: ps) S3 := rfl
@[simp] theorem asKvs_nil : asKvs [] = some [] := rfl
@[simp] theorem asKvs_str {x : Str} {r : List (D × D)} : asKvs ((.str x, v) :: r) = (asKvs r).map fun q => (.inr x, v) :: q := by
  conv => lhs; unfold asKvs
  show (match some (Sum.inr x), asKvs r with
    | some k, some r => some ((k, v) :: r)
    | _, _ => none) = _
  cases asKvs r <;> rfl
@[simp] theorem asKvs_int {r : List (D × D)} : asKvs ((.int i, v) :: r) = (asKvs r).map fun q => (.inl i, v) :: q := by
  conv => lhs; unfold asKvs
  show (match some (Sum.inl i), asKvs r with
    | some k, some r => some ((k, v) :: r)
    | _, _ => none) = _
  cases asKvs r <;> rfl
@[simp] theorem few15_e {n : Nat} (h : n ≤ 15) : few15 n = true := few15_iff.mpr h
theorem dispF_e {n : Nat} {ps : List (D × D)} {kvs : List (Key × D)} (h : asKvs ps = some kvs) (h2 : S[n]? = some (.dct [])) (h3 : kvs.length ≤ 15) : dispF n ps S = .ok (.loc n) (S.set n (.dct (mergeD [] kvs))) := by
  unfold dispF
  rw [h, h2]
  simp only
  rw [if_pos (few15_iff.mpr h3)]
@[simp] theorem valD_nil : valD [] k = none := rfl
@[simp] theorem valD_cons {r : List (Key × D)} : valD ((k', v) :: r) k = if k' = k then some v else valD r k := by
  unfold valD
  rw [List.find?_cons]
  by_cases h : k' = k
  · simp [h]
  · simp [h]
theorem atI_nn {α : Type} {xs : List α} (h : 0 ≤ i) : L2.atI xs i = xs[i.toNat]? := by
  unfold L2.atI L2.ixN
  rw [if_pos h]
  by_cases h2 : i < xs.length
  · rw [if_pos h2]; rfl
  · rw [if_neg h2]
    show none = _
    rw [List.getElem?_eq_none (by omega)]
@[simp] theorem atI_cast {α : Type} {xs : List α} {n : Nat} : L2.atI xs (n : Int) = xs[n]? := atI_nn (by omega)
@[simp] theorem atI_lit {α : Type} {xs : List α} {n : Nat} : L2.atI xs (no_index (OfNat.ofNat n)) = xs[n]? := atI_cast
@[simp] theorem atI_m1 {α : Type} {xs : List α} : L2.atI xs (-1) = xs.getLast? := by
  unfold L2.atI L2.ixN
  rw [if_neg (by omega)]
  cases xs with
  | nil => rfl
  | cons x r =>
    rw [if_pos (by simp; omega)]
    show (x :: r)[((-1 : Int) + ((x :: r).length : Nat)).toNat]? = _
    rw [List.getLast?_eq_getElem?]
    congr 1
    omega
end
end Sm
namespace Sm
open PySem PySem.Spec PyProof.Rows L2
section
variable {S X : Sto} {o : Ob} {ρ : En} {d v : D} {i : Int}
theorem cut_mem {xs : List D} {lo hi : Option Int} {n : Nat} (h : (cutD xs lo hi)[n]? = some d) : d ∈ xs := List.mem_of_mem_drop (List.mem_of_mem_take (List.mem_of_getElem? h))
theorem cut_int {ns : List Int} {lo hi : Option Int} {n : Nat} (h : (cutD (ns.map .int) lo hi)[n]? = some d) : ∃ z, z ∈ ns ∧ d = .int z := by
  obtain ⟨z, h1, h2⟩ := List.mem_map.mp (cut_mem h)
  exact ⟨z, h1, h2.symm⟩
theorem map_int {ns : List Int} {n : Nat} (h : (ns.map D.int)[n]? = some d) : ∃ z, z ∈ ns ∧ d = .int z := by
  obtain ⟨z, h1, h2⟩ := List.mem_map.mp (List.mem_of_getElem? h)
  exact ⟨z, h1, h2.symm⟩
@[simp] theorem slD_lsc {xs : List D} {lo hi : Option Int} : slD lo hi (.lsc xs) S = .ok (.loc S.length) (S ++ [.lst (cutD xs lo hi)]) := rfl
@[simp] theorem slD_tup {xs : List D} {lo hi : Option Int} : slD lo hi (.tup xs) S = .ok (.tup (cutD xs lo hi)) S := rfl
@[simp] theorem slD_loc {l : Nat} {lo hi : Option Int} : slD lo hi (.loc l) S = slO lo hi S S[l]? := rfl
@[simp] theorem slO_lst {xs : List D} {lo hi : Option Int} : slO lo hi S (some (.lst xs)) = .ok (.loc S.length) (S ++ [.lst (cutD xs lo hi)]) := rfl
/-- == of equal tuples of scalars -/
theorem ne_refl {xs : List D} {p : PyData} (n : Nat) (h : toP S n (.tup xs) = some p) (h2 : SeqAt.shaped p = true) (h3 : PyData.eqv p p = true) : neD (.tup xs) (.tup xs) S = .ok (.bl false) S := by
  rw [neD_of n rfl h h h2 h2, h3]
  rfl
end
end Sm
end
section
namespace K12
open PySem PySem.Spec PyProof.Rows L2 Sm
noncomputable section
def tab : FTab := tabF [(0, "tag"), (0, "fields"), (1, "place")]
def isT : TK → TK → Option Bool := tabJ [((.inl "NoneType", .inl "bool"), false), ((.inl "bool", .inl "bool"), true), ((.inl "int", .inl "bool"), false), ((.inl "str", .inl "bool"), false), ((.inl "tuple", .inl "bool"), false), ((.inl "list", .inl "bool"), false), ((.inl "dict", .inl "bool"), false), ((.inr 0, .inl "bool"), false), ((.inr 1, .inl "bool"), false), ((.inl "NoneType", .inl "int"), false), ((.inl "bool", .inl "int"), true), ((.inl "int", .inl "int"), true), ((.inl "str", .inl "int"), false), ((.inl "tuple", .inl "int"), false), ((.inl "list", .inl "int"), false), ((.inl "dict", .inl "int"), false), ((.inr 0, .inl "int"), false), ((.inr 1, .inl "int"), false), ((.inl "NoneType", .inl "tuple"), false), ((.inl "bool", .inl "tuple"), false), ((.inl "int", .inl "tuple"), false), ((.inl "str", .inl "tuple"), false), ((.inl "tuple", .inl "tuple"), true), ((.inl "list", .inl "tuple"), false), ((.inl "dict", .inl "tuple"), false), ((.inr 0, .inl "tuple"), false), ((.inr 1, .inl "tuple"), false)]
@[simp] theorem isT_0 : isT (.inl "NoneType") (.inl "bool") = some false := by decide +kernel
@[simp] theorem isT_1 : isT (.inl "bool") (.inl "bool") = some true := by decide +kernel
@[simp] theorem isT_2 : isT (.inl "int") (.inl "bool") = some false := by decide +kernel
@[simp] theorem isT_3 : isT (.inl "str") (.inl "bool") = some false := by decide +kernel
@[simp] theorem isT_4 : isT (.inl "tuple") (.inl "bool") = some false := by decide +kernel
@[simp] theorem isT_5 : isT (.inl "list") (.inl "bool") = some false := by decide +kernel
@[simp] theorem isT_6 : isT (.inl "dict") (.inl "bool") = some false := by decide +kernel
@[simp] theorem isT_7 : isT (.inr 0) (.inl "bool") = some false := by decide +kernel
@[simp] theorem isT_8 : isT (.inr 1) (.inl "bool") = some false := by decide +kernel
@[simp] theorem isT_9 : isT (.inl "NoneType") (.inl "int") = some false := by decide +kernel
@[simp] theorem isT_10 : isT (.inl "bool") (.inl "int") = some true := by decide +kernel
@[simp] theorem isT_11 : isT (.inl "int") (.inl "int") = some true := by decide +kernel
@[simp] theorem isT_12 : isT (.inl "str") (.inl "int") = some false := by decide +kernel
@[simp] theorem isT_13 : isT (.inl "tuple") (.inl "int") = some false := by decide +kernel
@[simp] theorem isT_14 : isT (.inl "list") (.inl "int") = some false := by decide +kernel
@[simp] theorem isT_15 : isT (.inl "dict") (.inl "int") = some false := by decide +kernel
@[simp] theorem isT_16 : isT (.inr 0) (.inl "int") = some false := by decide +kernel
@[simp] theorem isT_17 : isT (.inr 1) (.inl "int") = some false := by decide +kernel
@[simp] theorem isT_18 : isT (.inl "NoneType") (.inl "tuple") = some false := by decide +kernel
@[simp] theorem isT_19 : isT (.inl "bool") (.inl "tuple") = some false := by decide +kernel
@[simp] theorem isT_20 : isT (.inl "int") (.inl "tuple") = some false := by decide +kernel
@[simp] theorem isT_21 : isT (.inl "str") (.inl "tuple") = some false := by decide +kernel
@[simp] theorem isT_22 : isT (.inl "tuple") (.inl "tuple") = some true := by decide +kernel
@[simp] theorem isT_23 : isT (.inl "list") (.inl "tuple") = some false := by decide +kernel
@[simp] theorem isT_24 : isT (.inl "dict") (.inl "tuple") = some false := by decide +kernel
@[simp] theorem isT_25 : isT (.inr 0) (.inl "tuple") = some false := by decide +kernel
@[simp] theorem isT_26 : isT (.inr 1) (.inl "tuple") = some false := by decide +kernel
@[simp] theorem tab_Block_tag : tab 0 "tag" = true := by decide +kernel
@[simp] theorem tab_Block_fields : tab 0 "fields" = true := by decide +kernel
@[simp] theorem tab_Function_place : tab 1 "place" = true := by decide +kernel
@[irreducible] def wfuel : Nat := 1000000000
/- is_number(0:value) -/
def b_is_number  : DS :=
  cRet (cAnd (cCall (ar2 (isiD isT)) (cCons (cVar 0) (cCons (cC (.ty "int")) cNil))) (cNot (cCall (ar2 (isiD isT)) (cCons (cVar 0) (cCons (cC (.ty "bool")) cNil)))))
def F_is_number : List D → Mo D := cDef 1 b_is_number
/- reckoned(0:op, 1:one, 2:other) -/
def b_reckoned  : DS :=
  cSeq (cIfS (cTest (cOp eqD (cVar 0) (cC (.str "add")))) (cRet (cOp addD (cVar 1) (cVar 2))) (cNext)) <|
  cSeq (cIfS (cTest (cOp eqD (cVar 0) (cC (.str "sub")))) (cRet (cOp subD (cVar 1) (cVar 2))) (cNext)) <|
  cSeq (cIfS (cTest (cOp eqD (cVar 0) (cC (.str "mul")))) (cRet (cOp mulD (cVar 1) (cVar 2))) (cNext)) <|
  cSeq (cIfS (cTest (cOp eqD (cVar 0) (cC (.str "less")))) (cRet (cCall (ar1 intD) (cCons (cOp ltI (cVar 1) (cVar 2)) cNil))) (cNext)) <|
  cRet (cCall (ar1 intD) (cCons (cOp eqD (cVar 1) (cVar 2)) cNil))
def F_reckoned : List D → Mo D := cDef 3 b_reckoned
/- math_of(0:op, 1:one, 2:other, 3:found) -/
def b_math_of  : DS :=
  cSeq (cIfS (cOrT (cNotT (cTru (cCall (apF 1 F_is_number) (cCons (cVar 1) cNil)))) (cNotT (cTru (cCall (apF 1 F_is_number) (cCons (cVar 2) cNil))))) (cRet (cTup (cCons (cC (.str "kind")) (cCons (cC (.int 0)) cNil)))) (cNext)) <|
  cSeq (cAsg (cCall (apF 3 F_reckoned) (cCons (cVar 0) (cCons (cVar 1) (cCons (cVar 2) cNil)))) (kName 3)) <|
  cSeq (cIfS (cTest (cOp geI (cCall (ar1 absD) (cCons (cVar 3) cNil)) (cOp powD (cC (.int 10)) (cC (.int 40))))) (cRet (cTup (cCons (cC (.str "big")) (cCons (cC (.int 0)) cNil)))) (cNext)) <|
  cRet (cTup (cCons (cC .non) (cCons (cVar 3) cNil)))
def F_math_of : List D → Mo D := cDef 4 b_math_of
/- __init__(0:self, 1:tag, 2:fields) -/
def b_Block_init  : DS :=
  cSeq (cSetF tab "tag" (cVar 0) (cVar 1)) <|
  cSetF tab "fields" (cVar 0) (cVar 2)
def F_Block_init : List D → Mo D := cDef 3 b_Block_init
/- __init__(0:self, 1:place) -/
def b_Function_init  : DS :=
  cSetF tab "place" (cVar 0) (cVar 1)
def F_Function_init : List D → Mo D := cDef 2 b_Function_init
/- _law_operand(0:_law_way, 1:_law_number, 2:_law_other) -/
def b_law_operand  : DS :=
  cSeq (cIfS (cTest (cOp eqD (cVar 0) (cC (.int 0)))) (cRet (cOp subD (cOp modD (cVar 1) (cOp addD (cOp mulD (cC (.int 2)) (cOp powD (cC (.int 10)) (cC (.int 60)))) (cC (.int 1)))) (cOp powD (cC (.int 10)) (cC (.int 60))))) (cNext)) <|
  cSeq (cIfS (cTest (cOp eqD (cVar 0) (cC (.int 1)))) (cRet (cOp subD (cOp modD (cVar 1) (cC (.int 2001))) (cC (.int 1000)))) (cNext)) <|
  cSeq (cIfS (cTest (cOp eqD (cVar 0) (cC (.int 2)))) (cRet (cOp subD (cOp addD (cOp subD (cOp powD (cC (.int 10)) (cC (.int 40))) (cVar 2)) (cOp modD (cVar 1) (cC (.int 7)))) (cC (.int 3)))) (cNext)) <|
  cSeq (cIfS (cTest (cOp eqD (cVar 0) (cC (.int 3)))) (cRet (cOp subD (cOp addD (cOp subD (cVar 2) (cOp powD (cC (.int 10)) (cC (.int 40)))) (cOp modD (cVar 1) (cC (.int 7)))) (cC (.int 3)))) (cNext)) <|
  cSeq (cIfS (cTest (cOp eqD (cVar 0) (cC (.int 4)))) (cRet (cOp subD (cOp addD (cOp subD (cOp subD (cC (.int 0)) (cOp powD (cC (.int 10)) (cC (.int 40)))) (cVar 2)) (cOp modD (cVar 1) (cC (.int 7)))) (cC (.int 3)))) (cNext)) <|
  cSeq (cIfS (cAndT (cTest (cOp eqD (cVar 0) (cC (.int 5)))) (cTest (cOp neD (cVar 2) (cC (.int 0))))) (cRet (cOp fdivD (cOp subD (cOp addD (cOp powD (cC (.int 10)) (cC (.int 40))) (cOp modD (cVar 1) (cC (.int 7)))) (cC (.int 3))) (cVar 2))) (cNext)) <|
  cSeq (cIfS (cTest (cOp eqD (cVar 0) (cC (.int 6)))) (cRet (cCall (fun ds => newI 0 3 F_Block_init (ds ++ [])) (cCons (cC (.str "a")) (cCons (cTup (cCons (cC (.int 1)) (cCons (cC (.int 2)) cNil))) cNil)))) (cNext)) <|
  cSeq (cIfS (cTest (cOp eqD (cVar 0) (cC (.int 7)))) (cRet (cCall (fun ds => newI 1 2 F_Function_init (ds ++ [])) (cCons (cOp modD (cVar 1) (cC (.int 600))) cNil))) (cNext)) <|
  cRet (cVar 2)
def F_law_operand : List D → Mo D := cDef 3 b_law_operand
/- _law_due(0:_law_op, 1:_law_one, 2:_law_other, 3:_law_found) -/
def b_law_due  : DS :=
  cSeq (cIfS (cOrT (cNotT (cTru (cCall (ar2 (isiD isT)) (cCons (cVar 1) (cCons (cC (.ty "int")) cNil))))) (cNotT (cTru (cCall (ar2 (isiD isT)) (cCons (cVar 2) (cCons (cC (.ty "int")) cNil)))))) (cRet (cTup (cCons (cC (.str "kind")) (cCons (cC (.int 0)) cNil)))) (cNext)) <|
  cSeq (cAsg (cDict [(cC (.str "add"), cOp addD (cVar 1) (cVar 2)), (cC (.str "sub"), cOp subD (cVar 1) (cVar 2)), (cC (.str "mul"), cOp mulD (cVar 1) (cVar 2))]) (kName 3)) <|
  cSeq (cSt (cVar 3) (cC (.str "less")) (cOp getD (cLst (cCons (cC (.int 0)) (cCons (cC (.int 1)) cNil))) (cCall (ar1 intD) (cCons (cOp ltI (cVar 1) (cVar 2)) cNil)))) <|
  cSeq (cSt (cVar 3) (cC (.str "same")) (cOp getD (cLst (cCons (cC (.int 0)) (cCons (cC (.int 1)) cNil))) (cCall (ar1 intD) (cCons (cOp eqD (cVar 1) (cVar 2)) cNil)))) <|
  cSeq (cIfS (cOrT (cTest (cOp geI (cOp getD (cVar 3) (cVar 0)) (cOp powD (cC (.int 10)) (cC (.int 40))))) (cTest (cOp leI (cOp getD (cVar 3) (cVar 0)) (cOp subD (cC (.int 0)) (cOp powD (cC (.int 10)) (cC (.int 40))))))) (cRet (cTup (cCons (cC (.str "big")) (cCons (cC (.int 0)) cNil)))) (cNext)) <|
  cRet (cTup (cCons (cC .non) (cCons (cOp getD (cVar 3) (cVar 0)) cNil)))
def F_law_due : List D → Mo D := cDef 4 b_law_due
/- law(0:_law_script, 1:_law_cell, 2:_law_one, 3:_law_other, 4:_law_op, 5:_law_first, 6:_law_second, 7:_law_found) -/
def l_law_2  : DS :=
  cSeq (cAsg (cCall (apF 3 F_math_of) (cCons (cVar 4) (cCons (cVar 5) (cCons (cVar 6) cNil)))) (kName 7)) <|
  cSeq (cIfS (cOrT (cNotT (cTru (cCall (ar2 (isiD isT)) (cCons (cVar 7) (cCons (cC (.ty "tuple")) cNil))))) (cTest (cOp neD (cVar 7) (cCall (apF 3 F_law_due) (cCons (cVar 4) (cCons (cVar 5) (cCons (cVar 6) cNil))))))) (cRet (cC (.bl false))) (cNext)) <|
  cIfS (cTru (cCall (ar2 (isiD isT)) (cCons (cOp getD (cVar 7) (cC (.int 1))) (cCons (cC (.ty "bool")) cNil)))) (cRet (cC (.bl false))) (cNext)
def l_law_1  : DS :=
  cFor (cIt (cLst (cCons (cTup (cCons (cVar 2) (cCons (cVar 3) cNil))) (cCons (cTup (cCons (cVar 3) (cCons (cVar 2) cNil))) cNil)))) (kTup (kCons (kName 5) (kCons (kName 6) kNil)) 2) (l_law_2)
def l_law_0  : DS :=
  cSeq (cAsg (cCall (apF 3 F_law_operand) (cCons (cOp modD (cOp fdivD (cVar 1) (cC (.int 9))) (cC (.int 2))) (cCons (cOp fdivD (cVar 1) (cC (.int 81))) (cCons (cC (.int 0)) cNil)))) (kName 2)) <|
  cSeq (cAsg (cCall (apF 3 F_law_operand) (cCons (cOp modD (cVar 1) (cC (.int 9))) (cCons (cOp fdivD (cVar 1) (cC (.int 162))) (cCons (cVar 2) cNil)))) (kName 3)) <|
  cSeq (cIfS (cTest (cOp eqD (cOp modD (cOp fdivD (cVar 1) (cC (.int 18))) (cC (.int 5))) (cC (.int 0)))) (cAsg (cCall (apF 3 F_law_operand) (cCons (cOp addD (cC (.int 6)) (cOp modD (cOp fdivD (cVar 1) (cC (.int 90))) (cC (.int 2)))) (cCons (cVar 1) (cCons (cC (.int 0)) cNil)))) (kName 2)) (cNext)) <|
  cFor (cIt (cLst (cCons (cC (.str "add")) (cCons (cC (.str "sub")) (cCons (cC (.str "mul")) (cCons (cC (.str "less")) (cCons (cC (.str "same")) cNil))))))) (kName 4) (l_law_1)
def b_law  : DS :=
  cSeq (cFor (cIt (cSl (cVar 0) (cPart none) (cPart (some (cC (.int 60)))))) (kName 1) (l_law_0)) <|
  cRet (cC (.bl true))
def F_law : List D → Mo D := cDef 8 b_law
end
end K12
end
section
namespace K12
open PySem PySem.Spec PyProof.Rows L2 Sm
/-- what is reckoned with -/
def Num (i : Int) : Prop := i.natAbs < 2 ^ 700
def Val (S : Sto) (d : D) : Prop := (∃ i, d = .int i ∧ Num i) ∨ ∃ l c fs, d = .loc l ∧ S[l]? = some (.ins c fs) ∧ (c = 0 ∨ c = 1)
theorem Val.old {S X : Sto} {d : D} (h : Val S d) : Val (S ++ X) d := by
  rcases h with h | ⟨l, c, fs, h1, h2, h3⟩
  · exact .inl h
  · exact .inr ⟨l, c, fs, h1, get_old h2, h3⟩
theorem isnum_int (i : Int) (S : Sto) : F_is_number [.int i] S = .ok (.bl true) S := by
  simp [F_is_number, b_is_number, startE, isiQ]
theorem isnum_loc {l c : Nat} {fs : List (Str × D)} {S : Sto} (h : S[l]? = some (.ins c fs)) (hc : c = 0 ∨ c = 1) : F_is_number [.loc l] S = .ok (.bl false) S := by
  rcases hc with rfl | rfl <;> simp [F_is_number, b_is_number, startE, isiQ, h]
def opf (op : Str) (i j : Int) : Int := if op = "add" then i + j else if op = "sub" then i - j else if op = "mul" then i * j else if op = "less" then (if i < j then 1 else 0) else if i = j then 1 else 0
theorem reck {op : Str} (hop : op ∈ (["add", "sub", "mul", "less", "same"] : List Str)) {i j : Int} (hi : Num i) (hj : Num j) (S : Sto) : F_reckoned [.str op, .int i, .int j] S = .ok (.int (opf op i j)) S := by
  have hm : okMul i j = true := okMul_n hi hj (by decide) (by decide) (by decide)
  simp only [List.mem_cons, List.not_mem_nil, or_false] at hop
  rcases hop with rfl | rfl | rfl | rfl | rfl <;> simp [F_reckoned, b_reckoned, startE, hm, opf]
def P40 : Int := 10000000000000000000000000000000000000000
def ans (f : Int) : D := if (f ≥ P40 ∨ f ≤ -P40) then .tup [.str "big", .int 0] else .tup [.non, .int f]
theorem math_int {op : Str} (hop : op ∈ (["add", "sub", "mul", "less", "same"] : List Str)) {i j : Int} (hi : Num i) (hj : Num j) (S : Sto) : F_math_of [.str op, .int i, .int j] S = .ok (ans (opf op i j)) S := by
  simp [F_math_of, b_math_of, startE, isnum_int, reck hop hi hj]
  unfold ans P40
  split <;> split <;> rename_i h1 h2
  · split <;> rename_i h3
    · simp
    · omega
  · split <;> rename_i h3
    · omega
    · simp
  · split <;> rename_i h3
    · simp
    · omega
  · split <;> rename_i h3
    · omega
    · simp
theorem math_non {op : Str} {x y : D} {S : Sto} (h : (∃ l c fs, x = .loc l ∧ S[l]? = some (.ins c fs) ∧ (c = 0 ∨ c = 1)) ∨ (∃ i, x = .int i) ∧ (∃ l c fs, y = .loc l ∧ S[l]? = some (.ins c fs) ∧ (c = 0 ∨ c = 1))) :
    F_math_of [.str op, x, y] S = .ok (.tup [.str "kind", .int 0]) S := by
  rcases h with ⟨l, c, fs, rfl, h, hc⟩ | ⟨⟨i, rfl⟩, l, c, fs, rfl, h, hc⟩
  · simp [F_math_of, b_math_of, startE, isnum_loc h hc]
  · simp [F_math_of, b_math_of, startE, isnum_loc h hc, isnum_int]
theorem due_non {op : Str} {x y : D} {S : Sto} (h : (∃ l c fs, x = .loc l ∧ S[l]? = some (.ins c fs) ∧ (c = 0 ∨ c = 1)) ∨ (∃ i, x = .int i) ∧ (∃ l c fs, y = .loc l ∧ S[l]? = some (.ins c fs) ∧ (c = 0 ∨ c = 1))) :
    F_law_due [.str op, x, y] S = .ok (.tup [.str "kind", .int 0]) S := by
  rcases h with ⟨l, c, fs, rfl, h, rfl | rfl⟩ | ⟨⟨i, rfl⟩, l, c, fs, rfl, h, rfl | rfl⟩ <;> simp [F_law_due, b_law_due, startE, h, isiQ]
theorem due_int {op : Str} (hop : op ∈ (["add", "sub", "mul", "less", "same"] : List Str)) {i j : Int} (hi : Num i) (hj : Num j) (S : Sto) : ∃ X, F_law_due [.str op, .int i, .int j] S = .ok (ans (opf op i j)) (S ++ X) := by
  have hm : okMul i j = true := okMul_n hi hj (by decide) (by decide) (by decide)
  have hat : ∀ (p : Prop) [Decidable p], L2.atI [D.int 0, D.int 1] (if p then 1 else 0) = some (D.int (if p then 1 else 0)) := fun p _ => by
    split <;> rfl
  have opN : ∀ i j : Int, opf "less" i j = if i < j then 1 else 0 := fun i j => by simp [opf]
  have opS : ∀ i j : Int, opf "same" i j = if i = j then 1 else 0 := fun i j => by simp [opf]
  by_cases h1 : P40 ≤ opf op i j
  · simp only [List.mem_cons, List.not_mem_nil, or_false] at hop
    rcases hop with rfl | rfl | rfl | rfl | rfl <;> simp [opf, P40] at h1 <;> simp [F_law_due, b_law_due, startE, isiQ, hm, dispF, mergeD, putD, hat, ans, opf, P40, h1]
  · by_cases h2 : opf op i j ≤ -P40
    · simp only [List.mem_cons, List.not_mem_nil, or_false] at hop
      rcases hop with rfl | rfl | rfl | rfl | rfl <;> simp [opf, P40] at h1 h2 <;> simp [F_law_due, b_law_due, startE, isiQ, hm, dispF, mergeD, putD, hat, ans, opf, P40, h1, h2, Int.not_le.mpr]
    · simp only [List.mem_cons, List.not_mem_nil, or_false] at hop
      rcases hop with rfl | rfl | rfl | rfl | rfl <;> simp [opf, P40] at h1 h2 <;> simp [F_law_due, b_law_due, startE, isiQ, hm, dispF, mergeD, putD, hat, ans, opf, P40, h1, h2, Int.not_le.mpr]
theorem fdiv_small {a b : Int} (ha : 0 ≤ a) (ha2 : a < 2 ^ 200) (hb : b ≠ 0) : Num (a.fdiv b) := by
  unfold Num
  rcases Int.lt_or_gt_of_ne hb with h | h
  · have e : a.fdiv b = (-a) / (-b) := by
      rw [← Int.neg_fdiv_neg a b, Int.fdiv_eq_ediv_of_nonneg _ (by omega)]
    rw [e]
    have h1 : -a / -b ≤ 0 := Int.ediv_nonpos_of_nonpos_of_neg (by omega) (by omega)
    have h2 : -a ≤ -a / -b := by
      rw [Int.le_ediv_iff_mul_le (by omega)]
      have : a * (-b) ≥ a * 1 := Int.mul_le_mul_of_nonneg_left (by omega) ha
      have e2 : -a * -b = -(a * (-b)) := by rw [Int.neg_mul]
      omega
    omega
  · rw [Int.fdiv_eq_ediv_of_nonneg _ (by omega)]
    have h1 : 0 ≤ a / b := Int.ediv_nonneg ha (by omega)
    have h2 : a / b ≤ a := Int.ediv_le_self b ha
    omega
def P60 : Int := 1000000000000000000000000000000000000000000000000000000000000
theorem operand {way n o : Int} (h0 : 0 ≤ way) (h8 : way ≤ 8) (ho : -P60 ≤ o) (ho2 : o ≤ P60) (S : Sto) : ∃ d X, F_law_operand [.int way, .int n, .int o] S = .ok d (S ++ X) ∧ Val (S ++ X) d ∧ (way ≤ 1 → X = [] ∧ ∃ i, d = .int i ∧ -P60 ≤ i ∧ i ≤ P60) := by
  unfold P60 at *
  have hw : way = 0 ∨ way = 1 ∨ way = 2 ∨ way = 3 ∨ way = 4 ∨ way = 5 ∨ way = 6 ∨ way = 7 ∨ way = 8 := by omega
  rcases hw with rfl | rfl | rfl | rfl | rfl | rfl | rfl | rfl | rfl
  · refine ⟨.int (n % 2000000000000000000000000000000000000000000000000000000000001 - 1000000000000000000000000000000000000000000000000000000000000), [], by simp [F_law_operand, b_law_operand, startE], .inl ⟨_, rfl, ?_⟩, fun _ => ⟨rfl, _, rfl, ?_, ?_⟩⟩
    · unfold Num; omega
    · omega
    · omega
  · refine ⟨.int (n % 2001 - 1000), [], by simp [F_law_operand, b_law_operand, startE], .inl ⟨_, rfl, ?_⟩, fun _ => ⟨rfl, _, rfl, ?_, ?_⟩⟩
    · unfold Num; omega
    · omega
    · omega
  · refine ⟨.int (10000000000000000000000000000000000000000 - o + n % 7 - 3), [], by simp [F_law_operand, b_law_operand, startE], .inl ⟨_, rfl, ?_⟩, fun h => absurd h (by decide)⟩
    unfold Num; omega
  · refine ⟨.int (o - 10000000000000000000000000000000000000000 + n % 7 - 3), [], by simp [F_law_operand, b_law_operand, startE], .inl ⟨_, rfl, ?_⟩, fun h => absurd h (by decide)⟩
    unfold Num; omega
  · refine ⟨.int (-10000000000000000000000000000000000000000 - o + n % 7 - 3), [], by simp [F_law_operand, b_law_operand, startE], .inl ⟨_, rfl, ?_⟩, fun h => absurd h (by decide)⟩
    unfold Num; omega
  · by_cases hz : o = 0
    · subst hz
      exact ⟨.int 0, [], by simp [F_law_operand, b_law_operand, startE], .inl ⟨_, rfl, by unfold Num; decide⟩, fun h => absurd h (by decide)⟩
    · have hd : ∀ i, okDiv i o = true := fun i => okDiv_n hz (by omega)
      exact ⟨.int ((10000000000000000000000000000000000000000 + n % 7 - 3).fdiv o), [], by simp [F_law_operand, b_law_operand, startE, hz, hd], .inl ⟨_, rfl, fdiv_small (by omega) (by omega) hz⟩, fun h => absurd h (by decide)⟩
  · exact ⟨.loc S.length, [.ins 0 [("tag", .str "a"), ("fields", .tup [.int 1, .int 2])]], by simp [F_law_operand, b_law_operand, startE, F_Block_init, b_Block_init, putFD], .inr ⟨S.length, 0, [("tag", .str "a"), ("fields", .tup [.int 1, .int 2])], rfl, by simp, .inl rfl⟩, fun h => absurd h (by decide)⟩
  · exact ⟨.loc S.length, [.ins 1 [("place", .int (n % 600))]], by simp [F_law_operand, b_law_operand, startE, F_Function_init, b_Function_init, putFD], .inr ⟨S.length, 1, [("place", .int (n % 600))], rfl, by simp, .inr rfl⟩, fun h => absurd h (by decide)⟩
  · exact ⟨.int o, [], by simp [F_law_operand, b_law_operand, startE], .inl ⟨_, rfl, by unfold Num; omega⟩, fun h => absurd h (by decide)⟩
theorem ne_ans (f : Int) (S : Sto) : neD (ans f) (ans f) S = .ok (.bl false) S := by
  unfold ans
  split
  · exact ne_refl 2 rfl (by decide +kernel) (by decide +kernel)
  · exact ne_refl 2 rfl rfl (by simp [PyData.eqv, PyData.eqvAll])
theorem ne_kind (S : Sto) : neD (.tup [.str "kind", .int 0]) (.tup [.str "kind", .int 0]) S = .ok (.bl false) S := ne_refl 2 rfl (by decide +kernel) (by decide +kernel)
theorem turn2 {op : Str} (hop : op ∈ (["add", "sub", "mul", "less", "same"] : List Str)) {x y : D} {S : Sto} (hx : Val S x) (hy : Val S y) (a b c d z : Option D) :
    ∃ w X, l_law_2 [a, b, c, d, some (.str op), some x, some y, z] S = .nx [a, b, c, d, some (.str op), some x, some y, some w] (S ++ X) := by
  rcases hx with ⟨i, rfl, hi⟩ | hx
  · rcases hy with ⟨j, rfl, hj⟩ | hy
    · obtain ⟨X, h⟩ := due_int hop hi hj S
      refine ⟨ans (opf op i j), X, ?_⟩
      have e : ∃ q v, ans (opf op i j) = .tup [q, .int v] := by
        unfold ans
        split
        · exact ⟨_, _, rfl⟩
        · exact ⟨_, _, rfl⟩
      obtain ⟨q, v, e⟩ := e
      have h2 := ne_ans (opf op i j) (S ++ X)
      have h3 := math_int hop hi hj S
      rw [e] at h h2 h3 ⊢
      simp [l_law_2, h3, h, h2, isiQ]
    · refine ⟨.tup [.str "kind", .int 0], [], ?_⟩
      simp [l_law_2, math_non (op := op) (.inr ⟨⟨i, rfl⟩, hy⟩), due_non (op := op) (.inr ⟨⟨i, rfl⟩, hy⟩), ne_kind, isiQ]
  · refine ⟨.tup [.str "kind", .int 0], [], ?_⟩
    simp [l_law_2, math_non (op := op) (.inl hx), due_non (op := op) (.inl hx), ne_kind, isiQ]
theorem turn1 {op : Str} (hop : op ∈ (["add", "sub", "mul", "less", "same"] : List Str)) {x y : D} {S : Sto} (hx : Val S x) (hy : Val S y) (a b : Option D) (u v w : Option D) :
    ∃ u' v' w' X, l_law_1 [a, b, some x, some y, some (.str op), u, v, w] S = .nx [a, b, some x, some y, some (.str op), u', v', w'] (S ++ X) := by
  unfold l_law_1
  simp
  obtain ⟨ρ', S', e, p⟩ := loopL_inv (k := kTup (kCons (kName 5) (kCons (kName 6) kNil)) 2) (s := l_law_2) (l := S.length) (ds := [.tup [x, y], .tup [y, x]]) (ρ := [a, b, some x, some y, some (.str op), u, v, w]) (S := S ++ [.lst [.tup [x, y], .tup [y, x]]])
    (fun _ ρ S' => ∃ u v w X, ρ = [a, b, some x, some y, some (.str op), u, v, w] ∧ S' = S ++ .lst [.tup [x, y], .tup [y, x]] :: X)
    (by rintro i ρ S' ⟨u, v, w, X, rfl, rfl⟩; simp)
    (by
      rintro i d ρ S' hd ⟨u, v, w, X, rfl, rfl⟩
      have hd2 : ∃ f s, d = .tup [f, s] ∧ ((f = x ∧ s = y) ∨ (f = y ∧ s = x)) := by
        rcases i with _ | _ | i
        · exact ⟨x, y, by simpa using hd.symm, .inl ⟨rfl, rfl⟩⟩
        · exact ⟨y, x, by simpa using hd.symm, .inr ⟨rfl, rfl⟩⟩
        · simp at hd
      obtain ⟨f, s, rfl, hfs⟩ := hd2
      refine ⟨[a, b, some x, some y, some (.str op), some f, some s, w], _, by simp; rfl, ?_⟩
      have hv : Val (S ++ .lst [.tup [x, y], .tup [y, x]] :: X) f ∧ Val (S ++ .lst [.tup [x, y], .tup [y, x]] :: X) s := by
        rcases hfs with ⟨rfl, rfl⟩ | ⟨rfl, rfl⟩
        · exact ⟨hx.old, hy.old⟩
        · exact ⟨hy.old, hx.old⟩
      obtain ⟨w', X', e⟩ := turn2 hop hv.1 hv.2 a b (some x) (some y) w
      exact ⟨_, _, .inl e, some f, some s, some w', X ++ X', rfl, by simp⟩)
    ⟨u, v, w, [], rfl, rfl⟩
  obtain ⟨u', v', w', X, rfl, rfl⟩ := p
  exact ⟨u', v', w', _, e⟩
theorem turn0 (a c d e : Option D) (n : Int) (u v w : Option D) (S : Sto) : ∃ c' d' e' u' v' w' X, l_law_0 [a, some (.int n), c, d, e, u, v, w] S = .nx [a, some (.int n), c', d', e', u', v', w'] (S ++ X) := by
  obtain ⟨d1, X1, e1, _, h1⟩ := operand (way := n / 9 % 2) (n := n / 81) (o := 0) (by omega) (by omega) (by decide) (by decide) S
  obtain ⟨rfl, i, rfl, hi1, hi2⟩ := h1 (by omega)
  obtain ⟨d2, X2, e2, v2, _⟩ := operand (way := n % 9) (n := n / 162) (o := i) (by omega) (by omega) hi1 hi2 S
  have hv1 : Val S (.int i) := .inl ⟨i, rfl, by unfold Num P60 at *; omega⟩
  have e1' : F_law_operand [.int (n / 9 % 2), .int (n / 81), .int 0] S = .ok (.int i) S := by simpa using e1
  have main : ∀ (x y : D) (S' : Sto), Val S' x → Val S' y → ∃ e' u' v' w' X, cFor (cIt (cLst (cCons (cC (.str "add")) (cCons (cC (.str "sub")) (cCons (cC (.str "mul")) (cCons (cC (.str "less")) (cCons (cC (.str "same")) cNil))))))) (kName 4) l_law_1 [a, some (.int n), some x, some y, e, u, v, w] S' = .nx [a, some (.int n), some x, some y, e', u', v', w'] (S' ++ X) := by
    intro x y S' hx hy
    simp
    obtain ⟨ρ', S2, e3, p⟩ := loopL_inv (k := kName 4) (s := l_law_1) (l := S'.length) (ds := [.str "add", .str "sub", .str "mul", .str "less", .str "same"]) (ρ := [a, some (.int n), some x, some y, e, u, v, w]) (S := S' ++ [.lst [.str "add", .str "sub", .str "mul", .str "less", .str "same"]])
      (fun _ ρ S2 => ∃ e u v w X, ρ = [a, some (.int n), some x, some y, e, u, v, w] ∧ S2 = S' ++ .lst [.str "add", .str "sub", .str "mul", .str "less", .str "same"] :: X)
      (by rintro i ρ S' ⟨e, u, v, w, X, rfl, rfl⟩; simp)
      (by
        rintro i d ρ S2 hd ⟨e, u, v, w, X, rfl, rfl⟩
        have hd2 : ∃ op, d = .str op ∧ op ∈ (["add", "sub", "mul", "less", "same"] : List Str) := by
          have := List.mem_of_getElem? hd
          simp only [List.mem_cons, List.not_mem_nil, or_false] at this
          rcases this with rfl | rfl | rfl | rfl | rfl <;> exact ⟨_, rfl, by simp⟩
        obtain ⟨op, rfl, hop⟩ := hd2
        refine ⟨[a, some (.int n), some x, some y, some (.str op), u, v, w], _, by simp; rfl, ?_⟩
        obtain ⟨u', v', w', X', e4⟩ := turn1 hop (Val.old (X := .lst [.str "add", .str "sub", .str "mul", .str "less", .str "same"] :: X) hx) (Val.old hy) a (some (.int n)) u v w
        exact ⟨_, _, .inl e4, some (.str op), u', v', w', X ++ X', rfl, by simp⟩)
      ⟨e, u, v, w, [], rfl, rfl⟩
    obtain ⟨e', u', v', w', X, rfl, rfl⟩ := p
    exact ⟨e', u', v', w', _, e3⟩
  by_cases hc : n / 18 % 5 = 0
  · obtain ⟨d3, X3, e3, v3, _⟩ := operand (way := 6 + n / 90 % 2) (n := n) (o := 0) (by omega) (by omega) (by decide) (by decide) (S ++ X2)
    obtain ⟨e', u', v', w', X, h⟩ := main d3 d2 (S ++ X2 ++ X3) v3 v2.old
    refine ⟨some d3, some d2, e', u', v', w', X2 ++ X3 ++ X, ?_⟩
    have h' := h
    simp only [List.append_assoc] at h' e3 ⊢
    unfold l_law_0
    simp [e1', e2, hc, e3, -cFor_e]
    exact h'
  · obtain ⟨e', u', v', w', X, h⟩ := main (.int i) d2 (S ++ X2) hv1.old v2
    refine ⟨some (.int i), some d2, e', u', v', w', X2 ++ X, ?_⟩
    simp only [List.append_assoc] at h ⊢
    unfold l_law_0
    simp [e1', e2, hc, -cFor_e]
    exact h
theorem plain (ns : List Int) (_ : ns.length ≤ 63) (_ : ∀ z ∈ ns, Builtin.Int.intBits z ≤ 1048576) : ∃ S', F_law [.lsc (ns.map .int)] [] = .ok (.bl true) S' := by
  obtain ⟨ρ', S2, e3, p⟩ := loopL_inv (k := kName 1) (s := l_law_0) (l := 0) (ds := cutD (ns.map .int) none (some 60)) (ρ := [some (.lsc (ns.map .int)), none, none, none, none, none, none, none]) (S := [.lst (cutD (ns.map .int) none (some 60))])
    (fun _ ρ S2 => ∃ b c d e u v w X, ρ = [some (.lsc (ns.map .int)), b, c, d, e, u, v, w] ∧ S2 = .lst (cutD (ns.map .int) none (some 60)) :: X)
    (by rintro i ρ S' ⟨b, c, d, e, u, v, w, X, rfl, rfl⟩; rfl)
    (by
      rintro i d ρ S2 hd ⟨b, c, d', e, u, v, w, X, rfl, rfl⟩
      obtain ⟨z, _, rfl⟩ := cut_int hd
      refine ⟨[some (.lsc (ns.map .int)), some (.int z), c, d', e, u, v, w], _, by simp; rfl, ?_⟩
      obtain ⟨c1, d1, e1, u1, v1, w1, X1, h⟩ := turn0 (some (.lsc (ns.map .int))) c d' e z u v w (.lst (cutD (ns.map .int) none (some 60)) :: X)
      exact ⟨_, _, .inl h, _, _, _, _, _, _, _, X ++ X1, rfl, by simp⟩)
    ⟨none, none, none, none, none, none, none, [], rfl, rfl⟩
  refine ⟨S2, ?_⟩
  unfold F_law b_law
  simp [startE, e3]
end K12
end
section
namespace K12
open PySem PySem.Spec PyProof.Rows L2 Sm
def top (i : Nat) : Stmt := PySem.Challenge.pw_spacewright_k12_reckoning.main.body.getD i (.Pass ⟨0, 0, 0, 0⟩)
abbrev st_is_number : Stmt := top 3
theorem sc_is_number : FnScope ["value"] ["value"] (defScope st_is_number) := ⟨rfl, rfl, rfl, by decide +kernel, rfl, by decide +kernel, by decide +kernel⟩
abbrev st_reckoned : Stmt := top 4
theorem sc_reckoned : FnScope ["op", "one", "other"] ["op", "one", "other"] (defScope st_reckoned) := ⟨rfl, rfl, rfl, by decide +kernel, rfl, by decide +kernel, by decide +kernel⟩
abbrev st_math_of : Stmt := top 5
theorem sc_math_of : FnScope ["op", "one", "other", "found"] ["op", "one", "other"] (defScope st_math_of) := ⟨rfl, rfl, rfl, by decide +kernel, rfl, by decide +kernel, by decide +kernel⟩
abbrev st_law_operand : Stmt := top 7
theorem sc_law_operand : FnScope ["_law_way", "_law_number", "_law_other"] ["_law_way", "_law_number", "_law_other"] (defScope st_law_operand) := ⟨rfl, rfl, rfl, by decide +kernel, rfl, by decide +kernel, by decide +kernel⟩
abbrev st_law_due : Stmt := top 8
theorem sc_law_due : FnScope ["_law_op", "_law_one", "_law_other", "_law_found"] ["_law_op", "_law_one", "_law_other"] (defScope st_law_due) := ⟨rfl, rfl, rfl, by decide +kernel, rfl, by decide +kernel, by decide +kernel⟩
abbrev st_law : Stmt := top 9
theorem sc_law : FnScope ["_law_script", "_law_cell", "_law_one", "_law_other", "_law_op", "_law_first", "_law_second", "_law_found"] ["_law_script"] (defScope st_law) := ⟨rfl, rfl, rfl, by decide +kernel, rfl, by decide +kernel, by decide +kernel⟩
abbrev st_Block_init : Stmt := inClass (top 1) 0
theorem sc_Block_init : FnScope ["self", "tag", "fields"] ["self", "tag", "fields"] (defScope st_Block_init) := ⟨rfl, rfl, rfl, by decide +kernel, rfl, by decide +kernel, by decide +kernel⟩
abbrev st_Function_init : Stmt := inClass (top 2) 0
theorem sc_Function_init : FnScope ["self", "place"] ["self", "place"] (defScope st_Function_init) := ⟨rfl, rfl, rfl, by decide +kernel, rfl, by decide +kernel, by decide +kernel⟩
abbrev gx (K : PySem.W.Frag) (C0 C1 : Addr) : Gx := ⟨K, pick [C0, C1], fun _ => 0⟩
structure Tx (K : PySem.W.Frag) (mg : Str → Option Value) (C0 C1 : Addr) : Type where
  d_is_number : FnT K mg "is_number" st_is_number ["value"]
  d_reckoned : FnT K mg "reckoned" st_reckoned ["op", "one", "other"]
  d_math_of : FnT K mg "math_of" st_math_of ["op", "one", "other"]
  d_law_operand : FnT K mg "_law_operand" st_law_operand ["_law_way", "_law_number", "_law_other"]
  d_law_due : FnT K mg "_law_due" st_law_due ["_law_op", "_law_one", "_law_other"]
  d_law : FnT K mg "law" st_law ["_law_script"]
  i_Block : InT K mg C0 "Block" "Block.__init__" st_Block_init ["self", "tag", "fields"]
  i_Function : InT K mg C1 "Function" "Function.__init__" st_Function_init ["self", "place"]
  z_abs : mg "abs" = none
  z_bool : mg "bool" = none
  z_int : mg "int" = none
  z_isinstance : mg "isinstance" = none
  z_tuple : mg "tuple" = none
  tb : TabOk (gx K C0 C1) tab
  jt : IsTab (gx K C0 C1) isT
section
variable {P : Program} {w : World} {K : PySem.W.Frag} {mg : Str → Option Value} {base : Heap} {C0 C1 : Addr}
theorem ok_is_number (T : Tx K mg C0 C1) : FnOk P w K mg base (L2.CX P w) (1) T.d_is_number.fn T.d_is_number.fd ["value"] (spF (gx K C0 C1) 1 F_is_number) := by
  exact fn_do (k := 0) T.d_is_number.F sc_is_number rfl rfl fun cdv A outer s0 H E hr =>
    dss_one (ds_ret (de_and rfl (de_isi T.jt rfl T.z_isinstance PyProof.Rows.boot_isinstance (da_cons (de_var 0) (da_cons (de_bltn T.z_int PyProof.Rows.boot_int) da_nil))) (de_one (de_not rfl (de_isi T.jt rfl T.z_isinstance PyProof.Rows.boot_isinstance (da_cons (de_var 0) (da_cons (de_bltn T.z_bool PyProof.Rows.boot_bool) da_nil)))))))
theorem ok_reckoned (T : Tx K mg C0 C1) : FnOk P w K mg base (L2.CX P w) (1) T.d_reckoned.fn T.d_reckoned.fd ["op", "one", "other"] (spF (gx K C0 C1) 3 F_reckoned) := by
  exact fn_do (k := 0) T.d_reckoned.F sc_reckoned rfl rfl fun cdv A outer s0 H E hr =>
    dss_cons (ds_if (dt_cmp (op_eqA rfl hr) eq_ok (de_var 0) (de_str)) (dss_one (ds_ret (de_add rfl (de_var 1) (de_var 2)))) (dss_nil)) <|
    dss_cons (ds_if (dt_cmp (op_eqA rfl hr) eq_ok (de_var 0) (de_str)) (dss_one (ds_ret (de_sub (de_var 1) (de_var 2)))) (dss_nil)) <|
    dss_cons (ds_if (dt_cmp (op_eqA rfl hr) eq_ok (de_var 0) (de_str)) (dss_one (ds_ret (de_mul (de_var 1) (de_var 2)))) (dss_nil)) <|
    dss_cons (ds_if (dt_cmp (op_eqA rfl hr) eq_ok (de_var 0) (de_str)) (dss_one (ds_ret (de_callTy call_int1 int_ok T.z_int PyProof.Rows.boot_int (da_cons (de_cmp op_lt lt_ok (de_var 1) (de_var 2)) da_nil)))) (dss_nil)) <|
    dss_one (ds_ret (de_callTy call_int1 int_ok T.z_int PyProof.Rows.boot_int (da_cons (de_cmp (op_eqA rfl hr) eq_ok (de_var 1) (de_var 2)) da_nil)))
theorem ok_math_of (T : Tx K mg C0 C1) : FnOk P w K mg base (L2.CX P w) (2) T.d_math_of.fn T.d_math_of.fd ["op", "one", "other"] (spF (gx K C0 C1) 3 F_math_of) := by
  have G_is_number := ok_is_number (P := P) (w := w) (base := base) T
  have G_reckoned := ok_reckoned (P := P) (w := w) (base := base) T
  exact fn_do (k := 1) T.d_math_of.F sc_math_of rfl rfl fun cdv A outer s0 H E hr =>
    dss_cons (ds_if (dt_pw (dw_or (dt_not (dt_tru (de_fn G_is_number (hr.mono (by omega)) T.d_is_number.m T.d_is_number.k T.d_is_number.b (takes_of rfl rfl rfl rfl) (da_cons (de_var 1) da_nil)) rfl)) (dw_or1 (dt_not (dt_tru (de_fn G_is_number (hr.mono (by omega)) T.d_is_number.m T.d_is_number.k T.d_is_number.b (takes_of rfl rfl rfl rfl) (da_cons (de_var 2) da_nil)) rfl))))) (dss_one (ds_ret (de_tup (da_cons (de_str) (da_cons (de_int) da_nil))))) (dss_nil)) <|
    dss_cons (ds_set 3 sc_math_of.nd (de_fn G_reckoned (hr.mono (by omega)) T.d_reckoned.m T.d_reckoned.k T.d_reckoned.b (takes_of rfl rfl rfl rfl) (da_cons (de_var 0) (da_cons (de_var 1) (da_cons (de_var 2) da_nil))))) <|
    dss_cons (ds_if (dt_cmp op_ge ge_ok (de_callB call_abs abs_ok T.z_abs PyProof.Rows.boot_abs (da_cons (de_var 3) da_nil)) (de_pow (de_int) (de_int))) (dss_one (ds_ret (de_tup (da_cons (de_str) (da_cons (de_int) da_nil))))) (dss_nil)) <|
    dss_one (ds_ret (de_tup (da_cons (de_non) (da_cons (de_var 3) da_nil))))
theorem ok_Block_init (T : Tx K mg C0 C1) : FnOk P w K mg base (L2.CX P w) (1) T.i_Block.fn T.i_Block.fd ["self", "tag", "fields"] (spF (gx K C0 C1) 3 F_Block_init) := by
  exact fn_do (k := 0) T.i_Block.F sc_Block_init rfl rfl fun cdv A outer s0 H E hr =>
    dss_cons (ds_fld T.tb rfl (de_var 0) (de_var 1)) <|
    dss_one (ds_fld T.tb rfl (de_var 0) (de_var 2))
theorem ok_Function_init (T : Tx K mg C0 C1) : FnOk P w K mg base (L2.CX P w) (1) T.i_Function.fn T.i_Function.fd ["self", "place"] (spF (gx K C0 C1) 2 F_Function_init) := by
  exact fn_do (k := 0) T.i_Function.F sc_Function_init rfl rfl fun cdv A outer s0 H E hr =>
    dss_one (ds_fld T.tb rfl (de_var 0) (de_var 1))
theorem ok_law_operand (T : Tx K mg C0 C1) : FnOk P w K mg base (L2.CX P w) (3) T.d_law_operand.fn T.d_law_operand.fd ["_law_way", "_law_number", "_law_other"] (spF (gx K C0 C1) 3 F_law_operand) := by
  have G_Block_init := ok_Block_init (P := P) (w := w) (base := base) T
  have G_Function_init := ok_Function_init (P := P) (w := w) (base := base) T
  exact fn_do (k := 2) T.d_law_operand.F sc_law_operand rfl rfl fun cdv A outer s0 H E hr =>
    dss_cons (ds_if (dt_cmp (op_eqA rfl hr) eq_ok (de_var 0) (de_int)) (dss_one (ds_ret (de_sub (de_mod (de_var 1) (de_add rfl (de_mul (de_int) (de_pow (de_int) (de_int))) (de_int))) (de_pow (de_int) (de_int))))) (dss_nil)) <|
    dss_cons (ds_if (dt_cmp (op_eqA rfl hr) eq_ok (de_var 0) (de_int)) (dss_one (ds_ret (de_sub (de_mod (de_var 1) (de_int)) (de_int)))) (dss_nil)) <|
    dss_cons (ds_if (dt_cmp (op_eqA rfl hr) eq_ok (de_var 0) (de_int)) (dss_one (ds_ret (de_sub (de_add rfl (de_sub (de_pow (de_int) (de_int)) (de_var 2)) (de_mod (de_var 1) (de_int))) (de_int)))) (dss_nil)) <|
    dss_cons (ds_if (dt_cmp (op_eqA rfl hr) eq_ok (de_var 0) (de_int)) (dss_one (ds_ret (de_sub (de_add rfl (de_sub (de_var 2) (de_pow (de_int) (de_int))) (de_mod (de_var 1) (de_int))) (de_int)))) (dss_nil)) <|
    dss_cons (ds_if (dt_cmp (op_eqA rfl hr) eq_ok (de_var 0) (de_int)) (dss_one (ds_ret (de_sub (de_add rfl (de_sub (de_sub (de_int) (de_pow (de_int) (de_int))) (de_var 2)) (de_mod (de_var 1) (de_int))) (de_int)))) (dss_nil)) <|
    dss_cons (ds_if (dt_pw (dw_and (dt_cmp (op_eqA rfl hr) eq_ok (de_var 0) (de_int)) (dw_and1 (dt_cmp (op_neA rfl hr) ne_ok (de_var 2) (de_int))))) (dss_one (ds_ret (de_fdiv (de_sub (de_add rfl (de_pow (de_int) (de_int)) (de_mod (de_var 1) (de_int))) (de_int)) (de_var 2)))) (dss_nil)) <|
    dss_cons (ds_if (dt_cmp (op_eqA rfl hr) eq_ok (de_var 0) (de_int)) (dss_one (ds_ret (de_new (c := 0) T.i_Block.M G_Block_init (hr.mono (by omega)) T.i_Block.m T.i_Block.b .nil (fun _ _ _ => .nil) (takes_of rfl rfl rfl rfl) (da_cons (de_str) (da_cons (de_tup (da_cons (de_int) (da_cons (de_int) da_nil))) da_nil))))) (dss_nil)) <|
    dss_cons (ds_if (dt_cmp (op_eqA rfl hr) eq_ok (de_var 0) (de_int)) (dss_one (ds_ret (de_new (c := 1) T.i_Function.M G_Function_init (hr.mono (by omega)) T.i_Function.m T.i_Function.b .nil (fun _ _ _ => .nil) (takes_of rfl rfl rfl rfl) (da_cons (de_mod (de_var 1) (de_int)) da_nil)))) (dss_nil)) <|
    dss_one (ds_ret (de_var 2))
theorem ok_law_due (T : Tx K mg C0 C1) : FnOk P w K mg base (L2.CX P w) (1) T.d_law_due.fn T.d_law_due.fd ["_law_op", "_law_one", "_law_other"] (spF (gx K C0 C1) 3 F_law_due) := by
  exact fn_do (k := 0) T.d_law_due.F sc_law_due rfl rfl fun cdv A outer s0 H E hr =>
    dss_cons (ds_if (dt_pw (dw_or (dt_not (dt_tru (de_isi T.jt rfl T.z_isinstance PyProof.Rows.boot_isinstance (da_cons (de_var 1) (da_cons (de_bltn T.z_int PyProof.Rows.boot_int) da_nil))) rfl)) (dw_or1 (dt_not (dt_tru (de_isi T.jt rfl T.z_isinstance PyProof.Rows.boot_isinstance (da_cons (de_var 2) (da_cons (de_bltn T.z_int PyProof.Rows.boot_int) da_nil))) rfl))))) (dss_one (ds_ret (de_tup (da_cons (de_str) (da_cons (de_int) da_nil))))) (dss_nil)) <|
    dss_cons (ds_set 3 sc_law_due.nd (de_dict (dps_cons (de_str) (de_add rfl (de_var 1) (de_var 2)) (dps_cons (de_str) (de_sub (de_var 1) (de_var 2)) (dps_cons (de_str) (de_mul (de_var 1) (de_var 2)) dps_nil))))) <|
    dss_cons (ds_st hr (de_var 3) (de_str) (de_ix rfl hr (de_lst (da_cons (de_int) (da_cons (de_int) da_nil))) (de_callTy call_int1 int_ok T.z_int PyProof.Rows.boot_int (da_cons (de_cmp op_lt lt_ok (de_var 1) (de_var 2)) da_nil)))) <|
    dss_cons (ds_st hr (de_var 3) (de_str) (de_ix rfl hr (de_lst (da_cons (de_int) (da_cons (de_int) da_nil))) (de_callTy call_int1 int_ok T.z_int PyProof.Rows.boot_int (da_cons (de_cmp (op_eqA rfl hr) eq_ok (de_var 1) (de_var 2)) da_nil)))) <|
    dss_cons (ds_if (dt_pw (dw_or (dt_cmp op_ge ge_ok (de_ix rfl hr (de_var 3) (de_var 0)) (de_pow (de_int) (de_int))) (dw_or1 (dt_cmp op_le le_ok (de_ix rfl hr (de_var 3) (de_var 0)) (de_sub (de_int) (de_pow (de_int) (de_int))))))) (dss_one (ds_ret (de_tup (da_cons (de_str) (da_cons (de_int) da_nil))))) (dss_nil)) <|
    dss_one (ds_ret (de_tup (da_cons (de_non) (da_cons (de_ix rfl hr (de_var 3) (de_var 0)) da_nil))))
theorem ok_law (T : Tx K mg C0 C1) : FnOk P w K mg base (L2.CX P w) (4) T.d_law.fn T.d_law.fd ["_law_script"] (spF (gx K C0 C1) 1 F_law) := by
  have G_law_due := ok_law_due (P := P) (w := w) (base := base) T
  have G_law_operand := ok_law_operand (P := P) (w := w) (base := base) T
  have G_math_of := ok_math_of (P := P) (w := w) (base := base) T
  exact fn_do (k := 3) T.d_law.F sc_law rfl rfl fun cdv A outer s0 H E hr =>
    dss_cons (ds_for (passes_of rfl) rfl (di_any rfl (de_slice rfl (de_var 0) dp_none (dp_some (de_int)))) (dg_name 1 sc_law.nd) (dss_cons (ds_set 2 sc_law.nd (de_fn G_law_operand (hr.mono (by omega)) T.d_law_operand.m T.d_law_operand.k T.d_law_operand.b (takes_of rfl rfl rfl rfl) (da_cons (de_mod (de_fdiv (de_var 1) (de_int)) (de_int)) (da_cons (de_fdiv (de_var 1) (de_int)) (da_cons (de_int) da_nil))))) <|
    dss_cons (ds_set 3 sc_law.nd (de_fn G_law_operand (hr.mono (by omega)) T.d_law_operand.m T.d_law_operand.k T.d_law_operand.b (takes_of rfl rfl rfl rfl) (da_cons (de_mod (de_var 1) (de_int)) (da_cons (de_fdiv (de_var 1) (de_int)) (da_cons (de_var 2) da_nil))))) <|
    dss_cons (ds_if (dt_cmp (op_eqA rfl hr) eq_ok (de_mod (de_fdiv (de_var 1) (de_int)) (de_int)) (de_int)) (dss_one (ds_set 2 sc_law.nd (de_fn G_law_operand (hr.mono (by omega)) T.d_law_operand.m T.d_law_operand.k T.d_law_operand.b (takes_of rfl rfl rfl rfl) (da_cons (de_add rfl (de_int) (de_mod (de_fdiv (de_var 1) (de_int)) (de_int))) (da_cons (de_var 1) (da_cons (de_int) da_nil)))))) (dss_nil)) <|
    dss_one (ds_for (passes_of rfl) rfl (di_any rfl (de_lst (da_cons (de_str) (da_cons (de_str) (da_cons (de_str) (da_cons (de_str) (da_cons (de_str) da_nil))))))) (dg_name 4 sc_law.nd) (dss_one (ds_for (passes_of rfl) rfl (di_any rfl (de_lst (da_cons (de_tup (da_cons (de_var 2) (da_cons (de_var 3) da_nil))) (da_cons (de_tup (da_cons (de_var 3) (da_cons (de_var 2) da_nil))) da_nil)))) (dg_tup rfl rfl (dgs_cons (dg_name 5 sc_law.nd) (dgs_cons (dg_name 6 sc_law.nd) dgs_nil))) (dss_cons (ds_set 7 sc_law.nd (de_fn G_math_of (hr.mono (by omega)) T.d_math_of.m T.d_math_of.k T.d_math_of.b (takes_of rfl rfl rfl rfl) (da_cons (de_var 4) (da_cons (de_var 5) (da_cons (de_var 6) da_nil))))) <|
    dss_cons (ds_if (dt_pw (dw_or (dt_not (dt_tru (de_isi T.jt rfl T.z_isinstance PyProof.Rows.boot_isinstance (da_cons (de_var 7) (da_cons (de_bltn T.z_tuple PyProof.Rows.boot_tuple) da_nil))) rfl)) (dw_or1 (dt_cmp (op_neA rfl hr) ne_ok (de_var 7) (de_fn G_law_due (hr.mono (by omega)) T.d_law_due.m T.d_law_due.k T.d_law_due.b (takes_of rfl rfl rfl rfl) (da_cons (de_var 4) (da_cons (de_var 5) (da_cons (de_var 6) da_nil)))))))) (dss_one (ds_ret (de_bl))) (dss_nil)) <|
    dss_one (ds_if (dt_tru (de_isi T.jt rfl T.z_isinstance PyProof.Rows.boot_isinstance (da_cons (de_ix rfl hr (de_var 7) (de_int)) (da_cons (de_bltn T.z_bool PyProof.Rows.boot_bool) da_nil))) rfl) (dss_one (ds_ret (de_bl))) (dss_nil)))))))) <|
    dss_one (ds_ret (de_bl))
theorem all_mk {h : Heap} {fa : Addr} (X : K.In h) (G : h.Ns mainGlobals mg) (hfa : mg "law" = some (.ref fa))
    {f_is_number : Addr} {od_is_number an_is_number : Option Addr} {sl_is_number : Array (Option Value)} {oc_is_number kV_is_number dc_is_number pm_is_number cd_is_number ct_is_number : Value}
    {f_reckoned : Addr} {od_reckoned an_reckoned : Option Addr} {sl_reckoned : Array (Option Value)} {oc_reckoned kV_reckoned dc_reckoned pm_reckoned cd_reckoned ct_reckoned : Value}
    {f_math_of : Addr} {od_math_of an_math_of : Option Addr} {sl_math_of : Array (Option Value)} {oc_math_of kV_math_of dc_math_of pm_math_of cd_math_of ct_math_of : Value}
    {f_law_operand : Addr} {od_law_operand an_law_operand : Option Addr} {sl_law_operand : Array (Option Value)} {oc_law_operand kV_law_operand dc_law_operand pm_law_operand cd_law_operand ct_law_operand : Value}
    {f_law_due : Addr} {od_law_due an_law_due : Option Addr} {sl_law_due : Array (Option Value)} {oc_law_due kV_law_due dc_law_due pm_law_due cd_law_due ct_law_due : Value}
    {f_law : Addr} {od_law an_law : Option Addr} {sl_law : Array (Option Value)} {oc_law kV_law dc_law pm_law cd_law ct_law : Value}
    {f_Block_init : Addr} {od_Block_init an_Block_init : Option Addr} {sl_Block_init : Array (Option Value)} {oc_Block_init kV_Block_init dc_Block_init pm_Block_init cd_Block_init ct_Block_init : Value}
    {f_Function_init : Addr} {od_Function_init an_Function_init : Option Addr} {sl_Function_init : Array (Option Value)} {oc_Function_init kV_Function_init dc_Function_init pm_Function_init cd_Function_init ct_Function_init : Value}
    (a_C0 : PySem.W.nsIn K mainGlobals "Block" = some (some (.ref C0)))
    (pg_0 : PySem.W.plainGet K C0 Str.empty = true)
    (hd_0 : PySem.W.hasDictIn K C0 = true)
    (po_0 : PySem.W.plainOver K C0 = true)
    (sa_0 : PySem.W.findIn K (.ref C0) "__setattr__" = some (some (.builtin "object.__setattr__")))
    (mk_0 : PySem.W.makesIn K C0 = true)
    (kc_0 : PySem.W.keepIn K (.ref C0) = true)
    (cc_0 : PySem.W.findIn K (.ref C0) "__class__" = some (some (.builtin "object.__class__")))
    (mo_0 : PySem.W.mroIn K C0 (.type "object") = some true)
    (ic_0 : PySem.W.isClsIn K C0 = true)
    (ty_0 : PySem.W.typeIn K (.ref C0) = some (.type "type"))
    (n_0_tag : PySem.W.findIn K (.ref C0) "tag" = some none)
    (n_0_fields : PySem.W.findIn K (.ref C0) "fields" = some none)
    (a_C1 : PySem.W.nsIn K mainGlobals "Function" = some (some (.ref C1)))
    (pg_1 : PySem.W.plainGet K C1 Str.empty = true)
    (hd_1 : PySem.W.hasDictIn K C1 = true)
    (po_1 : PySem.W.plainOver K C1 = true)
    (sa_1 : PySem.W.findIn K (.ref C1) "__setattr__" = some (some (.builtin "object.__setattr__")))
    (mk_1 : PySem.W.makesIn K C1 = true)
    (kc_1 : PySem.W.keepIn K (.ref C1) = true)
    (cc_1 : PySem.W.findIn K (.ref C1) "__class__" = some (some (.builtin "object.__class__")))
    (mo_1 : PySem.W.mroIn K C1 (.type "object") = some true)
    (ic_1 : PySem.W.isClsIn K C1 = true)
    (ty_1 : PySem.W.typeIn K (.ref C1) = some (.type "type"))
    (n_1_place : PySem.W.findIn K (.ref C1) "place" = some none)
    (sg : PySem.W.specialIn K (.builtin "object.__class__") "__get__" = some (some (.builtin "getset_descriptor.__get__")))
    (tk : PySem.W.takesIn K (.builtin "object.__class__") = some true)
    (a_is_number : PySem.W.nsIn K mainGlobals "is_number" = some (some (.ref f_is_number)))
    (l_is_number : K.lookup f_is_number = some ⟨oc_is_number, od_is_number, .func (PySem.W.fnOf "is_number" "is_number" (defArgs st_is_number) (defBody st_is_number) (defScope st_is_number) .none kV_is_number dc_is_number pm_is_number an_is_number cd_is_number ct_is_number), sl_is_number⟩)
    (c_is_number : PySem.W.codeIn K cd_is_number "is_number" = true)
    (k_is_number : PySem.W.keepIn K (.ref f_is_number) = true)
    (a_reckoned : PySem.W.nsIn K mainGlobals "reckoned" = some (some (.ref f_reckoned)))
    (l_reckoned : K.lookup f_reckoned = some ⟨oc_reckoned, od_reckoned, .func (PySem.W.fnOf "reckoned" "reckoned" (defArgs st_reckoned) (defBody st_reckoned) (defScope st_reckoned) .none kV_reckoned dc_reckoned pm_reckoned an_reckoned cd_reckoned ct_reckoned), sl_reckoned⟩)
    (c_reckoned : PySem.W.codeIn K cd_reckoned "reckoned" = true)
    (k_reckoned : PySem.W.keepIn K (.ref f_reckoned) = true)
    (a_math_of : PySem.W.nsIn K mainGlobals "math_of" = some (some (.ref f_math_of)))
    (l_math_of : K.lookup f_math_of = some ⟨oc_math_of, od_math_of, .func (PySem.W.fnOf "math_of" "math_of" (defArgs st_math_of) (defBody st_math_of) (defScope st_math_of) .none kV_math_of dc_math_of pm_math_of an_math_of cd_math_of ct_math_of), sl_math_of⟩)
    (c_math_of : PySem.W.codeIn K cd_math_of "math_of" = true)
    (k_math_of : PySem.W.keepIn K (.ref f_math_of) = true)
    (a_law_operand : PySem.W.nsIn K mainGlobals "_law_operand" = some (some (.ref f_law_operand)))
    (l_law_operand : K.lookup f_law_operand = some ⟨oc_law_operand, od_law_operand, .func (PySem.W.fnOf "_law_operand" "_law_operand" (defArgs st_law_operand) (defBody st_law_operand) (defScope st_law_operand) .none kV_law_operand dc_law_operand pm_law_operand an_law_operand cd_law_operand ct_law_operand), sl_law_operand⟩)
    (c_law_operand : PySem.W.codeIn K cd_law_operand "_law_operand" = true)
    (k_law_operand : PySem.W.keepIn K (.ref f_law_operand) = true)
    (a_law_due : PySem.W.nsIn K mainGlobals "_law_due" = some (some (.ref f_law_due)))
    (l_law_due : K.lookup f_law_due = some ⟨oc_law_due, od_law_due, .func (PySem.W.fnOf "_law_due" "_law_due" (defArgs st_law_due) (defBody st_law_due) (defScope st_law_due) .none kV_law_due dc_law_due pm_law_due an_law_due cd_law_due ct_law_due), sl_law_due⟩)
    (c_law_due : PySem.W.codeIn K cd_law_due "_law_due" = true)
    (k_law_due : PySem.W.keepIn K (.ref f_law_due) = true)
    (a_law : PySem.W.nsIn K mainGlobals "law" = some (some (.ref f_law)))
    (l_law : K.lookup f_law = some ⟨oc_law, od_law, .func (PySem.W.fnOf "law" "law" (defArgs st_law) (defBody st_law) (defScope st_law) .none kV_law dc_law pm_law an_law cd_law ct_law), sl_law⟩)
    (c_law : PySem.W.codeIn K cd_law "law" = true)
    (k_law : PySem.W.keepIn K (.ref f_law) = true)
    (a_Block_init : PySem.W.findIn K (.ref C0) "__init__" = some (some (.ref f_Block_init)))
    (i_Block_init : PySem.W.isFn K (.ref f_Block_init) = true)
    (l_Block_init : K.lookup f_Block_init = some ⟨oc_Block_init, od_Block_init, .func (PySem.W.fnOf "__init__" "Block.__init__" (defArgs st_Block_init) (defBody st_Block_init) (defScope st_Block_init) .none kV_Block_init dc_Block_init pm_Block_init an_Block_init cd_Block_init ct_Block_init), sl_Block_init⟩)
    (c_Block_init : PySem.W.codeIn K cd_Block_init "Block.__init__" = true)
    (k_Block_init : PySem.W.keepIn K (.ref f_Block_init) = true)
    (a_Function_init : PySem.W.findIn K (.ref C1) "__init__" = some (some (.ref f_Function_init)))
    (i_Function_init : PySem.W.isFn K (.ref f_Function_init) = true)
    (l_Function_init : K.lookup f_Function_init = some ⟨oc_Function_init, od_Function_init, .func (PySem.W.fnOf "__init__" "Function.__init__" (defArgs st_Function_init) (defBody st_Function_init) (defScope st_Function_init) .none kV_Function_init dc_Function_init pm_Function_init an_Function_init cd_Function_init ct_Function_init), sl_Function_init⟩)
    (c_Function_init : PySem.W.codeIn K cd_Function_init "Function.__init__" = true)
    (k_Function_init : PySem.W.keepIn K (.ref f_Function_init) = true)
    (z_abs : PySem.W.nsIn K mainGlobals "abs" = some none)
    (z_bool : PySem.W.nsIn K mainGlobals "bool" = some none)
    (z_int : PySem.W.nsIn K mainGlobals "int" = some none)
    (z_isinstance : PySem.W.nsIn K mainGlobals "isinstance" = some none)
    (z_tuple : PySem.W.nsIn K mainGlobals "tuple" = some none)
    (s_7 : PySem.W.subIn K (.ref C0) (.type "bool") = some false)
    (s_8 : PySem.W.subIn K (.ref C1) (.type "bool") = some false)
    (s_16 : PySem.W.subIn K (.ref C0) (.type "int") = some false)
    (s_17 : PySem.W.subIn K (.ref C1) (.type "int") = some false)
    (s_25 : PySem.W.subIn K (.ref C0) (.type "tuple") = some false)
    (s_26 : PySem.W.subIn K (.ref C1) (.type "tuple") = some false) :
    ∃ fd : FuncData, (∀ (s : Shared) (v : Value), BindsTo s fd ⟨[v], []⟩ [("_law_script", v)]) ∧ ∀ base : Heap, K.In base → base.Ns mainGlobals mg → FnOk P w K mg base (L2.CX P w) 4 fa fd ["_law_script"] (spL 63 K) := by
  have e : fa = f_law := by injection (Option.some.inj (hfa.symm.trans (PySem.W.mg_of X G a_law)))
  rw [e]
  let T : Tx K mg C0 C1 := {
    d_is_number := ⟨f_is_number, _, (fun_mk (st := st_is_number) l_is_number c_is_number k_is_number), ((fun_mk (st := st_is_number) l_is_number c_is_number k_is_number).binds (ps := ["value"]) fun _ _ _ _ _ _ us hl => match us, hl with | [_], _ => rfl), PySem.W.mg_of X G a_is_number, k_is_number⟩,
    d_reckoned := ⟨f_reckoned, _, (fun_mk (st := st_reckoned) l_reckoned c_reckoned k_reckoned), ((fun_mk (st := st_reckoned) l_reckoned c_reckoned k_reckoned).binds (ps := ["op", "one", "other"]) fun _ _ _ _ _ _ us hl => match us, hl with | [_, _, _], _ => rfl), PySem.W.mg_of X G a_reckoned, k_reckoned⟩,
    d_math_of := ⟨f_math_of, _, (fun_mk (st := st_math_of) l_math_of c_math_of k_math_of), ((fun_mk (st := st_math_of) l_math_of c_math_of k_math_of).binds (ps := ["op", "one", "other"]) fun _ _ _ _ _ _ us hl => match us, hl with | [_, _, _], _ => rfl), PySem.W.mg_of X G a_math_of, k_math_of⟩,
    d_law_operand := ⟨f_law_operand, _, (fun_mk (st := st_law_operand) l_law_operand c_law_operand k_law_operand), ((fun_mk (st := st_law_operand) l_law_operand c_law_operand k_law_operand).binds (ps := ["_law_way", "_law_number", "_law_other"]) fun _ _ _ _ _ _ us hl => match us, hl with | [_, _, _], _ => rfl), PySem.W.mg_of X G a_law_operand, k_law_operand⟩,
    d_law_due := ⟨f_law_due, _, (fun_mk (st := st_law_due) l_law_due c_law_due k_law_due), ((fun_mk (st := st_law_due) l_law_due c_law_due k_law_due).binds (ps := ["_law_op", "_law_one", "_law_other"]) fun _ _ _ _ _ _ us hl => match us, hl with | [_, _, _], _ => rfl), PySem.W.mg_of X G a_law_due, k_law_due⟩,
    d_law := ⟨f_law, _, (fun_mk (st := st_law) l_law c_law k_law), ((fun_mk (st := st_law) l_law c_law k_law).binds (ps := ["_law_script"]) fun _ _ _ _ _ _ us hl => match us, hl with | [_], _ => rfl), PySem.W.mg_of X G a_law, k_law⟩,
    i_Block := ⟨f_Block_init, _, (fun_mk (st := st_Block_init) l_Block_init c_Block_init k_Block_init), ((fun_mk (st := st_Block_init) l_Block_init c_Block_init k_Block_init).binds (ps := ["self", "tag", "fields"]) fun _ _ _ _ _ _ us hl => match us, hl with | [_, _, _], _ => rfl), ⟨mk_0, a_Block_init, i_Block_init, kc_0⟩, ⟨pg_0, hd_0, po_0, sa_0⟩, PySem.W.mg_of X G a_C0⟩,
    i_Function := ⟨f_Function_init, _, (fun_mk (st := st_Function_init) l_Function_init c_Function_init k_Function_init), ((fun_mk (st := st_Function_init) l_Function_init c_Function_init k_Function_init).binds (ps := ["self", "place"]) fun _ _ _ _ _ _ us hl => match us, hl with | [_, _], _ => rfl), ⟨mk_1, a_Function_init, i_Function_init, kc_1⟩, ⟨pg_1, hd_1, po_1, sa_1⟩, PySem.W.mg_of X G a_C1⟩,
    z_abs := PySem.W.mg_none_of X G z_abs,
    z_bool := PySem.W.mg_none_of X G z_bool,
    z_int := PySem.W.mg_none_of X G z_int,
    z_isinstance := PySem.W.mg_none_of X G z_isinstance,
    z_tuple := PySem.W.mg_none_of X G z_tuple,
    tb := tabOk_of (fa_cons (⟨⟨pg_0, hd_0, po_0, sa_0⟩, n_0_tag⟩) (fa_cons (⟨⟨pg_0, hd_0, po_0, sa_0⟩, n_0_fields⟩) (fa_cons (⟨⟨pg_1, hd_1, po_1, sa_1⟩, n_1_place⟩) fa_nil))),
    jt := isTab_of (fa_cons (kit_tt (by decide +kernel)) (fa_cons (kit_tt (by decide +kernel)) (fa_cons (kit_tt (by decide +kernel)) (fa_cons (kit_tt (by decide +kernel)) (fa_cons (kit_tt (by decide +kernel)) (fa_cons (kit_tt (by decide +kernel)) (fa_cons (kit_tt (by decide +kernel)) (fa_cons (kit_rt (by decide +kernel) s_7) (fa_cons (kit_rt (by decide +kernel) s_8) (fa_cons (kit_tt (by decide +kernel)) (fa_cons (kit_tt (by decide +kernel)) (fa_cons (kit_tt (by decide +kernel)) (fa_cons (kit_tt (by decide +kernel)) (fa_cons (kit_tt (by decide +kernel)) (fa_cons (kit_tt (by decide +kernel)) (fa_cons (kit_tt (by decide +kernel)) (fa_cons (kit_rt (by decide +kernel) s_16) (fa_cons (kit_rt (by decide +kernel) s_17) (fa_cons (kit_tt (by decide +kernel)) (fa_cons (kit_tt (by decide +kernel)) (fa_cons (kit_tt (by decide +kernel)) (fa_cons (kit_tt (by decide +kernel)) (fa_cons (kit_tt (by decide +kernel)) (fa_cons (kit_tt (by decide +kernel)) (fa_cons (kit_tt (by decide +kernel)) (fa_cons (kit_rt (by decide +kernel) s_25) (fa_cons (kit_rt (by decide +kernel) s_26) fa_nil))))))))))))))))))))))))))) (fa_cons (fun c e => by cases e) (fa_cons (fun c e => by cases e) (fa_cons (fun c e => by cases e) (fa_cons (fun c e => by cases e) (fa_cons (fun c e => by cases e) (fa_cons (fun c e => by cases e) (fa_cons (fun c e => by cases e) (fa_cons (fun c e => by cases e; exact ⟨⟨pg_0, hd_0, po_0, sa_0⟩, cc_0, sg, tk, mo_0⟩) (fa_cons (fun c e => by cases e; exact ⟨⟨pg_1, hd_1, po_1, sa_1⟩, cc_1, sg, tk, mo_1⟩) (fa_cons (fun c e => by cases e) (fa_cons (fun c e => by cases e) (fa_cons (fun c e => by cases e) (fa_cons (fun c e => by cases e) (fa_cons (fun c e => by cases e) (fa_cons (fun c e => by cases e) (fa_cons (fun c e => by cases e) (fa_cons (fun c e => by cases e; exact ⟨⟨pg_0, hd_0, po_0, sa_0⟩, cc_0, sg, tk, mo_0⟩) (fa_cons (fun c e => by cases e; exact ⟨⟨pg_1, hd_1, po_1, sa_1⟩, cc_1, sg, tk, mo_1⟩) (fa_cons (fun c e => by cases e) (fa_cons (fun c e => by cases e) (fa_cons (fun c e => by cases e) (fa_cons (fun c e => by cases e) (fa_cons (fun c e => by cases e) (fa_cons (fun c e => by cases e) (fa_cons (fun c e => by cases e) (fa_cons (fun c e => by cases e; exact ⟨⟨pg_0, hd_0, po_0, sa_0⟩, cc_0, sg, tk, mo_0⟩) (fa_cons (fun c e => by cases e; exact ⟨⟨pg_1, hd_1, po_1, sa_1⟩, cc_1, sg, tk, mo_1⟩) fa_nil))))))))))))))))))))))))))) }
  exact ⟨_, fun s v => .of_eq rfl, fun base _ _ => law_end (g := (gx K C0 C1)) rfl (ok_law (P := P) (w := w) (base := base) T) plain⟩
end
end K12
open PySem PySem.W PyProof.Rows
set_option maxRecDepth 100000 in
set_option maxHeartbeats 0 in
theorem PySem.Challenge.cw_spacewright_k12_reckoning_holds : PySem.Challenge.rw_spacewright_k12_reckoning.Holds := by
  w_on; o_law; k_head; (case hw => w_witness2)
  k_fill
  refine Sm.walk_sm (l := PySem.Challenge.rw_spacewright_k12_reckoning) (n := 63) (k := 4) (x := "_law_script") rfl (by decide) rfl ⟨rfl, by decide, by decide⟩ (fun w h Y => PySem.W.kIn_of Y) ?F
  case F =>
    intro w mg fa h KX G hmg
    refine' K12.all_mk KX G hmg ?a_C0 ?pg_0 ?hd_0 ?po_0 ?sa_0 ?mk_0 ?kc_0 ?cc_0 ?mo_0 ?ic_0 ?ty_0 ?n_0_tag ?n_0_fields ?a_C1 ?pg_1 ?hd_1 ?po_1 ?sa_1 ?mk_1 ?kc_1 ?cc_1 ?mo_1 ?ic_1 ?ty_1 ?n_1_place ?sg ?tk ?a_is_number ?l_is_number ?c_is_number ?k_is_number ?a_reckoned ?l_reckoned ?c_reckoned ?k_reckoned ?a_math_of ?l_math_of ?c_math_of ?k_math_of ?a_law_operand ?l_law_operand ?c_law_operand ?k_law_operand ?a_law_due ?l_law_due ?c_law_due ?k_law_due ?a_law ?l_law ?c_law ?k_law ?a_Block_init ?i_Block_init ?l_Block_init ?c_Block_init ?k_Block_init ?a_Function_init ?i_Function_init ?l_Function_init ?c_Function_init ?k_Function_init ?z_abs ?z_bool ?z_int ?z_isinstance ?z_tuple ?s_7 ?s_8 ?s_16 ?s_17 ?s_25 ?s_26
    (case a_C0 => k_is)
    (case pg_0 => k_is)
    (case hd_0 => k_is)
    (case po_0 => k_is)
    (case sa_0 => k_is)
    (case mk_0 => k_is)
    (case kc_0 => k_is)
    (case cc_0 => k_is)
    (case mo_0 => k_is)
    (case ic_0 => k_is)
    (case ty_0 => k_is)
    (case n_0_tag => k_is)
    (case n_0_fields => k_is)
    (case a_C1 => k_is)
    (case pg_1 => k_is)
    (case hd_1 => k_is)
    (case po_1 => k_is)
    (case sa_1 => k_is)
    (case mk_1 => k_is)
    (case kc_1 => k_is)
    (case cc_1 => k_is)
    (case mo_1 => k_is)
    (case ic_1 => k_is)
    (case ty_1 => k_is)
    (case n_1_place => k_is)
    (case sg => k_is)
    (case tk => k_is)
    (case a_is_number => k_is)
    (case l_is_number => k_is)
    (case c_is_number => k_is)
    (case k_is_number => k_is)
    (case a_reckoned => k_is)
    (case l_reckoned => k_is)
    (case c_reckoned => k_is)
    (case k_reckoned => k_is)
    (case a_math_of => k_is)
    (case l_math_of => k_is)
    (case c_math_of => k_is)
    (case k_math_of => k_is)
    (case a_law_operand => k_is)
    (case l_law_operand => k_is)
    (case c_law_operand => k_is)
    (case k_law_operand => k_is)
    (case a_law_due => k_is)
    (case l_law_due => k_is)
    (case c_law_due => k_is)
    (case k_law_due => k_is)
    (case a_law => k_is)
    (case l_law => k_is)
    (case c_law => k_is)
    (case k_law => k_is)
    (case a_Block_init => k_is)
    (case i_Block_init => k_is)
    (case l_Block_init => k_is)
    (case c_Block_init => k_is)
    (case k_Block_init => k_is)
    (case a_Function_init => k_is)
    (case i_Function_init => k_is)
    (case l_Function_init => k_is)
    (case c_Function_init => k_is)
    (case k_Function_init => k_is)
    (case z_abs => k_is)
    (case z_bool => k_is)
    (case z_int => k_is)
    (case z_isinstance => k_is)
    (case z_tuple => k_is)
    (case s_7 => k_is)
    (case s_8 => k_is)
    (case s_16 => k_is)
    (case s_17 => k_is)
    (case s_25 => k_is)
    (case s_26 => k_is)
#print axioms PySem.Challenge.cw_spacewright_k12_reckoning_holds
end
