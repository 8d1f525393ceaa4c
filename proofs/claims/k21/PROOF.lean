import PyProof.Rows.All
import Wide.All
import OpenK.AllK
import Wide.FinOn
import HandS.ForMost
import HandS.ForExc
import HandS.CallSlots
import HandS.Flow
import HandS.Wide
import HandS.TupAny
import HandS.TryOnly
import HandS.Walk
import HandS.IsInst
import HandS.SortInts
import HandS.EndBits
import HandS.More
import HandS.Conv
import HandS.Zip
import PySem.Challenge.RW_spacewright_k21_what_steps_use
set_option Elab.async false
set_option linter.all false
set_option maxRecDepth 100000
set_option maxHeartbeats 4000000
set_option autoImplicit false
section
/-! Sm, part A: data, the store, results; how they stand for values and the abstract heap of the hand layer. -/
namespace Sm
open PySem PySem.Spec PyProof.Rows L2

/-- data: what never changes is told by value; `loc` names a thing of the store -/
inductive D where
  | non | bl (b : Bool) | int (i : Int) | str (x : Str) | ty (n : String) | cls (c : Nat) | fnc (i : Nat) | loc (l : Nat)
  | tup (xs : List D) | lsc (xs : List D)
/-- things that may change -/
inductive Ob where
  | lst (xs : List D) | dct (kvs : List (Key × D)) | ins (c : Nat) (fs : List (Str × D))
abbrev Sto := List Ob
/-- an exception: its class, its fields -/
abbrev Exn := Nat × List (Str × D)
inductive Rz (α : Type) where
  | ok (a : α) (S : Sto) | ex (e : Exn) (S : Sto) | no
def Rz.andThen {α β : Type} (r : Rz α) (f : α → Sto → Rz β) : Rz β :=
  match r with
  | .ok a S => f a S
  | .ex e S => .ex e S
  | .no => .no
def Mo (α : Type) := Sto → Rz α
instance : Monad Mo where
  pure a := fun S => .ok a S
  bind x f := fun S => (x S).andThen f
abbrev En := List (Option D)
abbrev DE := En → Mo D

section
variable {α β : Type}
@[simp] theorem pure_ap (a : α) (S : Sto) : (pure a : Mo α) S = .ok a S := rfl
@[simp] theorem bind_ap (x : Mo α) (f : α → Mo β) (S : Sto) : (x >>= f) S = (x S).andThen f := rfl
@[simp] theorem andThen_ok (a : α) (S : Sto) (f : α → Sto → Rz β) : (Rz.ok a S).andThen f = f a S := rfl
@[simp] theorem andThen_ex (e : Exn) (S : Sto) (f : α → Sto → Rz β) : (Rz.ex e S : Rz α).andThen f = .ex e S := rfl
@[simp] theorem andThen_no (f : α → Sto → Rz β) : (Rz.no : Rz α).andThen f = .no := rfl
end
def bad {α : Type} : Mo α := fun _ => .no
@[simp] theorem bad_ap {α : Type} (S : Sto) : (bad : Mo α) S = .no := rfl

/-- a length that the model can hold -/
@[irreducible] def fit (n : Nat) : Bool := decide (n ≤ sizeLine)
theorem fit_iff {n : Nat} : fit n = true ↔ n ≤ sizeLine := by
  unfold fit
  exact decide_eq_true_iff
theorem fit_of {n : Nat} (h : n ≤ 16777216) : fit n = true := fit_iff.mpr (by rw [sizeLine_eq]; exact h)
theorem fit_ne {n : Nat} (h : ¬ n ≤ sizeLine) : fit n = false := by
  cases e : fit n with
  | false => rfl
  | true => exact absurd (fit_iff.mp e) h

/-! ### the relation -/
structure Gx where
  K : PySem.W.Frag
  ct : Nat → Addr
  fa : Nat → Addr
/-- a list that nobody changes: locked, or of the written part -/
def Lsc (K : PySem.W.Frag) (H : Hp) (a : Addr) (xs : List V) : Prop :=
  (∃ o, H a = some (.frz o (.lst xs))) ∨
    ∃ (o : Obj) (its : Array Value) (n : Nat), K.lookup a = some o ∧ o.cls = .type "list" ∧ o.dict = none ∧ o.data = .seq its n ∧ its.size ≤ sizeLine ∧ Vals xs its.toList
theorem Lsc.sq {K : PySem.W.Frag} {H : Hp} {a : Addr} {xs : List V} (h : Lsc K H a xs) : SqL K H a xs := by
  rcases h with h | h
  · exact .inl (.inr h)
  · exact .inr h

mutual
inductive VR (g : Gx) (m : Nat → Addr) (n : Nat) (H : Hp) : V → D → Prop
  | non : VR g m n H .non .non
  | bl (b : Bool) : VR g m n H (.bl b) (.bl b)
  | int (i : Int) : VR g m n H (.int i) (.int i)
  | str (x : Str) : VR g m n H (.str x) (.str x)
  | ty (t : String) : VR g m n H (.ty t) (.ty t)
  | cls (c : Nat) : VR g m n H (.ref (g.ct c)) (.cls c)
  | fnc (i : Nat) : VR g m n H (.ref (g.fa i)) (.fnc i)
  | loc (l : Nat) : l < n → VR g m n H (.ref (m l)) (.loc l)
  | tup (a : Addr) (xs : List V) (ds : List D) : SqT g.K H a xs → VRs g m n H xs ds → VR g m n H (.ref a) (.tup ds)
  | lsc (a : Addr) (xs : List V) (ds : List D) : Lsc g.K H a xs → VRs g m n H xs ds → VR g m n H (.ref a) (.lsc ds)
inductive VRs (g : Gx) (m : Nat → Addr) (n : Nat) (H : Hp) : List V → List D → Prop
  | nil : VRs g m n H [] []
  | cons (x : V) (d : D) (xs : List V) (ds : List D) : VR g m n H x d → VRs g m n H xs ds → VRs g m n H (x :: xs) (d :: ds)
end

/-- from one heap to a later one -/
structure Ev (g : Gx) (m : Nat → Addr) (n : Nat) (H : Hp) (m' : Nat → Addr) (n' : Nat) (H' : Hp) : Prop where
  le : n ≤ n'
  ag : ∀ l, l < n → m' l = m l
  tup : ∀ a xs, SqT g.K H a xs → SqT g.K H' a xs
  lsc : ∀ a xs, Lsc g.K H a xs → Lsc g.K H' a xs
section
variable {g : Gx} {m m' m'' : Nat → Addr} {n n' n'' : Nat} {H H' H'' : Hp}
theorem Ev.refl : Ev g m n H m n H := ⟨Nat.le_refl _, fun _ _ => rfl, fun _ _ h => h, fun _ _ h => h⟩
theorem Ev.trans (a : Ev g m n H m' n' H') (b : Ev g m' n' H' m'' n'' H'') : Ev g m n H m'' n'' H'' :=
  ⟨Nat.le_trans a.le b.le, fun l h => (b.ag l (Nat.lt_of_lt_of_le h a.le)).trans (a.ag l h), fun x xs h => b.tup x xs (a.tup x xs h), fun x xs h => b.lsc x xs (a.lsc x xs h)⟩
mutual
theorem VR.ev (e : Ev g m n H m' n' H') : ∀ {v : V} {d : D}, VR g m n H v d → VR g m' n' H' v d
  | _, _, .non => .non
  | _, _, .bl b => .bl b
  | _, _, .int i => .int i
  | _, _, .str x => .str x
  | _, _, .ty t => .ty t
  | _, _, .cls c => .cls c
  | _, _, .fnc i => .fnc i
  | _, _, .loc l h => by rw [← e.ag l h]; exact .loc l (Nat.lt_of_lt_of_le h e.le)
  | _, _, .tup a xs ds h r => .tup a xs ds (e.tup a xs h) (VRs.ev e r)
  | _, _, .lsc a xs ds h r => .lsc a xs ds (e.lsc a xs h) (VRs.ev e r)
theorem VRs.ev (e : Ev g m n H m' n' H') : ∀ {v : List V} {d : List D}, VRs g m n H v d → VRs g m' n' H' v d
  | _, _, .nil => .nil
  | _, _, .cons x d xs ds r t => .cons x d xs ds (VR.ev e r) (VRs.ev e t)
end
theorem VRs.length : ∀ {v : List V} {d : List D}, VRs g m n H v d → v.length = d.length
  | _, _, .nil => rfl
  | _, _, .cons _ _ _ _ _ t => congrArg (· + 1) (VRs.length t)
theorem VRs.append : ∀ {v v' : List V} {d d' : List D}, VRs g m n H v d → VRs g m n H v' d' → VRs g m n H (v ++ v') (d ++ d')
  | _, _, _, _, .nil, s => s
  | _, _, _, _, .cons x d xs ds r t, s => .cons x d _ _ r (VRs.append t s)
theorem VRs.get : ∀ {v : List V} {d : List D} {i : Nat} {x : D}, VRs g m n H v d → d[i]? = some x → ∃ u, v[i]? = some u ∧ VR g m n H u x
  | _, _, _, _, .nil, e => by simp at e
  | _, _, 0, _, .cons x d xs ds r t, e => by simp at e; subst e; exact ⟨x, rfl, r⟩
  | _, _, i + 1, y, .cons x d xs ds r t, e => by
    obtain ⟨u, h1, h2⟩ := VRs.get (i := i) (x := y) t (by simpa using e)
    exact ⟨u, by simpa using h1, h2⟩
theorem VRs.get' : ∀ {v : List V} {d : List D} {i : Nat} {u : V}, VRs g m n H v d → v[i]? = some u → ∃ x, d[i]? = some x ∧ VR g m n H u x
  | _, _, _, _, .nil, e => by simp at e
  | _, _, 0, _, .cons x d xs ds r t, e => by simp at e; subst e; exact ⟨d, rfl, r⟩
  | _, _, i + 1, y, .cons x d xs ds r t, e => by
    obtain ⟨u, h1, h2⟩ := VRs.get' (i := i) (u := y) t (by simpa using e)
    exact ⟨u, by simpa using h1, h2⟩
theorem VRs.set : ∀ {v : List V} {d : List D} (i : Nat) {u : V} {x : D}, VRs g m n H v d → VR g m n H u x → VRs g m n H (v.set i u) (d.set i x)
  | _, _, _, _, _, .nil, _ => .nil
  | _, _, 0, u, y, .cons x d xs ds r t, q => .cons u y xs ds q t
  | _, _, i + 1, u, y, .cons x d xs ds r t, q => .cons x d _ _ r (VRs.set i t q)
theorem VRs.take : ∀ {v : List V} {d : List D} (i : Nat), VRs g m n H v d → VRs g m n H (v.take i) (d.take i)
  | _, _, 0, _ => .nil
  | _, _, i + 1, .nil => .nil
  | _, _, i + 1, .cons x d xs ds r t => .cons x d _ _ r (VRs.take i t)
theorem VRs.drop : ∀ {v : List V} {d : List D} (i : Nat), VRs g m n H v d → VRs g m n H (v.drop i) (d.drop i)
  | _, _, 0, r => r
  | _, _, i + 1, .nil => .nil
  | _, _, i + 1, .cons x d xs ds r t => VRs.drop i t
theorem VRs.reverse {v : List V} {d : List D} (h : VRs g m n H v d) : VRs g m n H v.reverse d.reverse := by
  have go : ∀ {v : List V} {d : List D}, VRs g m n H v d → VRs g m n H v.reverse d.reverse := by
    intro v
    induction v with
    | nil => intro d h; cases h; exact .nil
    | cons x xs ih =>
      intro d h
      cases h with
      | cons _ y _ ys r t =>
        rw [List.reverse_cons, List.reverse_cons]
        exact (ih t).append (.cons _ _ _ _ r .nil)
  exact go h
theorem VRs.ints : ∀ {v : List V} {ns : List Int}, VRs g m n H v (ns.map D.int) → v = ns.map V.int
  | [], [], _ => rfl
  | _ :: _, k :: ns, h => by
    cases h with
    | cons _ _ _ _ r t =>
      cases r
      rw [VRs.ints t]
      rfl
theorem VRs.of_ints : ∀ (ns : List Int), VRs g m n H (ns.map V.int) (ns.map D.int)
  | [] => .nil
  | k :: ns => .cons _ _ _ _ (.int k) (VRs.of_ints ns)
end

/-- a thing of the store stands at a -/
def OR (g : Gx) (m : Nat → Addr) (n : Nat) (H : Hp) (a : Addr) : Ob → Prop
  | .lst ds => ∃ vs, H a = some (.lst vs) ∧ VRs g m n H vs ds
  | .dct kvs => ∃ kvs', H a = some (.dK kvs') ∧ kvs'.map (·.1) = kvs.map (·.1) ∧ VRs g m n H (kvs'.map (·.2)) (kvs.map (·.2))
  | .ins c fs => ∃ dx fs', H a = some (.ins (g.ct c) dx fs') ∧ fs'.map (·.1) = fs.map (·.1) ∧ VRs g m n H (fs'.map (·.2)) (fs.map (·.2))
structure SR (g : Gx) (m : Nat → Addr) (H : Hp) (S : Sto) : Prop where
  ob : ∀ (l : Nat) (o : Ob), S[l]? = some o → OR g m S.length H (m l) o
  inj : ∀ l l', l < S.length → l' < S.length → m l = m l' → l = l'
structure ER (g : Gx) (m : Nat → Addr) (n : Nat) (H : Hp) (σ : L2.St) (ρ : En) : Prop where
  len : σ.length = ρ.length
  at_ : ∀ (i : Nat) (d : D), ρ[i]? = some (some d) → ∃ v, σ[i]? = some (some v) ∧ VR g m n H v d
def XR (g : Gx) (m : Nat → Addr) (n : Nat) (H : Hp) (e : Exn) (c : Value) (d : Option Addr) : Prop :=
  c = .ref (g.ct e.1) ∧ (e.2 = [] ∨ ∃ dd fs', d = some dd ∧ H dd = some (.xd fs') ∧ fs'.map (·.1) = e.2.map (·.1) ∧ VRs g m n H (fs'.map (·.2)) (e.2.map (·.2)))

section
variable {g : Gx} {m m' m'' : Nat → Addr} {n n' n'' : Nat} {H H' H'' : Hp} {S S' : Sto} {σ : L2.St} {ρ : En}
theorem ER.ev (e : Ev g m n H m' n' H') (h : ER g m n H σ ρ) : ER g m' n' H' σ ρ := ⟨h.len, fun i d q => by
  obtain ⟨v, a, b⟩ := h.at_ i d q
  exact ⟨v, a, b.ev e⟩⟩
theorem ER.set (h : ER g m n H σ ρ) {i : Nat} {v : V} {d : D} (r : VR g m n H v d) : ER g m n H (σ.set i (some v)) (ρ.set i (some d)) := by
  refine ⟨by simp [h.len], fun j e q => ?_⟩
  by_cases hj : i = j
  · subst hj
    by_cases hl : i < ρ.length
    · rw [List.getElem?_set_self hl] at q
      cases q
      exact ⟨v, List.getElem?_set_self (by rw [h.len]; exact hl), r⟩
    · rw [List.getElem?_eq_none (by simpa using hl)] at q; cases q
  · rw [List.getElem?_set_ne hj] at q
    obtain ⟨u, a, b⟩ := h.at_ j e q
    exact ⟨u, by rw [List.getElem?_set_ne hj]; exact a, b⟩
theorem ER.unset (h : ER g m n H σ ρ) {i : Nat} {o : Option V} : ER g m n H (σ.set i o) (ρ.set i none) := by
  refine ⟨by simp [h.len], fun j e q => ?_⟩
  by_cases hj : i = j
  · subst hj
    by_cases hl : i < ρ.length
    · rw [List.getElem?_set_self hl] at q; cases q
    · rw [List.getElem?_eq_none (by simpa using hl)] at q; cases q
  · rw [List.getElem?_set_ne hj] at q
    obtain ⟨u, a, b⟩ := h.at_ j e q
    exact ⟨u, by rw [List.getElem?_set_ne hj]; exact a, b⟩

/-- a store's address is tracked -/
theorem SR.has (h : SR g m H S) {l : Nat} (hl : l < S.length) : ∃ o, H (m l) = some o := by
  have q := h.ob l S[l] (List.getElem?_eq_getElem hl)
  cases e : S[l] with
  | lst ds => rw [e] at q; obtain ⟨_, z, _⟩ := q; exact ⟨_, z⟩
  | dct kvs => rw [e] at q; obtain ⟨_, z, _⟩ := q; exact ⟨_, z⟩
  | ins c fs => rw [e] at q; obtain ⟨_, _, z, _⟩ := q; exact ⟨_, z⟩
/-- it is no tuple, no locked thing, no own dict -/
theorem SR.canw (h : SR g m H S) {l : Nat} (hl : l < S.length) : Mut (H (m l)) := by
  have q := h.ob l S[l] (List.getElem?_eq_getElem hl)
  cases e : S[l] with
  | lst ds => rw [e] at q; obtain ⟨_, z, _⟩ := q; rw [z]; trivial
  | dct kvs => rw [e] at q; obtain ⟨_, z, _⟩ := q; rw [z]; trivial
  | ins c fs => rw [e] at q; obtain ⟨_, _, z, _⟩ := q; rw [z]; trivial
theorem SqT.keep {K : PySem.W.Frag} {a : Addr} {xs : List V} (k : ∀ o, H a = some o → (∃ ys, o = .tup ys) ∨ (∃ ob u, o = .frz ob u) → H' a = some o) (h : SqT K H a xs) : SqT K H' a xs := by
  rcases h with (h | ⟨o, h⟩) | h
  · exact .inl (.inl (k _ h (.inl ⟨_, rfl⟩)))
  · exact .inl (.inr ⟨o, k _ h (.inr ⟨_, _, rfl⟩)⟩)
  · exact .inr h
theorem Lsc.keep {K : PySem.W.Frag} {a : Addr} {xs : List V} (k : ∀ o, H a = some o → (∃ ys, o = .tup ys) ∨ (∃ ob u, o = .frz ob u) → H' a = some o) (h : Lsc K H a xs) : Lsc K H' a xs := by
  rcases h with ⟨o, h⟩ | h
  · exact .inl ⟨o, k _ h (.inr ⟨_, _, rfl⟩)⟩
  · exact .inr h
theorem Ev.new {p : Addr} {o : HO} (hp : H p = none) : Ev g m n H m n (upd H p o) := by
  refine ⟨Nat.le_refl _, fun _ _ => rfl, fun a xs h => SqT.keep (fun u e _ => ?_) h, fun a xs h => Lsc.keep (fun u e _ => ?_) h⟩ <;>
    (rw [upd_ne (ne_of_none e hp)]; exact e)
theorem Ev.wr {p : Addr} {o : HO} (hp : Mut (H p)) : Ev g m n H m n (upd H p o) := by
  have ne : ∀ {a : Addr} {u : HO}, H a = some u → (∃ ys, u = .tup ys) ∨ (∃ ob u', u = .frz ob u') → a ≠ p := fun {a u} e q z => by
    subst z
    rw [e] at hp
    rcases q with ⟨_, rfl⟩ | ⟨_, _, rfl⟩ <;> exact hp
  refine ⟨Nat.le_refl _, fun _ _ => rfl, fun a xs h => SqT.keep (fun u e q => ?_) h, fun a xs h => Lsc.keep (fun u e q => ?_) h⟩ <;>
    (rw [upd_ne (ne e q)]; exact e)
/-- m with one more place -/
def ext (m : Nat → Addr) (n : Nat) (p : Addr) : Nat → Addr := fun l => if l = n then p else m l
theorem ext_old {p : Addr} {l : Nat} (h : l < n) : ext m n p l = m l := if_neg (Nat.ne_of_lt h)
theorem ext_new {p : Addr} : ext m n p n = p := if_pos rfl
theorem Ev.ext {p : Addr} (e : Ev g m n H m n H') : Ev g m n H (ext m n p) (n + 1) H' := ⟨Nat.le_succ _, fun l h => ext_old h, e.tup, e.lsc⟩
/-- an object's description through a change elsewhere -/
theorem OR.keep {a : Addr} {o : Ob} (e : Ev g m n H m' n' H') (k : ∀ u, H a = some u → Mut (some u) → H' a = some u) (h : OR g m n H a o) : OR g m' n' H' a o := by
  cases o with
  | lst ds => obtain ⟨vs, a1, a2⟩ := h; exact ⟨vs, k _ a1 trivial, a2.ev e⟩
  | dct kvs => obtain ⟨vs, a1, a2, a3⟩ := h; exact ⟨vs, k _ a1 trivial, a2, a3.ev e⟩
  | ins c fs => obtain ⟨dx, vs, a1, a2, a3⟩ := h; exact ⟨dx, vs, k _ a1 trivial, a2, a3.ev e⟩
/-- something new that the store does not name -/
theorem SR.aside (h : SR g m H S) {p : Addr} {o : HO} (hp : H p = none) : SR g m (upd H p o) S :=
  ⟨fun l u e => (h.ob l u e).keep (Ev.new hp) fun v q _ => by rw [upd_ne (ne_of_none q hp)]; exact q, h.inj⟩
/-- .. or whatever else changed, but the store's things -/
theorem SR.keep (h : SR g m H S) (e : Ev g m S.length H m S.length H') (k : ∀ l u, l < S.length → H (m l) = some u → H' (m l) = some u) : SR g m H' S :=
  ⟨fun l u q => (h.ob l u q).keep e fun v z _ => k l v (List.getElem?_eq_some_iff.mp q).1 z, h.inj⟩
/-- a new thing of the store -/
theorem SR.alloc (h : SR g m H S) {p : Addr} {u : HO} {o : Ob} (hp : H p = none) (ho : OR g (ext m S.length p) (S.length + 1) (upd H p u) p o) : SR g (ext m S.length p) (upd H p u) (S ++ [o]) := by
  have e : Ev g m S.length H (ext m S.length p) (S.length + 1) (upd H p u) := Ev.ext (Ev.new hp)
  have nm : ∀ l, l < S.length → m l ≠ p := fun l hl => by
    obtain ⟨v, q⟩ := h.has hl
    exact ne_of_none q hp
  refine ⟨fun l o' q => ?_, fun l l' h1 h2 q => ?_⟩
  · rw [List.length_append, List.length_singleton]
    by_cases hl : l < S.length
    · rw [List.getElem?_append_left hl] at q
      rw [ext_old hl]
      exact (h.ob l o' q).keep e fun v z _ => by rw [upd_ne (nm l hl)]; exact z
    · have hl' : l = S.length := by
        have := (List.getElem?_eq_some_iff.mp q).1
        rw [List.length_append, List.length_singleton] at this
        omega
      subst hl'
      rw [List.getElem?_concat_length] at q
      cases q
      rw [ext_new]
      exact ho
  · rw [List.length_append, List.length_singleton] at h1 h2
    by_cases a : l < S.length
    · by_cases b : l' < S.length
      · rw [ext_old a, ext_old b] at q
        exact h.inj l l' a b q
      · have : l' = S.length := by omega
        subst this
        rw [ext_old a, ext_new] at q
        exact absurd q (nm l a)
    · have : l = S.length := by omega
      subst this
      by_cases b : l' < S.length
      · rw [ext_old b, ext_new] at q
        exact absurd q.symm (nm l' b)
      · omega
/-- a thing of the store is written -/
theorem SR.wr (h : SR g m H S) {l : Nat} {u : HO} {o : Ob} (hl : l < S.length) (ho : OR g m S.length (upd H (m l) u) (m l) o) : SR g m (upd H (m l) u) (S.set l o) := by
  have e : Ev g m S.length H m S.length (upd H (m l) u) := Ev.wr (h.canw hl)
  refine ⟨fun k o' q => ?_, fun a b h1 h2 q => ?_⟩
  · rw [List.length_set]
    by_cases hk : l = k
    · subst hk
      rw [List.getElem?_set_self hl] at q
      cases q
      exact ho
    · rw [List.getElem?_set_ne hk] at q
      have hkl := (List.getElem?_eq_some_iff.mp q).1
      exact (h.ob k o' q).keep e fun v z _ => by rw [upd_ne (fun z => hk (h.inj _ _ hkl hl z).symm)]; exact z
  · rw [List.length_set] at h1 h2
    exact h.inj a b h1 h2 q
theorem SR.atL (h : SR g m H S) {l : Nat} {ds : List D} (q : S[l]? = some (.lst ds)) : l < S.length ∧ ∃ vs, H (m l) = some (.lst vs) ∧ VRs g m S.length H vs ds :=
  ⟨(List.getElem?_eq_some_iff.mp q).1, h.ob l _ q⟩
theorem SR.atD (h : SR g m H S) {l : Nat} {kvs : List (Key × D)} (q : S[l]? = some (.dct kvs)) : l < S.length ∧ ∃ kvs', H (m l) = some (.dK kvs') ∧ kvs'.map (·.1) = kvs.map (·.1) ∧ VRs g m S.length H (kvs'.map (·.2)) (kvs.map (·.2)) :=
  ⟨(List.getElem?_eq_some_iff.mp q).1, h.ob l _ q⟩
theorem SR.atI (h : SR g m H S) {l : Nat} {c : Nat} {fs : List (Str × D)} (q : S[l]? = some (.ins c fs)) : l < S.length ∧ ∃ dx fs', H (m l) = some (.ins (g.ct c) dx fs') ∧ fs'.map (·.1) = fs.map (·.1) ∧ VRs g m S.length H (fs'.map (·.2)) (fs.map (·.2)) :=
  ⟨(List.getElem?_eq_some_iff.mp q).1, h.ob l _ q⟩
end

/-! ### what is wanted of a result -/
section
variable {α β : Type}
def PRx (g : Gx) (m : Nat → Addr) (S : Sto) (H : Hp) (W : XK) (K : α → (Nat → Addr) → Sto → Hp → Prop) : Rz α → Prop
  | .ok a S' => ∀ m' H', Ev g m S.length H m' S'.length H' → SR g m' H' S' → K a m' S' H'
  | .ex e S' => ∀ c d m' H', Ev g m S.length H m' S'.length H' → SR g m' H' S' → XR g m' S'.length H' e c d → W c d H'
  | .no => False
variable {g : Gx} {m m' : Nat → Addr} {S S' : Sto} {H H' : Hp} {W : XK} {K K' : α → (Nat → Addr) → Sto → Hp → Prop} {r : Rz α}
theorem PRx.ev (e : Ev g m S.length H m' S'.length H') (h : PRx g m S H W K r) : PRx g m' S' H' W K r := by
  cases r with
  | ok a S1 => exact fun m1 H1 e1 s1 => h m1 H1 (e.trans e1) s1
  | ex x S1 => exact fun c d m1 H1 e1 s1 => h c d m1 H1 (e.trans e1) s1
  | no => exact h
theorem PRx.mono (h : PRx g m S H W K r) (k : ∀ a m' S' H', Ev g m S.length H m' S'.length H' → SR g m' H' S' → K a m' S' H' → K' a m' S' H') : PRx g m S H W K' r := by
  cases r with
  | ok a S1 => exact fun m1 H1 e1 s1 => k a m1 S1 H1 e1 s1 (h m1 H1 e1 s1)
  | ex x S1 => exact h
  | no => exact h
theorem PRx.bind {f : α → Sto → Rz β} {K2 : β → (Nat → Addr) → Sto → Hp → Prop} (h : PRx g m S H W K2 (r.andThen f)) :
    PRx g m S H W (fun a m1 S1 H1 => PRx g m1 S1 H1 W K2 (f a S1)) r := by
  cases r with
  | ok a S1 => exact fun m1 H1 e1 _ => PRx.ev e1 h
  | ex x S1 => exact h
  | no => exact h
end
/-- the ends: a value, values, a truth -/
abbrev KD (g : Gx) (Q : VK) : D → (Nat → Addr) → Sto → Hp → Prop := fun d m' S' H' => ∀ v, VR g m' S'.length H' v d → Q v H'
abbrev KA (g : Gx) (Q : List V → Hp → Prop) : List D → (Nat → Addr) → Sto → Hp → Prop := fun d m' S' H' => ∀ v, VRs g m' S'.length H' v d → Q v H'
abbrev KT (Q : Bool → Hp → Prop) : Bool → (Nat → Addr) → Sto → Hp → Prop := fun b _ _ H' => Q b H'
def tD (g : Gx) (W : WX) (f : DE) : TE := fun σ H Q => ∃ m S ρ, SR g m H S ∧ ER g m S.length H σ ρ ∧ PRx g m S H (fun c d H' => W c d σ H') (KD g Q) (f ρ S)
def tDs (g : Gx) (W : WX) (f : En → Mo (List D)) : TA := fun σ H Q => ∃ m S ρ, SR g m H S ∧ ER g m S.length H σ ρ ∧ PRx g m S H (fun c d H' => W c d σ H') (KA g Q) (f ρ S)
def tDb (g : Gx) (W : WX) (f : En → Mo Bool) : TT := fun σ H Q => ∃ m S ρ, SR g m H S ∧ ER g m S.length H σ ρ ∧ PRx g m S H (fun c d H' => W c d σ H') (KT Q) (f ρ S)

theorem PE.imp {X : Cx} {e : Expr} {t t' : TE} (h : PE X e t) (i : ∀ σ H Q, t' σ H Q → t σ H Q) : PE X e t' := ⟨fun pins s σ H Q I q => h.run pins s σ H Q I (i σ H Q q)⟩
theorem PT.imp {X : Cx} {e : Expr} {t t' : TT} (h : PT X e t) (i : ∀ σ H Q, t' σ H Q → t σ H Q) : PT X e t' := ⟨fun pins s σ H Q I q => h.run pins s σ H Q I (i σ H Q q)⟩
theorem PW.imp {X : Cx} {e : Expr} {t t' : TT} (h : PW X e t) (i : ∀ σ H Q, t' σ H Q → t σ H Q) : PW X e t' := ⟨fun w pins s σ H Q I q => h.run w pins s σ H Q I (i σ H Q q)⟩
theorem PA.imp {X : Cx} {e : List Expr} {t t' : TA} (h : PA X e t) (i : ∀ σ H Q, t' σ H Q → t σ H Q) : PA X e t' := ⟨fun pos pins s σ H Q I q => h.run pos pins s σ H Q I (i σ H Q q)⟩
theorem PS.imp {X : Cx} {e : Stmt} {t t' : TS} (h : PS X e t) (i : ∀ D σ H, t' D σ H → t D σ H) : PS X e t' := ⟨fun pins s σ H D I q => h.run pins s σ H D I (i D σ H q)⟩
theorem PSs.imp {X : Cx} {e : List Stmt} {t t' : TS} (h : PSs X e t) (i : ∀ D σ H, t' D σ H → t D σ H) : PSs X e t' := ⟨fun pins s σ H D I q => h.run pins s σ H D I (i D σ H q)⟩
theorem PI.imp {X : Cx} {tg e : Expr} {t t' : TI} (h : PI X tg e t) (i : ∀ σ H R, t' σ H R → t σ H R) : PI X tg e t' := ⟨fun pins s σ H Q I q => h.run pins s σ H Q I (i σ H Q q)⟩
theorem PI.or {X : Cx} {tg e : Expr} {t t' : TI} (h : PI X tg e t) (h' : PI X tg e t') : PI X tg e (fun σ H R => t σ H R ∨ t' σ H R) :=
  ⟨fun pins s σ H Q I q => q.elim (h.run pins s σ H Q I) (h'.run pins s σ H Q I)⟩
end Sm
end
section
/-! Sm, part B: expressions. -/
namespace Sm
open PySem PySem.Spec PyProof.Rows L2

section
variable {X : Cx} {g : Gx} {W : WX} {e a b c : Expr} {es rest : List Expr} {f fa fb fc : DE} {fs : En → Mo (List D)} {ft fu : En → Mo Bool} {pos : Pos}

/-! ### from a part to the rest -/
theorem tD.sub {H : Hp} {σ : L2.St} {m : Nat → Addr} {S : Sto} {ρ : En} {β : Type} {k : D → Sto → Rz β} {K : β → (Nat → Addr) → Sto → Hp → Prop} {Q : VK}
    (sr : SR g m H S) (er : ER g m S.length H σ ρ) (h : PRx g m S H (fun c d H' => W c d σ H') K ((f ρ S).andThen k))
    (q : ∀ d m1 S1 H1 v, SR g m1 H1 S1 → ER g m1 S1.length H1 σ ρ → Ev g m S.length H m1 S1.length H1 → VR g m1 S1.length H1 v d → PRx g m1 S1 H1 (fun c d H' => W c d σ H') K (k d S1) → Q v H1) : tD g W f σ H Q :=
  ⟨m, S, ρ, sr, er, h.bind.mono fun d m1 S1 H1 e1 s1 p v r => q d m1 S1 H1 v s1 (er.ev e1) e1 r p⟩
theorem tDs.sub {H : Hp} {σ : L2.St} {m : Nat → Addr} {S : Sto} {ρ : En} {β : Type} {k : List D → Sto → Rz β} {K : β → (Nat → Addr) → Sto → Hp → Prop} {Q : List V → Hp → Prop}
    (sr : SR g m H S) (er : ER g m S.length H σ ρ) (h : PRx g m S H (fun c d H' => W c d σ H') K ((fs ρ S).andThen k))
    (q : ∀ d m1 S1 H1 v, SR g m1 H1 S1 → ER g m1 S1.length H1 σ ρ → Ev g m S.length H m1 S1.length H1 → VRs g m1 S1.length H1 v d → PRx g m1 S1 H1 (fun c d H' => W c d σ H') K (k d S1) → Q v H1) : tDs g W fs σ H Q :=
  ⟨m, S, ρ, sr, er, h.bind.mono fun d m1 S1 H1 e1 s1 p v r => q d m1 S1 H1 v s1 (er.ev e1) e1 r p⟩
theorem tDb.sub {H : Hp} {σ : L2.St} {m : Nat → Addr} {S : Sto} {ρ : En} {β : Type} {k : Bool → Sto → Rz β} {K : β → (Nat → Addr) → Sto → Hp → Prop} {Q : Bool → Hp → Prop}
    (sr : SR g m H S) (er : ER g m S.length H σ ρ) (h : PRx g m S H (fun c d H' => W c d σ H') K ((ft ρ S).andThen k))
    (q : ∀ d m1 S1 H1, SR g m1 H1 S1 → ER g m1 S1.length H1 σ ρ → Ev g m S.length H m1 S1.length H1 → PRx g m1 S1 H1 (fun c d H' => W c d σ H') K (k d S1) → Q d H1) : tDb g W ft σ H Q :=
  ⟨m, S, ρ, sr, er, h.bind.mono fun d m1 S1 H1 e1 s1 p => q d m1 S1 H1 s1 (er.ev e1) e1 p⟩
theorem PRx.here {α : Type} {m : Nat → Addr} {S : Sto} {H : Hp} {W : XK} {K : α → (Nat → Addr) → Sto → Hp → Prop} {a : α} (h : PRx g m S H W K (.ok a S)) (sr : SR g m H S) : K a m S H := h m H Ev.refl sr

/-! ### names, constants -/
def cVar (i : Nat) : DE := fun ρ S => match ρ[i]? with
  | some (some d) => .ok d S
  | _ => .no
def cC (d : D) : DE := fun _ S => .ok d S
theorem de_var (i : Nat) {x : Str} (hN : X.N[i]? = some x := by rfl) (hv : Vis X.env.scope x := by first | exact Or.inl rfl | exact Or.inr (Or.inl rfl) | exact Or.inr (Or.inr rfl)) (hd : (x == ("__debug__" : Str)) = false := by decide)
    (hcd : (x == ("__classdict__" : Str)) = false := by decide) : PE X (.Name x pos) (tD g W (cVar i)) := by
  refine PE.imp (pe_var hN hv hd hcd) fun σ H Q ⟨m, S, ρ, sr, er, h⟩ => ?_
  unfold cVar at h
  cases q : ρ[i]? with
  | none => rw [q] at h; exact h.elim
  | some o =>
    cases o with
    | none => rw [q] at h; exact h.elim
    | some d =>
      rw [q] at h
      obtain ⟨v, hs, r⟩ := er.at_ i d q
      exact ⟨v, hs, h m H Ev.refl sr v r⟩
theorem de_int {i j} : PE X (.Constant (.int i) j pos) (tD g W (cC (.int i))) := PE.imp pe_int fun _ H _ ⟨m, _, _, sr, _, h⟩ => h m H Ev.refl sr _ (.int i)
theorem de_bl {i j} : PE X (.Constant (.bool i) j pos) (tD g W (cC (.bl i))) := PE.imp pe_bl fun _ H _ ⟨m, _, _, sr, _, h⟩ => h m H Ev.refl sr _ (.bl i)
theorem de_str {i j} : PE X (.Constant (.str i) j pos) (tD g W (cC (.str i))) := PE.imp pe_str fun _ H _ ⟨m, _, _, sr, _, h⟩ => h m H Ev.refl sr _ (.str i)
theorem de_non {j} : PE X (.Constant .none j pos) (tD g W (cC .non)) := PE.imp pe_non fun _ H _ ⟨m, _, _, sr, _, h⟩ => h m H Ev.refl sr _ .non
/-- a module's own name that stands for data -/
structure Cst (g : Gx) (u : Value) (d : D) : Prop where
  ex : ∃ v, RelV v u ∧ ∀ m n H, VR g m n H v d
theorem de_glob {x : Str} {u : Value} {d : D} (hm : X.mg x = some u) (hc : Cst g u d) (hg : Gl X x := by rfl) (hd : (x == ("__debug__" : Str)) = false := by decide) : PE X (.Name x pos) (tD g W (cC d)) := by
  obtain ⟨v, r, hv⟩ := hc.ex
  exact PE.imp (pe_glob hg hm r hd) fun _ H _ ⟨m, S, _, sr, _, h⟩ => h m H Ev.refl sr _ (hv m S.length H)
theorem de_bltn {x : Str} {t : String} (hm : X.mg x = none) (hv : bootBuiltins x = some (.type t)) (hg : Gl X x := by rfl) (hn : x ≠ "__name__" := by decide) (hd : (x == ("__debug__" : Str)) = false := by decide) : PE X (.Name x pos) (tD g W (cC (.ty t))) :=
  PE.imp (pe_bltn (v := .ty t) hg hm hv rfl hn hd) fun _ H _ ⟨m, _, _, sr, _, h⟩ => h m H Ev.refl sr _ (.ty t)

/-! ### arguments, displays -/
def cNil : En → Mo (List D) := fun _ S => .ok [] S
def cCons (f : DE) (fs : En → Mo (List D)) : En → Mo (List D) := fun ρ => do let x ← f ρ; let xs ← fs ρ; pure (x :: xs)
theorem da_nil : PA X [] (tDs g W cNil) := PA.imp pa_nil fun _ H _ ⟨m, _, _, sr, _, h⟩ => h m H Ev.refl sr _ .nil
theorem da_cons (ha : PE X e (tD g W f)) (hr : PA X es (tDs g W fs)) (hs : starEach (e :: es) X.env = (false, eval e X.env) :: starEach es X.env := by rfl) : PA X (e :: es) (tDs g W (cCons f fs)) :=
  PA.imp (pa_cons ha hr hs) fun _ _ _ ⟨_, _, _, sr, er, h⟩ => tD.sub sr er h fun _ _ _ _ _ s1 er1 _ r1 h1 => tDs.sub s1 er1 h1 fun _ m2 _ H2 _ s2 _ e2 r2 h2 =>
    h2 m2 H2 Ev.refl s2 _ (.cons _ _ _ _ (r1.ev e2) r2)
def cTup (fs : En → Mo (List D)) : DE := fun ρ => do let xs ← fs ρ; fun S => if fit xs.length = true then .ok (.tup xs) S else .no
def newL (xs : List D) : Mo D := fun S => if fit xs.length = true then .ok (.loc S.length) (S ++ [.lst xs]) else .no
def cLst (fs : En → Mo (List D)) : DE := fun ρ => fs ρ >>= newL
theorem tup_new {m : Nat → Addr} {S : Sto} {H : Hp} {ds : List D} {vs : List V} {Q : VK} {W : XK} (sr : SR g m H S) (r : VRs g m S.length H vs ds) (h : PRx g m S H W (KD g Q) (.ok (.tup ds) S)) : ∀ p, H p = none → Q (.ref p) (upd H p (.tup vs)) := fun p hp =>
  h m _ (Ev.new hp) (sr.aside hp) _ (.tup p vs ds (.inl (.inl upd_same)) (r.ev (Ev.new hp)))
theorem lst_new {m : Nat → Addr} {S : Sto} {H : Hp} {ds : List D} {vs : List V} {Q : VK} {W : XK} (sr : SR g m H S) (r : VRs g m S.length H vs ds) (h : PRx g m S H W (KD g Q) (.ok (.loc S.length) (S ++ [.lst ds]))) : ∀ p, H p = none → Q (.ref p) (upd H p (.lst vs)) := fun p hp => by
  have e : Ev g m S.length H (ext m S.length p) (S.length + 1) (upd H p (.lst vs)) := Ev.ext (Ev.new hp)
  have q := h (ext m S.length p) _ (by rw [List.length_append, List.length_singleton]; exact e) (sr.alloc hp ⟨vs, upd_same, r.ev e⟩) (.ref (ext m S.length p S.length)) (.loc _ (by rw [List.length_append, List.length_singleton]; exact Nat.lt_succ_self _))
  rw [ext_new] at q
  exact q
theorem dct_new {m : Nat → Addr} {S : Sto} {H : Hp} {ds : List (Key × D)} {vs : List (Key × V)} {Q : VK} {W : XK} (sr : SR g m H S) (rk : vs.map (·.1) = ds.map (·.1)) (r : VRs g m S.length H (vs.map (·.2)) (ds.map (·.2)))
    (h : PRx g m S H W (KD g Q) (.ok (.loc S.length) (S ++ [.dct ds]))) : ∀ p, H p = none → Q (.ref p) (upd H p (.dK vs)) := fun p hp => by
  have e : Ev g m S.length H (ext m S.length p) (S.length + 1) (upd H p (.dK vs)) := Ev.ext (Ev.new hp)
  have q := h (ext m S.length p) _ (by rw [List.length_append, List.length_singleton]; exact e) (sr.alloc hp ⟨vs, upd_same, rk, r.ev e⟩) (.ref (ext m S.length p S.length)) (.loc _ (by rw [List.length_append, List.length_singleton]; exact Nat.lt_succ_self _))
  rw [ext_new] at q
  exact q
theorem de_tup {x1} (ha : PA X es (tDs g W fs)) : PE X (.Tuple es x1 pos) (tD g W (cTup fs)) :=
  PE.imp (pe_tup ha) fun _ _ _ ⟨_, _, _, sr, er, h⟩ => tDs.sub sr er h fun ds m1 S1 H1 vs s1 er1 _ r1 h1 => by
    by_cases hz : fit ds.length = true
    · have h2 : PRx g m1 S1 H1 _ _ (if fit ds.length = true then (Rz.ok (D.tup ds) S1 : Rz D) else .no) := h1
      rw [if_pos hz] at h2
      exact ⟨by rw [r1.length]; exact fit_iff.mp hz, tup_new s1 r1 h2⟩
    · have h2 : PRx g m1 S1 H1 _ _ (if fit ds.length = true then (Rz.ok (D.tup ds) S1 : Rz D) else .no) := h1
      rw [if_neg hz] at h2
      exact h2.elim
theorem de_lst (ha : PA X es (tDs g W fs)) : PE X (.List es pos) (tD g W (cLst fs)) :=
  PE.imp (pe_lst ha) fun _ _ _ ⟨_, _, _, sr, er, h⟩ => tDs.sub sr er h fun ds m1 S1 H1 vs s1 er1 _ r1 h1 => by
    have h2 : PRx g m1 S1 H1 _ _ (if fit ds.length = true then (Rz.ok (D.loc S1.length) (S1 ++ [.lst ds]) : Rz D) else .no) := h1
    by_cases hz : fit ds.length = true
    · rw [if_pos hz] at h2
      exact ⟨by rw [r1.length]; exact fit_iff.mp hz, lst_new s1 r1 h2⟩
    · rw [if_neg hz] at h2
      exact h2.elim

/-! ### operations by values -/
/-- h is sound for the hand layer's r -/
def S2 (g : Gx) (r : R2) (h : D → D → Mo D) : Prop := ∀ (m : Nat → Addr) (S : Sto) (H : Hp) (x y : V) (d e : D) (Q : VK) (W : XK), SR g m H S → VR g m S.length H x d → VR g m S.length H y e → PRx g m S H W (KD g Q) (h d e S) → r x y H Q
def S1 (g : Gx) (r : V → Hp → VK → Prop) (h : D → Mo D) : Prop := ∀ (m : Nat → Addr) (S : Sto) (H : Hp) (x : V) (d : D) (Q : VK) (W : XK), SR g m H S → VR g m S.length H x d → PRx g m S H W (KD g Q) (h d S) → r x H Q
def SC (g : Gx) (r : List V → Hp → VK → Prop) (h : List D → Mo D) : Prop := ∀ (m : Nat → Addr) (S : Sto) (H : Hp) (xs : List V) (ds : List D) (Q : VK) (W : XK), SR g m H S → VRs g m S.length H xs ds → PRx g m S H W (KD g Q) (h ds S) → r xs H Q
def SM (g : Gx) (r : V → List V → Hp → VK → Prop) (h : D → List D → Mo D) : Prop := ∀ (m : Nat → Addr) (S : Sto) (H : Hp) (x : V) (xs : List V) (d : D) (ds : List D) (Q : VK) (W : XK), SR g m H S → VR g m S.length H x d → VRs g m S.length H xs ds → PRx g m S H W (KD g Q) (h d ds S) → r x xs H Q
def cOp (h : D → D → Mo D) (fa fb : DE) : DE := fun ρ => do let x ← fa ρ; let y ← fb ρ; h x y
def cUn (h : D → Mo D) (fa : DE) : DE := fun ρ => do let x ← fa ρ; h x
theorem op_sub2 {r : R2} {h : D → D → Mo D} (hs : S2 g r h) : ∀ σ H Q, tD g W (cOp h fa fb) σ H Q → tOp r (tD g W fa) (tD g W fb) σ H Q := fun _ _ _ ⟨_, _, _, sr, er, k⟩ =>
  tD.sub sr er k fun _ _ _ _ _ s1 er1 _ r1 h1 => tD.sub s1 er1 h1 fun _ m2 S2 H2 _ s2 _ e2 r2 h2 => hs m2 S2 H2 _ _ _ _ _ _ s2 (r1.ev e2) r2 h2
theorem de_op {op : Operator} {r : R2} {h : D → D → Mo D} (ho : OpR X (binaryOp op) r) (hs : S2 g r h) (ha : PE X a (tD g W fa)) (hb : PE X b (tD g W fb)) : PE X (.BinOp a op b pos) (tD g W (cOp h fa fb)) := PE.imp (pe_op ho ha hb) (op_sub2 hs)
theorem de_cmp {op : CmpOp} {r : R2} {h : D → D → Mo D} (ho : OpR X (compareOp op) r) (hs : S2 g r h) (ha : PE X a (tD g W fa)) (hb : PE X b (tD g W fb)) (hm : behindInMarks op b = false := by first | exact nomark _ | rfl | with_unfolding_all rfl) :
    PE X (.Compare a [op] [b] pos) (tD g W (cOp h fa fb)) := PE.imp (pe_cmpR ho ha hb hm) (op_sub2 hs)
theorem de_un {op : UnaryOp} {r : V → Hp → VK → Prop} {h : D → Mo D} (ho : UnR X (unaryOp op) r) (hs : S1 g r h) (ha : PE X a (tD g W fa)) : PE X (.UnaryOp op a pos) (tD g W (cUn h fa)) :=
  PE.imp (pe_un ho ha) fun _ _ _ ⟨_, _, _, sr, er, k⟩ => tD.sub sr er k fun _ m1 S1 H1 _ s1 _ _ r1 h1 => hs m1 S1 H1 _ _ _ _ s1 r1 h1
/-- a truth out of a value that is a bool -/
def asB : D → Mo Bool
  | .bl b => pure b
  | _ => bad
def cTest (f : DE) : En → Mo Bool := fun ρ => f ρ >>= asB
theorem asB_ok {m : Nat → Addr} {S : Sto} {H : Hp} {W : XK} {K : Bool → (Nat → Addr) → Sto → Hp → Prop} {d : D} {v : V} (sr : SR g m H S) (r : VR g m S.length H v d) (h : PRx g m S H W K (asB d S)) : ∃ k, v = .bl k ∧ K k m S H := by
  cases d with
  | bl k => cases r; exact ⟨k, rfl, h m H Ev.refl sr⟩
  | _ => exact h.elim
theorem dt_cmp {op : CmpOp} {r : R2} {h : D → D → Mo D} (ho : OpR X (compareOp op) r) (hs : S2 g r h) (ha : PE X a (tD g W fa)) (hb : PE X b (tD g W fb)) (hm : behindInMarks op b = false := by first | exact nomark _ | rfl | with_unfolding_all rfl) :
    PT X (.Compare a [op] [b] pos) (tDb g W (cTest (cOp h fa fb))) := by
  refine PT.imp (pt_cmpR ho ha hb hm) fun σ H Q ⟨m, S, ρ, sr, er, k⟩ => ?_
  refine op_sub2 hs _ _ _ ⟨m, S, ρ, sr, er, k.bind.mono fun d m1 S1 H1 e1 s1 p v rv => ?_⟩
  exact asB_ok s1 rv p
def cChain (h h' : D → D → Mo D) (fa fb fc : DE) : DE := fun ρ => do
  let x ← fa ρ; let y ← fb ρ; let z ← h x y; let k ← asB z
  match k with
  | true => do let u ← fc ρ; h' y u
  | false => pure (.bl false)
theorem chain_sub {r r' : R2} {h h' : D → D → Mo D} (hs : S2 g r h) (hs' : S2 g r' h') : ∀ σ H Q, tD g W (cChain h h' fa fb fc) σ H Q → tChain r r' (tD g W fa) (tD g W fb) (tD g W fc) σ H Q := fun _ _ _ ⟨_, _, _, sr, er, k⟩ =>
  tD.sub sr er k fun _ _ _ _ _ s1 er1 _ r1 h1 => tD.sub s1 er1 h1 fun _ m2 S2 H2 _ s2 er2 e2 r2 h2 => hs m2 S2 H2 _ _ _ _ _ _ s2 (r1.ev e2) r2 (h2.bind.mono fun d m3 S3 H3 e3 s3 p v rv => by
    cases d with
    | bl c =>
      cases rv
      refine ⟨c, rfl, ?_⟩
      cases c with
      | true =>
        rw [if_pos rfl]
        exact tD.sub s3 (er2.ev e3) p fun _ m4 S4 H4 _ s4 _ e4 r4 h4 => hs' m4 S4 H4 _ _ _ _ _ _ s4 ((r2.ev e3).ev e4) r4 h4
      | false =>
        rw [if_neg Bool.false_ne_true]
        exact p m3 H3 Ev.refl s3 _ (.bl false)
    | _ => exact p.elim)
theorem de_chain {op op' : CmpOp} {r r' : R2} {h h' : D → D → Mo D} (ho : OpR X (compareOp op) r) (hs : S2 g r h) (ho' : OpR X (compareOp op') r') (hs' : S2 g r' h') (ha : PE X a (tD g W fa)) (hb : PE X b (tD g W fb)) (hc : PE X c (tD g W fc)) (hm : lastMarks [op, op'] [b, c] = false := by rfl) :
    PE X (.Compare a [op, op'] [b, c] pos) (tD g W (cChain h h' fa fb fc)) := PE.imp (pe_chain ho ho' ha hb hc hm) (chain_sub hs hs')
theorem dt_chain {op op' : CmpOp} {r r' : R2} {h h' : D → D → Mo D} (ho : OpR X (compareOp op) r) (hs : S2 g r h) (ho' : OpR X (compareOp op') r') (hs' : S2 g r' h') (ha : PE X a (tD g W fa)) (hb : PE X b (tD g W fb)) (hc : PE X c (tD g W fc)) (hm : lastMarks [op, op'] [b, c] = false := by rfl) :
    PT X (.Compare a [op, op'] [b, c] pos) (tDb g W (cTest (cChain h h' fa fb fc))) := by
  refine PT.imp (pt_chain ho ho' ha hb hc hm) fun σ H Q ⟨m, S, ρ, sr, er, k⟩ => ?_
  refine chain_sub hs hs' _ _ _ ⟨m, S, ρ, sr, er, k.bind.mono fun d m1 S1 H1 e1 s1 p v rv => ?_⟩
  exact asB_ok s1 rv p

/-! ### truth -/
def trO (S : Sto) : Option Ob → Rz Bool
  | some (.lst xs) => .ok (!xs.isEmpty) S
  | some (.dct kvs) => .ok (!kvs.isEmpty) S
  | _ => .no
def trD : D → Mo Bool
  | .non => pure false
  | .bl b => pure b
  | .int i => pure (i != 0)
  | .str y => fun S => if fit y.length = true then .ok ((y.length : Int) != 0) S else .no
  | .tup xs => pure (!xs.isEmpty)
  | .lsc xs => pure (!xs.isEmpty)
  | .loc l => fun S => trO S S[l]?
  | .ty _ => bad
  | .cls _ => bad
  | .fnc _ => bad
theorem trD_loc {l : Nat} {S : Sto} : trD (.loc l) S = trO S S[l]? := rfl
theorem trD_str {y : Str} {S : Sto} (hz : fit y.length = true) : trD (.str y) S = .ok ((y.length : Int) != 0) S := by
  unfold trD
  exact if_pos hz
theorem trD_strN {y : Str} {S : Sto} (hz : ¬ fit y.length = true) : trD (.str y) S = .no := by
  unfold trD
  exact if_neg hz
theorem VRs.empty {m : Nat → Addr} {n : Nat} {H : Hp} {vs : List V} {ds : List D} (r : VRs g m n H vs ds) : vs.isEmpty = ds.isEmpty := by cases r <;> rfl
theorem map_empty {α β γ : Type} {xs : List (α × β)} {ys : List (α × γ)} (h : xs.map (·.1) = ys.map (·.1)) : xs.isEmpty = ys.isEmpty := by
  cases xs <;> cases ys <;> first | rfl | cases h
theorem trD_ok {m : Nat → Addr} {S : Sto} {H : Hp} {W : XK} {K : Bool → (Nat → Addr) → Sto → Hp → Prop} {d : D} {v : V} (sr : SR g m H S) (r : VR g m S.length H v d) (h : PRx g m S H W K (trD d S)) : ∃ k, TruV g.K v H k ∧ K k m S H ∧ trD d S = .ok k S := by
  cases r with
  | non => exact ⟨_, rfl, h m H Ev.refl sr, rfl⟩
  | bl b => exact ⟨_, rfl, h m H Ev.refl sr, rfl⟩
  | int i => exact ⟨_, rfl, h m H Ev.refl sr, rfl⟩
  | str y =>
    by_cases hz : fit y.length = true
    · have e : trD (.str y) S = .ok ((y.length : Int) != 0) S := trD_str hz
      rw [e] at h
      have t : TruV g.K (.str y) H ((y.length : Int) != 0) := And.intro (fit_iff.mp hz) rfl
      exact ⟨_, t, h m H Ev.refl sr, e⟩
    · have e : trD (.str y) S = .no := trD_strN hz
      rw [e] at h; exact h.elim
  | ty t => exact h.elim
  | cls a => exact h.elim
  | fnc a => exact h.elim
  | tup a xs ds hq rs => exact ⟨_, .inr (.inl ⟨xs, hq, by rw [rs.empty]⟩), h m H Ev.refl sr, rfl⟩
  | lsc a xs ds hq rs => exact ⟨_, .inl ⟨xs, hq.sq, by rw [rs.empty]⟩, h m H Ev.refl sr, rfl⟩
  | loc l hl =>
    rw [trD_loc] at h ⊢
    cases q : S[l]? with
    | none => rw [q] at h; exact h.elim
    | some o =>
      rw [q] at h
      cases o with
      | lst ds =>
        obtain ⟨_, vs, hv, rs⟩ := sr.atL q
        exact ⟨_, .inl ⟨vs, SqL.of hv, by rw [rs.empty]⟩, h m H Ev.refl sr, rfl⟩
      | dct kvs =>
        obtain ⟨_, vs, hv, hk, rs⟩ := sr.atD q
        exact ⟨_, .inr (.inr ⟨vs, hv, by rw [map_empty hk]⟩), h m H Ev.refl sr, rfl⟩
      | ins c fs => exact h.elim
def cTru (f : DE) : En → Mo Bool := fun ρ => f ρ >>= trD
theorem dt_tru (ha : PE X a (tD g W fa)) (hK : X.K = g.K) (he : ∀ whole, isTrue a X.env whole = (do let v ← whole; standAt a.pos; holding [v] (truthy v)) := by intro _; rfl) : PT X a (tDb g W (cTru fa)) :=
  PT.imp (pt_truth ha he) fun _ _ _ ⟨_, _, _, sr, er, h⟩ => tD.sub sr er h fun _ _ _ _ _ s1 _ _ r1 h1 => by
    obtain ⟨k, t, q, _⟩ := trD_ok s1 r1 h1
    rw [hK]
    exact ⟨k, t, q⟩
def cNotT (f : En → Mo Bool) : En → Mo Bool := fun ρ => do let k ← f ρ; pure (!k)
def cAndT (f h : En → Mo Bool) : En → Mo Bool := fun ρ => do
  let k ← f ρ
  match k with
  | true => h ρ
  | false => pure false
def cOrT (f h : En → Mo Bool) : En → Mo Bool := fun ρ => do
  let k ← f ρ
  match k with
  | true => pure true
  | false => h ρ
theorem dt_not (ha : PT X a (tDb g W ft)) : PT X (.UnaryOp .Not a pos) (tDb g W (cNotT ft)) :=
  PT.imp (pt_not ha) fun _ _ _ ⟨_, _, _, sr, er, h⟩ => tDb.sub sr er h fun _ _ _ _ s1 _ _ h1 => h1.here s1
theorem dw_and1 (ha : PT X a (tDb g W ft)) : PW X (.BoolOp .And [a] pos) (tDb g W ft) := pw_and1 ha
theorem dw_or1 (ha : PT X a (tDb g W ft)) : PW X (.BoolOp .Or [a] pos) (tDb g W ft) := pw_or1 ha
theorem dw_and (ha : PT X a (tDb g W ft)) (hb : PW X (.BoolOp .And (b :: rest) pos) (tDb g W fu)) : PW X (.BoolOp .And (a :: b :: rest) pos) (tDb g W (cAndT ft fu)) :=
  PW.imp (pw_and ha hb) fun _ _ _ ⟨_, _, _, sr, er, h⟩ => tDb.sub sr er h fun k m1 S1 H1 s1 er1 _ h1 => by
    cases k with
    | true => rw [if_pos rfl]; exact ⟨m1, S1, _, s1, er1, h1⟩
    | false => rw [if_neg Bool.false_ne_true]; exact h1.here s1
theorem dw_or (ha : PT X a (tDb g W ft)) (hb : PW X (.BoolOp .Or (b :: rest) pos) (tDb g W fu)) : PW X (.BoolOp .Or (a :: b :: rest) pos) (tDb g W (cOrT ft fu)) :=
  PW.imp (pw_or ha hb) fun _ _ _ ⟨_, _, _, sr, er, h⟩ => tDb.sub sr er h fun k m1 S1 H1 s1 er1 _ h1 => by
    cases k with
    | true => rw [if_pos rfl]; exact h1.here s1
    | false => rw [if_neg Bool.false_ne_true]; exact ⟨m1, S1, _, s1, er1, h1⟩
theorem dt_pw (h : PW X a (tDb g W ft)) : PT X a (tDb g W ft) := h.pt
/-- .. as values, by truth -/
def cOr (fa fb : DE) : DE := fun ρ => do
  let x ← fa ρ; let k ← trD x
  match k with
  | true => pure x
  | false => fb ρ
def cAnd (fa fb : DE) : DE := fun ρ => do
  let x ← fa ρ; let k ← trD x
  match k with
  | true => fb ρ
  | false => pure x
def cNot (fa : DE) : DE := fun ρ => do let x ← fa ρ; let k ← trD x; pure (.bl (!k))
theorem trD_bind {α : Type} {m : Nat → Addr} {S : Sto} {H : Hp} {W : XK} {K : α → (Nat → Addr) → Sto → Hp → Prop} {k : Bool → Sto → Rz α} {d : D} {v : V} (sr : SR g m H S) (r : VR g m S.length H v d) (h : PRx g m S H W K ((trD d S).andThen k)) : ∃ c, TruV g.K v H c ∧ PRx g m S H W K (k c S) := by
  obtain ⟨c, t, q, e⟩ := trD_ok sr r h.bind
  exact ⟨c, t, q⟩
theorem de_or (hK : X.K = g.K) (ha : PE X a (tD g W fa)) (hb : PE X (.BoolOp .Or (b :: rest) pos) (tD g W fb)) : PE X (.BoolOp .Or (a :: b :: rest) pos) (tD g W (cOr fa fb)) :=
  PE.imp (pe_orT ha hb) fun _ _ _ ⟨_, _, _, sr, er, h⟩ => tD.sub sr er h fun d m1 S1 H1 v s1 er1 _ r1 h1 => by
    obtain ⟨c, t, q⟩ := trD_bind s1 r1 h1
    rw [hK]
    refine ⟨c, t, ?_⟩
    cases c with
    | true => rw [if_pos rfl]; exact q.here s1 _ r1
    | false => rw [if_neg Bool.false_ne_true]; exact ⟨m1, S1, _, s1, er1, q⟩
theorem de_and (hK : X.K = g.K) (ha : PE X a (tD g W fa)) (hb : PE X (.BoolOp .And (b :: rest) pos) (tD g W fb)) : PE X (.BoolOp .And (a :: b :: rest) pos) (tD g W (cAnd fa fb)) :=
  PE.imp (pe_andT ha hb) fun _ _ _ ⟨_, _, _, sr, er, h⟩ => tD.sub sr er h fun d m1 S1 H1 v s1 er1 _ r1 h1 => by
    obtain ⟨c, t, q⟩ := trD_bind s1 r1 h1
    rw [hK]
    refine ⟨c, t, ?_⟩
    cases c with
    | true => rw [if_pos rfl]; exact ⟨m1, S1, _, s1, er1, q⟩
    | false => rw [if_neg Bool.false_ne_true]; exact q.here s1 _ r1
theorem de_one {op} (h : PE X a (tD g W fa)) : PE X (.BoolOp op [a] pos) (tD g W fa) := pe_one h
theorem de_not (hK : X.K = g.K) (ha : PE X a (tD g W fa)) : PE X (.UnaryOp .Not a pos) (tD g W (cNot fa)) :=
  PE.imp (pe_notT ha) fun _ _ _ ⟨_, _, _, sr, er, h⟩ => tD.sub sr er h fun d m1 S1 H1 v s1 er1 _ r1 h1 => by
    obtain ⟨c, t, q⟩ := trD_bind s1 r1 h1
    rw [hK]
    exact ⟨c, t, q.here s1 _ (.bl _)⟩
def cIf (ft : En → Mo Bool) (fa fb : DE) : DE := fun ρ => do
  let k ← ft ρ
  match k with
  | true => fa ρ
  | false => fb ρ
theorem de_ifExp (hc : PT X c (tDb g W ft)) (ha : PE X a (tD g W fa)) (hb : PE X b (tD g W fb)) : PE X (.IfExp c a b pos) (tD g W (cIf ft fa fb)) :=
  PE.imp (pe_ifExp hc ha hb) fun _ _ _ ⟨_, _, _, sr, er, h⟩ => tDb.sub sr er h fun k m1 S1 H1 s1 er1 _ h1 => by
    cases k with
    | true => rw [if_pos rfl]; exact ⟨m1, S1, _, s1, er1, h1⟩
    | false => rw [if_neg Bool.false_ne_true]; exact ⟨m1, S1, _, s1, er1, h1⟩

/-! ### calls of built-ins; subscripts; methods of built-in types -/
def cCall (h : List D → Mo D) (fs : En → Mo (List D)) : DE := fun ρ => do let xs ← fs ρ; h xs
theorem call_sub {r : List V → Hp → VK → Prop} {h : List D → Mo D} (hs : SC g r h) : ∀ σ H Q, tD g W (cCall h fs) σ H Q → tCB r (tDs g W fs) σ H Q := fun _ _ _ ⟨_, _, _, sr, er, k⟩ =>
  tDs.sub sr er k fun _ m1 S1 H1 _ s1 _ _ r1 h1 => hs m1 S1 H1 _ _ _ _ s1 r1 h1
theorem de_callB {x : Str} {id : String} {p : Pos} {r : List V → Hp → VK → Prop} {h : List D → Mo D} (hc : CallR X (.builtin id) r) (hs : SC g r h) (hm : X.mg x = none) (hv : bootBuiltins x = some (.builtin id)) (ha : PA X (e :: es) (tDs g W fs)) (hg : Gl X x := by rfl)
    (he : starEach (e :: es) X.env = (false, eval e X.env) :: starEach es X.env := by rfl) (hpl : (backTo pos (starEach es X.env)).any (·.1) = false := by rfl) (hn : x ≠ "__name__" := by decide) (hd : (x == ("__debug__" : Str)) = false := by decide) :
    PE X (.Call (.Name x p) (e :: es) [] pos) (tD g W (cCall h fs)) := PE.imp (pe_callB hc hg hm hv ha hn hd he hpl) (call_sub hs)
theorem de_callTy {x : Str} {T : String} {p : Pos} {r : List V → Hp → VK → Prop} {h : List D → Mo D} (hc : CallR X (.type T) r) (hs : SC g r h) (hm : X.mg x = none) (hv : bootBuiltins x = some (.type T)) (ha : PA X (e :: es) (tDs g W fs)) (hg : Gl X x := by rfl)
    (he : starEach (e :: es) X.env = (false, eval e X.env) :: starEach es X.env := by rfl) (hpl : (backTo pos (starEach es X.env)).any (·.1) = false := by rfl) (hn : x ≠ "__name__" := by decide) (hd : (x == ("__debug__" : Str)) = false := by decide) :
    PE X (.Call (.Name x p) (e :: es) [] pos) (tD g W (cCall h fs)) := PE.imp (pe_callTy hc hg hm hv ha hn hd he hpl) (call_sub hs)
/-- a method of a built-in type: the type looked at ahead of the arguments -/
def tyD (T : String) : D → Sto → Bool
  | .str _, _ => T == "str"
  | .lsc _, _ => T == "list"
  | .loc l, S => match S[l]? with
    | some (.lst _) => T == "list"
    | some (.dct _) => T == "dict"
    | _ => false
  | _, _ => false
theorem tyD_ok {m : Nat → Addr} {S : Sto} {H : Hp} {T : String} {d : D} {v : V} (sr : SR g m H S) (r : VR g m S.length H v d) (h : tyD T d S = true) : tyV g.K T v H := by
  cases r with
  | str x => exact beq_iff_eq.mp h
  | lsc a xs ds hq rs => exact .inl ⟨beq_iff_eq.mp h, xs, hq.sq⟩
  | loc l hl =>
    simp only [tyD] at h
    cases q : S[l]? with
    | none => rw [q] at h; cases h
    | some o =>
      rw [q] at h
      cases o with
      | lst ds =>
        obtain ⟨_, vs, hv, _⟩ := sr.atL q
        exact .inl ⟨beq_iff_eq.mp h, vs, SqL.of hv⟩
      | dct kvs =>
        obtain ⟨_, vs, hv, _⟩ := sr.atD q
        exact .inr (.inr (.inl ⟨beq_iff_eq.mp h, .inl ⟨vs, hv⟩⟩))
      | ins c fs => cases h
  | _ => cases h
def chk (T : String) (d : D) : Mo Unit := fun S => if tyD T d S = true then .ok () S else .no
theorem chk_bind {α : Type} {m : Nat → Addr} {S : Sto} {H : Hp} {W : XK} {K : α → (Nat → Addr) → Sto → Hp → Prop} {T : String} {k : Unit → Sto → Rz α} {d : D} (h : PRx g m S H W K ((chk T d S).andThen k)) : tyD T d S = true ∧ PRx g m S H W K (k () S) := by
  unfold chk at h
  by_cases q : tyD T d S = true
  · rw [if_pos q] at h; exact ⟨q, h⟩
  · rw [if_neg q] at h; exact h.elim
def cMt (T : String) (h : D → List D → Mo D) (fa : DE) (fs : En → Mo (List D)) : DE := fun ρ => do
  let x ← fa ρ; chk T x; let xs ← fs ρ; h x xs
def cMt0 (T : String) (h : D → List D → Mo D) (fa : DE) : DE := fun ρ => do
  let x ← fa ρ; chk T x; h x []
variable {o : Expr} {fo : DE} {name : Str} {apos cpos : Pos} {T id : String} {r : V → List V → Hp → VK → Prop} {h : D → List D → Mo D}
theorem de_mt0 (pa : PlainAttrs T) (slot : Slot T name id) (hty : typeOf (.builtin id) = pure (.type "method_descriptor")) (hm : MtR X id r) (hs : SM g r h) (hK : X.K = g.K) (ho : PE X o (tD g W fo))
    (hbase : attributeBase o name X.env (eval o X.env) = eval o X.env := by rfl) (hline : (apos.endLine == cpos.line) = true := by rfl) : PE X (.Call (.Attribute o name apos) [] [] cpos) (tD g W (cMt0 T h fo)) :=
  PE.imp (pe_bm0 pa slot hty hm ho hbase hline) fun _ _ _ ⟨_, _, _, sr, er, k⟩ => tD.sub sr er k fun _ m1 S1 H1 _ s1 _ _ r1 h1 => by
    obtain ⟨t, h2⟩ := chk_bind h1
    rw [hK]
    exact ⟨tyD_ok s1 r1 t, hs m1 S1 H1 _ _ _ _ _ _ s1 r1 .nil h2⟩
theorem de_mt (pa : PlainAttrs T) (slot : Slot T name id) (hty : typeOf (.builtin id) = pure (.type "method_descriptor")) (hm : MtR X id r) (hs : SM g r h) (hK : X.K = g.K) (ho : PE X o (tD g W fo)) (ha : PA X (e :: es) (tDs g W fs))
    (hbase : attributeBase o name X.env (eval o X.env) = eval o X.env := by rfl)
    (hfew : ((backTo cpos (starEach (e :: es) X.env)).all (fun x => !x.1) && (backToKw cpos (keywordEach [] X.env)).all (fun x => x.1.isSome)
      && decide ((e :: es).length + ([] : List Keyword).length + (if ([] : List Keyword).isEmpty then 0 else 1) < 30)) = true := by rfl)
    (hline : (apos.endLine == cpos.line) = true := by rfl) (hst : starEach (e :: es) X.env = (false, eval e X.env) :: starEach es X.env := by rfl) (hplain : (backTo cpos (starEach es X.env)).any (·.1) = false := by rfl) :
    PE X (.Call (.Attribute o name apos) (e :: es) [] cpos) (tD g W (cMt T h fo fs)) :=
  PE.imp (pe_bm pa slot hty hm ho ha hbase hfew hline hst hplain) fun _ _ _ ⟨_, _, _, sr, er, k⟩ => tD.sub sr er k fun _ m1 S1 H1 _ s1 er1 _ r1 h1 => by
    obtain ⟨t, h2⟩ := chk_bind h1
    rw [hK]
    exact ⟨tyD_ok s1 r1 t, tDs.sub s1 er1 h2 fun _ m2 S2 H2 _ s2 _ e2 r2 h3 => hs m2 S2 H2 _ _ _ _ _ _ s2 (r1.ev e2) r2 h3⟩
end
end Sm
end
section
/-! Sm, part C: statements, loops, comprehensions. -/
namespace Sm
open PySem PySem.Spec PyProof.Rows L2

/-- how a statement ends -/
inductive Fz where
  | nx (ρ : En) (S : Sto) | brk (ρ : En) (S : Sto) | cnt (ρ : En) (S : Sto) | ret (d : D) (S : Sto) | ex (e : Exn) (ρ : En) (S : Sto) | no
abbrev DS := En → Sto → Fz
def Rz.toF {α : Type} (r : Rz α) (ρ : En) (k : α → Sto → Fz) : Fz :=
  match r with
  | .ok a S => k a S
  | .ex e S => .ex e ρ S
  | .no => .no
section
variable {α : Type}
@[simp] theorem toF_ok (a : α) (S : Sto) (ρ : En) (k : α → Sto → Fz) : (Rz.ok a S).toF ρ k = k a S := rfl
@[simp] theorem toF_ex (e : Exn) (S : Sto) (ρ : En) (k : α → Sto → Fz) : (Rz.ex e S : Rz α).toF ρ k = .ex e ρ S := rfl
@[simp] theorem toF_no (ρ : En) (k : α → Sto → Fz) : (Rz.no : Rz α).toF ρ k = .no := rfl
end
def PF (g : Gx) (m : Nat → Addr) (S : Sto) (H : Hp) (W : WX) (E : Ends) : Fz → Prop
  | .nx ρ' S' => ∀ σ' m' H', Ev g m S.length H m' S'.length H' → SR g m' H' S' → ER g m' S'.length H' σ' ρ' → E.nx σ' H'
  | .brk ρ' S' => ∀ σ' m' H', Ev g m S.length H m' S'.length H' → SR g m' H' S' → ER g m' S'.length H' σ' ρ' → E.bk σ' H'
  | .cnt ρ' S' => ∀ σ' m' H', Ev g m S.length H m' S'.length H' → SR g m' H' S' → ER g m' S'.length H' σ' ρ' → E.ct σ' H'
  | .ret d S' => ∀ v m' H', Ev g m S.length H m' S'.length H' → SR g m' H' S' → VR g m' S'.length H' v d → E.rt v H'
  | .ex e ρ' S' => ∀ c d σ' m' H', Ev g m S.length H m' S'.length H' → SR g m' H' S' → ER g m' S'.length H' σ' ρ' → XR g m' S'.length H' e c d → W c d σ' H'
  | .no => False
def tS (g : Gx) (W : WX) (f : DS) : TS := fun E σ H => ∃ m S ρ, SR g m H S ∧ ER g m S.length H σ ρ ∧ PF g m S H W E (f ρ S)

section
variable {g : Gx} {m m' : Nat → Addr} {S S' : Sto} {H H' : Hp} {W : WX} {E : Ends} {r : Fz} {σ : L2.St} {ρ : En}
theorem PF.ev (e : Ev g m S.length H m' S'.length H') (h : PF g m S H W E r) : PF g m' S' H' W E r := by
  cases r with
  | nx ρ1 S1 => exact fun s1 m1 H1 e1 => h s1 m1 H1 (e.trans e1)
  | brk ρ1 S1 => exact fun s1 m1 H1 e1 => h s1 m1 H1 (e.trans e1)
  | cnt ρ1 S1 => exact fun s1 m1 H1 e1 => h s1 m1 H1 (e.trans e1)
  | ret d S1 => exact fun s1 m1 H1 e1 => h s1 m1 H1 (e.trans e1)
  | ex x ρ1 S1 => exact fun c d s1 m1 H1 e1 => h c d s1 m1 H1 (e.trans e1)
  | no => exact h
/-- an expression ahead of the rest of a statement -/
theorem PF.bind {α : Type} {x : Rz α} {k : α → Sto → Fz} (er : ER g m S.length H σ ρ) (h : PF g m S H W E (x.toF ρ k)) :
    PRx g m S H (fun c d H' => W c d σ H') (fun a m1 S1 H1 => PF g m1 S1 H1 W E (k a S1)) x := by
  cases x with
  | ok a S1 => exact fun m1 H1 e1 _ => PF.ev e1 h
  | ex e S1 => exact fun c d m1 H1 e1 s1 x1 => h c d σ m1 H1 e1 s1 (er.ev e1) x1
  | no => exact h
theorem PF.here (h : PF g m S H W E (.nx ρ S)) (sr : SR g m H S) (er : ER g m S.length H σ ρ) : E.nx σ H := h σ m H Ev.refl sr er
end

section
variable {X : Cx} {g : Gx} {W : WX} {e a b c : Expr} {st : Stmt} {sts rest : List Stmt} {f fa fb : DE} {fs : En → Mo (List D)} {ft : En → Mo Bool} {s t u : DS} {pos : Pos}

theorem tD.subF {H : Hp} {σ : L2.St} {m : Nat → Addr} {S : Sto} {ρ : En} {k : D → Sto → Fz} {E : Ends} {Q : VK}
    (sr : SR g m H S) (er : ER g m S.length H σ ρ) (h : PF g m S H W E ((f ρ S).toF ρ k))
    (q : ∀ d m1 S1 H1 v, SR g m1 H1 S1 → ER g m1 S1.length H1 σ ρ → Ev g m S.length H m1 S1.length H1 → VR g m1 S1.length H1 v d → PF g m1 S1 H1 W E (k d S1) → Q v H1) : tD g W f σ H Q :=
  ⟨m, S, ρ, sr, er, (h.bind er).mono fun d m1 S1 H1 e1 s1 p v r => q d m1 S1 H1 v s1 (er.ev e1) e1 r p⟩
theorem tDb.subF {H : Hp} {σ : L2.St} {m : Nat → Addr} {S : Sto} {ρ : En} {k : Bool → Sto → Fz} {E : Ends} {Q : Bool → Hp → Prop}
    (sr : SR g m H S) (er : ER g m S.length H σ ρ) (h : PF g m S H W E ((ft ρ S).toF ρ k))
    (q : ∀ d m1 S1 H1, SR g m1 H1 S1 → ER g m1 S1.length H1 σ ρ → Ev g m S.length H m1 S1.length H1 → PF g m1 S1 H1 W E (k d S1) → Q d H1) : tDb g W ft σ H Q :=
  ⟨m, S, ρ, sr, er, (h.bind er).mono fun d m1 S1 H1 e1 s1 p => q d m1 S1 H1 s1 (er.ev e1) e1 p⟩

/-! ### blocks -/
def cNext : DS := fun ρ S => .nx ρ S
def cSeq (s t : DS) : DS := fun ρ S => match s ρ S with
  | .nx ρ' S' => t ρ' S'
  | o => o
theorem dss_nil : PSs X [] (tS g W cNext) := PSs.imp pss_nil fun _ _ _ ⟨_, _, _, sr, er, h⟩ => h.here sr er
theorem seq_sub : ∀ E σ H, tS g W (cSeq s t) E σ H → tSeq (tS g W s) (tS g W t) E σ H := fun E σ H ⟨m, S, ρ, sr, er, h⟩ => by
  refine ⟨m, S, ρ, sr, er, ?_⟩
  unfold cSeq at h
  cases q : s ρ S with
  | nx ρ1 S1 => rw [q] at h; exact fun s1 m1 H1 e1 sr1 er1 => ⟨m1, S1, ρ1, sr1, er1, PF.ev e1 h⟩
  | brk ρ1 S1 => rw [q] at h; exact h
  | cnt ρ1 S1 => rw [q] at h; exact h
  | ret d S1 => rw [q] at h; exact h
  | ex x ρ1 S1 => rw [q] at h; exact h
  | no => rw [q] at h; exact h
theorem dss_cons (h1 : PS X st (tS g W s)) (h2 : PSs X rest (tS g W t)) : PSs X (st :: rest) (tS g W (cSeq s t)) := PSs.imp (pss_cons h1 h2) seq_sub
theorem dss_one (h1 : PS X st (tS g W s)) : PSs X [st] (tS g W s) := pss_one h1
def cBrk : DS := fun ρ S => .brk ρ S
def cCnt : DS := fun ρ S => .cnt ρ S
def cNever : DS := fun _ _ => .no
theorem ds_pass : PS X (.Pass pos) (tS g W cNext) := PS.imp ps_pass fun _ _ _ ⟨_, _, _, sr, er, h⟩ => h.here sr er
theorem ds_break : PS X (.Break pos) (tS g W cBrk) := PS.imp ps_break fun _ _ H ⟨m, _, _, sr, er, h⟩ => h _ m H Ev.refl sr er
theorem ds_continue : PS X (.Continue pos) (tS g W cCnt) := PS.imp ps_continue fun _ _ H ⟨m, _, _, sr, er, h⟩ => h _ m H Ev.refl sr er
/-- a statement that is not served: the proof must never come to it -/
theorem ds_never : PS X st (tS g W cNever) := PS.imp ps_never fun _ _ _ ⟨_, _, _, _, _, h⟩ => h
def cExpr (f : DE) : DS := fun ρ S => (f ρ S).toF ρ fun _ S' => .nx ρ S'
theorem ds_expr (he : PE X e (tD g W f)) (hs : swapsWith e none pos.line X.env = pure false := by rfl) : PS X (.Expr e pos) (tS g W (cExpr f)) :=
  PS.imp (ps_expr he hs) fun _ _ _ ⟨_, _, _, sr, er, h⟩ => tD.subF sr er h fun _ _ _ _ _ s1 er1 _ _ h1 => h1.here s1 er1
def cRet (f : DE) : DS := fun ρ S => (f ρ S).toF ρ fun d S' => .ret d S'
theorem ds_ret (he : PE X e (tD g W f)) : PS X (.Return (some e) pos) (tS g W (cRet f)) :=
  PS.imp (ps_ret he) fun _ _ _ ⟨_, _, _, sr, er, h⟩ => tD.subF sr er h fun _ m1 _ H1 v s1 er1 _ r1 h1 => h1 v m1 H1 Ev.refl s1 r1
def cRetN : DS := fun _ S => .ret .non S
theorem ds_retN : PS X (.Return none pos) (tS g W cRetN) := PS.imp ps_retN fun _ _ H ⟨m, _, _, sr, _, h⟩ => h _ m H Ev.refl sr .non
def cIfS (c : En → Mo Bool) (s t : DS) : DS := fun ρ S => (c ρ S).toF ρ fun k S' => match k with
  | true => s ρ S'
  | false => t ρ S'
theorem ds_if {p q : List Stmt} (hc : PT X c (tDb g W ft)) (ha : PSs X p (tS g W s)) (hb : PSs X q (tS g W t)) : PS X (.If c p q pos) (tS g W (cIfS ft s t)) :=
  PS.imp (ps_if hc ha hb) fun _ _ _ ⟨_, _, _, sr, er, h⟩ => tDb.subF sr er h fun k m1 S1 H1 s1 er1 _ h1 => by
    cases k with
    | true => rw [if_pos rfl]; exact ⟨m1, S1, _, s1, er1, h1⟩
    | false => rw [if_neg Bool.false_ne_true]; exact ⟨m1, S1, _, s1, er1, h1⟩

/-! ### targets -/
/-- what a target makes of a value -/
abbrev DG := D → En → Sto → Fz
def tG (g : Gx) (W : WX) (f : DG) : TG := fun v σ H Q => ∃ m S ρ d, SR g m H S ∧ ER g m S.length H σ ρ ∧ VR g m S.length H v d ∧ PF g m S H W { nx := Q, rt := fun _ _ => False } (f d ρ S)
theorem PG.imp {tg : Expr} {t t' : TG} (h : PG X tg t) (i : ∀ v σ H Q, t' v σ H Q → t v σ H Q) : PG X tg t' := ⟨fun pins s σ H v u Q I r q => h.run pins s σ H v u Q I r (i v σ H Q q)⟩
theorem PGs.imp {tg : List Expr} {t t' : TGs} (h : PGs X tg t) (i : ∀ v σ H Q, t' v σ H Q → t v σ H Q) : PGs X tg t' := ⟨fun pins s σ H v u Q I r q => h.run pins s σ H v u Q I r (i v σ H Q q)⟩
def kName (i : Nat) : DG := fun d ρ S => .nx (ρ.set i (some d)) S
theorem dg_name (i : Nat) {x : Str} (hN : X.N.Nodup) (hi : X.N[i]? = some x := by rfl) (hx : Loc X.env.scope x := by first | exact Or.inl rfl | exact Or.inr rfl) (hf : X.fn x = true ∨ X.env.scope.names.lookup x = some .local := by first | exact .inl rfl | exact .inr rfl) :
    PG X (.Name x pos) (tG g W (kName i)) := PG.imp (pg_name hN hi hx hf) fun _ _ H _ ⟨m, _, _, _, sr, er, r, h⟩ => h _ m H Ev.refl sr (er.set r)
abbrev DGs := List D → En → Sto → Fz
def tGs (g : Gx) (W : WX) (f : DGs) : TGs := fun vs σ H Q => ∃ m S ρ ds, SR g m H S ∧ ER g m S.length H σ ρ ∧ VRs g m S.length H vs ds ∧ PF g m S H W { nx := Q, rt := fun _ _ => False } (f ds ρ S)
def kNil : DGs := fun ds ρ S => match ds with
  | [] => .nx ρ S
  | _ :: _ => .no
def kCons (f : DG) (fs : DGs) : DGs := fun ds ρ S => match ds with
  | [] => .no
  | d :: r => match f d ρ S with
    | .nx ρ' S' => fs r ρ' S'
    | _ => .no
theorem dgs_nil : PGs X [] (tGs g W kNil) := PGs.imp pgs_nil fun _ _ _ _ ⟨_, _, _, ds, sr, er, r, h⟩ => by
  cases r with
  | nil => exact ⟨rfl, h.here sr er⟩
  | cons _ _ _ _ _ _ => exact h.elim
theorem dgs_cons {es : List Expr} {k : DG} {ks : DGs} (h1 : PG X e (tG g W k)) (h2 : PGs X es (tGs g W ks))
    (hs : (assignEach (e :: es) X.env).map (·.2) = assign e X.env :: (assignEach es X.env).map (·.2) := by rfl) : PGs X (e :: es) (tGs g W (kCons k ks)) :=
  PGs.imp (pgs_cons h1 h2 hs) fun vs σ H Q ⟨m, S, ρ, ds, sr, er, r, h⟩ => by
    cases r with
    | nil => exact h.elim
    | cons x d xs ds rx rs =>
      refine ⟨x, xs, rfl, m, S, ρ, d, sr, er, rx, ?_⟩
      unfold kCons at h
      cases q : k d ρ S with
      | nx ρ1 S1 =>
        simp only [q] at h
        exact fun s1 m1 H1 e1 sr1 er1 => ⟨m1, S1, ρ1, ds, sr1, er1, rs.ev e1, PF.ev e1 h⟩
      | _ => simp only [q] at h; exact h.elim
def unO : Option Ob → Option (List D)
  | some (.lst xs) => some xs
  | _ => none
/-- what is unpacked: a tuple, a list -/
def unS (S : Sto) : D → Option (List D)
  | .tup xs => some xs
  | .lsc xs => some xs
  | .loc l => unO S[l]?
  | _ => none
/-- unpacking -/
def kTup (ks : DGs) (n : Nat) : DG := fun d ρ S => match unS S d with
  | some xs => if xs.length = n then ks xs ρ S else .no
  | none => .no
theorem PG.or {tg : Expr} {t t' : TG} (h : PG X tg t) (h' : PG X tg t') : PG X tg (fun v σ H Q => t v σ H Q ∨ t' v σ H Q) := ⟨fun pins s σ H v u Q I r q => q.elim (h.run pins s σ H v u Q I r) (h'.run pins s σ H v u Q I r)⟩
theorem dg_tup {es : List Expr} {k n : Nat} {ks : DGs} (hc : X.calm = true) (hK : X.K = g.K) (h : PGs X es (tGs g W ks)) (hn : (assignEach es X.env).length = n := by rfl) (hst : (assignEach es X.env).findIdx? (·.1) = none := by rfl) :
    PG X (.Tuple es k pos) (tG g W (kTup ks n)) := PG.imp (PG.or (pg_tup hc h hn hst) (pg_lst hc h hn hst)) fun v σ H Q ⟨m, S, ρ, d, sr, er, r, q⟩ => by
  rw [hK]
  unfold kTup at q
  cases z : unS S d with
  | none => simp only [z] at q; exact q.elim
  | some xs =>
    simp only [z] at q
    by_cases hl : xs.length = n
    · rw [if_pos hl] at q
      cases r with
      | tup a vs _ hq rs => cases z; exact .inl ⟨a, vs, rfl, hq, by rw [rs.length]; exact hl, m, S, ρ, xs, sr, er, rs, q⟩
      | lsc a vs _ hq rs => cases z; exact .inr ⟨a, vs, rfl, hq.sq, by rw [rs.length]; exact hl, m, S, ρ, xs, sr, er, rs, q⟩
      | loc l hl' =>
        have z2 : unO S[l]? = some xs := z
        cases q2 : S[l]? with
        | none => rw [q2] at z2; cases z2
        | some o =>
          rw [q2] at z2
          cases o with
          | lst ys =>
            cases z2
            obtain ⟨_, vs, hv, rs⟩ := sr.atL q2
            exact .inr ⟨m l, vs, rfl, SqL.of hv, by rw [rs.length]; exact hl, m, S, ρ, xs, sr, er, rs, q⟩
          | _ => cases z2
      | _ => cases z
    · rw [if_neg hl] at q; exact q.elim
/-- target = e -/
def cAsg (f : DE) (k : DG) : DS := fun ρ S => (f ρ S).toF ρ fun d S' => match k d ρ S' with
  | .nx ρ' S'' => .nx ρ' S''
  | _ => .no
theorem asg_sub {k : DG} : ∀ E σ H, tS g W (cAsg f k) E σ H → tAsg (tD g W f) (tG g W k) E σ H := fun E σ H ⟨m, S, ρ, sr, er, h⟩ =>
  tD.subF sr er h fun d m1 S1 H1 v s1 er1 _ r1 h1 => by
    refine ⟨m1, S1, ρ, d, s1, er1, r1, ?_⟩
    cases q : k d ρ S1 with
    | nx ρ2 S2 => simp only [q] at h1; exact h1
    | _ => simp only [q] at h1; exact h1.elim
theorem ds_asg {tg : Expr} {k : DG} (he : PE X e (tD g W f)) (hg : PG X tg (tG g W k)) (hs : swapsWithSole [tg] e pos.line X.env = pure false := by rfl) (hw : swappedStores [tg] e X.env = pure none := by rfl)
    (h1 : (assignEach [tg] X.env).map (·.2) = [assign tg X.env] := by rfl) : PS X (.Assign [tg] e pos) (tS g W (cAsg f k)) := PS.imp (ps_asg he hg hs hw h1) asg_sub
theorem ds_set (i : Nat) {x : Str} {pos' : Pos} (hN : X.N.Nodup) (he : PE X e (tD g W f)) (hi : X.N[i]? = some x := by rfl) (hx : Loc X.env.scope x := by first | exact Or.inl rfl | exact Or.inr rfl) (hs : swapsWith e (some (.Name x pos')) pos.line X.env = pure false := by rfl)
    (hf : X.fn x = true ∨ X.env.scope.names.lookup x = some .local := by first | exact .inl rfl | exact .inr rfl) : PS X (.Assign [.Name x pos'] e pos) (tS g W (cAsg f (kName i))) :=
  PS.imp (ps_set hN hi hx he hs hf) fun _ _ _ ⟨_, _, _, sr, er, h⟩ => tD.subF sr er h fun _ m1 _ H1 v s1 er1 _ r1 h1 => h1 _ m1 H1 Ev.refl s1 (er1.set r1)
/-- a, b = e1, e2 (two plain locals): stored from the right -/
def cPar (i j : Nat) (fs : En → Mo (List D)) : DS := fun ρ S => (fs ρ S).toF ρ fun ds S' => match ds with
  | [d, e] => .nx ((ρ.set i (some d)).set j (some e)) S'
  | _ => .no
theorem tDs.subF {H : Hp} {σ : L2.St} {m : Nat → Addr} {S : Sto} {ρ : En} {k : List D → Sto → Fz} {E : Ends} {Q : List V → Hp → Prop}
    (sr : SR g m H S) (er : ER g m S.length H σ ρ) (h : PF g m S H W E ((fs ρ S).toF ρ k))
    (q : ∀ d m1 S1 H1 v, SR g m1 H1 S1 → ER g m1 S1.length H1 σ ρ → Ev g m S.length H m1 S1.length H1 → VRs g m1 S1.length H1 v d → PF g m1 S1 H1 W E (k d S1) → Q v H1) : tDs g W fs σ H Q :=
  ⟨m, S, ρ, sr, er, (h.bind er).mono fun d m1 S1 H1 e1 s1 p v r => q d m1 S1 H1 v s1 (er.ev e1) e1 r p⟩
theorem ds_par (i j : Nat) {x y : Str} {px py pt : Pos} {kt k2 pt2} (hc : X.calm = true) (hN : X.N.Nodup) (hw : swappedStores [.Tuple [.Name x px, .Name y py] kt pt] (.Tuple [a, b] k2 pt2) X.env = pure (some [x, y])) (ha : PA X [a, b] (tDs g W fs)) (hi : X.N[i]? = some x := by rfl) (hj : X.N[j]? = some y := by rfl) (hij : i ≠ j := by decide)
    (hx : X.env.scope.names.lookup x = some .local := by rfl) (hy : X.env.scope.names.lookup y = some .local := by rfl)
    (hs : swapsWithSole [.Tuple [.Name x px, .Name y py] kt pt] (.Tuple [a, b] k2 pt2) pos.line X.env = pure false := by rfl) :
    PS X (.Assign [.Tuple [.Name x px, .Name y py] kt pt] (.Tuple [a, b] k2 pt2) pos) (tS g W (cPar i j fs)) :=
  PS.imp (ps_par hc hN hi hj hij hx hy ha hw hs) fun _ _ _ ⟨_, _, _, sr, er, h⟩ => tDs.subF sr er h fun ds m1 S1 H1 vs s1 er1 _ r1 h1 => by
    cases r1 with
    | nil => exact h1.elim
    | cons x d xs ds rx rs =>
      cases rs with
      | nil => exact h1.elim
      | cons x' d' xs' ds' rx' rs' =>
        cases rs' with
        | nil => exact ⟨x, x', rfl, h1 _ m1 H1 Ev.refl s1 ((er1.set rx).set rx')⟩
        | cons _ _ _ _ _ _ => exact h1.elim
/-- x op= e at a local -/
def cAug (i : Nat) (h : D → D → Mo D) (f : DE) : DS := fun ρ S => match ρ[i]? with
  | some (some x) => (f ρ S).toF ρ fun y S' => (h x y S').toF ρ fun z S'' => .nx (ρ.set i (some z)) S''
  | _ => .no
theorem ds_aug (i : Nat) {x : Str} {op : Operator} {r : R2} {h : D → D → Mo D} {pos' : Pos} (hN : X.N.Nodup) (ho : OpR X (inplaceOp op) r) (hs : S2 g r h) (he : PE X e (tD g W f)) (hi : X.N[i]? = some x := by rfl) (hx : Loc X.env.scope x := by first | exact Or.inl rfl | exact Or.inr rfl)
    (hf : X.fn x = true ∨ X.env.scope.names.lookup x = some .local := by first | exact .inl rfl | exact .inr rfl) : PS X (.AugAssign (.Name x pos') op e pos) (tS g W (cAug i h f)) :=
  PS.imp (ps_aug (ti := r) hN hi hx he (fun pins s σ H x y v u Q I r1 r2 q => ho pins s σ H x y v u Q I r1 r2 q) hf) fun E σ H ⟨m, S, ρ, sr, er, k⟩ => by
    unfold cAug at k
    cases q : ρ[i]? with
    | none => rw [q] at k; exact k.elim
    | some o =>
      rw [q] at k
      cases o with
      | none => exact k.elim
      | some d =>
        obtain ⟨v, hv, rv⟩ := er.at_ i d q
        refine ⟨v, hv, tD.subF sr er k fun y m1 S1 H1 u s1 er1 e1 r1 h1 => ?_⟩
        exact hs m1 S1 H1 _ _ _ _ _ _ s1 (rv.ev e1) r1 ((h1.bind er1).mono fun z m2 S2 H2 e2 s2 p w rw' => p _ m2 H2 Ev.refl s2 ((er1.ev e2).set rw'))

/-! ### while -/
def cWhile (c : En → Mo Bool) (s : DS) : Nat → DS
  | 0 => fun _ _ => .no
  | n + 1 => fun ρ S => (c ρ S).toF ρ fun k S' => match k with
    | true => match s ρ S' with
      | .nx ρ' S'' => cWhile c s n ρ' S''
      | .cnt ρ' S'' => cWhile c s n ρ' S''
      | .brk ρ' S'' => .nx ρ' S''
      | o => o
    | false => .nx ρ S'
theorem ds_while (n : Nat) {body : List Stmt} (hp : PassesOwn (model X.prog X.w) X.A X.env X.xe) (hc : PT X c (tDb g W ft)) (hb : PSs X body (tS g W s)) : PS X (.While c body [] pos) (tS g W (cWhile ft s n)) :=
  PS.imp (ps_while hp hc hb) fun E σ H h => by
    refine ⟨fun k => tS g W (cWhile ft s k) E, ⟨n, h⟩, ?_⟩
    rintro k σ H ⟨m, S, ρ, sr, er, q⟩
    cases k with
    | zero => exact q.elim
    | succ k =>
      refine tDb.subF sr er q fun b m1 S1 H1 s1 er1 _ q1 => ?_
      cases b with
      | false => rw [if_neg Bool.false_ne_true]; exact q1.here s1 er1
      | true =>
        rw [if_pos rfl]
        refine ⟨tS g W (cWhile ft s k) E, fun σ' H' z => ⟨k, Nat.lt_succ_self k, z⟩, m1, S1, ρ, s1, er1, ?_⟩
        have q2 : PF g m1 S1 H1 W E (match s ρ S1 with
          | .nx ρ' S'' => cWhile ft s k ρ' S''
          | .cnt ρ' S'' => cWhile ft s k ρ' S''
          | .brk ρ' S'' => .nx ρ' S''
          | o => o) := q1
        cases z : s ρ S1 with
        | nx ρ2 S2 => rw [z] at q2; exact fun s3 m3 H3 e3 sr3 er3 => ⟨m3, S2, ρ2, sr3, er3, PF.ev e3 q2⟩
        | cnt ρ2 S2 => rw [z] at q2; exact fun s3 m3 H3 e3 sr3 er3 => ⟨m3, S2, ρ2, sr3, er3, PF.ev e3 q2⟩
        | brk ρ2 S2 => rw [z] at q2; exact q2
        | ret d S2 => rw [z] at q2; exact q2
        | ex x ρ2 S2 => rw [z] at q2; exact q2
        | no => rw [z] at q2; exact q2

/-! ### what is walked -/
/-- what a walk over things of the store gives at turn i: none where it fails, some none at its end -/
abbrev Nx := Nat → Sto → Option (Option D)
/-- items that stand fast, or things of the store as they are at each turn (n turns at most) -/
inductive Wk where
  | items (ds : List D) | view (nx : Nx) (n : Nat)
def liveO (i : Nat) : Option Ob → Option (Option D)
  | some (.lst xs) => some xs[i]?
  | _ => none
/-- a list of the store -/
def liveX (l : Nat) : Nx := fun i S => liveO i S[l]?
/-- J walks the items -/
def ItmOk (g : Gx) (J : It) (m : Nat → Addr) (n : Nat) (H : Hp) (ds : List D) : Prop :=
  ∀ i m' n' H', Ev g m n H m' n' H' → (ds.length ≤ i → J.stop i H') ∧ (∀ d, ds[i]? = some d → J.go i H' ∧ ∀ x H'', J.yld i H' x H'' → Ev g m' n' H' m' n' H'' ∧ (∀ S, n' = S.length → SR g m' H' S → SR g m' H'' S) ∧ VR g m' n' H'' x d)
def VwOk (g : Gx) (J : It) (m : Nat → Addr) (n : Nat) (H : Hp) (nx : Nx) : Prop :=
  ∀ i m' H' (S' : Sto), Ev g m n H m' S'.length H' → SR g m' H' S' → (nx i S' = some none → J.stop i H') ∧
    (∀ d, nx i S' = some (some d) → J.go i H' ∧ ∀ x H'', J.yld i H' x H'' → Ev g m' S'.length H' m' S'.length H'' ∧ SR g m' H'' S' ∧ VR g m' S'.length H'' x d)
def ItOk (g : Gx) (J : It) (m : Nat → Addr) (n : Nat) (H : Hp) : Wk → Prop
  | .items ds => ItmOk g J m n H ds
  | .view nx _ => VwOk g J m n H nx
theorem live_ok {g : Gx} {m : Nat → Addr} {n : Nat} {H : Hp} {l : Nat} (hl : l < n) : VwOk g (Itl g.K (m l)) m n H (liveX l) := fun i m' H' S' e sr => by
  have hm : m' l = m l := e.ag l hl
  have h0 : ∀ o, liveO i S'[l]? = some o → ∃ xs vs, H' (m l) = some (.lst vs) ∧ VRs g m' S'.length H' vs xs ∧ o = xs[i]? := by
    intro o h
    cases q : S'[l]? with
    | none => rw [q] at h; cases h
    | some ob =>
      rw [q] at h
      cases ob with
      | lst xs =>
        cases h
        obtain ⟨_, vs, hv, rs⟩ := sr.atL q
        exact ⟨xs, vs, by rw [← hm]; exact hv, rs, rfl⟩
      | _ => cases h
  refine ⟨fun h => ?_, fun d h => ?_⟩
  · obtain ⟨xs, vs, hv, rs, ho⟩ := h0 _ h
    exact ⟨vs, SqL.of hv, by rw [rs.length]; exact List.getElem?_eq_none_iff.mp ho.symm⟩
  · obtain ⟨xs, vs, hv, rs, ho⟩ := h0 _ h
    obtain ⟨v, hvi, rv⟩ := rs.get ho.symm
    refine ⟨⟨vs, v, SqL.of hv, hvi⟩, fun x H'' y => ?_⟩
    obtain ⟨rfl, yx⟩ := y
    have := yx vs (SqL.of hv)
    rw [hvi] at this
    cases this
    exact ⟨Ev.refl, sr, rv⟩
def tIt (g : Gx) (W : WX) (f : En → Mo Wk) : TI := fun σ H R => ∃ m S ρ, SR g m H S ∧ ER g m S.length H σ ρ ∧
  PRx g m S H (fun c d H' => W c d σ H') (fun w m1 S1 H1 => ∀ J, ItOk g J m1 S1.length H1 w → R J H1) (f ρ S)
/-- the turns over items -/
def loopI (k : DG) (s : DS) : List D → DS
  | [] => fun ρ S => .nx ρ S
  | d :: r => fun ρ S => match k d ρ S with
    | .nx ρ1 S1 => match s ρ1 S1 with
      | .nx ρ' S' => loopI k s r ρ' S'
      | .cnt ρ' S' => loopI k s r ρ' S'
      | .brk ρ' S' => .nx ρ' S'
      | o => o
    | _ => .no
/-- the turns over things of the store: i turns done, n at most to come -/
def loopV (k : DG) (s : DS) (nx : Nx) : Nat → Nat → DS
  | 0, i => fun ρ S => match nx i S with
    | some none => .nx ρ S
    | _ => .no
  | n + 1, i => fun ρ S => match nx i S with
    | some (some d) => match k d ρ S with
      | .nx ρ1 S1 => match s ρ1 S1 with
        | .nx ρ' S' => loopV k s nx n (i + 1) ρ' S'
        | .cnt ρ' S' => loopV k s nx n (i + 1) ρ' S'
        | .brk ρ' S' => .nx ρ' S'
        | o => o
      | _ => .no
    | some none => .nx ρ S
    | none => .no
def lenO' : Option Ob → Nat
  | some (.lst xs) => xs.length
  | some (.dct kvs) => kvs.length
  | _ => 0
def lenL (S : Sto) (l : Nat) : Nat := lenO' S[l]?
def cFor (it : En → Mo Wk) (k : DG) (s : DS) : DS := fun ρ S => (it ρ S).toF ρ fun w S' => match w with
  | .items ds => loopI k s ds ρ S'
  | .view nx n => loopV k s nx n 0 ρ S'
theorem turn_sub {k : DG} {rest' : DS} {E : Ends} {σ : L2.St} {H : Hp} {m : Nat → Addr} {S : Sto} {ρ : En} {d : D} {v : V} (sr : SR g m H S) (er : ER g m S.length H σ ρ) (r : VR g m S.length H v d)
    (h : PF g m S H W E (match k d ρ S with
      | .nx ρ1 S1 => match s ρ1 S1 with
        | .nx ρ' S' => rest' ρ' S'
        | .cnt ρ' S' => rest' ρ' S'
        | .brk ρ' S' => .nx ρ' S'
        | o => o
      | _ => .no)) :
    tG g W k v σ H fun σ2 H2 => tS g W s { E with nx := tS g W rest' E, ct := tS g W rest' E, bk := E.nx } σ2 H2 := by
  refine ⟨m, S, ρ, d, sr, er, r, ?_⟩
  cases q : k d ρ S with
  | nx ρ1 S1 =>
    rw [q] at h
    intro s1 m1 H1 e1 sr1 er1
    refine ⟨m1, S1, ρ1, sr1, er1, ?_⟩
    have h2 := PF.ev e1 h
    dsimp only at h2
    cases z : s ρ1 S1 with
    | nx ρ2 S2 => rw [z] at h2; exact fun s3 m3 H3 e3 sr3 er3 => ⟨m3, S2, ρ2, sr3, er3, PF.ev e3 h2⟩
    | cnt ρ2 S2 => rw [z] at h2; exact fun s3 m3 H3 e3 sr3 er3 => ⟨m3, S2, ρ2, sr3, er3, PF.ev e3 h2⟩
    | brk ρ2 S2 => rw [z] at h2; exact h2
    | ret d S2 => rw [z] at h2; exact h2
    | ex x ρ2 S2 => rw [z] at h2; exact h2
    | no => rw [z] at h2; exact h2
  | _ => rw [q] at h; exact h.elim
theorem ds_for {tg iter : Expr} {body : List Stmt} {it : En → Mo Wk} {k : DG} (hp : PassesOwn (model X.prog X.w) X.A X.env X.xe) (hc : X.calm = true) (hi : PI X tg iter (tIt g W it)) (hg : PG X tg (tG g W k)) (hb : PSs X body (tS g W s))
    (hs : ∀ x, foldedSetIterable iter X.env x = pure x := by intro _; rfl) : PS X (.For tg iter body [] pos) (tS g W (cFor it k s)) :=
  PS.imp (ps_for hp hc hi hg hb hs) fun E σ H ⟨m, S, ρ, sr, er, h⟩ => by
    refine ⟨m, S, ρ, sr, er, (h.bind er).mono fun w m1 S1 H1 e1 s1 q J ok => ?_⟩
    have er1 := er.ev e1
    cases w with
    | items ds =>
      have ok : ItmOk g J m1 S1.length H1 ds := ok
      refine ⟨fun i μ σ' H' => ∃ m' S' ρ', μ = ds.length - i ∧ i ≤ ds.length ∧ Ev g m1 S1.length H1 m' S'.length H' ∧ SR g m' H' S' ∧ ER g m' S'.length H' σ' ρ' ∧ PF g m' S' H' W E (loopI k s (ds.drop i) ρ' S'),
        ⟨ds.length, m1, S1, ρ, by simp, Nat.zero_le _, Ev.refl, s1, er1, by simpa using q⟩, ?_⟩
      rintro i μ σ' H' ⟨m', S', ρ', rfl, hil, e', sr', er', q'⟩
      obtain ⟨st, gos⟩ := ok i m' S'.length H' e'
      by_cases hlt : i < ds.length
      · have hd : ds[i]? = some ds[i] := List.getElem?_eq_getElem hlt
        obtain ⟨go, yl⟩ := gos _ hd
        refine .inr ⟨go, fun σ2 H2 => ∃ m2 S2 ρ2, Ev g m1 S1.length H1 m2 S2.length H2 ∧ SR g m2 H2 S2 ∧ ER g m2 S2.length H2 σ2 ρ2 ∧ PF g m2 S2 H2 W E (loopI k s (ds.drop (i + 1)) ρ2 S2), fun σ2 H2 ⟨m2, S2, ρ2, a1, a2, a3, a4⟩ => ⟨ds.length - (i + 1), by omega, m2, S2, ρ2, rfl, hlt, a1, a2, a3, a4⟩, fun x H'' y => ?_⟩
        obtain ⟨e2, keepS, rx⟩ := yl x H'' y
        have sr2 := keepS S' rfl sr'
        have er2 := er'.ev e2
        rw [List.drop_eq_getElem_cons hlt] at q'
        have q2 := PF.ev e2 q'
        have e12 := e'.trans e2
        -- the turn, remembering how the heap came to be
        obtain ⟨m3, S3, ρ3, d3, b1, b2, b3, b4⟩ := turn_sub (rest' := loopI k s (ds.drop (i + 1))) sr2 er2 rx q2
        refine ⟨m', S', ρ', ds[i], sr2, er2, rx, ?_⟩
        clear b1 b2 b3 b4
        have q3 : PF g m' S' H'' W E (match k ds[i] ρ' S' with
          | .nx ρ1 S1 => match s ρ1 S1 with
            | .nx ρ' S' => loopI k s (ds.drop (i + 1)) ρ' S'
            | .cnt ρ' S' => loopI k s (ds.drop (i + 1)) ρ' S'
            | .brk ρ' S' => .nx ρ' S'
            | o => o
          | _ => .no) := q2
        cases z : k ds[i] ρ' S' with
        | nx ρ5 S5 =>
          rw [z] at q3
          intro s6 m6 H6 e6 sr6 er6
          refine ⟨m6, S5, ρ5, sr6, er6, ?_⟩
          have h2 := PF.ev e6 q3
          dsimp only at h2
          have e16 := e12.trans e6
          cases z2 : s ρ5 S5 with
          | nx ρ7 S7 => rw [z2] at h2; exact fun s8 m8 H8 e8 sr8 er8 => ⟨m8, S7, ρ7, e16.trans e8, sr8, er8, PF.ev e8 h2⟩
          | cnt ρ7 S7 => rw [z2] at h2; exact fun s8 m8 H8 e8 sr8 er8 => ⟨m8, S7, ρ7, e16.trans e8, sr8, er8, PF.ev e8 h2⟩
          | brk ρ7 S7 => rw [z2] at h2; exact h2
          | ret d S7 => rw [z2] at h2; exact h2
          | ex x ρ7 S7 => rw [z2] at h2; exact h2
          | no => rw [z2] at h2; exact h2
        | _ => rw [z] at q3; exact q3.elim
      · have e0 : i = ds.length := by omega
        subst e0
        rw [List.drop_length] at q'
        exact .inl ⟨st (Nat.le_refl _), q'.here sr' er'⟩
    | view nx n =>
      have ok : VwOk g J m1 S1.length H1 nx := ok
      refine ⟨fun i μ σ' H' => ∃ m' S' ρ', Ev g m1 S1.length H1 m' S'.length H' ∧ SR g m' H' S' ∧ ER g m' S'.length H' σ' ρ' ∧ PF g m' S' H' W E (loopV k s nx μ i ρ' S'),
        ⟨n, m1, S1, ρ, Ev.refl, s1, er1, q⟩, ?_⟩
      rintro i μ σ' H' ⟨m', S', ρ', e', sr', er', q'⟩
      obtain ⟨st, gos⟩ := ok i m' H' S' e' sr'
      cases μ with
      | zero =>
        unfold loopV at q'
        cases z : nx i S' with
        | none => rw [z] at q'; exact q'.elim
        | some o =>
          rw [z] at q'
          cases o with
          | none => exact .inl ⟨st z, q'.here sr' er'⟩
          | some _ => exact q'.elim
      | succ μ =>
        unfold loopV at q'
        cases z : nx i S' with
        | none => rw [z] at q'; exact q'.elim
        | some o =>
          rw [z] at q'
          cases o with
          | none => exact .inl ⟨st z, q'.here sr' er'⟩
          | some d =>
            dsimp only at q'
            obtain ⟨go, yl⟩ := gos d z
            refine .inr ⟨go, fun σ2 H2 => ∃ m2 S2 ρ2, Ev g m1 S1.length H1 m2 S2.length H2 ∧ SR g m2 H2 S2 ∧ ER g m2 S2.length H2 σ2 ρ2 ∧ PF g m2 S2 H2 W E (loopV k s nx μ (i + 1) ρ2 S2),
              fun σ2 H2 a => ⟨μ, Nat.lt_succ_self _, a⟩, fun x H'' y => ?_⟩
            obtain ⟨e2, sr2, rx⟩ := yl x H'' y
            have er2 := er'.ev e2
            have q3 := PF.ev e2 q'
            have e12 := e'.trans e2
            refine ⟨m', S', ρ', d, sr2, er2, rx, ?_⟩
            cases z3 : k d ρ' S' with
            | nx ρ5 S5 =>
              rw [z3] at q3
              intro s6 m6 H6 e6 sr6 er6
              refine ⟨m6, S5, ρ5, sr6, er6, ?_⟩
              have h2 := PF.ev e6 q3
              dsimp only at h2
              have e16 := e12.trans e6
              cases z2 : s ρ5 S5 with
              | nx ρ7 S7 => rw [z2] at h2; exact fun s8 m8 H8 e8 sr8 er8 => ⟨m8, S7, ρ7, e16.trans e8, sr8, er8, PF.ev e8 h2⟩
              | cnt ρ7 S7 => rw [z2] at h2; exact fun s8 m8 H8 e8 sr8 er8 => ⟨m8, S7, ρ7, e16.trans e8, sr8, er8, PF.ev e8 h2⟩
              | brk ρ7 S7 => rw [z2] at h2; exact h2
              | ret d S7 => rw [z2] at h2; exact h2
              | ex x ρ7 S7 => rw [z2] at h2; exact h2
              | no => rw [z2] at h2; exact h2
            | _ => rw [z3] at q3; exact q3.elim
/-- iterating data -/
def itD : D → Mo Wk
  | .tup ds => pure (.items ds)
  | .lsc ds => pure (.items ds)
  | .str x => pure (.items (x.cps.toList.map fun c => .str ⟨#[c]⟩))
  | .loc l => fun S => match S[l]? with
    | some (.lst xs) => .ok (.view (liveX l) xs.length) S
    | _ => .no
  | _ => bad
def cIt (f : DE) : En → Mo Wk := fun ρ => f ρ >>= itD
theorem itt_ok {m : Nat → Addr} {n : Nat} {H : Hp} {a : Addr} {xs : List V} {ds : List D} (hq : SqT g.K H a xs) (rs : VRs g m n H xs ds) : ItmOk g (Itt g.K a) m n H ds := fun i m' n' H' e =>
  ⟨fun h => ⟨xs, e.tup _ _ hq, by rw [rs.length]; exact h⟩, fun d hd => by
    obtain ⟨v, hv, rv⟩ := (rs.ev e).get hd
    refine ⟨⟨xs, v, e.tup _ _ hq, hv⟩, fun x H'' ⟨eq, y⟩ => ?_⟩
    subst eq
    have := y xs (e.tup _ _ hq)
    rw [hv] at this
    cases this
    exact ⟨Ev.refl, fun _ _ h => h, rv⟩⟩
theorem itl_ok {m : Nat → Addr} {n : Nat} {H : Hp} {a : Addr} {xs : List V} {ds : List D} (hq : Lsc g.K H a xs) (rs : VRs g m n H xs ds) : ItmOk g (Itl g.K a) m n H ds := fun i m' n' H' e =>
  ⟨fun h => ⟨xs, (e.lsc _ _ hq).sq, by rw [rs.length]; exact h⟩, fun d hd => by
    obtain ⟨v, hv, rv⟩ := (rs.ev e).get hd
    refine ⟨⟨xs, v, (e.lsc _ _ hq).sq, hv⟩, fun x H'' ⟨eq, y⟩ => ?_⟩
    subst eq
    have := y xs (e.lsc _ _ hq).sq
    rw [hv] at this
    cases this
    exact ⟨Ev.refl, fun _ _ h => h, rv⟩⟩
end
end Sm
end
section
/-! Sm, part D: what is walked, comprehensions, fields, own classes, calls, the entry of a def. -/
namespace Sm
open PySem PySem.Spec PyProof.Rows L2

section
variable {X : Cx} {g : Gx} {W : WX} {e a b c : Expr} {es rest : List Expr} {f fa fb : DE} {fs : En → Mo (List D)} {ft : En → Mo Bool} {s t u : DS} {pos : Pos}

/-! ### iterators -/
def iAny (K : PySem.W.Frag) (tl : TE) : TI := fun σ H R => tl σ H fun v H1 =>
  (∃ a, v = .ref a ∧ (∃ xs, SqL K H1 a xs) ∧ R (Itl K a) H1) ∨ (∃ a, v = .ref a ∧ (∃ xs, SqT K H1 a xs) ∧ R (Itt K a) H1) ∨ ∃ x, v = .str x ∧ R (L2.Its x) H1
theorem pi_any {tg l : Expr} {tl : TE} (hl : PE X l tl) : PI X tg l (iAny X.K tl) := by
  refine ⟨fun pins s σ H R I h => ?_⟩
  refine thn (hl.run pins s σ H _ I h) fun v s1 ⟨x, H1, I1, r1, q1⟩ => ?_
  rcases q1 with ⟨a, e, ⟨xs, hq⟩, q⟩ | ⟨a, e, ⟨xs, hq⟩, q⟩ | ⟨x, e, q⟩
  · subst e
    cases r1
    obtain ⟨its, rv, p, hz⟩ := I1.list hq
    refine wpAny_pyIter_list p.isList ?_
    refine ⟨s1.heap.objs.size, [s1.heap.objs.size], _, _, H1, rfl, I1.kept (t' := s1.toks) fun b o e => Heap.get?_push_of_some _ e, turn_list a _, ⟨_, Heap.get?_push_size _ rfl, rfl, rfl⟩, fun b hb => ?_, q⟩
    have e : b = s1.heap.objs.size := by simpa using hb
    subst e
    exact I1.fpOk (Nat.le_refl _) (I1.hok.fresh (Nat.le_refl _))
  · subst e
    cases r1
    obtain ⟨its, rv, p, hz⟩ := I1.tuple hq
    refine wpAny_pyIter_tuple (show s1.heap.IsTuple a its.toArray from p) ?_
    refine ⟨s1.heap.objs.size, [s1.heap.objs.size], _, _, H1, rfl, I1.kept (t' := s1.toks) fun b o e => Heap.get?_push_of_some _ e, turn_tuple a _, ⟨_, Heap.get?_push_size _ rfl, rfl, rfl⟩, fun b hb => ?_, q⟩
    have e : b = s1.heap.objs.size := by simpa using hb
    subst e
    exact I1.fpOk (Nat.le_refl _) (I1.hok.fresh (Nat.le_refl _))
  · subst e
    obtain ⟨t, rfl⟩ := r1
    cases ha : x.cps.all (· < 128)
    · exact wpAny_pyIter_wide ha (pi_one (tk := s1.toks) I1 _ (turn_str _ x t "str_iterator" (.inr rfl)) ⟨_, Heap.get?_push_size _ rfl, rfl, rfl⟩ q)
    · exact wpAny_pyIter_ascii ha (pi_one (tk := s1.toks) I1 _ (turn_str _ x t "str_ascii_iterator" (.inl rfl)) ⟨_, Heap.get?_push_size _ rfl, rfl, rfl⟩ q)
theorem its_ok {m : Nat → Addr} {n : Nat} {H : Hp} (x : Str) : ItmOk g (L2.Its x) m n H (x.cps.toList.map fun c => D.str ⟨#[c]⟩) := fun i m' n' H' e =>
  ⟨fun h => by
    rw [List.length_map, Array.length_toList] at h
    exact h, fun d hd => by
    have hi : i < x.cps.size := by
      have := (List.getElem?_eq_some_iff.mp hd).1
      simpa using this
    refine ⟨hi, fun v H'' ⟨eq, c, hc, ev⟩ => ?_⟩
    subst eq
    subst ev
    rw [List.getElem?_map, Array.getElem?_toList, hc] at hd
    cases hd
    exact ⟨Ev.refl, fun _ _ h => h, .str _⟩⟩
theorem itD_ok {m : Nat → Addr} {S : Sto} {H : Hp} {W : XK} {d : D} {v : V} {R : It → Hp → Prop} (sr : SR g m H S) (r : VR g m S.length H v d)
    (h : PRx g m S H W (fun w m1 S1 H1 => ∀ J, ItOk g J m1 S1.length H1 w → R J H1) (itD d S)) :
    (∃ a, v = .ref a ∧ (∃ xs, SqL g.K H a xs) ∧ R (Itl g.K a) H) ∨ (∃ a, v = .ref a ∧ (∃ xs, SqT g.K H a xs) ∧ R (Itt g.K a) H) ∨ ∃ x, v = .str x ∧ R (L2.Its x) H := by
  cases r with
  | str x => exact .inr (.inr ⟨x, rfl, h m H Ev.refl sr _ (its_ok x)⟩)
  | tup a xs ds hq rs => exact .inr (.inl ⟨a, rfl, ⟨xs, hq⟩, h m H Ev.refl sr _ (itt_ok hq rs)⟩)
  | lsc a xs ds hq rs => exact .inl ⟨a, rfl, ⟨xs, hq.sq⟩, h m H Ev.refl sr _ (itl_ok hq rs)⟩
  | loc l hl =>
    have h2 : PRx g m S H W (fun w m1 S1 H1 => ∀ J, ItOk g J m1 S1.length H1 w → R J H1) (match S[l]? with
      | some (.lst xs) => (Rz.ok (Wk.view (liveX l) xs.length) S : Rz Wk)
      | _ => .no) := h
    cases q : S[l]? with
    | none => rw [q] at h2; exact h2.elim
    | some o =>
      rw [q] at h2
      cases o with
      | lst ds =>
        obtain ⟨_, vs, hv, _⟩ := sr.atL q
        exact .inl ⟨m l, rfl, ⟨vs, SqL.of hv⟩, h2 m H Ev.refl sr _ (live_ok hl)⟩
      | _ => exact h2.elim
  | _ => exact h.elim
theorem di_any {tg : Expr} (hK : X.K = g.K) (he : PE X e (tD g W f)) : PI X tg e (tIt g W (cIt f)) :=
  PI.imp (pi_any he) fun σ H R ⟨m, S, ρ, sr, er, h⟩ => by
    rw [hK]
    exact tD.sub sr er h fun d m1 S1 H1 v s1 er1 _ r1 h1 => itD_ok s1 r1 h1
/-- range(a, b), range(n) -/
def rgD (lo : Int) (n : Nat) : List D := (List.range n).map fun i => D.int (lo + (i : Nat))
theorem itr_ok {m : Nat → Addr} {n : Nat} {H : Hp} (lo : Int) (k : Nat) : ItmOk g (Itr lo k) m n H (rgD lo k) := fun i m' n' H' e =>
  ⟨fun h => by
    unfold rgD at h
    rw [List.length_map, List.length_range] at h
    exact h, fun d hd => by
    have hi : i < k := by
      have := (List.getElem?_eq_some_iff.mp hd).1
      simpa [rgD] using this
    refine ⟨hi, fun v H'' ⟨eq, ev⟩ => ?_⟩
    subst eq
    subst ev
    unfold rgD at hd
    rw [List.getElem?_map, List.getElem?_range hi] at hd
    cases hd
    exact ⟨Ev.refl, fun _ _ h => h, .int _⟩⟩
@[irreducible] def okR (j : Int) : Bool := decide (-(2 ^ 62) ≤ j ∧ j < 2 ^ 62)
theorem okR_iff {j : Int} : okR j = true ↔ (-(2 ^ 62) ≤ j ∧ j < 2 ^ 62) := by
  unfold okR
  exact decide_eq_true_iff
def rng1 : List D → Mo Wk
  | [.int j] => fun S => if okR j = true then .ok (.items (rgD 0 j.toNat)) S else .no
  | _ => bad
def rng2 : List D → Mo Wk
  | [.int i, .int j] => fun S => if (okR i && okR j) = true then .ok (.items (rgD i (j - i).toNat)) S else .no
  | _ => bad
def cRng (h : List D → Mo Wk) (fs : En → Mo (List D)) : En → Mo Wk := fun ρ => fs ρ >>= h
theorem di_range1 {tg : Expr} {p : Pos} (hm : X.mg "range" = none) (ha : PA X [a] (tDs g W fs)) (hg : Gl X "range" := by rfl) (hs : starEach [a] X.env = [(false, eval a X.env)] := by rfl) : PI X tg (.Call (.Name "range" p) [a] [] pos) (tIt g W (cRng rng1 fs)) :=
  PI.imp (pi_range1 hg hm ha hs) fun σ H R ⟨m, S, ρ, sr, er, h⟩ => tDs.sub sr er h fun ds m1 S1 H1 vs s1 _ _ r1 h1 => by
    cases r1 with
    | nil => exact h1.elim
    | cons x d xs ds rx rs =>
      cases rs with
      | cons _ _ _ _ _ _ => cases rx <;> exact h1.elim
      | nil =>
        cases rx with
        | int j =>
          have h2 : PRx g m1 S1 H1 _ _ (if okR j = true then (Rz.ok (Wk.items (rgD 0 j.toNat)) S1 : Rz Wk) else .no) := h1
          by_cases q : okR j = true
          · rw [if_pos q] at h2
            obtain ⟨q1, q2⟩ := okR_iff.mp q
            exact ⟨j, rfl, q1, q2, h2 m1 H1 Ev.refl s1 _ (itr_ok 0 j.toNat)⟩
          · rw [if_neg q] at h2; exact h2.elim
        | _ => exact h1.elim
theorem di_range2 {tg : Expr} {p : Pos} (hm : X.mg "range" = none) (ha : PA X [a, b] (tDs g W fs)) (hg : Gl X "range" := by rfl) (hs : starEach [a, b] X.env = [(false, eval a X.env), (false, eval b X.env)] := by rfl) (hs2 : starEach [b] X.env = [(false, eval b X.env)] := by rfl) :
    PI X tg (.Call (.Name "range" p) [a, b] [] pos) (tIt g W (cRng rng2 fs)) :=
  PI.imp (pi_range2 hg hm ha hs hs2) fun σ H R ⟨m, S, ρ, sr, er, h⟩ => tDs.sub sr er h fun ds m1 S1 H1 vs s1 _ _ r1 h1 => by
    cases r1 with
    | nil => exact h1.elim
    | cons x d xs ds rx rs =>
      cases rs with
      | nil => cases rx <;> exact h1.elim
      | cons y e xs ds ry rs =>
        cases rs with
        | cons _ _ _ _ _ _ => cases rx <;> cases ry <;> exact h1.elim
        | nil =>
          cases rx with
          | int i =>
            cases ry with
            | int j =>
              have h2 : PRx g m1 S1 H1 _ _ (if (okR i && okR j) = true then (Rz.ok (Wk.items (rgD i (j - i).toNat)) S1 : Rz Wk) else .no) := h1
              by_cases q : (okR i && okR j) = true
              · rw [if_pos q] at h2
                rw [Bool.and_eq_true] at q
                obtain ⟨q1, q2⟩ := okR_iff.mp q.1
                obtain ⟨q3, q4⟩ := okR_iff.mp q.2
                exact ⟨i, j, rfl, ⟨q1, q2, q3, q4⟩, h2 m1 H1 Ev.refl s1 _ (itr_ok i _)⟩
              · rw [if_neg q] at h2; exact h2.elim
            | _ => exact h1.elim
          | _ => exact h1.elim

/-! ### comprehensions -/
/-- the names' slots set, one after another -/
def setAll (ρ : En) : List Nat → List D → En
  | i :: is, d :: ds => setAll (ρ.set i (some d)) is ds
  | _, _ => ρ
def setV (σ : L2.St) : List Nat → List V → L2.St
  | i :: is, d :: ds => setV (σ.set i (some d)) is ds
  | _, _ => σ
def gNames : List Nat → TGs
  | [] => gNil
  | i :: is => gCons (gName i) (gNames is)
theorem gNames_of : ∀ {is : List Nat} {xs : List V} {σ : L2.St} {H : Hp} {Q : L2.St → Hp → Prop}, xs.length = is.length → Q (setV σ is xs) H → gNames is xs σ H Q
  | [], [], _, _, _, _, h => ⟨rfl, h⟩
  | i :: is, x :: xs, σ, H, Q, hl, h => ⟨x, xs, rfl, gNames_of (is := is) (xs := xs) (σ := σ.set i (some x)) (by simpa using hl) h⟩
theorem wipe_at (σ : L2.St) (i : Nat) : ∀ vs : List Nat, (wipe σ vs)[i]? = if i ∈ vs then (if i < σ.length then some none else none) else σ[i]?
  | [] => by simp [wipe]
  | v :: vs => by
    unfold wipe
    by_cases hv : v = i
    · subst hv
      by_cases hl : v < σ.length
      · rw [List.getElem?_set_self (by rw [wipe_length]; exact hl)]
        simp [hl]
      · rw [List.getElem?_eq_none (by rw [List.length_set, wipe_length]; omega)]
        simp [hl]
    · rw [List.getElem?_set_ne hv, wipe_at σ i vs]
      simp [Ne.symm hv]
theorem wipe_set (σ : L2.St) {i : Nat} {vs : List Nat} (hi : i ∈ vs) (o : Option V) : wipe (σ.set i o) vs = wipe σ vs := by
  apply List.ext_getElem?
  intro j
  rw [wipe_at, wipe_at]
  by_cases hj : j ∈ vs
  · rw [if_pos hj, if_pos hj, List.length_set]
  · rw [if_neg hj, if_neg hj, List.getElem?_set_ne (fun z => hj (by rw [← z]; exact hi))]
theorem wipe_wipe (σ : L2.St) (vs : List Nat) : wipe (wipe σ vs) vs = wipe σ vs := by
  apply List.ext_getElem?
  intro j
  rw [wipe_at, wipe_at, wipe_length]
  by_cases hj : j ∈ vs
  · simp [hj]
  · simp [hj]
theorem wipe_setV {vs : List Nat} : ∀ {is : List Nat} {xs : List V} (σ : L2.St), (∀ i ∈ is, i ∈ vs) → wipe (setV σ is xs) vs = wipe σ vs
  | [], _, _, _ => by simp [setV]
  | i :: is, [], _, _ => by simp [setV]
  | i :: is, x :: xs, σ, h => by
    unfold setV
    rw [wipe_setV (is := is) (xs := xs) _ fun j hj => h j (List.mem_cons_of_mem _ hj), wipe_set σ (h i List.mem_cons_self)]
def wipeE (ρ : En) : List Nat → En
  | [] => ρ
  | v :: vs => (wipeE ρ vs).set v none
theorem ER.wipe {m : Nat → Addr} {n : Nat} {H : Hp} {σ : L2.St} {ρ : En} (h : ER g m n H σ ρ) : ∀ vs : List Nat, ER g m n H (L2.wipe σ vs) (wipeE ρ vs)
  | [] => h
  | v :: vs => (ER.wipe h vs).unset
theorem ER.setAll : ∀ {is : List Nat} {xs : List V} {ds : List D} {m : Nat → Addr} {n : Nat} {H : Hp} {σ : L2.St} {ρ : En}, ER g m n H σ ρ → VRs g m n H xs ds → ER g m n H (setV σ is xs) (setAll ρ is ds)
  | [], _, _, _, _, _, _, _, h, _ => by simpa [setV, Sm.setAll] using h
  | i :: is, _, _, _, _, _, _, _, h, .nil => by simpa [setV, Sm.setAll] using h
  | i :: is, _, _, _, _, _, _, _, h, .cons x d xs ds r t => ER.setAll (is := is) (h.set r) t
/-- the comprehension's names: one, or a tuple of them -/
inductive CT where
  | one (i : Nat) | many (is : List Nat)
def CT.vs : CT → List Nat
  | .one i => [i]
  | .many is => is
def CT.tg (K : PySem.W.Frag) : CT → TG
  | .one i => gName i
  | .many is => gTup K is.length (gNames is)
def CT.put (ρ : En) : CT → D → Option En
  | .one i, d => some (ρ.set i (some d))
  | .many is, .tup ds => if ds.length = is.length then some (setAll ρ is ds) else none
  | .many _, _ => none
theorem CT.ok {K : PySem.W.Frag} {t : CT} {m : Nat → Addr} {n : Nat} {H : Hp} {σ : L2.St} {ρ ρ' : En} {v : V} {d : D} {Q : L2.St → Hp → Prop} (hK : K = g.K) (er : ER g m n H σ ρ) (r : VR g m n H v d) (h : t.put ρ d = some ρ')
    (q : ∀ σ', ER g m n H σ' ρ' → (∀ ws, (∀ i ∈ t.vs, i ∈ ws) → L2.wipe σ' ws = L2.wipe σ ws) → Q σ' H) : t.tg K v σ H Q := by
  cases t with
  | one i =>
    cases h
    exact q _ (er.set r) fun ws hw => wipe_set σ (hw i (by simp [CT.vs])) _
  | many is =>
    cases r with
    | tup a xs ds hq rs =>
      have h2 : (if ds.length = is.length then some (setAll ρ is ds) else none) = some ρ' := h
      by_cases hl : ds.length = is.length
      · rw [if_pos hl] at h2
        cases h2
        subst hK
        exact ⟨a, xs, rfl, hq, by rw [rs.length]; exact hl, gNames_of (by rw [rs.length]; exact hl) (q _ (er.setAll rs) fun ws hw => wipe_setV σ hw)⟩
      · rw [if_neg hl] at h2; cases h2
    | _ => cases h
/-- the end of one turn: the new item at the list n -/
def pushL (n : Nat) (y : D) (S : Sto) : Option Sto := match S[n]? with
  | some (.lst acc) => if fit (acc.length + 1) = true then some (S.set n (.lst (acc ++ [y]))) else none
  | _ => none
/-- one turn of a comprehension -/
def lcTurn (t : CT) (tst : En → Mo Bool) (elt : DE) (ρ : En) (n : Nat) (d : D) (S : Sto) : Option Sto := match t.put ρ d with
  | some ρ' => match tst ρ' S with
    | .ok true S1 => match elt ρ' S1 with
      | .ok y S2 => pushL n y S2
      | _ => none
    | .ok false S1 => some S1
    | _ => none
  | none => none
def lcI (t : CT) (tst : En → Mo Bool) (elt : DE) (ρ : En) (n : Nat) : List D → Sto → Rz D
  | [], S => .ok (.loc n) S
  | d :: r, S => match lcTurn t tst elt ρ n d S with
    | some S' => lcI t tst elt ρ n r S'
    | none => .no
def lcV (t : CT) (tst : En → Mo Bool) (elt : DE) (ρ : En) (n : Nat) (nx : Nx) : Nat → Nat → Sto → Rz D
  | 0, i, S => match nx i S with
    | some none => .ok (.loc n) S
    | _ => .no
  | k + 1, i, S => match nx i S with
    | some (some d) => match lcTurn t tst elt ρ n d S with
      | some S' => lcV t tst elt ρ n nx k (i + 1) S'
      | none => .no
    | some none => .ok (.loc n) S
    | none => .no
def cLc (it : En → Mo Wk) (t : CT) (tst : En → Mo Bool) (elt : DE) : DE := fun ρ => do
  let w ← it ρ
  fun S => match w with
    | .items ds => lcI t tst elt (wipeE ρ t.vs) S.length ds (S ++ [.lst []])
    | .view nx k => lcV t tst elt (wipeE ρ t.vs) S.length nx k 0 (S ++ [.lst []])
/-- a turn, over the hand layer's reading; what is known of the rest (Nx) is said of every later heap -/
theorem lcTurn_ok {K : PySem.W.Frag} {t : CT} {tst : En → Mo Bool} {elt : DE} {m : Nat → Addr} {S S' : Sto} {H : Hp} {σ : L2.St} {ρ : En} {n : Nat} {d : D} {x : V} {Nx : Hp → Prop} (hK : K = g.K)
    (sr : SR g m H S) (er : ER g m S.length H (L2.wipe σ t.vs) ρ) (r : VR g m S.length H x d) (hn : n < S.length) (h : lcTurn t tst elt ρ n d S = some S')
    (q : ∀ m' H', Ev g m S.length H m' S'.length H' → SR g m' H' S' → Nx H') :
    t.tg K x (L2.wipe σ t.vs) H fun σ2 H2 => L2.wipe σ2 t.vs = L2.wipe σ t.vs ∧ tDb g (fun _ _ _ _ => False) tst σ2 H2 fun b H3 =>
      if b = true then tD g (fun _ _ _ _ => False) elt σ2 H3 fun y H4 => ∃ acc, H4 (m n) = some (.lst acc) ∧ acc.length < sizeLine ∧ Nx (upd H4 (m n) (.lst (acc ++ [y]))) else Nx H3 := by
  unfold lcTurn at h
  cases q1 : t.put ρ d with
  | none => rw [q1] at h; cases h
  | some ρ' =>
    rw [q1] at h
    dsimp only at h
    refine CT.ok hK er r q1 fun σ' er' hw => ?_
    refine ⟨(hw t.vs fun _ z => z).trans (wipe_wipe σ t.vs), m, S, ρ', sr, er', ?_⟩
    cases q2 : tst ρ' S with
    | no => rw [q2] at h; cases h
    | ex e S1 => rw [q2] at h; cases h
    | ok b S1 =>
      rw [q2] at h
      intro m1 H1 e1 s1
      cases b with
      | false =>
        cases h
        exact iteF (q m1 H1 e1 s1)
      | true =>
        refine iteT ?_
        dsimp only at h
        refine ⟨m1, S1, ρ', s1, er'.ev e1, ?_⟩
        cases q3 : elt ρ' S1 with
        | no => rw [q3] at h; cases h
        | ex e S2 => rw [q3] at h; cases h
        | ok y S2 =>
          rw [q3] at h
          dsimp only at h
          intro m2 H2 e2 s2 v rv
          have e12 := e1.trans e2
          have en : m2 n = m n := e12.ag n hn
          unfold pushL at h
          cases q4 : S2[n]? with
          | none => rw [q4] at h; cases h
          | some o =>
            rw [q4] at h
            cases o with
            | lst acc =>
              dsimp only at h
              by_cases hf : fit (acc.length + 1) = true
              · rw [if_pos hf] at h
                cases h
                obtain ⟨hl, vs, hv, rs⟩ := s2.atL q4
                have z := fit_iff.mp hf
                refine ⟨vs, by rw [← en]; exact hv, by rw [rs.length]; omega, ?_⟩
                rw [← en]
                have ew : Ev g m2 S2.length H2 m2 S2.length (upd H2 (m2 n) (.lst (vs ++ [v]))) := Ev.wr (s2.canw hl)
                refine q m2 _ (by rw [List.length_set]; exact e12.trans ew) (s2.wr hl ⟨_, upd_same, ?_⟩)
                exact (rs.append (.cons _ _ _ _ rv .nil)).ev ew
              · rw [if_neg hf] at h; cases h
            | _ => cases h
theorem lc_sub {K : PySem.W.Frag} {it : En → Mo Wk} {t : CT} {tst : En → Mo Bool} {elt : DE} (hK : K = g.K) : ∀ σ H Q, tD g W (cLc it t tst elt) σ H Q →
    tLc (tIt g W it) (t.tg K) (tDb g (fun _ _ _ _ => False) tst) (tD g (fun _ _ _ _ => False) elt) t.vs σ H Q := fun σ H Q ⟨m, S, ρ, sr, er, h⟩ => by
  refine ⟨m, S, ρ, sr, er, h.bind.mono fun w m1 S1 H1 e1 s1 q J ok D hD => ?_⟩
  have er1 := er.ev e1
  have eA : Ev g m1 S1.length H1 (ext m1 S1.length D) (S1.length + 1) (upd H1 D (.lst [])) := Ev.ext (Ev.new hD)
  have sA : SR g (ext m1 S1.length D) (upd H1 D (.lst [])) (S1 ++ [.lst []]) := s1.alloc hD ⟨[], upd_same, .nil⟩
  have lA : (S1 ++ [Ob.lst []]).length = S1.length + 1 := by rw [List.length_append, List.length_singleton]
  have fin : ∀ {m' : Nat → Addr} {S' : Sto} {H' : Hp}, m' S1.length = D → S1.length < S'.length → SR g m' H' S' → PRx g m' S' H' (fun c d H' => W c d σ H') (KD g Q) (.ok (.loc S1.length) S') → Q (.ref D) H' := fun {m' S' H'} ed hl s' p => by
    have := p m' H' Ev.refl s' (.ref (m' S1.length)) (.loc _ hl)
    rw [ed] at this
    exact this
  cases w with
  | items ds =>
    have ok : ItmOk g J m1 S1.length H1 ds := ok
    have q : PRx g m1 S1 H1 (fun c d H' => W c d σ H') (KD g Q) (lcI t tst elt (wipeE ρ t.vs) S1.length ds (S1 ++ [.lst []])) := q
    have q0 := PRx.ev (S' := S1 ++ [Ob.lst []]) (by rw [lA]; exact eA) q
    refine ⟨fun i μ H' => ∃ m' S', μ = ds.length - i ∧ i ≤ ds.length ∧ m' S1.length = D ∧ S1.length < S'.length ∧ Ev g m1 S1.length H1 m' S'.length H' ∧ SR g m' H' S' ∧ PRx g m' S' H' (fun c d H' => W c d σ H') (KD g Q) (lcI t tst elt (wipeE ρ t.vs) S1.length (ds.drop i) S'),
      ⟨ds.length, _, _, by simp, Nat.zero_le _, ext_new, by rw [lA]; exact Nat.lt_succ_self _, by rw [lA]; exact eA, sA, by simpa using q0⟩, ?_⟩
    rintro i μ H' ⟨m', S', rfl, hil, ed, hl, e', s', q'⟩
    obtain ⟨st, gos⟩ := ok i m' S'.length H' e'
    by_cases hlt : i < ds.length
    · have hd : ds[i]? = some ds[i] := List.getElem?_eq_getElem hlt
      obtain ⟨go, yl⟩ := gos _ hd
      rw [List.drop_eq_getElem_cons hlt] at q'
      refine .inr ⟨go, fun H2 => ∃ m2 S2, m2 S1.length = D ∧ S1.length < S2.length ∧ Ev g m1 S1.length H1 m2 S2.length H2 ∧ SR g m2 H2 S2 ∧ PRx g m2 S2 H2 (fun c d H' => W c d σ H') (KD g Q) (lcI t tst elt (wipeE ρ t.vs) S1.length (ds.drop (i + 1)) S2),
        fun H2 ⟨m2, S2, a1, a2, a3, a4, a5⟩ => ⟨ds.length - (i + 1), by omega, m2, S2, rfl, hlt, a1, a2, a3, a4, a5⟩, fun x H'' y => ?_⟩
      obtain ⟨e2, keepS, rx⟩ := yl x H'' y
      have s2 := keepS S' rfl s'
      have q2 := PRx.ev e2 q'
      unfold lcI at q2
      cases z : lcTurn t tst elt (wipeE ρ t.vs) S1.length ds[i] S' with
      | none => rw [z] at q2; exact q2.elim
      | some S5 =>
        rw [z] at q2
        dsimp only at q2
        have erw := (er1.ev (e'.trans e2)).wipe t.vs
        have tk := lcTurn_ok (Nx := fun H2 => ∃ m2 S2, m2 S1.length = D ∧ S1.length < S2.length ∧ Ev g m1 S1.length H1 m2 S2.length H2 ∧ SR g m2 H2 S2 ∧ PRx g m2 S2 H2 (fun c d H' => W c d σ H') (KD g Q) (lcI t tst elt (wipeE ρ t.vs) S1.length (ds.drop (i + 1)) S2))
          hK s2 erw rx hl z fun m6 H6 e6 s6 => ⟨m6, S5, (e6.ag _ hl).trans ed, Nat.lt_of_lt_of_le hl e6.le, (e'.trans e2).trans e6, s6, PRx.ev e6 q2⟩
        rw [ed] at tk
        exact tk
    · have e0 : i = ds.length := by omega
      subst e0
      rw [List.drop_length] at q'
      exact .inl ⟨st (Nat.le_refl _), fin ed hl s' q'⟩
  | view nx k =>
    have ok : VwOk g J m1 S1.length H1 nx := ok
    have q : PRx g m1 S1 H1 (fun c d H' => W c d σ H') (KD g Q) (lcV t tst elt (wipeE ρ t.vs) S1.length nx k 0 (S1 ++ [.lst []])) := q
    have q0 := PRx.ev (S' := S1 ++ [Ob.lst []]) (by rw [lA]; exact eA) q
    refine ⟨fun i μ H' => ∃ m' S', m' S1.length = D ∧ S1.length < S'.length ∧ Ev g m1 S1.length H1 m' S'.length H' ∧ SR g m' H' S' ∧ PRx g m' S' H' (fun c d H' => W c d σ H') (KD g Q) (lcV t tst elt (wipeE ρ t.vs) S1.length nx μ i S'),
      ⟨_, _, _, ext_new, by rw [lA]; exact Nat.lt_succ_self _, by rw [lA]; exact eA, sA, q0⟩, ?_⟩
    rintro i μ H' ⟨m', S', ed, hl, e', s', q'⟩
    obtain ⟨st, gos⟩ := ok i m' H' S' e' s'
    cases μ with
    | zero =>
      unfold lcV at q'
      cases z : nx i S' with
      | none => rw [z] at q'; exact q'.elim
      | some o =>
        rw [z] at q'
        cases o with
        | none => exact .inl ⟨st z, fin ed hl s' q'⟩
        | some _ => exact q'.elim
    | succ μ =>
      unfold lcV at q'
      cases z : nx i S' with
      | none => rw [z] at q'; exact q'.elim
      | some o =>
        rw [z] at q'
        cases o with
        | none => exact .inl ⟨st z, fin ed hl s' q'⟩
        | some d =>
          dsimp only at q'
          obtain ⟨go, yl⟩ := gos d z
          refine .inr ⟨go, fun H2 => ∃ m2 S2, m2 S1.length = D ∧ S1.length < S2.length ∧ Ev g m1 S1.length H1 m2 S2.length H2 ∧ SR g m2 H2 S2 ∧ PRx g m2 S2 H2 (fun c d H' => W c d σ H') (KD g Q) (lcV t tst elt (wipeE ρ t.vs) S1.length nx μ (i + 1) S2),
            fun H2 a => ⟨μ, Nat.lt_succ_self _, a⟩, fun x H'' y => ?_⟩
          obtain ⟨e2, s2, rx⟩ := yl x H'' y
          have q2 := PRx.ev e2 q'
          have erw := (er1.ev (e'.trans e2)).wipe t.vs
          cases z2 : lcTurn t tst elt (wipeE ρ t.vs) S1.length d S' with
          | none => rw [z2] at q2; exact q2.elim
          | some S5 =>
            rw [z2] at q2
            dsimp only at q2
            have tk := lcTurn_ok (Nx := fun H2 => ∃ m2 S2, m2 S1.length = D ∧ S1.length < S2.length ∧ Ev g m1 S1.length H1 m2 S2.length H2 ∧ SR g m2 H2 S2 ∧ PRx g m2 S2 H2 (fun c d H' => W c d σ H') (KD g Q) (lcV t tst elt (wipeE ρ t.vs) S1.length nx μ (i + 1) S2))
              hK s2 erw rx hl z2 fun m6 H6 e6 s6 => ⟨m6, S5, (e6.ag _ hl).trans ed, Nat.lt_of_lt_of_le hl e6.le, (e'.trans e2).trans e6, s6, PRx.ev e6 q2⟩
            rw [ed] at tk
            exact tk
theorem de_lc {elt tg iter : Expr} {ifs : List Expr} {scope : Scope} {own : List (Str × Nat)} {it : En → Mo Wk} {t : CT} {tst : En → Mo Bool} {fe : DE} (hc : X.calm = true) (hK : X.K = g.K) (hN : X.N.Nodup) (hi : PI X tg iter (tIt g W it)) (ok : BlkOk X.N X.env.scope scope own) (hv : own.map (·.2) = t.vs)
    (hg : ∀ (s : Shared) (H : Hp) (C : Addr) (cl : List (Str × Addr)) (fp : List Addr), PG (X.blk s H scope (compEnvC scope cl C X.env) fp) tg (t.tg X.K)) (ht : ∀ (s : Shared) (H : Hp) (C : Addr) (cl : List (Str × Addr)) (fp : List Addr), PTs (X.blk s H scope (compEnvC scope cl C X.env) fp) ifs (tDb g (fun _ _ _ _ => False) tst))
    (he : ∀ (s : Shared) (H : Hp) (C : Addr) (cl : List (Str × Addr)) (fp : List Addr), PE (X.blk s H scope (compEnvC scope cl C X.env) fp) elt (tD g (fun _ _ _ _ => False) fe)) (hs : ∀ x, foldedSetIterable iter X.env x = pure x := by intro _; rfl) :
    PE X (.ListComp elt [⟨tg, iter, ifs, 0⟩] scope pos) (tD g W (cLc it t tst fe)) := by
  have h := pe_lc (pos := pos) hc hN hi ok hg ht he hs
  rw [hv] at h
  exact PE.imp h (lc_sub hK)
theorem ds_setLc (i : Nat) {y : Str} {py spos : Pos} {elt tg iter : Expr} {ifs : List Expr} {scope : Scope} {own : List (Str × Nat)} {it : En → Mo Wk} {t : CT} {tst : En → Mo Bool} {fe : DE} (hc : X.calm = true) (hK : X.K = g.K) (hN : X.N.Nodup)
    (hsw : swapsWith (.ListComp elt [⟨tg, iter, ifs, 0⟩] scope pos) (some (.Name y py)) spos.line X.env = pure true) (hi : PI X tg iter (tIt g W it)) (ok : BlkOk X.N X.env.scope scope own) (hv : own.map (·.2) = t.vs)
    (hg : ∀ (s : Shared) (H : Hp) (C : Addr) (cl : List (Str × Addr)) (fp : List Addr), PG (X.blk s H scope (compEnvC scope cl C X.env) fp) tg (t.tg X.K)) (ht : ∀ (s : Shared) (H : Hp) (C : Addr) (cl : List (Str × Addr)) (fp : List Addr), PTs (X.blk s H scope (compEnvC scope cl C X.env) fp) ifs (tDb g (fun _ _ _ _ => False) tst))
    (he : ∀ (s : Shared) (H : Hp) (C : Addr) (cl : List (Str × Addr)) (fp : List Addr), PE (X.blk s H scope (compEnvC scope cl C X.env) fp) elt (tD g (fun _ _ _ _ => False) fe)) (hy : X.N[i]? = some y := by rfl) (hyl : X.env.scope.names.lookup y = some .local := by rfl) (hs : ∀ x, foldedSetIterable iter X.env x = pure x := by intro _; rfl) :
    PS X (.Assign [.Name y py] (.ListComp elt [⟨tg, iter, ifs, 0⟩] scope pos) spos) (tS g W (cAsg (cLc it t tst fe) (kName i))) := by
  have h := ps_setLc (i := i) (pos := pos) (spos := spos) hc hN hy hyl hsw hi ok hg ht he hs
  rw [hv] at h
  refine PS.imp h fun E σ H ⟨m, S, ρ, sr, er, q⟩ => ?_
  refine lc_sub hK _ _ _ ⟨m, S, ρ, sr, er, (q.bind er).mono fun d m1 S1 H1 e1 s1 p v r => ?_⟩
  exact p _ m1 H1 Ev.refl s1 ((er.ev e1).set r)
/-- no test -/
def cTrue : En → Mo Bool := fun _ S => .ok true S
theorem dts_nil : PTs X [] (tDb g W cTrue) := by
  have h := pts_nil (X := X)
  exact ⟨fun pins s σ H Q I ⟨m, S, ρ, sr, er, q⟩ => h.run pins s σ H Q I (q m H Ev.refl sr)⟩
theorem dts_one (h : PT X c (tDb g W ft)) : PTs X [c] (tDb g W ft) := pts_one h
theorem dg_names : ∀ (is : List Nat) {es : List Expr}, PGs X es (gNames is) → PGs X es (gNames is) := fun _ _ h => h
end
end Sm
end
section
/-! Sm, part E: fields, own classes, calls of defs, the entry of a def. -/
namespace Sm
open PySem PySem.Spec PyProof.Rows L2

/-! ### fields -/
@[irreducible] def few (n : Nat) : Bool := decide (n < 1000)
theorem few_iff {n : Nat} : few n = true ↔ n < 1000 := by
  unfold few
  exact decide_eq_true_iff
/-- which class has which fields -/
abbrev FTab := Nat → Str → Bool
structure TabOk (g : Gx) (T : FTab) : Prop where
  ok : ∀ c f, T c f = true → Cls g.K (g.ct c) ∧ NoAttr g.K (g.ct c) f
def putFD (f : Str) (v : D) : List (Str × D) → List (Str × D)
  | [] => [(f, v)]
  | (h, x) :: r => if h = f then (h, v) :: r else (h, x) :: putFD f v r
def fldO (T : FTab) (f : Str) : Option Ob → Option D
  | some (.ins c fs) => if T c f = true then fs.lookup f else none
  | _ => none
def fldG (T : FTab) (f : Str) : D → Sto → Option D
  | .loc l, S => fldO T f S[l]?
  | _, _ => none
def setO (T : FTab) (f : Str) (v : D) (l : Nat) (S : Sto) : Option Ob → Option Sto
  | some (.ins c fs) => if (T c f && few fs.length) = true then some (S.set l (.ins c (putFD f v fs))) else none
  | _ => none
def setG (T : FTab) (f : Str) (v : D) : D → Sto → Option Sto
  | .loc l, S => setO T f v l S S[l]?
  | _, _ => none
def optD {α : Type} (o : Option α) : Mo α := fun S => match o with
  | some a => .ok a S
  | none => .no
def fldD (T : FTab) (f : Str) (d : D) : Mo D := fun S => optD (fldG T f d S) S
def setD (T : FTab) (f : Str) (v : D) (d : D) : Mo Unit := fun S => match setG T f v d S with
  | some S' => .ok () S'
  | none => .no
section
variable {g : Gx} {m : Nat → Addr} {n : Nat} {H : Hp}
theorem lookup_rel {f : Str} : ∀ {fs' : List (Str × V)} {fs : List (Str × D)} {d : D}, fs'.map (·.1) = fs.map (·.1) → VRs g m n H (fs'.map (·.2)) (fs.map (·.2)) → fs.lookup f = some d → ∃ v, fs'.lookup f = some v ∧ VR g m n H v d
  | [], [], _, _, _, h => by cases h
  | (a, x) :: r', (b, y) :: r, d, hk, hv, h => by
    have hk' : a = b ∧ r'.map (·.1) = r.map (·.1) := by simpa using hk
    obtain ⟨rfl, hk2⟩ := hk'
    cases hv with
    | cons _ _ _ _ r1 rs =>
      rw [List.lookup_cons] at h ⊢
      cases q : f == a with
      | true => rw [q] at h; cases h; exact ⟨x, rfl, r1⟩
      | false => rw [q] at h; exact lookup_rel hk2 rs h
  | [], _ :: _, _, hk, _, _ => by simp at hk
  | _ :: _, [], _, hk, _, _ => by simp at hk
theorem lookup_none {f : Str} : ∀ {fs' : List (Str × V)} {fs : List (Str × D)}, fs'.map (·.1) = fs.map (·.1) → fs.lookup f = none → fs'.lookup f = none
  | [], [], _, _ => rfl
  | (a, x) :: r', (b, y) :: r, hk, h => by
    have hk' : a = b ∧ r'.map (·.1) = r.map (·.1) := by simpa using hk
    obtain ⟨rfl, hk2⟩ := hk'
    rw [List.lookup_cons] at h ⊢
    cases q : f == a with
    | true => rw [q] at h; cases h
    | false => rw [q] at h; exact lookup_none hk2 h
  | [], _ :: _, hk, _ => by simp at hk
  | _ :: _, [], hk, _ => by simp at hk
theorem putF_rel {f : Str} {v : V} {d : D} (rv : VR g m n H v d) : ∀ {fs' : List (Str × V)} {fs : List (Str × D)}, fs'.map (·.1) = fs.map (·.1) → VRs g m n H (fs'.map (·.2)) (fs.map (·.2)) →
    (putF f v fs').map (·.1) = (putFD f d fs).map (·.1) ∧ VRs g m n H ((putF f v fs').map (·.2)) ((putFD f d fs).map (·.2))
  | [], [], _, _ => ⟨rfl, .cons _ _ _ _ rv .nil⟩
  | (a, x) :: r', (b, y) :: r, hk, hv => by
    have hk' : a = b ∧ r'.map (·.1) = r.map (·.1) := by simpa using hk
    obtain ⟨rfl, hk2⟩ := hk'
    cases hv with
    | cons _ _ _ _ r1 rs =>
      unfold putF putFD
      by_cases q : a = f
      · rw [if_pos q, if_pos q]
        exact ⟨by simp [hk2], .cons _ _ _ _ rv rs⟩
      · rw [if_neg q, if_neg q]
        obtain ⟨h1, h2⟩ := putF_rel rv hk2 rs
        exact ⟨by simp [h1], .cons _ _ _ _ r1 h2⟩
  | [], _ :: _, hk, _ => by simp at hk
  | _ :: _, [], hk, _ => by simp at hk
end
section
variable {X : Cx} {g : Gx} {W : WX} {T : FTab} {e o a b c : Expr} {es rest : List Expr} {f fa fb fo : DE} {fs : En → Mo (List D)} {ft : En → Mo Bool} {s t u : DS} {pos apos : Pos} {x nm : Str}
def cFld (T : FTab) (nm : Str) (fo : DE) : DE := fun ρ => fo ρ >>= fldD T nm
theorem fldG_ok {m : Nat → Addr} {S : Sto} {H : Hp} {d x : D} {v : V} (hT : TabOk g T) (sr : SR g m H S) (r : VR g m S.length H v d) (h : fldG T nm d S = some x) :
    ∃ p C dx fs w, v = .ref p ∧ H p = some (.ins C dx fs) ∧ Cls g.K C ∧ NoAttr g.K C nm ∧ fs.lookup nm = some w ∧ VR g m S.length H w x := by
  cases r with
  | loc l hl =>
    have h2 : fldO T nm S[l]? = some x := h
    cases q : S[l]? with
    | none => rw [q] at h2; cases h2
    | some ob =>
      rw [q] at h2
      cases ob with
      | ins c fs =>
        obtain ⟨_, dx, fs', hv, hk, rs⟩ := sr.atI q
        have h3 : (if T c nm = true then fs.lookup nm else none) = some x := h2
        by_cases q1 : T c nm = true
        · rw [if_pos q1] at h3
          obtain ⟨c1, c2⟩ := hT.ok c nm q1
          obtain ⟨w, hw, rw'⟩ := lookup_rel hk rs h3
          exact ⟨m l, g.ct c, dx, fs', w, rfl, hv, c1, c2, hw, rw'⟩
        · rw [if_neg q1] at h3; cases h3
      | _ => cases h2
  | _ => cases h
theorem optD_bind {α β : Type} {m : Nat → Addr} {S : Sto} {H : Hp} {W : XK} {K : β → (Nat → Addr) → Sto → Hp → Prop} {o : Option α} {k : α → Sto → Rz β} (h : PRx g m S H W K ((optD o S).andThen k)) : ∃ a, o = some a ∧ PRx g m S H W K (k a S) := by
  cases o with
  | none => exact h.elim
  | some a => exact ⟨a, rfl, h⟩
theorem de_fld (hT : TabOk g T) (hK : X.K = g.K) (ho : PE X o (tD g W fo)) (hb : attributeBase o nm X.env (eval o X.env) = eval o X.env := by rfl) : PE X (.Attribute o nm pos) (tD g W (cFld T nm fo)) :=
  PE.imp (pe_fld ho hb) fun σ H Q ⟨m, S, ρ, sr, er, h⟩ => by
    rw [hK]
    refine tD.sub sr er h fun d m1 S1 H1 v s1 er1 _ r1 h1 => ?_
    have h2 : PRx g m1 S1 H1 _ (KD g Q) (optD (fldG T nm d S1) S1) := h1
    cases q : fldG T nm d S1 with
    | none => rw [q] at h2; exact h2.elim
    | some x =>
      rw [q] at h2
      obtain ⟨p, C, dx, fs, w, e1, e2, e3, e4, e5, e6⟩ := fldG_ok hT s1 r1 q
      exact ⟨p, C, dx, fs, w, e1, e2, e3, e4, e5, h2 m1 H1 Ev.refl s1 w e6⟩
def cSetF (T : FTab) (nm : Str) (fo fv : DE) : DS := fun ρ S => (fv ρ S).toF ρ fun v S1 => (fo ρ S1).toF ρ fun o S2 => match setG T nm v o S2 with
  | some S3 => .nx ρ S3
  | none => .no
theorem setG_ok {m : Nat → Addr} {S S' : Sto} {H : Hp} {d dv : D} {v w : V} (hT : TabOk g T) (sr : SR g m H S) (r : VR g m S.length H v d) (rv : VR g m S.length H w dv) (h : setG T nm dv d S = some S') :
    ∃ p C dx fs, v = .ref p ∧ H p = some (.ins C dx fs) ∧ Cls g.K C ∧ NoAttr g.K C nm ∧ fs.length < 1000 ∧ Ev g m S.length H m S'.length (upd H p (.ins C dx (putF nm w fs))) ∧ SR g m (upd H p (.ins C dx (putF nm w fs))) S' := by
  cases r with
  | loc l hl =>
    have h2 : setO T nm dv l S S[l]? = some S' := h
    cases q : S[l]? with
    | none => rw [q] at h2; cases h2
    | some ob =>
      rw [q] at h2
      cases ob with
      | ins c fs =>
        obtain ⟨hl, dx, fs', hv, hk, rs⟩ := sr.atI q
        have h3 : (if (T c nm && few fs.length) = true then some (S.set l (.ins c (putFD nm dv fs))) else none) = some S' := h2
        by_cases q1 : (T c nm && few fs.length) = true
        · rw [if_pos q1] at h3
          cases h3
          rw [Bool.and_eq_true] at q1
          obtain ⟨c1, c2⟩ := hT.ok c nm q1.1
          have hlen : fs'.length = fs.length := by
            have := congrArg List.length hk
            simpa using this
          have ew : Ev g m S.length H m S.length (upd H (m l) (.ins (g.ct c) dx (putF nm w fs'))) := Ev.wr (sr.canw hl)
          obtain ⟨p1, p2⟩ := putF_rel (f := nm) rv hk rs
          have sw := sr.wr (u := .ins (g.ct c) dx (putF nm w fs')) (o := .ins c (putFD nm dv fs)) hl ⟨dx, _, upd_same, p1, p2.ev ew⟩
          exact ⟨m l, g.ct c, dx, fs', rfl, hv, c1, c2, by rw [hlen]; exact few_iff.mp q1.2, by rw [List.length_set]; exact ew, sw⟩
        · rw [if_neg q1] at h3; cases h3
      | _ => cases h2
  | _ => cases h
theorem ds_fld {pos' : Pos} {fv : DE} {value : Expr} (hT : TabOk g T) (hK : X.K = g.K) (ho : PE X o (tD g W fo)) (hv : PE X value (tD g W fv)) (hs : swapsWith value (some (.Attribute o nm pos')) pos.line X.env = pure false := by rfl) :
    PS X (.Assign [.Attribute o nm pos'] value pos) (tS g W (cSetF T nm fo fv)) :=
  PS.imp (ps_fld ho hv hs) fun E σ H ⟨m, S, ρ, sr, er, h⟩ => by
    rw [hK]
    refine tD.subF sr er h fun dv m1 S1 H1 v s1 er1 _ r1 h1 => tD.subF s1 er1 h1 fun d m2 S2 H2 w s2 er2 e2 r2 h2 => ?_
    cases q : setG T nm dv d S2 with
    | none => rw [q] at h2; exact h2.elim
    | some S3 =>
      rw [q] at h2
      obtain ⟨p, C, dx, fs, e1, e3, e4, e5, e6, e7, e8⟩ := setG_ok hT s2 r2 (r1.ev e2) q
      exact ⟨p, C, dx, fs, e1, e3, e4, e5, e6, h2 _ m2 _ e7 e8 (er2.ev e7)⟩
def clsD : D → Sto → Option Nat
  | .loc l, S => match S[l]? with
    | some (.ins c _) => some c
    | _ => none
  | _, _ => none
theorem clsD_ok {m : Nat → Addr} {S : Sto} {H : Hp} {d : D} {p C dx : Addr} {fs : List (Str × V)} (sr : SR g m H S) (r : VR g m S.length H (.ref p) d) (hp : H p = some (.ins C dx fs)) (hd : ∃ l, d = .loc l) : ∃ c, clsD d S = some c ∧ C = g.ct c := by
  obtain ⟨l, rfl⟩ := hd
  cases r with
  | loc l hl =>
    have z := sr.ob l S[l] (List.getElem?_eq_getElem hl)
    have q : S[l]? = some S[l] := List.getElem?_eq_getElem hl
    cases e : S[l] with
    | lst ds => rw [e] at z; obtain ⟨_, z, _⟩ := z; rw [hp] at z; cases z
    | dct ds => rw [e] at z; obtain ⟨_, z, _⟩ := z; rw [hp] at z; cases z
    | ins c gs =>
      rw [e] at z q
      obtain ⟨_, _, z, _⟩ := z
      rw [hp] at z
      cases z
      refine ⟨c, ?_, rfl⟩
      unfold clsD
      simp only [q]
theorem fldG_loc {d x : D} {S : Sto} (h : fldG T nm d S = some x) : ∃ l, d = .loc l := by
  cases d with
  | loc l => exact ⟨l, rfl⟩
  | _ => cases h
def cAugF (T : FTab) (nm : Str) (h : D → D → Mo D) (fo fv : DE) : DS := fun ρ S => (fo ρ S).toF ρ fun o S1 => match fldG T nm o S1 with
  | some x => (fv ρ S1).toF ρ fun y S3 => (h x y S3).toF ρ fun z S4 => if clsD o S1 = clsD o S4 then match setG T nm z o S4 with
    | some S5 => .nx ρ S5
    | none => .no else .no
  | none => .no
theorem ds_augF {op : Operator} {tpos : Pos} {fv : DE} {value : Expr} {r : R2} {h : D → D → Mo D} (hT : TabOk g T) (hK : X.K = g.K) (hop : InOp X op r) (hs : S2 g r h) (ho : PE X o (tD g W fo)) (hv : PE X value (tD g W fv)) :
    PS X (.AugAssign (.Attribute o nm tpos) op value pos) (tS g W (cAugF T nm h fo fv)) :=
  PS.imp (ps_fldaug ho hv hop) fun E σ H ⟨m, S, ρ, sr, er, h⟩ => by
    rw [hK]
    refine tD.subF sr er h fun d m1 S1 H1 v s1 er1 _ r1 h1 => ?_
    cases q : fldG T nm d S1 with
    | none => rw [q] at h1; exact h1.elim
    | some x =>
      rw [q] at h1
      obtain ⟨p, C, dx, fs, w, e1, e3, e4, e5, e6, rx⟩ := fldG_ok hT s1 r1 q
      subst e1
      refine ⟨p, C, dx, fs, w, rfl, e3, e4, e5, e6, tD.subF s1 er1 h1 fun y m2 S2 H2 u s2 er2 e2 r2 h2 => ?_⟩
      refine hs m2 S2 H2 _ _ _ _ _ _ s2 (rx.ev e2) r2 ((h2.bind er2).mono fun z m3 S3 H3 ev3 s3 h3 zz rz => ?_)
      have er3 := er2.ev ev3
      have rd := (r1.ev e2).ev ev3
      obtain ⟨c1, k1, k2⟩ := clsD_ok s1 r1 e3 (fldG_loc q)
      by_cases qc : clsD d S1 = clsD d S3
      · rw [if_pos qc] at h3
        cases q2 : setG T nm z d S3 with
        | none => rw [q2] at h3; exact h3.elim
        | some S4 =>
          rw [q2] at h3
          obtain ⟨p', C', dx', fs', a1, a3, a4, a5, a6, a7, a8⟩ := setG_ok hT s3 rd rz q2
          cases a1
          obtain ⟨c2, k3, k4⟩ := clsD_ok s3 rd a3 (fldG_loc q)
          rw [k1, k3] at qc
          cases qc
          subst k2
          subst k4
          exact ⟨dx', fs', a3, a6, h3 _ m3 _ a7 a8 (er3.ev a7)⟩
      · rw [if_neg qc] at h3; exact h3.elim

/-! ### calls of defs -/
/-- what a def of np parameters promises: it does what F does -/
def spF (g : Gx) (np : Nat) (F : List D → Mo D) : Sp := fun vs H Q E => vs.length = np ∧ ∃ m S ds, SR g m H S ∧ VRs g m S.length H vs ds ∧ PRx g m S H E (KD g Q) (F ds S)
/-- a call with np arguments -/
def apF (np : Nat) (F : List D → Mo D) : List D → Mo D := fun ds => if ds.length = np then F ds else bad
theorem apF_ok {np : Nat} {F : List D → Mo D} {m : Nat → Addr} {S : Sto} {H : Hp} {Q : VK} {E : XK} {vs : List V} {ds : List D} (sr : SR g m H S) (r : VRs g m S.length H vs ds) (h : PRx g m S H E (KD g Q) (apF np F ds S)) : spF g np F vs H Q E := by
  unfold apF at h
  by_cases q : ds.length = np
  · rw [if_pos q] at h
    exact ⟨by rw [r.length]; exact q, m, S, ds, sr, r, h⟩
  · rw [if_neg q] at h; exact h.elim
variable {fd : FuncData} {fn : Addr} {k np : Nat} {ps : List Str} {F : List D → Mo D} {p : Pos}
theorem de_fn (G : FnOk X.prog X.w X.K X.mg X.base (L2.CX X.prog X.w) k fn fd ps (spF g np F)) (hr : Room k X.A) (hm : X.mg x = some (.ref fn)) (hk : PySem.W.keepIn X.K (.ref fn) = true) (hb : Binds X.K fd ps []) (tk : Takes X W) (ha : PA X (e :: es) (tDs g W fs))
    (hg : Gl X x := by rfl) (hdb : (x == ("__debug__" : Str)) = false := by decide) (he : starEach (e :: es) X.env = (false, eval e X.env) :: starEach es X.env := by rfl) (hpl : (backTo pos (starEach es X.env)).any (·.1) = false := by rfl) :
    PE X (.Call (.Name x p) (e :: es) [] pos) (tD g W (cCall (apF np F) fs)) :=
  PE.imp (pe_callS G hr hg hm hk hb (fun σ => passAt tk σ) ha hdb he hpl) fun σ H Q ⟨m, S, ρ, sr, er, h⟩ => tDs.sub sr er h fun ds m1 S1 H1 vs s1 _ _ r1 h1 => apF_ok s1 r1 h1
theorem de_fn0 (G : FnOk X.prog X.w X.K X.mg X.base (L2.CX X.prog X.w) k fn fd ps (spF g np F)) (hr : Room k X.A) (hm : X.mg x = some (.ref fn)) (hk : PySem.W.keepIn X.K (.ref fn) = true) (hb : Binds X.K fd ps []) (tk : Takes X W)
    (hg : Gl X x := by rfl) (hdb : (x == ("__debug__" : Str)) = false := by decide) :
    PE X (.Call (.Name x p) [] [] pos) (tD g W (cCall (apF np F) cNil)) := by
  refine ⟨fun pins s σ H Q I ⟨m, S, ρ, sr, er, h⟩ => ?_⟩
  refine wpAny_Call_Name_kw (ld_glob I hg hm ?_ hdb)
  exact PySem.W.callWith_K0 I.kIn hk (run_fnS (us := []) G hr hb (passAt tk σ) I .nil (apF_ok (vs := []) (ds := []) sr .nil h))
/-- with some parameters left to their defaults -/
theorem de_fnD {dvs : List V} {dvals : List Value} {dds : List D} (G : FnOk X.prog X.w X.K X.mg X.base (L2.CX X.prog X.w) k fn fd ps (spF g np F)) (hr : Room k X.A) (hm : X.mg x = some (.ref fn)) (hk : PySem.W.keepIn X.K (.ref fn) = true) (hb : Binds X.K fd ps dvals) (hd : Vals dvs dvals) (hdd : ∀ m n H, VRs g m n H dvs dds) (tk : Takes X W) (ha : PA X (e :: es) (tDs g W fs))
    (hg : Gl X x := by rfl) (hdb : (x == ("__debug__" : Str)) = false := by decide) (he : starEach (e :: es) X.env = (false, eval e X.env) :: starEach es X.env := by rfl) (hpl : (backTo pos (starEach es X.env)).any (·.1) = false := by rfl) :
    PE X (.Call (.Name x p) (e :: es) [] pos) (tD g W (cCall (fun ds => apF np F (ds ++ dds)) fs)) :=
  PE.imp (pe_callSD (E := WE W) G hr hg hm hk hb hd (fun σ => passAt tk σ) ha hdb he hpl) fun σ H Q ⟨m, S, ρ, sr, er, h⟩ => tDs.sub sr er h fun ds m1 S1 H1 vs s1 _ _ r1 h1 => apF_ok s1 (r1.append (hdd _ _ _)) h1

/-! ### methods of own classes -/
/-- the receiver is an instance of class c without a field of that name -/
def insG (c : Nat) (nm : Str) : D → Sto → Bool
  | .loc l, S => match S[l]? with
    | some (.ins c' fs) => decide (c' = c) && (fs.lookup nm).isNone
    | _ => false
  | _, _ => false
def chkI (c : Nat) (nm : Str) (d : D) : Mo Unit := fun S => if insG c nm d S = true then .ok () S else .no
def cMeth (c : Nat) (nm : Str) (np : Nat) (F : List D → Mo D) (fo : DE) (fs : En → Mo (List D)) : DE := fun ρ => do
  let x ← fo ρ; chkI c nm x; let xs ← fs ρ; apF np F (x :: xs)
theorem insG_ok {c : Nat} {m : Nat → Addr} {S : Sto} {H : Hp} {d : D} {v : V} (sr : SR g m H S) (r : VR g m S.length H v d) (h : insG c nm d S = true) : ∃ a dx fs, v = .ref a ∧ H a = some (.ins (g.ct c) dx fs) ∧ fs.lookup nm = none := by
  cases r with
  | loc l hl =>
    unfold insG at h
    cases q : S[l]? with
    | none => simp only [q] at h; cases h
    | some ob =>
      simp only [q] at h
      cases ob with
      | ins c' fs =>
        obtain ⟨_, dx, fs', hv, hk, rs⟩ := sr.atI q
        simp only [Bool.and_eq_true, decide_eq_true_eq, Option.isNone_iff_eq_none] at h
        obtain ⟨rfl, h2⟩ := h
        exact ⟨m l, dx, fs', rfl, hv, lookup_none hk h2⟩
      | _ => cases h
  | _ => cases h
theorem chkI_bind {α : Type} {c : Nat} {m : Nat → Addr} {S : Sto} {H : Hp} {W : XK} {K : α → (Nat → Addr) → Sto → Hp → Prop} {k : Unit → Sto → Rz α} {d : D} (h : PRx g m S H W K ((chkI c nm d S).andThen k)) : insG c nm d S = true ∧ PRx g m S H W K (k () S) := by
  unfold chkI at h
  by_cases q : insG c nm d S = true
  · rw [if_pos q] at h; exact ⟨q, h⟩
  · rw [if_neg q] at h; exact h.elim
def tMethS (C : Addr) (nm : Str) (sp : Sp) (E : L2.St → XK) (ta : TE) (t : TA) : TE := fun σ H Q => ta σ H fun x H1 => ∃ a dx fs, x = .ref a ∧ H1 a = some (.ins C dx fs) ∧ fs.lookup nm = none ∧
  t σ H1 fun vs H2 => sp (x :: vs) H2 Q (E σ)
theorem pe_methS {C : Addr} {pl : Sem Bool} {ta : TE} {t : TA} {sp : Sp} {E : L2.St → XK} {CX : CXT} (he : PE X o ta) (c : Cls X.K C) (hm : Meth X.K C nm fn) (G : FnOk X.prog X.w X.K X.mg X.base CX k fn fd ps sp) (hr : Room k X.A) (hb : Binds X.K fd ps []) (hx : ∀ σ, PassesAt CX X σ (E σ)) (ha : PA X (e :: es) t)
    (hst : starEach (e :: es) X.env = (false, eval e X.env) :: starEach es X.env := by rfl) (hpl : (backTo pos (starEach es X.env)).any (·.1) = false := by rfl)
    (ht : eval (.Call (.Attribute o nm apos) (e :: es) [] pos) X.env = (do
      let ov ← eval o X.env
      standAt apos.atName
      let (f, first) ← holding [ov] (getMethod ov nm pl)
      callWith pos f first (backTo pos (starEach (e :: es) X.env)) (backToKw pos (keywordEach [] X.env))) := by rfl) :
    PE X (.Call (.Attribute o nm apos) (e :: es) [] pos) (tMethS C nm sp E ta t) := by
  refine ⟨fun pins s σ H Q I h => ?_⟩
  refine PySem.W.methodCall_KW (pl := pl) (thn (he.run pins s σ H _ I h) fun u s1 ⟨x, H1, I1, rx, a, dx, fs, ex, ea, l, q⟩ => ?_) ht
  subst ex
  obtain rfl : u = Value.ref a := rx
  refine getmeth_ok I1 ea c hm l ?_
  refine PySem.W.callWith_K (first := [.ref a]) (h₀ := X.base) I.ok.mod.kin hm.kp (thn (ha.run pos pins s1 σ H1 _ I1 q) fun us s2 ⟨vs, H2, I2, r, q2⟩ => ⟨I2.kIn, ?_⟩) hst hpl
  exact run_fnS (us := .ref a :: us) (vs := .ref a :: vs) G hr hb (hx σ) I2 (.cons rfl r) q2
theorem pe_meth0S {C : Addr} {pl : Sem Bool} {ta : TE} {sp : Sp} {E : L2.St → XK} {CX : CXT} (he : PE X o ta) (c : Cls X.K C) (hm : Meth X.K C nm fn) (G : FnOk X.prog X.w X.K X.mg X.base CX k fn fd ps sp) (hr : Room k X.A) (hb : Binds X.K fd ps []) (hx : ∀ σ, PassesAt CX X σ (E σ))
    (ht : eval (.Call (.Attribute o nm apos) [] [] pos) X.env = (do
      let ov ← eval o X.env
      standAt apos.atName
      let (f, first) ← holding [ov] (getMethod ov nm pl)
      callWith pos f first (backTo pos (starEach [] X.env)) (backToKw pos (keywordEach [] X.env))) := by rfl) :
    PE X (.Call (.Attribute o nm apos) [] [] pos) (tMethS C nm sp E ta tNil) := by
  refine ⟨fun pins s σ H Q I h => ?_⟩
  refine PySem.W.methodCall_KW (pl := pl) (thn (he.run pins s σ H _ I h) fun u s1 ⟨x, H1, I1, rx, a, dx, fs, ex, ea, l, q⟩ => ?_) ht
  subst ex
  obtain rfl : u = Value.ref a := rx
  refine getmeth_ok I1 ea c hm l ?_
  exact PySem.W.callWith_K0 (first := [.ref a]) I1.kIn hm.kp (run_fnS (us := [.ref a]) (vs := [.ref a]) G hr hb (hx σ) I1 (.cons rfl .nil) q)
theorem meth_sub {c : Nat} : ∀ σ H Q, tD g W (cMeth c nm np F fo fs) σ H Q → tMethS (g.ct c) nm (spF g np F) (WE W) (tD g W fo) (tDs g W fs) σ H Q := fun σ H Q ⟨m, S, ρ, sr, er, h⟩ =>
  tD.sub sr er h fun d m1 S1 H1 v s1 er1 _ r1 h1 => by
    obtain ⟨q, h2⟩ := chkI_bind h1
    obtain ⟨a, dx, fs', e1, e2, e3⟩ := insG_ok s1 r1 q
    exact ⟨a, dx, fs', e1, e2, e3, tDs.sub s1 er1 h2 fun ds m2 S2 H2 vs s2 _ ev2 r2 h3 => apF_ok s2 (.cons _ _ _ _ (r1.ev ev2) r2) h3⟩
theorem de_meth {c : Nat} {pl : Sem Bool} (hcl : Cls X.K (g.ct c)) (hm : Meth X.K (g.ct c) nm fn) (G : FnOk X.prog X.w X.K X.mg X.base (L2.CX X.prog X.w) k fn fd ps (spF g np F)) (hr : Room k X.A) (hb : Binds X.K fd ps []) (tk : Takes X W) (ho : PE X o (tD g W fo)) (ha : PA X (e :: es) (tDs g W fs))
    (hst : starEach (e :: es) X.env = (false, eval e X.env) :: starEach es X.env := by rfl) (hpl : (backTo pos (starEach es X.env)).any (·.1) = false := by rfl)
    (ht : eval (.Call (.Attribute o nm apos) (e :: es) [] pos) X.env = (do
      let ov ← eval o X.env
      standAt apos.atName
      let (f, first) ← holding [ov] (getMethod ov nm pl)
      callWith pos f first (backTo pos (starEach (e :: es) X.env)) (backToKw pos (keywordEach [] X.env))) := by rfl) :
    PE X (.Call (.Attribute o nm apos) (e :: es) [] pos) (tD g W (cMeth c nm np F fo fs)) := PE.imp (pe_methS ho hcl hm G hr hb (fun σ => passAt tk σ) ha hst hpl ht) meth_sub
theorem de_meth0 {c : Nat} {pl : Sem Bool} (hcl : Cls X.K (g.ct c)) (hm : Meth X.K (g.ct c) nm fn) (G : FnOk X.prog X.w X.K X.mg X.base (L2.CX X.prog X.w) k fn fd ps (spF g np F)) (hr : Room k X.A) (hb : Binds X.K fd ps []) (tk : Takes X W) (ho : PE X o (tD g W fo))
    (ht : eval (.Call (.Attribute o nm apos) [] [] pos) X.env = (do
      let ov ← eval o X.env
      standAt apos.atName
      let (f, first) ← holding [ov] (getMethod ov nm pl)
      callWith pos f first (backTo pos (starEach [] X.env)) (backToKw pos (keywordEach [] X.env))) := by rfl) :
    PE X (.Call (.Attribute o nm apos) [] [] pos) (tD g W (cMeth c nm np F fo cNil)) := PE.imp (pe_meth0S ho hcl hm G hr hb (fun σ => passAt tk σ) ht) fun σ H Q h => by
  obtain ⟨m, S, ρ, sr, er, h⟩ := h
  exact tD.sub sr er h fun d m1 S1 H1 v s1 er1 _ r1 h1 => by
    obtain ⟨q, h2⟩ := chkI_bind h1
    obtain ⟨a, dx, fs', e1, e2, e3⟩ := insG_ok s1 r1 q
    exact ⟨a, dx, fs', e1, e2, e3, apF_ok s1 (.cons _ _ _ _ r1 .nil) h2⟩

/-! ### own classes made -/
def newI (c np : Nat) (F : List D → Mo D) : List D → Mo D := fun ds S => (apF np F (.loc S.length :: ds) (S ++ [.ins c []])).andThen fun r S' => match r with
  | .non => .ok (.loc S.length) S'
  | _ => .no
def tMakeS (C : Addr) (sp : Sp) (E : L2.St → XK) (t : TA) : TE := fun σ H Q => t σ H fun vs H1 => ∀ x dx, H1 x = none → H1 dx = none → dx ≠ x →
  sp (.ref x :: vs) (upd (upd H1 dx (.own x)) x (.ins C dx [])) (fun v H2 => v = .non ∧ Q (.ref x) H2) (E σ)
theorem run_makeS {C : Addr} {sp : Sp} {E : L2.St → XK} {CX : CXT} {pins : List (Addr × Obj)} {σ : L2.St} {H : Hp} {s : Shared} {Q : VK} {us ds : List Value} {vs dvs : List V} (M : Mk X.K C fn) (G : FnOk X.prog X.w X.K X.mg X.base CX k fn fd ps sp) (hr : Room (k + 1) X.A) (hb : Binds X.K fd ps ds) (hd : Vals dvs ds)
    (hx : PassesAt CX X σ (E σ)) (I : Inv X pins σ H s) (r : Vals vs us)
    (h : ∀ x dx, H x = none → H dx = none → dx ≠ x → sp (.ref x :: (vs ++ dvs)) (upd (upd H dx (.own x)) x (.ins C dx [])) (fun v H2 => v = .non ∧ Q (.ref x) H2) (E σ)) :
    wpAny (model X.prog X.w) X.A (call (.ref C) us) (EP X pins σ Q) X.xe s := by
  have hq := h (s.heap.objs.size + 1) s.heap.objs.size (I.hok.fresh (Nat.le_succ _)) (I.hok.fresh (Nat.le_refl _)) (Nat.ne_of_lt (Nat.lt_succ_self _))
  have I2 := Inv.made (C := C) I
  have r2 : Vals (V.ref (s.heap.objs.size + 1) :: (vs ++ dvs)) (Value.ref (s.heap.objs.size + 1) :: (us ++ ds)) := .cons rfl (r.append hd)
  have hl : (Value.ref (s.heap.objs.size + 1) :: us ++ ds).length = ps.length := by
    have e := r2.length
    rw [G.len _ _ _ _ hq] at e
    exact e.symm
  refine wpAny_call (make_map (f := fn) I.kIn M.makes M.init (beq_iff_eq.mp M.fn) (codeAny_mono (G.run _ X.stack _ _ ⟨Value.ref (s.heap.objs.size + 1) :: us, []⟩ (Value.ref (s.heap.objs.size + 1) :: (us ++ ds)) _ _ (E σ) (hr.make C us [])
    (I2.env0.make C us []) (hb _ (Value.ref (s.heap.objs.size + 1) :: us) I2.kIn hl) r2 hq) fun r s' hq' => ?_))
  cases r with
  | error e => exact hx pins _ _ e s' I2 hq'
  | ok fl =>
    cases fl with
    | ret u =>
      obtain ⟨v, H', I3, rv, ev, q3⟩ := I2.after hq'
      subst ev
      exact ⟨rv, ⟨V.ref (s.heap.objs.size + 1), H', I3, rfl, q3⟩⟩
    | next => exact False.elim hq'
    | brk => exact False.elim hq'
    | cont => exact False.elim hq'
theorem newI_ok {c : Nat} {m : Nat → Addr} {S : Sto} {H : Hp} {Q : VK} {E : XK} {vs : List V} {ds : List D} (sr : SR g m H S) (r : VRs g m S.length H vs ds) (h : PRx g m S H E (KD g Q) (newI c np F ds S)) :
    ∀ x dx, H x = none → H dx = none → dx ≠ x → spF g np F (.ref x :: vs) (upd (upd H dx (.own x)) x (.ins (g.ct c) dx [])) (fun v H2 => v = .non ∧ Q (.ref x) H2) E := fun x dx hx hdx ne => by
  have hx' : upd H dx (.own x) x = none := by rw [upd_ne (Ne.symm ne)]; exact hx
  have e1 : Ev g m S.length H m S.length (upd H dx (.own x)) := Ev.new hdx
  have s1 := sr.aside (o := .own x) hdx
  have e2 : Ev g m S.length H (ext m S.length x) (S.length + 1) (upd (upd H dx (.own x)) x (.ins (g.ct c) dx [])) := Ev.ext (e1.trans (Ev.new hx'))
  have s2 := s1.alloc (u := .ins (g.ct c) dx []) (o := .ins c []) hx' ⟨dx, [], upd_same, rfl, .nil⟩
  have lA : (S ++ [Ob.ins c []]).length = S.length + 1 := by rw [List.length_append, List.length_singleton]
  have h2 := (PRx.ev (m' := ext m S.length x) (S' := S ++ [Ob.ins c []]) (by rw [lA]; exact e2) h).bind
  refine apF_ok (S := S ++ [Ob.ins c []]) s2 (.cons _ (.loc S.length) _ _ ?_ (by rw [lA]; exact r.ev e2)) (h2.mono fun d m3 S3 H3 e3 s3 q v rv => ?_)
  · have := VR.loc (g := g) (m := ext m S.length x) (n := (S ++ [Ob.ins c []]).length) (H := upd (upd H dx (.own x)) x (.ins (g.ct c) dx [])) S.length (by rw [lA]; exact Nat.lt_succ_self _)
    rw [ext_new] at this
    exact this
  · cases d with
    | non =>
      cases rv
      have lt : S.length < (S ++ [Ob.ins c []]).length := by rw [lA]; exact Nat.lt_succ_self _
      have q2 := q m3 H3 Ev.refl s3 (.ref (m3 S.length)) (.loc _ (Nat.lt_of_lt_of_le lt e3.le))
      rw [e3.ag _ lt, ext_new] at q2
      exact ⟨rfl, q2⟩
    | _ => exact q.elim
theorem de_new {c : Nat} {dvs : List V} {dvals : List Value} {dds : List D} (M : Mk X.K (g.ct c) fn) (G : FnOk X.prog X.w X.K X.mg X.base (L2.CX X.prog X.w) k fn fd ps (spF g np F)) (hr : Room (k + 1) X.A) (hm : X.mg x = some (.ref (g.ct c))) (hb : Binds X.K fd ps dvals) (hd : Vals dvs dvals) (hdd : ∀ m n H, VRs g m n H dvs dds) (tk : Takes X W) (ha : PA X (e :: es) (tDs g W fs))
    (hg : Gl X x := by rfl) (hdb : (x == ("__debug__" : Str)) = false := by decide) (he : starEach (e :: es) X.env = (false, eval e X.env) :: starEach es X.env := by rfl) (hpl : (backTo pos (starEach es X.env)).any (·.1) = false := by rfl) :
    PE X (.Call (.Name x p) (e :: es) [] pos) (tD g W (cCall (fun ds => newI c np F (ds ++ dds)) fs)) := by
  refine ⟨fun pins s σ H Q I ⟨m, S, ρ, sr, er, h⟩ => ?_⟩
  refine wpAny_Call_Name_kw (ld_glob I hg hm ?_ hdb)
  refine PySem.W.callWith_K (h₀ := X.base) I.ok.mod.kin M.kp (thn (ha.run pos pins s σ H _ I (tDs.sub (Q := fun vs H1 => ∀ x dx, H1 x = none → H1 dx = none → dx ≠ x → spF g np F (.ref x :: (vs ++ dvs)) (upd (upd H1 dx (.own x)) x (.ins (g.ct c) dx [])) (fun v H2 => v = .non ∧ Q (.ref x) H2) (WE W σ)) sr er h
    fun ds m1 S1 H1 vs s1 _ _ r1 h1 => newI_ok s1 (r1.append (hdd _ _ _)) h1)) fun us s1 ⟨vs, H1, I1, r, q⟩ => ⟨I1.kIn, ?_⟩) he hpl
  exact run_makeS (E := WE W) M G hr hb hd (passAt tk σ) I1 r q
theorem de_new0 {c : Nat} (M : Mk X.K (g.ct c) fn) (G : FnOk X.prog X.w X.K X.mg X.base (L2.CX X.prog X.w) k fn fd ps (spF g np F)) (hr : Room (k + 1) X.A) (hm : X.mg x = some (.ref (g.ct c))) (hb : Binds X.K fd ps []) (tk : Takes X W)
    (hg : Gl X x := by rfl) (hdb : (x == ("__debug__" : Str)) = false := by decide) :
    PE X (.Call (.Name x p) [] [] pos) (tD g W (cCall (newI c np F) cNil)) := by
  refine ⟨fun pins s σ H Q I ⟨m, S, ρ, sr, er, h⟩ => ?_⟩
  refine wpAny_Call_Name_kw (ld_glob I hg hm ?_ hdb)
  refine PySem.W.callWith_K0 I.kIn M.kp (run_makeS (us := []) (vs := []) (E := WE W) M G hr hb .nil (passAt tk σ) I .nil ?_)
  exact newI_ok (vs := []) (ds := []) sr .nil h
/-- by the level: F k for a body that has Room k -/
def upK (k : Nat) (h : Nat → List D → Mo D) : List D → Mo D := match k with
  | 0 => fun _ => bad
  | j + 1 => h j
theorem de_upK {k : Nat} {h : Nat → List D → Mo D} (h0 : ∀ j, k = j + 1 → PE X a (tD g W (cCall (h j) fs))) (hn : ∃ t, PA X es t) : PE X a (tD g W (cCall (upK k h) fs)) ∨ k = 0 := by
  cases k with
  | zero => exact .inr rfl
  | succ j => exact .inl (h0 j rfl)

/-! ### the entry of a def -/
def startE (n : Nat) (ds : List D) : En := ds.map some ++ List.replicate (n - ds.length) none
def Fz.toR : Fz → Rz D
  | .nx _ S => .ok .non S
  | .ret d S => .ok d S
  | .ex e _ S => .ex e S
  | _ => .no
def cDef (n : Nat) (s : DS) : List D → Mo D := fun ds S => (s (startE n ds) S).toR
theorem start_er {m : Nat → Addr} {n : Nat} {H : Hp} {N : List Str} {vs : List V} {ds : List D} (r : VRs g m n H vs ds) : ER g m n H (L2.start N vs) (startE N.length ds) := by
  have hl := r.length
  refine ⟨by simp [L2.start, startE, hl], fun i d q => ?_⟩
  unfold startE at q
  by_cases hi : i < ds.length
  · rw [List.getElem?_append_left (by simpa using hi), List.getElem?_map] at q
    cases z : ds[i]? with
    | none => rw [z] at q; cases q
    | some d' =>
      rw [z] at q
      cases q
      obtain ⟨v, hv, rv⟩ := r.get z
      refine ⟨v, ?_, rv⟩
      unfold L2.start
      rw [List.getElem?_append_left (by rw [List.length_map, hl]; exact hi), List.getElem?_map, hv]
      rfl
  · rw [List.getElem?_append_right (by simpa using hi), List.getElem?_replicate] at q
    split at q <;> cases q
theorem fn_sm {P : Program} {w : World} {K : PySem.W.Frag} {mg : Str → Option Value} {base : Heap} {nm qual : Str} {st : Stmt} {fn : Addr} {fd : FuncData} {N ps : List Str} {k : Nat} {s : DS} (F : L2.Fun K nm qual st fn fd) (S : FnScope N ps (defScope st))
    (hbody : ∀ (cdv : Value) (A : Around) (outer : List Env) (s0 : Shared) (H : Hp) (E : XK), Room k (A.deeper (envOfC qual (defScope st) s0.heap.objs.size fn cdv)) →
      PSs (cxOf (L2.CX P w) P w K mg base N qual (defScope st) fn cdv A outer s0 H E) (defBody st) (tS g (fun cls d _ H => E cls d H) s)) :
    FnOk P w K mg base (L2.CX P w) (k + 1) fn fd ps (spF g ps.length (cDef N.length s)) := by
  refine F.okX S (fun vs H Q E h => h.1) fun cdv A outer s0 H vs Q E hr h => ⟨_, hbody cdv A outer s0 H E hr, ?_⟩
  obtain ⟨_, m, S0, ds, sr, r, q⟩ := h
  refine ⟨m, S0, startE N.length ds, sr, start_er r, ?_⟩
  unfold cDef at q
  cases z : s (startE N.length ds) S0 with
  | nx ρ1 S1 => rw [z] at q; exact fun _ m1 H1 e1 s1 _ => q m1 H1 e1 s1 .non .non
  | ret d S1 => rw [z] at q; exact fun v m1 H1 e1 s1 r1 => q m1 H1 e1 s1 v r1
  | ex e ρ1 S1 => rw [z] at q; exact fun c d _ m1 H1 e1 s1 _ x1 => q c d m1 H1 e1 s1 x1
  | brk ρ1 S1 => rw [z] at q; exact q.elim
  | cnt ρ1 S1 => rw [z] at q; exact q.elim
  | no => rw [z] at q; exact q.elim
/-- at level 0 nothing is promised -/
theorem fn_zero {P : Program} {w : World} {K : PySem.W.Frag} {mg : Str → Option Value} {base : Heap} {CX : CXT} {fn : Addr} {fd : FuncData} {ps : List Str} {np : Nat} : FnOk P w K mg base CX 0 fn fd ps (spF g np fun _ => bad) :=
  ⟨fun _ _ _ _ h => by obtain ⟨_, _, _, _, _, _, h⟩ := h; exact h.elim, fun _ _ _ _ _ _ _ _ _ _ _ _ _ h => by obtain ⟨_, _, _, _, _, _, h⟩ := h; exact h.elim⟩
end
end Sm
end
section
/-! Sm, part F: what the operations do with data. -/
namespace Sm
open PySem PySem.Spec PyProof.Rows L2

section
variable {X : Cx} {g : Gx}
theorem OpR.imp {f : Value → Value → Sem Value} {r r' : R2} (h : OpR X f r) (i : ∀ x y H Q, r' x y H Q → r x y H Q) : OpR X f r' := fun pins s σ H x y v u Q I rx ry q => h pins s σ H x y v u Q I rx ry (i _ _ _ _ q)

/-! ### + -/
def joinL (xs ys : List D) (S : Sto) : Rz D := if fit (xs.length + ys.length) = true then .ok (.loc S.length) (S ++ [.lst (xs ++ ys)]) else .no
def addO (S : Sto) : Option Ob → Option Ob → Rz D
  | some (.lst xs), some (.lst ys) => joinL xs ys S
  | _, _ => .no
def addD : D → D → Mo D
  | .int i, .int j => pure (.int (i + j))
  | .str x, .str y => fun S => if fit (x.length + y.length) = true then .ok (.str (x ++ y)) S else .no
  | .tup xs, .tup ys => fun S => if fit (xs.length + ys.length) = true then .ok (.tup (xs ++ ys)) S else .no
  | .loc l, .loc l' => fun S => addO S S[l]? S[l']?
  | _, _ => bad
def rAddA (K : PySem.W.Frag) : R2 := fun x y H Q => (∃ i j, x = .int i ∧ y = .int j ∧ Q (.int (i + j)) H) ∨ (∃ i j, x = .str i ∧ y = .str j ∧ i.length + j.length ≤ sizeLine ∧ Q (.str (i ++ j)) H) ∨ rCatA K x y H Q ∨ rCat x y H Q
theorem op_addA : OpR X (binaryOp .Add) (rAddA X.K) := op_add.or (op_add_str.or (op_catA.or op_cat))
theorem add_ok : S2 g (rAddA g.K) addD := fun m S H x y d e Q W sr rx ry h => by
  cases rx with
  | int i => cases ry with
    | int j => exact .inl ⟨i, j, rfl, rfl, h.here sr _ (.int _)⟩
    | _ => exact h.elim
  | str a => cases ry with
    | str b =>
      have h2 : PRx g m S H W (KD g Q) (if fit (a.length + b.length) = true then (Rz.ok (D.str (a ++ b)) S : Rz D) else .no) := h
      by_cases q : fit (a.length + b.length) = true
      · rw [if_pos q] at h2
        exact .inr (.inl ⟨a, b, rfl, rfl, fit_iff.mp q, h2.here sr _ (.str _)⟩)
      · rw [if_neg q] at h2; exact h2.elim
    | _ => exact h.elim
  | tup a xs ds hq rs => cases ry with
    | tup b ys es hq' rs' =>
      have h2 : PRx g m S H W (KD g Q) (if fit (ds.length + es.length) = true then (Rz.ok (D.tup (ds ++ es)) S : Rz D) else .no) := h
      by_cases q : fit (ds.length + es.length) = true
      · rw [if_pos q] at h2
        refine .inr (.inr (.inl ⟨a, b, xs, ys, rfl, rfl, hq, hq', by rw [rs.length, rs'.length]; exact fit_iff.mp q, fun e => ?_, fun _ e => ?_, fun _ _ => tup_new sr (rs.append rs') h2⟩))
        · subst e
          cases rs
          exact h2.here sr _ (.tup b ys es hq' rs')
        · subst e
          cases rs'
          rw [List.append_nil] at h2
          exact h2.here sr _ (.tup a xs ds hq rs)
      · rw [if_neg q] at h2; exact h2.elim
    | _ => exact h.elim
  | loc l hl => cases ry with
    | loc l' hl' =>
      have h2 : PRx g m S H W (KD g Q) (addO S S[l]? S[l']?) := h
      cases q : S[l]? with
      | none => rw [q] at h2; exact h2.elim
      | some ob =>
        rw [q] at h2
        cases ob with
        | lst ds =>
          cases q' : S[l']? with
          | none => rw [q'] at h2; exact h2.elim
          | some ob' =>
            rw [q'] at h2
            cases ob' with
            | lst es =>
              obtain ⟨_, xs, hx, rs⟩ := sr.atL q
              obtain ⟨_, ys, hy, rs'⟩ := sr.atL q'
              have h3 : PRx g m S H W (KD g Q) (if fit (ds.length + es.length) = true then (Rz.ok (D.loc S.length) (S ++ [.lst (ds ++ es)]) : Rz D) else .no) := h2
              by_cases qf : fit (ds.length + es.length) = true
              · rw [if_pos qf] at h3
                exact .inr (.inr (.inr ⟨m l, m l', xs, ys, rfl, rfl, hx, hy, by rw [rs.length, rs'.length]; exact fit_iff.mp qf, lst_new sr (rs.append rs') h3⟩))
              · rw [if_neg qf] at h3; exact h3.elim
            | _ => exact h2.elim
        | _ => exact h2.elim
    | _ => exact h.elim
  | _ => exact h.elim
theorem de_add {a b : Expr} {fa fb : DE} {W : WX} {pos : Pos} (hK : X.K = g.K) (ha : PE X a (tD g W fa)) (hb : PE X b (tD g W fb)) : PE X (.BinOp a .Add b pos) (tD g W (cOp addD fa fb)) := de_op op_addA (by rw [hK]; exact add_ok) ha hb

/-! ### other arithmetic -/
def intOp (C : Int → Int → Bool) (f : Int → Int → D) : D → D → Mo D
  | .int i, .int j => fun S => if C i j = true then .ok (f i j) S else .no
  | _, _ => bad
theorem intOp_ok {C : Int → Int → Bool} {P : Int → Int → Prop} {f : Int → Int → D} {fv : Int → Int → V} (hC : ∀ i j, C i j = true → P i j) (hf : ∀ i j m n H, VR g m n H (fv i j) (f i j)) : S2 g (rI P fv) (intOp C f) := fun m S H x y d e Q W sr rx ry h => by
  cases rx with
  | int i => cases ry with
    | int j =>
      have h2 : PRx g m S H W (KD g Q) (if C i j = true then (Rz.ok (f i j) S : Rz D) else .no) := h
      by_cases q : C i j = true
      · rw [if_pos q] at h2
        exact ⟨i, j, rfl, rfl, hC i j q, h2.here sr _ (hf i j _ _ _)⟩
      · rw [if_neg q] at h2; exact h2.elim
    | _ => exact h.elim
  | _ => exact h.elim
def intOp0 (f : Int → Int → D) : D → D → Mo D
  | .int i, .int j => pure (f i j)
  | _, _ => bad
theorem intOp0_ok {f : Int → Int → D} {fv : Int → Int → V} (hf : ∀ i j m n H, VR g m n H (fv i j) (f i j)) : S2 g (rI0 fv) (intOp0 f) := fun m S H x y d e Q W sr rx ry h => by
  cases rx with
  | int i => cases ry with
    | int j => exact ⟨i, j, rfl, rfl, h.here sr _ (hf i j _ _ _)⟩
    | _ => exact h.elim
  | _ => exact h.elim
abbrev subD : D → D → Mo D := intOp0 fun i j => .int (i - j)
instance decCMul (i j : Int) : Decidable (CMul i j) := inferInstanceAs (Decidable ((-(2 ^ 64) < i ∧ i < 2 ^ 64) ∨ (-(2 ^ 64) < j ∧ j < 2 ^ 64)))
instance decCMulW (i j : Int) : Decidable (CMulW i j) := inferInstanceAs (Decidable (i.natAbs.log2 + j.natAbs.log2 < 1000000))
/-- a product that the model can hold -/
@[irreducible] def okMul (i j : Int) : Bool := decide (CMul i j) || decide (CMulW i j)
@[irreducible] def okDiv (_ j : Int) : Bool := decide (j ≠ 0) && decide (j.natAbs.log2 < 9000)
@[irreducible] def okMod (_ j : Int) : Bool := decide (0 < j)
@[irreducible] def okPow (i j : Int) : Bool := decide (0 ≤ j) && (decide (j ≤ 1000000) && decide (i.natAbs < 2 ^ 64))
@[irreducible] def okShr (_ j : Int) : Bool := decide (0 ≤ j)
theorem okMul_iff {i j : Int} : okMul i j = true ↔ (CMul i j ∨ CMulW i j) := by unfold okMul; simp
theorem okDiv_iff {i j : Int} : okDiv i j = true ↔ (j ≠ 0 ∧ j.natAbs.log2 < 9000) := by unfold okDiv; simp
theorem okMod_iff {i j : Int} : okMod i j = true ↔ 0 < j := by unfold okMod; simp
theorem okPow_iff {i j : Int} : okPow i j = true ↔ (0 ≤ j ∧ j ≤ 1000000 ∧ i.natAbs < 2 ^ 64) := by unfold okPow; simp only [Bool.and_eq_true, decide_eq_true_eq]
theorem okShr_iff {i j : Int} : okShr i j = true ↔ 0 ≤ j := by unfold okShr; simp
abbrev mulD : D → D → Mo D := intOp okMul fun i j => .int (i * j)
abbrev fdivD : D → D → Mo D := intOp okDiv fun i j => .int (i.fdiv j)
abbrev modD : D → D → Mo D := intOp okMod fun i j => .int (i % j)
abbrev powD : D → D → Mo D := intOp okPow fun i j => .int (i ^ j.toNat)
abbrev shrD : D → D → Mo D := intOp okShr fun i j => .int (i / 2 ^ j.toNat)
abbrev andD : D → D → Mo D := intOp0 fun i j => .int (Builtin.bitAnd i j)
theorem op_fdivA : OpR X (binaryOp .FloorDiv) (rI (fun _ j => j ≠ 0 ∧ j.natAbs.log2 < 9000) fun i j => .int (i.fdiv j)) := opI fun _ _ _ _ _ _ _ hc q => floordiv_int hc.1 q (.inl (PyProof.noPylong_of_log2 hc.2))
theorem op_mulA : OpR X (binaryOp .Mult) (rI (fun i j => CMul i j ∨ CMulW i j) fun i j => .int (i * j)) := opI fun _ _ _ _ _ _ _ hc q => mul_int q (hc.elim CMul.ok CMulW.ok)
variable {a b : Expr} {fa fb : DE} {W : WX} {pos : Pos}
theorem de_sub (ha : PE X a (tD g W fa)) (hb : PE X b (tD g W fb)) : PE X (.BinOp a .Sub b pos) (tD g W (cOp subD fa fb)) := de_op op_sub (intOp0_ok fun _ _ _ _ _ => .int _) ha hb
theorem de_mul (ha : PE X a (tD g W fa)) (hb : PE X b (tD g W fb)) : PE X (.BinOp a .Mult b pos) (tD g W (cOp mulD fa fb)) := de_op op_mulA (intOp_ok (fun _ _ => okMul_iff.mp) fun _ _ _ _ _ => .int _) ha hb
theorem de_fdiv (ha : PE X a (tD g W fa)) (hb : PE X b (tD g W fb)) : PE X (.BinOp a .FloorDiv b pos) (tD g W (cOp fdivD fa fb)) := de_op op_fdivA (intOp_ok (fun _ _ => okDiv_iff.mp) fun _ _ _ _ _ => .int _) ha hb
theorem de_mod (ha : PE X a (tD g W fa)) (hb : PE X b (tD g W fb)) : PE X (.BinOp a .Mod b pos) (tD g W (cOp modD fa fb)) := de_op op_mod (intOp_ok (fun _ _ => okMod_iff.mp) fun _ _ _ _ _ => .int _) ha hb
theorem de_pow (ha : PE X a (tD g W fa)) (hb : PE X b (tD g W fb)) : PE X (.BinOp a .Pow b pos) (tD g W (cOp powD fa fb)) := de_op op_pow (intOp_ok (fun _ _ => okPow_iff.mp) fun _ _ _ _ _ => .int _) ha hb
theorem de_shr (ha : PE X a (tD g W fa)) (hb : PE X b (tD g W fb)) : PE X (.BinOp a .RShift b pos) (tD g W (cOp shrD fa fb)) := de_op op_shr (intOp_ok (fun _ _ => okShr_iff.mp) fun _ _ _ _ _ => .int _) ha hb
theorem de_band (ha : PE X a (tD g W fa)) (hb : PE X b (tD g W fb)) : PE X (.BinOp a .BitAnd b pos) (tD g W (cOp andD fa fb)) := de_op op_and (intOp0_ok fun _ _ _ _ _ => .int _) ha hb
def negD : D → Mo D
  | .int i => pure (.int (-i))
  | _ => bad
theorem de_neg (ha : PE X a (tD g W fa)) : PE X (.UnaryOp .USub a pos) (tD g W (cUn negD fa)) := de_un un_neg (fun m S H x d Q W sr rx h => by
  cases rx with
  | int i => exact ⟨i, rfl, h.here sr _ (.int _)⟩
  | _ => exact h.elim) ha

/-! ### comparisons -/
abbrev ltI : D → D → Mo D := intOp0 fun i j => .bl (decide (i < j))
abbrev leI : D → D → Mo D := intOp0 fun i j => .bl (decide (i ≤ j))
abbrev gtI : D → D → Mo D := intOp0 fun i j => .bl (decide (j < i))
abbrev geI : D → D → Mo D := intOp0 fun i j => .bl (decide (j ≤ i))
theorem lt_ok : S2 g (rI0 fun i j => .bl (decide (i < j))) ltI := intOp0_ok fun _ _ _ _ _ => .bl _
theorem le_ok : S2 g (rI0 fun i j => .bl (decide (i ≤ j))) leI := intOp0_ok fun _ _ _ _ _ => .bl _
theorem gt_ok : S2 g (rI0 fun i j => .bl (decide (j < i))) gtI := intOp0_ok fun _ _ _ _ _ => .bl _
theorem ge_ok : S2 g (rI0 fun i j => .bl (decide (j ≤ i))) geI := intOp0_ok fun _ _ _ _ _ => .bl _
def isNone : D → D → Mo D
  | .non, .non => pure (.bl true)
  | .bl _, .non => pure (.bl false)
  | .int _, .non => pure (.bl false)
  | .str _, .non => pure (.bl false)
  | .tup _, .non => pure (.bl false)
  | .lsc _, .non => pure (.bl false)
  | .loc _, .non => pure (.bl false)
  | .cls _, .non => pure (.bl false)
  | .fnc _, .non => pure (.bl false)
  | .ty _, .non => pure (.bl false)
  | _, _ => bad
def notB : D → Mo D
  | .bl b => pure (.bl (!b))
  | _ => bad
def notNone (d e : D) : Mo D := isNone d e >>= notB
theorem isN_ok : S2 g (fun x y H Q => y = .non ∧ Q (.bl (decide (x = .non))) H) isNone := fun m S H x y d e Q W sr rx ry h => by
  cases ry with
  | non => cases rx <;> exact ⟨rfl, h.here sr _ (.bl _)⟩
  | _ => cases rx <;> exact h.elim
theorem notN_ok : S2 g (fun x y H Q => y = .non ∧ Q (.bl (!decide (x = .non))) H) notNone := fun m S H x y d e Q W sr rx ry h => by
  cases ry with
  | non => cases rx <;> exact ⟨rfl, h.here sr _ (.bl _)⟩
  | _ => cases rx <;> exact h.elim

/-! ### == of data -/
def flatD : D → Bool
  | .non => true
  | .bl _ => true
  | .int _ => true
  | .str _ => true
  | _ => false
def eqF : D → D → Bool
  | .non, .non => true
  | .bl a, .bl b => a == b
  | .bl a, .int b => (if a then 1 else 0) == b
  | .int a, .bl b => a == (if b then 1 else 0)
  | .int a, .int b => a == b
  | .str a, .str b => a == b
  | _, _ => false
theorem flat_rel {m : Nat → Addr} {n : Nat} {H : Hp} {x : V} {d : D} (r : VR g m n H x d) (h : flatD d = true) : flatV x = true := by
  cases r <;> first | rfl | cases h
theorem flats_rel {m : Nat → Addr} {n : Nat} {H : Hp} : ∀ {xs : List V} {ds : List D}, VRs g m n H xs ds → ds.all flatD = true → xs.all flatV = true
  | _, _, .nil, _ => rfl
  | _, _, .cons x d xs ds r rs, h => by
    rw [List.all_cons, Bool.and_eq_true] at h
    rw [List.all_cons, flat_rel r h.1, flats_rel rs h.2]
    rfl
theorem eqF_rel {m : Nat → Addr} {n : Nat} {H : Hp} {x y : V} {d e : D} (rx : VR g m n H x d) (ry : VR g m n H y e) (hx : flatD d = true) (hy : flatD e = true) : eqV x y = eqF d e := by
  cases rx <;> first | (cases hx; done) | skip
  all_goals (cases ry <;> first | rfl | (cases hy; done))

/-! ### == -/
def lstO : Option Ob → Option (List D)
  | some (.lst xs) => some xs
  | _ => none
/-- the items of a list -/
def lstS (S : Sto) : D → Option (List D)
  | .lsc xs => some xs
  | .loc l => lstO S[l]?
  | _ => none
def scalF (d e : D) : Option Bool := if (flatD d && flatD e) = true then some (eqF d e) else none
def eqAll (f : D → D → Option Bool) : List D → List D → Option Bool
  | x :: xs, y :: ys => match f x y, eqAll f xs ys with
    | some a, some b => some (a && b)
    | _, _ => none
  | _, _ => some true
def sameI : D → D → Option Bool
  | .loc l, .loc l' => if l = l' then some true else none
  | _, _ => none
def eqL (f : D → D → Option Bool) (S : Sto) (d e : D) : Option Bool := match lstS S d, lstS S e with
  | some xs, some ys => if xs.length = ys.length then eqAll f xs ys else some false
  | some _, none => if flatD e = true then some false else none
  | none, some _ => if flatD d = true then some false else none
  | none, none => sameI d e
def eqC (f : D → D → Option Bool) (S : Sto) : D → D → Option Bool
  | .tup xs, .tup ys => (eqAll f xs ys).map fun b => b && decide (xs.length = ys.length)
  | .tup _, e => if (flatD e || (lstS S e).isSome) = true then some false else none
  | d, .tup _ => if (flatD d || (lstS S d).isSome) = true then some false else none
  | d, e => eqL f S d e
def eqN (S : Sto) : Nat → D → D → Option Bool
  | 0, d, e => scalF d e
  | n + 1, d, e => match scalF d e with
    | some b => some b
    | none => eqC (eqN S n) S d e
def okTop (S : Sto) : D → Bool
  | .tup _ => true
  | d => flatD d || (lstS S d).isSome
def eqQ (d e : D) (S : Sto) : Option Bool := if (okTop S d && okTop S e) = true then eqN S 60 d e else none
def eqD (d e : D) : Mo D := fun S => match eqQ d e S with
  | some b => .ok (.bl b) S
  | none => .no
def neD (d e : D) : Mo D := fun S => match eqQ d e S with
  | some b => .ok (.bl (!b)) S
  | none => .no
theorem scalF_some {d e : D} {b : Bool} (h : scalF d e = some b) : flatD d = true ∧ flatD e = true ∧ b = eqF d e := by
  unfold scalF at h
  split at h
  · rename_i q
    rw [Bool.and_eq_true] at q
    cases h
    exact ⟨q.1, q.2, rfl⟩
  · cases h
theorem eqAll_get {f : D → D → Option Bool} : ∀ {xs ys : List D} {b : Bool}, eqAll f xs ys = some b → ∃ e : Nat → Bool, (∀ j x y, xs[j]? = some x → ys[j]? = some y → f x y = some (e j)) ∧ b = (List.range (min xs.length ys.length)).all e
  | [], ys, b, h => by
    have : b = true := by cases ys <;> (cases h; rfl)
    subst this
    exact ⟨fun _ => true, fun j x y h => by simp at h, by simp⟩
  | _ :: _, [], b, h => by
    cases h
    exact ⟨fun _ => true, fun j x y _ h => by simp at h, by simp⟩
  | x :: xs, y :: ys, b, h => by
    unfold eqAll at h
    cases q : f x y with
    | none => simp only [q] at h; cases h
    | some a =>
      cases q2 : eqAll f xs ys with
      | none => simp only [q, q2] at h; cases h
      | some c =>
        simp only [q, q2] at h
        cases h
        obtain ⟨e, h1, h2⟩ := eqAll_get q2
        refine ⟨fun j => match j with | 0 => a | j + 1 => e j, fun j x' y' hx hy => ?_, ?_⟩
        · cases j with
          | zero => simp at hx hy; subst hx; subst hy; exact q
          | succ j => exact h1 j x' y' (by simpa using hx) (by simpa using hy)
        · rw [h2]
          show (a && (List.range (min xs.length ys.length)).all e) = _
          rw [List.length_cons, List.length_cons, Nat.succ_min_succ, List.range_succ_eq_map, List.all_cons, List.all_map]
          rfl
section
variable {pins : List (Addr × Obj)} {σ : L2.St} {m : Nat → Addr} {S : Sto} {H : Hp} {s : Shared}
theorem lstS_ok {d : D} {v : V} {xs : List D} (sr : SR g m H S) (r : VR g m S.length H v d) (h : lstS S d = some xs) : ∃ a vs, v = .ref a ∧ SqL g.K H a vs ∧ VRs g m S.length H vs xs := by
  cases r with
  | lsc a vs ds hq rs => cases h; exact ⟨a, vs, rfl, hq.sq, rs⟩
  | loc l hl =>
    have h2 : lstO S[l]? = some xs := h
    cases q : S[l]? with
    | none => rw [q] at h2; cases h2
    | some o =>
      rw [q] at h2
      cases o with
      | lst ys =>
        cases h2
        obtain ⟨_, vs, hv, rs⟩ := sr.atL q
        exact ⟨m l, vs, rfl, SqL.of hv, rs⟩
      | _ => cases h2
  | _ => cases h
theorem eq_same (I : Inv X pins σ H s) (sr : SR g m H S) (hK : X.K = g.K) : ∀ (n : Nat) {d e : D} {b : Bool} {v v' : V}, eqN S n d e = some b → VR g m S.length H v d → VR g m S.length H v' e → v = v' → b = true := by
  have flat : ∀ {d e : D} {b : Bool} {v v' : V}, scalF d e = some b → VR g m S.length H v d → VR g m S.length H v' e → v = v' → b = true := by
    intro d e b v v' h r r' ev
    obtain ⟨h1, h2, rfl⟩ := scalF_some h
    cases r <;> first | (cases h1; done) | (cases r' <;> first | (cases h2; done) | (cases ev; done) | (cases ev; simp [eqF]))
  have all : ∀ (f : D → D → Option Bool), (∀ {d e : D} {b : Bool} {v v' : V}, f d e = some b → VR g m S.length H v d → VR g m S.length H v' e → v = v' → b = true) → ∀ {vs vs' : List V} {xs ys : List D} {b : Bool}, VRs g m S.length H vs xs → VRs g m S.length H vs' ys → vs = vs' → eqAll f xs ys = some b → b = true := by
    intro f hf vs
    induction vs with
    | nil => intro vs' xs ys b r r' ev h; subst ev; cases r; cases r'; cases h; rfl
    | cons v vs ih =>
      intro vs' xs ys b r r' ev h
      subst ev
      cases r with
      | cons _ d _ ds r1 rs =>
        cases r' with
        | cons _ e _ es r1' rs' =>
          unfold eqAll at h
          cases q : f d e with
          | none => simp only [q] at h; cases h
          | some a =>
            cases q2 : eqAll f ds es with
            | none => simp only [q, q2] at h; cases h
            | some c =>
              simp only [q, q2] at h
              cases h
              rw [hf q r1 r1' rfl, ih rs rs' rfl q2]
              rfl
  intro n
  induction n with
  | zero => intro d e b v v' h r r' ev; exact flat h r r' ev
  | succ n ih =>
    intro d e b v v' h r r' ev
    unfold eqN at h
    cases q : scalF d e with
    | some c => rw [q] at h; cases h; exact flat q r r' ev
    | none =>
      rw [q] at h
      dsimp only at h
      have nf : ∀ {d : D} {a : Addr} {v : V}, v = .ref a → VR g m S.length H v d → flatD d = false := by
        intro d a v ev r
        cases r <;> first | rfl | cases ev
      have lists : ∀ {a : Addr} {d e : D}, v = .ref a → VR g m S.length H v d → VR g m S.length H v' e → eqL (eqN S n) S d e = some b → b = true := by
        intro a d e hv r r' h
        unfold eqL at h
        cases q1 : lstS S d with
        | some xs =>
          cases q2 : lstS S e with
          | some ys =>
            simp only [q1, q2] at h
            obtain ⟨a, vs, e1, s1, r1⟩ := lstS_ok sr r q1
            obtain ⟨a', vs', e2, s2, r2⟩ := lstS_ok sr r' q2
            rw [e1, e2] at ev; cases ev
            have := I.list_inj (hK ▸ s1) (hK ▸ s2)
            subst this
            rw [if_pos (by rw [← r1.length, ← r2.length])] at h
            exact all _ ih r1 r2 rfl h
          | none =>
            simp only [q1, q2, nf (ev ▸ hv) r'] at h
            cases h
        | none =>
          cases q2 : lstS S e with
          | some ys =>
            simp only [q1, q2, nf hv r] at h
            cases h
          | none =>
            simp only [q1, q2] at h
            cases d with
            | loc l =>
              cases e with
              | loc l' =>
                have h' : (if l = l' then some true else none) = some b := h
                split at h'
                · cases h'; rfl
                · cases h'
              | _ => cases h
            | _ => cases e <;> cases h
      have tup : ∀ {a : Addr} {vs : List V} {w : V} {e : D}, SqT g.K H a vs → VR g m S.length H w e → w = .ref a → ∀ {ys : List D}, lstS S e = some ys → False := by
        intro a vs w e ht r ew ys hy
        obtain ⟨a', vs', e1, s1, _⟩ := lstS_ok sr r hy
        rw [e1] at ew; cases ew
        obtain ⟨its, _, p, _⟩ := I.tuple (hK ▸ ht)
        obtain ⟨its', _, p', _⟩ := I.list (hK ▸ s1)
        obtain ⟨o, e1, c1, _⟩ := p
        obtain ⟨o', n', e2, c2, _⟩ := p'
        rw [e1] at e2; cases e2
        rw [c1] at c2
        exact absurd c2 (by simp)
      have tup' : ∀ {a : Addr} {vs : List V} {w : V} {e : D}, SqT g.K H a vs → VR g m S.length H w e → w = .ref a → (if (flatD e || (lstS S e).isSome) = true then some false else none) = some b → b = true := by
        intro a vs w e ht r ew h
        rw [nf ew r] at h
        cases q1 : lstS S e with
        | none => rw [q1] at h; cases h
        | some ys => exact (tup ht r ew q1).elim
      have key : ∀ {d e : D}, (∀ xs, d ≠ .tup xs) → (∀ xs, e ≠ .tup xs) → eqC (eqN S n) S d e = eqL (eqN S n) S d e := by
        intro d e h1 h2
        cases d <;> cases e <;> first | rfl | exact absurd rfl (h1 _) | exact absurd rfl (h2 _)
      cases r with
      | tup a vs xs ht rs =>
        cases r' with
        | tup a' vs' ys ht' rs' =>
          cases ev
          have := I.tuple_inj (hK ▸ ht) (hK ▸ ht')
          subst this
          obtain ⟨c, q1, rfl⟩ := Option.map_eq_some_iff.mp (show (eqAll (eqN S n) xs ys).map (fun b => b && decide (xs.length = ys.length)) = some b from h)
          rw [all _ ih rs rs' rfl q1, ← rs.length, ← rs'.length]
          simp
        | loc l hl => exact tup' ht (.loc l hl) ev.symm h
        | lsc a' vs' ys hq rs' => exact tup' ht (.lsc _ _ _ hq rs') ev.symm h
        | cls c => exact tup' ht (.cls c) ev.symm h
        | fnc c => exact tup' ht (.fnc c) ev.symm h
        | _ => cases ev
      | loc l hl =>
        cases r' with
        | tup a' vs' ys ht' rs' => exact tup' ht' (.loc l hl) ev h
        | _ => first | (cases ev; done) | (rw [key (by intro _ z; cases z) (by intro _ z; cases z)] at h; exact lists rfl (.loc l hl) (by first | exact .loc _ (by assumption) | exact .lsc _ _ _ (by assumption) (by assumption) | exact .cls _ | exact .fnc _) h)
      | lsc a vs xs hq rs =>
        cases r' with
        | tup a' vs' ys ht' rs' => exact tup' ht' (.lsc _ _ _ hq rs) ev h
        | _ => first | (cases ev; done) | (rw [key (by intro _ z; cases z) (by intro _ z; cases z)] at h; exact lists rfl (.lsc _ _ _ hq rs) (by first | exact .loc _ (by assumption) | exact .lsc _ _ _ (by assumption) (by assumption) | exact .cls _ | exact .fnc _) h)
      | cls c =>
        cases r' with
        | tup a' vs' ys ht' rs' => exact tup' ht' (.cls c) ev h
        | _ => first | (cases ev; done) | (rw [key (by intro _ z; cases z) (by intro _ z; cases z)] at h; exact lists rfl (.cls c) (by first | exact .loc _ (by assumption) | exact .lsc _ _ _ (by assumption) (by assumption) | exact .cls _ | exact .fnc _) h)
      | fnc c =>
        cases r' with
        | tup a' vs' ys ht' rs' => exact tup' ht' (.fnc c) ev h
        | _ => first | (cases ev; done) | (rw [key (by intro _ z; cases z) (by intro _ z; cases z)] at h; exact lists rfl (.fnc c) (by first | exact .loc _ (by assumption) | exact .lsc _ _ _ (by assumption) (by assumption) | exact .cls _ | exact .fnc _) h)
      | _ => cases r' <;> first | (cases ev; done) | (cases q; done) | (rw [key (by intro _ z; cases z) (by intro _ z; cases z)] at h; cases h)

theorem flat_ne {d : D} {v : V} {n : Nat} {A : Around} {a : Addr} {its : Array Value} {v' : Value} (r : VR g m n H v d) (h : flatD d = true) (rv : RelV v v') (hu : A.units < cLine) :
    (s.heap.IsTuple a its → SeqAt.EqAt A s (.ref a) v' false ∧ SeqAt.EqAt A s v' (.ref a) false ∧ SeqAt.RcAt A s (.ref a) v' false ∧ SeqAt.RcAt A s v' (.ref a) false ∧ SeqAt.RcNeAt A s (.ref a) v' true ∧ SeqAt.RcNeAt A s v' (.ref a) true) ∧
    (s.heap.IsList a its → SeqAt.EqAt A s (.ref a) v' false ∧ SeqAt.EqAt A s v' (.ref a) false ∧ SeqAt.RcAt A s (.ref a) v' false ∧ SeqAt.RcAt A s v' (.ref a) false ∧ SeqAt.RcNeAt A s (.ref a) v' true ∧ SeqAt.RcNeAt A s v' (.ref a) true) := by
  cases r with
  | non => cases rv; exact ⟨fun p => ⟨.tuple_none p hu, .none_tuple p hu, .tuple_none p hu, .none_tuple p hu, .tuple_none p hu, .none_tuple p hu⟩, fun p => ⟨.list_none p hu, .none_list p hu, .list_none p hu, .none_list p hu, .list_none p hu, .none_list p hu⟩⟩
  | bl b => cases rv; exact ⟨fun p => ⟨.tuple_bool _ p hu, .bool_tuple _ p hu, .tuple_bool _ p hu, .bool_tuple _ p hu, .tuple_bool _ p hu, .bool_tuple _ p hu⟩, fun p => ⟨.list_bool _ p hu, .bool_list _ p hu, .list_bool _ p hu, .bool_list _ p hu, .list_bool _ p hu, .bool_list _ p hu⟩⟩
  | int i => obtain ⟨t, rfl⟩ := rv; exact ⟨fun p => ⟨.tuple_int _ _ p hu, .int_tuple _ _ p hu, .tuple_int _ _ p hu, .int_tuple _ _ p hu, .tuple_int _ _ p hu, .int_tuple _ _ p hu⟩, fun p => ⟨.list_int _ _ p hu, .int_list _ _ p hu, .list_int _ _ p hu, .int_list _ _ p hu, .list_int _ _ p hu, .int_list _ _ p hu⟩⟩
  | str i => obtain ⟨t, rfl⟩ := rv; exact ⟨fun p => ⟨.tuple_str _ _ p hu, .str_tuple _ _ p hu, .tuple_str _ _ p hu, .str_tuple _ _ p hu, .tuple_str _ _ p hu, .str_tuple _ _ p hu⟩, fun p => ⟨.list_str _ _ p hu, .str_list _ _ p hu, .list_str _ _ p hu, .str_list _ _ p hu, .list_str _ _ p hu, .str_list _ _ p hu⟩⟩
  | _ => cases h
/-- what two values' equality is, at the place of an item and at the top -/
structure Three (A : Around) (s : Shared) (v w : Value) (b : Bool) : Prop where
  rc : SeqAt.RcAt A s v w b
  ne : SeqAt.RcNeAt A s v w (!b)
theorem flat_eq {d e : D} {b : Bool} {n : Nat} {v w : V} {v' w' : Value} {A : Around} (h : scalF d e = some b) (r : VR g m n H v d) (r' : VR g m n H w e) (rv : RelV v v') (rw' : RelV w w') : SeqAt.EqAt A s v' w' b ∧ Three A s v' w' b := by
  obtain ⟨h1, h2, rfl⟩ := scalF_some h
  refine ⟨?_, ?_, ?_⟩
  · rw [← eqF_rel r r' h1 h2]
    exact eqAt_V rv rw' (flat_rel r h1) (flat_rel r' h2)
  · cases r <;> first | (cases h1; done) | (cases r' <;> first | (cases h2; done) | skip)
    all_goals (try (obtain ⟨t, rfl⟩ := rv)); (try (obtain ⟨t', rfl⟩ := rw')); (try cases rv); (try cases rw')
    · exact .none_none
    · exact .none_bool _
    · exact .none_int _ _
    · exact .none_str _ _
    · exact .bool_none _
    · exact .bool_bool _ _
    · exact .bool_int _ _ _
    · exact .bool_str _ _ _
    · exact .int_none _ _
    · exact .int_bool _ _ _
    · exact .int_int _ _ _ _
    · exact .int_str _ _ _ _
    · exact .str_none _ _
    · exact .str_bool _ _ _
    · exact .str_int _ _ _ _
    · exact .str_str _ _ _ _
  · cases r <;> first | (cases h1; done) | (cases r' <;> first | (cases h2; done) | skip)
    all_goals (try (obtain ⟨t, rfl⟩ := rv)); (try (obtain ⟨t', rfl⟩ := rw')); (try cases rv); (try cases rw')
    · exact .none_none
    · exact .none_bool _
    · exact .none_int _ _
    · exact .none_str _ _
    · exact .bool_none _
    · exact .bool_bool _ _
    · exact .bool_int _ _ _
    · exact .bool_str _ _ _
    · exact .int_none _ _
    · exact .int_bool _ _ _
    · exact .int_int _ _ _ _
    · exact .int_str _ _ _ _
    · exact .str_none _ _
    · exact .str_bool _ _ _
    · exact .str_int _ _ _ _
    · exact .str_str _ _ _ _

theorem items_at {f : D → D → Option Bool} {A : Around} {xs ys : List D} {vs ws : List V} {its its' : List Value} {b : Bool} (hf : ∀ {d e : D} {b : Bool} {v w : V} {v' w' : Value}, f d e = some b → VR g m S.length H v d → VR g m S.length H w e → RelV v v' → RelV w w' → SeqAt.EqAt A s v' w' b)
    (h : eqAll f xs ys = some b) (r1 : VRs g m S.length H vs xs) (r2 : VRs g m S.length H ws ys) (v1 : Vals vs its) (v2 : Vals ws its') :
    ∃ e : Nat → Bool, (∀ j (h1 : j < its.toArray.size) (h2 : j < its'.toArray.size), SeqAt.EqAt A s its.toArray[j] its'.toArray[j] (e j)) ∧ b = (List.range (min its.toArray.size its'.toArray.size)).all e := by
  obtain ⟨e, h1, h2⟩ := eqAll_get h
  have l1 : its.toArray.size = xs.length := by rw [List.size_toArray, ← v1.length, r1.length]
  have l2 : its'.toArray.size = ys.length := by rw [List.size_toArray, ← v2.length, r2.length]
  refine ⟨e, fun j j1 j2 => ?_, by rw [l1, l2]; exact h2⟩
  have j1' : j < xs.length := l1 ▸ j1
  have j2' : j < ys.length := l2 ▸ j2
  obtain ⟨x, hx, rx⟩ := r1.get (List.getElem?_eq_getElem j1')
  obtain ⟨y, hy, ry⟩ := r2.get (List.getElem?_eq_getElem j2')
  obtain ⟨u, hu, ru⟩ := v1.get hx
  obtain ⟨w, hw, rw'⟩ := v2.get hy
  have e1 : its.toArray[j] = u := by
    have : its[j]? = some u := hu
    rw [List.getElem?_eq_some_iff] at this
    obtain ⟨_, this⟩ := this
    simpa using this
  have e2 : its'.toArray[j] = w := by
    have : its'[j]? = some w := hw
    rw [List.getElem?_eq_some_iff] at this
    obtain ⟨_, this⟩ := this
    simpa using this
  rw [e1, e2]
  exact hf (h1 j _ _ (List.getElem?_eq_getElem j1') (List.getElem?_eq_getElem j2')) rx ry ru rw'
/-- the tops of two lists, two tuples -/
theorem lists_at {f : D → D → Option Bool} {A : Around} {xs ys : List D} {vs ws : List V} {a a' : Addr} {b : Bool} (I : Inv X pins σ H s) (hK : X.K = g.K) (hu : A.units < cLine) (hf : ∀ {d e : D} {b : Bool} {v w : V} {v' w' : Value}, f d e = some b → VR g m S.length H v d → VR g m S.length H w e → RelV v v' → RelV w w' → SeqAt.EqAt A.in1 s v' w' b)
    (h : (if xs.length = ys.length then eqAll f xs ys else some false) = some b) (s1 : SqL g.K H a vs) (s2 : SqL g.K H a' ws) (r1 : VRs g m S.length H vs xs) (r2 : VRs g m S.length H ws ys) : Three A s (.ref a) (.ref a') b := by
  obtain ⟨its, v1, p1, _⟩ := I.list (hK ▸ s1)
  obtain ⟨its', v2, p2, _⟩ := I.list (hK ▸ s2)
  have l1 : its.toArray.size = xs.length := by rw [List.size_toArray, ← v1.length, r1.length]
  have l2 : its'.toArray.size = ys.length := by rw [List.size_toArray, ← v2.length, r2.length]
  by_cases hl : xs.length = ys.length
  · rw [if_pos hl] at h
    obtain ⟨e, h1, h2⟩ := items_at hf h r1 r2 v1 v2
    have hm : min its.toArray.size its'.toArray.size = its.toArray.size := by rw [l1, l2, hl]; exact Nat.min_self _
    rw [hm] at h2
    rw [h2]
    exact ⟨.lists p1.isList p2.isList (by rw [l1, l2, hl]) hu h1, .lists p1.isList p2.isList (by rw [l1, l2, hl]) hu h1⟩
  · rw [if_neg hl] at h
    cases h
    have hne : (its.toArray.size != its'.toArray.size) = true := by rw [l1, l2]; simpa using hl
    exact ⟨.lists_lengths p1.isList p2.isList hne hu, .lists_lengths p1.isList p2.isList hne hu⟩
theorem tups_at {f : D → D → Option Bool} {A : Around} {xs ys : List D} {vs ws : List V} {a a' : Addr} {b : Bool} (I : Inv X pins σ H s) (hK : X.K = g.K) (hu : A.units < cLine) (hf : ∀ {d e : D} {b : Bool} {v w : V} {v' w' : Value}, f d e = some b → VR g m S.length H v d → VR g m S.length H w e → RelV v v' → RelV w w' → SeqAt.EqAt A.in1 s v' w' b)
    (h : (eqAll f xs ys).map (fun b => b && decide (xs.length = ys.length)) = some b) (s1 : SqT g.K H a vs) (s2 : SqT g.K H a' ws) (r1 : VRs g m S.length H vs xs) (r2 : VRs g m S.length H ws ys) : Three A s (.ref a) (.ref a') b := by
  obtain ⟨its, v1, p1, _⟩ := I.tuple (hK ▸ s1)
  obtain ⟨its', v2, p2, _⟩ := I.tuple (hK ▸ s2)
  have l1 : its.toArray.size = xs.length := by rw [List.size_toArray, ← v1.length, r1.length]
  have l2 : its'.toArray.size = ys.length := by rw [List.size_toArray, ← v2.length, r2.length]
  obtain ⟨c, hc, rfl⟩ := Option.map_eq_some_iff.mp h
  obtain ⟨e, h1, h2⟩ := items_at hf hc r1 r2 v1 v2
  have eb : (c && decide (xs.length = ys.length)) = ((List.range (min its.toArray.size its'.toArray.size)).all e && its.toArray.size == its'.toArray.size) := by
    rw [h2, l1, l2]
    rfl
  rw [eb]
  exact ⟨.tuples (show s.heap.IsTuple a its.toArray from p1) (show s.heap.IsTuple a' its'.toArray from p2) hu h1, .tuples (show s.heap.IsTuple a its.toArray from p1) (show s.heap.IsTuple a' its'.toArray from p2) hu h1⟩
/-- one level: what is asked of the items, and got -/
theorem eqC_at {n : Nat} {A : Around} {d e : D} {b : Bool} {v w : V} {v' w' : Value} (I : Inv X pins σ H s) (sr : SR g m H S) (hK : X.K = g.K) (hu : A.units < cLine)
    (hf : ∀ {d e : D} {b : Bool} {v w : V} {v' w' : Value}, eqN S n d e = some b → VR g m S.length H v d → VR g m S.length H w e → RelV v v' → RelV w w' → SeqAt.EqAt A.in1 s v' w' b)
    (h : eqC (eqN S n) S d e = some b) (r : VR g m S.length H v d) (r' : VR g m S.length H w e) (rv : RelV v v') (rw' : RelV w w') : (Three A s v' w' b ∧ (v' ≠ w' → SeqAt.EqAt A s v' w' b)) ∨ (b = true ∧ v' = w' ∧ ∃ l, d = .loc l ∧ lstS S d = none) := by
  have three : ∀ {a a' : Addr} {b : Bool}, Three A s (.ref a) (.ref a') b → Three A s (.ref a) (.ref a') b ∧ (Value.ref a ≠ Value.ref a' → SeqAt.EqAt A s (.ref a) (.ref a') b) := fun t => ⟨t, fun ne => .of_refs (fun z => ne (by rw [z])) t.rc⟩
  have lists : eqL (eqN S n) S d e = some b → (Three A s v' w' b ∧ (v' ≠ w' → SeqAt.EqAt A s v' w' b)) ∨ (b = true ∧ v' = w' ∧ ∃ l, d = .loc l ∧ lstS S d = none) := by
    intro h
    unfold eqL at h
    cases q1 : lstS S d with
    | some xs =>
      obtain ⟨a, vs, e1, s1, r1⟩ := lstS_ok sr r q1
      subst e1
      obtain rfl : v' = Value.ref a := rv
      obtain ⟨its, v1, p1, _⟩ := I.list (hK ▸ s1)
      cases q2 : lstS S e with
      | some ys =>
        obtain ⟨a', ws, e2, s2, r2⟩ := lstS_ok sr r' q2
        subst e2
        obtain rfl : w' = Value.ref a' := rw'
        simp only [q1, q2] at h
        exact .inl (three (lists_at I hK hu hf h s1 s2 r1 r2))
      | none =>
        simp only [q1, q2] at h
        by_cases q3 : flatD e = true
        · rw [if_pos q3] at h
          cases h
          obtain ⟨k1, k2, k3, k4, k5, k6⟩ := (flat_ne (s := s) (A := A) r' q3 rw' hu).2 p1.isList
          exact .inl ⟨⟨k3, k5⟩, fun _ => k1⟩
        · rw [if_neg q3] at h; cases h
    | none =>
      cases q2 : lstS S e with
      | some ys =>
        obtain ⟨a', ws, e2, s2, r2⟩ := lstS_ok sr r' q2
        subst e2
        obtain rfl : w' = Value.ref a' := rw'
        obtain ⟨its, v1, p1, _⟩ := I.list (hK ▸ s2)
        simp only [q1, q2] at h
        by_cases q3 : flatD d = true
        · rw [if_pos q3] at h
          cases h
          obtain ⟨k1, k2, k3, k4, k5, k6⟩ := (flat_ne (s := s) (A := A) r q3 rv hu).2 p1.isList
          exact .inl ⟨⟨k4, k6⟩, fun _ => k2⟩
        · rw [if_neg q3] at h; cases h
      | none =>
        simp only [q1, q2] at h
        cases r with
        | loc l hl =>
          cases r' with
          | loc l' hl' =>
            have h' : (if l = l' then some true else none) = some b := h
            split at h'
            · rename_i el
              cases h'
              subst el
              obtain rfl : v' = Value.ref (m l) := rv
              obtain rfl : w' = Value.ref (m l) := rw'
              exact .inr ⟨rfl, rfl, l, rfl, rfl⟩
            · cases h'
          | _ => cases h
        | _ => cases r' <;> cases h
  have tupL : ∀ {a : Addr} {vs : List V} {d : D} {w : V} {w' : Value}, SqT g.K H a vs → VR g m S.length H w d → RelV w w' → (if (flatD d || (lstS S d).isSome) = true then some false else none) = some b → b = false ∧ SeqAt.EqAt A s (.ref a) w' false ∧ SeqAt.EqAt A s w' (.ref a) false ∧ Three A s (.ref a) w' false ∧ Three A s w' (.ref a) false := by
    intro a vs d w w' ht r rr h
    obtain ⟨its, v1, p1, _⟩ := I.tuple (hK ▸ ht)
    have p1' : s.heap.IsTuple a its.toArray := p1
    by_cases q : (flatD d || (lstS S d).isSome) = true
    · rw [if_pos q] at h
      cases h
      by_cases q3 : flatD d = true
      · obtain ⟨k1, k2, k3, k4, k5, k6⟩ := (flat_ne (s := s) (A := A) r q3 rr hu).1 p1'
        exact ⟨rfl, k1, k2, ⟨k3, k5⟩, ⟨k4, k6⟩⟩
      · cases q1 : lstS S d with
        | none => rw [q1] at q; simp [q3] at q
        | some xs =>
          obtain ⟨a', ws, e2, s2, r2⟩ := lstS_ok sr r q1
          subst e2
          obtain rfl : w' = Value.ref a' := rr
          obtain ⟨its', v2, p2, _⟩ := I.list (hK ▸ s2)
          exact ⟨rfl, .tuple_list p1' p2.isList hu, .list_tuple p2.isList p1' hu, ⟨.tuple_list p1' p2.isList hu, .tuple_list p1' p2.isList hu⟩, ⟨.list_tuple p2.isList p1' hu, .list_tuple p2.isList p1' hu⟩⟩
    · rw [if_neg q] at h; cases h
  have key : ∀ {d e : D}, (∀ xs, d ≠ .tup xs) → (∀ xs, e ≠ .tup xs) → eqC (eqN S n) S d e = eqL (eqN S n) S d e := by
    intro d e h1 h2
    cases d <;> cases e <;> first | rfl | exact absurd rfl (h1 _) | exact absurd rfl (h2 _)
  by_cases hd : ∃ xs, d = .tup xs
  · obtain ⟨xs, rfl⟩ := hd
    cases r with
    | tup a vs _ ht rs =>
      obtain rfl : v' = Value.ref a := rv
      by_cases he : ∃ ys, e = .tup ys
      · obtain ⟨ys, rfl⟩ := he
        cases r' with
        | tup a' ws _ ht' rs' =>
          obtain rfl : w' = Value.ref a' := rw'
          exact .inl (three (tups_at I hK hu hf h ht ht' rs rs'))
      · have h' : (if (flatD e || (lstS S e).isSome) = true then some false else none) = some b := by
          cases e <;> first | exact h | exact absurd ⟨_, rfl⟩ he
        obtain ⟨rfl, k1, k2, k3, k4⟩ := tupL ht r' rw' h'
        exact .inl ⟨k3, fun _ => k1⟩
  · by_cases he : ∃ ys, e = .tup ys
    · obtain ⟨ys, rfl⟩ := he
      cases r' with
      | tup a' ws _ ht' rs' =>
        obtain rfl : w' = Value.ref a' := rw'
        have h' : (if (flatD d || (lstS S d).isSome) = true then some false else none) = some b := by
          cases d <;> first | exact h | exact absurd ⟨_, rfl⟩ hd
        obtain ⟨rfl, k1, k2, k3, k4⟩ := tupL ht' r rv h'
        exact .inl ⟨k4, fun _ => k2⟩
    · rw [key (fun xs z => hd ⟨xs, z⟩) (fun xs z => he ⟨xs, z⟩)] at h
      exact lists h
theorem relV_inj {v w : V} {a : Addr} (rv : RelV v (.ref a)) (rw' : RelV w (.ref a)) : v = w := by
  have := rv.abs
  have := rw'.abs
  simp_all [absV]
theorem eqN_at (I : Inv X pins σ H s) (sr : SR g m H S) (hK : X.K = g.K) : ∀ (n : Nat) {A : Around} {d e : D} {b : Bool} {v w : V} {v' w' : Value}, A.units + n < cLine → eqN S n d e = some b → VR g m S.length H v d → VR g m S.length H w e → RelV v v' → RelV w w' → SeqAt.EqAt A s v' w' b := by
  intro n
  induction n with
  | zero => intro A d e b v w v' w' hu h r r' rv rw'; exact (flat_eq h r r' rv rw').1
  | succ n ih =>
    intro A d e b v w v' w' hu h r r' rv rw'
    have h0 := h
    unfold eqN at h
    cases q : scalF d e with
    | some c => rw [q] at h; cases h; exact (flat_eq q r r' rv rw').1
    | none =>
      rw [q] at h
      dsimp only at h
      have hu2 : A.in1.units + n < cLine := by
        show A.units + 1 + n < cLine
        omega
      rcases eqC_at (A := A) I sr hK (by omega) (fun h r r' rv rw' => ih hu2 h r r' rv rw') h r r' rv rw' with ⟨_, k⟩ | ⟨rfl, rfl, _⟩
      · by_cases ev : v' = w'
        · have evw : v = w := by
            have a1 := rv.abs
            have a2 := rw'.abs
            rw [ev, a2] at a1
            exact (Option.some.inj a1).symm
          rw [eq_same I sr hK (n + 1) h0 r r' evw, ev]
          exact .same _
        · exact k ev
      · exact .same _
/-- the relation of two values by the store's data -/
def rEqS (g : Gx) : R2 := fun x y H Q => ∃ m S d e b, SR g m H S ∧ VR g m S.length H x d ∧ VR g m S.length H y e ∧ eqQ d e S = some b ∧ Q (.bl b) H
def rNeS (g : Gx) : R2 := fun x y H Q => ∃ m S d e b, SR g m H S ∧ VR g m S.length H x d ∧ VR g m S.length H y e ∧ eqQ d e S = some b ∧ Q (.bl (!b)) H
theorem eqQ_at (I : Inv X pins σ H s) (sr : SR g m H S) (hK : X.K = g.K) {A : Around} {d e : D} {b : Bool} {v w : V} {v' w' : Value} (hu : A.units + 64 < cLine) (h : eqQ d e S = some b) (r : VR g m S.length H v d) (r' : VR g m S.length H w e) (rv : RelV v v') (rw' : RelV w w') : Three A s v' w' b := by
  unfold eqQ at h
  by_cases ht : (okTop S d && okTop S e) = true
  · rw [if_pos ht, show (60 : Nat) = 59 + 1 from rfl] at h
    unfold eqN at h
    cases q : scalF d e with
    | some c => rw [q] at h; cases h; exact (flat_eq q r r' rv rw').2
    | none =>
      rw [q] at h
      dsimp only at h
      have hu2 : A.in1.units + 59 < cLine := by
        show A.units + 1 + 59 < cLine
        omega
      rcases eqC_at (A := A) I sr hK (by omega) (fun h r r' rv rw' => eqN_at I sr hK 59 hu2 h r r' rv rw') h r r' rv rw' with ⟨k, _⟩ | ⟨_, _, l, rfl, hn⟩
      · exact k
      · rw [Bool.and_eq_true] at ht
        have t1 : (false || (lstS S (.loc l)).isSome) = true := ht.1
        rw [hn] at t1
        cases t1
  · rw [if_neg ht] at h; cases h
end
theorem op_eqA {k : Nat} (hK : X.K = g.K) (hr : Room k X.A) : OpR X (compareOp .Eq) (rEqS g) := fun pins s σ H x y v u Q I rx ry h => by
  obtain ⟨m, S, d, e, b, sr, r1, r2, hq, q⟩ := h
  exact (eqQ_at I sr hK hr.units hq r1 r2 rx ry).rc X.prog X.w _ _ ⟨.bl b, H, I, rfl, q⟩
theorem op_neA {k : Nat} (hK : X.K = g.K) (hr : Room k X.A) : OpR X (compareOp .NotEq) (rNeS g) := fun pins s σ H x y v u Q I rx ry h => by
  obtain ⟨m, S, d, e, b, sr, r1, r2, hq, q⟩ := h
  exact (eqQ_at I sr hK hr.units hq r1 r2 rx ry).ne X.prog X.w _ _ ⟨.bl (!b), H, I, rfl, q⟩
theorem eq_ok : S2 g (rEqS g) eqD := fun m S H x y d e Q W sr rx ry h => by
  unfold eqD at h
  cases z : eqQ d e S with
  | none => rw [z] at h; exact h.elim
  | some b => rw [z] at h; exact ⟨m, S, d, e, b, sr, rx, ry, z, h.here sr _ (.bl _)⟩
theorem ne_ok : S2 g (rNeS g) neD := fun m S H x y d e Q W sr rx ry h => by
  unfold neD at h
  cases z : eqQ d e S with
  | none => rw [z] at h; exact h.elim
  | some b => rw [z] at h; exact ⟨m, S, d, e, b, sr, rx, ry, z, h.here sr _ (.bl _)⟩
end
end Sm
end
section
/-! Sm, part G: subscripts, slices, membership, dicts, built-in functions, methods of lists. -/
namespace Sm
open PySem PySem.Spec PyProof.Rows L2

section
variable {X : Cx} {g : Gx} {W : WX} {a b c e o : Expr} {es : List Expr} {fa fb fc fo : DE} {fs : En → Mo (List D)} {pos : Pos}
def ar1 (h : D → Mo D) : List D → Mo D
  | [d] => h d
  | _ => bad
def ar2 (h : D → D → Mo D) : List D → Mo D
  | [d, e] => h d e
  | _ => bad
theorem SC.one {r : List V → Hp → VK → Prop} {h : D → Mo D} (k : ∀ (m : Nat → Addr) (S : Sto) (H : Hp) (x : V) (d : D) (Q : VK) (W : XK), SR g m H S → VR g m S.length H x d → PRx g m S H W (KD g Q) (h d S) → r [x] H Q) : SC g r (ar1 h) := fun m S H xs ds Q W sr rs p => by
  cases rs with
  | nil => exact p.elim
  | cons x d xs ds rx rs =>
    cases rs with
    | nil => exact k m S H x d Q W sr rx p
    | cons _ _ _ _ _ _ => exact p.elim
theorem SC.two {r : List V → Hp → VK → Prop} {h : D → D → Mo D} (k : ∀ (m : Nat → Addr) (S : Sto) (H : Hp) (x y : V) (d e : D) (Q : VK) (W : XK), SR g m H S → VR g m S.length H x d → VR g m S.length H y e → PRx g m S H W (KD g Q) (h d e S) → r [x, y] H Q) : SC g r (ar2 h) := fun m S H xs ds Q W sr rs p => by
  cases rs with
  | nil => exact p.elim
  | cons x d xs ds rx rs =>
    cases rs with
    | nil => exact p.elim
    | cons y e xs ds ry rs =>
      cases rs with
      | nil => exact k m S H x y d e Q W sr rx ry p
      | cons _ _ _ _ _ _ => exact p.elim
theorem SM.none {r : V → List V → Hp → VK → Prop} {h : D → List D → Mo D} (k : ∀ (m : Nat → Addr) (S : Sto) (H : Hp) (x : V) (d : D) (Q : VK) (W : XK), SR g m H S → VR g m S.length H x d → PRx g m S H W (KD g Q) (h d [] S) → r x [] H Q) (hb : ∀ d e es S, h d (e :: es) S = .no) : SM g r h := fun m S H x xs d ds Q W sr rx rs p => by
  cases rs with
  | nil => exact k m S H x d Q W sr rx p
  | cons _ _ _ _ _ _ => rw [hb] at p; exact p.elim
def am0 (h : D → Mo D) : D → List D → Mo D := fun d ds => match ds with
  | [] => h d
  | _ :: _ => bad
def am1 (h : D → D → Mo D) : D → List D → Mo D := fun d ds => ar1 (h d) ds
theorem SM.zero {r : V → List V → Hp → VK → Prop} {h : D → Mo D} (k : ∀ (m : Nat → Addr) (S : Sto) (H : Hp) (x : V) (d : D) (Q : VK) (W : XK), SR g m H S → VR g m S.length H x d → PRx g m S H W (KD g Q) (h d S) → r x [] H Q) : SM g r (am0 h) := SM.none k fun _ _ _ _ => rfl
theorem SM.one {r : V → List V → Hp → VK → Prop} {h : D → D → Mo D} (k : ∀ (m : Nat → Addr) (S : Sto) (H : Hp) (x y : V) (d e : D) (Q : VK) (W : XK), SR g m H S → VR g m S.length H x d → VR g m S.length H y e → PRx g m S H W (KD g Q) (h d e S) → r x [y] H Q) : SM g r (am1 h) := fun m S H x xs d ds Q W sr rx rs p => by
  cases rs with
  | nil => exact p.elim
  | cons y e xs ds ry rs =>
    cases rs with
    | nil => exact k m S H x y d e Q W sr rx ry p
    | cons _ _ _ _ _ _ => exact p.elim

/-! ### subscripts -/
def keyD : D → Option Key
  | .int i => some (.inl i)
  | .str x => some (.inr x)
  | _ => none
theorem keyD_ok {m : Nat → Addr} {n : Nat} {H : Hp} {x : V} {d : D} {k : Key} (r : VR g m n H x d) (h : keyD d = some k) : x = kV k := by
  cases r <;> first | (cases h; rfl) | cases h
def valD (kvs : List (Key × D)) (k : Key) : Option D := (kvs.find? fun kv => decide (kv.1 = k)).map (·.2)
theorem valD_rel {m : Nat → Addr} {n : Nat} {H : Hp} {k : Key} : ∀ {ks' : List (Key × V)} {ks : List (Key × D)}, ks'.map (·.1) = ks.map (·.1) → VRs g m n H (ks'.map (·.2)) (ks.map (·.2)) →
    (∀ d, valD ks k = some d → ∃ v, valV ks' k = some v ∧ VR g m n H v d) ∧ (valD ks k = none → valV ks' k = none)
  | [], [], _, _ => ⟨fun _ h => by simp [valD] at h, fun _ => rfl⟩
  | (a, x) :: r', (b, y) :: r, hk, hv => by
    have hk' : a = b ∧ r'.map (·.1) = r.map (·.1) := by simpa using hk
    obtain ⟨rfl, hk2⟩ := hk'
    cases hv with
    | cons _ _ _ _ r1 rs =>
      obtain ⟨i1, i2⟩ := valD_rel (k := k) hk2 rs
      by_cases q : a = k
      · subst q
        have e1 : valD ((a, y) :: r) a = some y := by simp [valD]
        have e2 : valV ((a, x) :: r') a = some x := valV_pos rfl
        rw [e1, e2]
        exact ⟨fun d h => by cases h; exact ⟨x, rfl, r1⟩, fun h => by cases h⟩
      · have e1 : valD ((a, y) :: r) k = valD r k := by simp [valD, q]
        have e2 : valV ((a, x) :: r') k = valV r' k := valV_neg q
        rw [e1, e2]
        exact ⟨i1, i2⟩
  | [], _ :: _, hk, _ => by simp at hk
  | _ :: _, [], hk, _ => by simp at hk
def atD (xs : List D) : D → Option D
  | .int i => atI xs i
  | _ => none
def getO (y : D) : Option Ob → Option D
  | some (.lst xs) => atD xs y
  | some (.dct kvs) => match keyD y with
    | some k => valD kvs k
    | none => none
  | _ => none
def getS (z : Str) : D → Option D
  | .int i => if fit z.length = true then (atI z.cps.toList i).map fun c => .str ⟨#[c]⟩ else none
  | _ => none
def getQ : D → D → Sto → Option D
  | .tup xs, y, _ => atD xs y
  | .lsc xs, y, _ => atD xs y
  | .str z, y, _ => getS z y
  | .loc l, y, S => getO y S[l]?
  | _, _, _ => none
def getD (x y : D) : Mo D := fun S => optD (getQ x y S) S
def rIxA (K : PySem.W.Frag) : R2 := fun x y H Q => rIx K x y H Q ∨ ∃ a v, x = .ref a ∧ DGet H a y (some v) ∧ Q v H
theorem ix_dict (hu : X.A.units + 1 < cLine) : IxR X (fun x y H Q => ∃ a v, x = .ref a ∧ DGet H a y (some v) ∧ Q v H) := by
  intro value slice pins s σ H x y v u Q I rx ry h hs
  obtain ⟨a, w, rfl, dg, q⟩ := h
  obtain rfl : v = Value.ref a := rx
  exact tail_any (dict_typeIs I dg) PySem.F.slot_dict_getitem.lookup (d_getItem hu I dg ry fun w' s' I' rw' => ⟨w, H, I', rw', q⟩) hs
theorem atD_int {xs : List D} {y d : D} (h : atD xs y = some d) : ∃ i, y = .int i ∧ atI xs i = some d := by
  cases y with
  | int i => exact ⟨i, rfl, h⟩
  | _ => cases h
theorem atI_rel {m : Nat → Addr} {n : Nat} {H : Hp} {vs : List V} {xs : List D} {i : Int} {d : D} (r : VRs g m n H vs xs) (h : atI xs i = some d) : ∃ v, atI vs i = some v ∧ VR g m n H v d := by
  unfold atI at h ⊢
  rw [r.length]
  cases q : ixN xs.length i with
  | none => rw [q] at h; cases h
  | some j =>
    rw [q] at h
    exact r.get h
theorem getQ_ok {m : Nat → Addr} {S : Sto} {H : Hp} {x y : V} {d e w : D} {Q : VK} (sr : SR g m H S) (rx : VR g m S.length H x d) (ry : VR g m S.length H y e) (h : getQ d e S = some w) (q : ∀ v, VR g m S.length H v w → Q v H) : rIxA g.K x y H Q := by
  cases rx with
  | tup a xs ds hq rs =>
    obtain ⟨i, rfl, hi⟩ := atD_int h
    cases ry
    obtain ⟨v, hv, rv⟩ := atI_rel rs hi
    exact .inl (.inr (.inl ⟨a, xs, i, v, rfl, rfl, hq, hv, q v rv⟩))
  | lsc a xs ds hq rs =>
    obtain ⟨i, rfl, hi⟩ := atD_int h
    cases ry
    obtain ⟨v, hv, rv⟩ := atI_rel rs hi
    exact .inl (.inl ⟨a, xs, i, v, rfl, rfl, hq.sq, hv, q v rv⟩)
  | str z =>
    have h2 : getS z e = some w := h
    cases ry with
    | int i =>
      have h3 : (if fit z.length = true then (atI z.cps.toList i).map fun c => D.str ⟨#[c]⟩ else none) = some w := h2
      by_cases qf : fit z.length = true
      · rw [if_pos qf] at h3
        cases qc : atI z.cps.toList i with
        | none => rw [qc] at h3; cases h3
        | some c =>
          rw [qc] at h3
          cases h3
          exact .inl (.inr (.inr ⟨z, i, c, rfl, rfl, fit_iff.mp qf, qc, q _ (.str _)⟩))
      · rw [if_neg qf] at h3; cases h3
    | _ => cases h2
  | loc l hl =>
    have h2 : getO e S[l]? = some w := h
    cases q0 : S[l]? with
    | none => rw [q0] at h2; cases h2
    | some ob =>
      rw [q0] at h2
      cases ob with
      | lst ds =>
        obtain ⟨_, xs, hx, rs⟩ := sr.atL q0
        obtain ⟨i, rfl, hi⟩ := atD_int h2
        cases ry
        obtain ⟨v, hv, rv⟩ := atI_rel rs hi
        exact .inl (.inl ⟨m l, xs, i, v, rfl, rfl, SqL.of hx, hv, q v rv⟩)
      | dct kvs =>
        obtain ⟨_, ks', hx, hk, rs⟩ := sr.atD q0
        have h3 : (match keyD e with
          | some k => valD kvs k
          | none => none) = some w := h2
        cases qk : keyD e with
        | none => rw [qk] at h3; cases h3
        | some k =>
          rw [qk] at h3
          obtain rfl := keyD_ok ry qk
          obtain ⟨v, hv, rv⟩ := (valD_rel (k := k) hk rs).1 w h3
          refine .inr ⟨m l, v, rfl, ?_, q v rv⟩
          rw [← hv]
          exact DGet.k hx
      | _ => cases h2
  | _ => cases h
theorem get_ok : S2 g (rIxA g.K) getD := fun m S H x y d e Q W sr rx ry h => by
  have h2 : PRx g m S H W (KD g Q) (optD (getQ d e S) S) := h
  cases z : getQ d e S with
  | none => rw [z] at h2; exact h2.elim
  | some w =>
    rw [z] at h2
    exact getQ_ok sr rx ry z fun v rv => h2.here sr v rv
theorem de_ix {k : Nat} (hK : X.K = g.K) (hr : Room k X.A) (ha : PE X a (tD g W fa)) (hb : PE X b (tD g W fb)) (hs : PlainIx b := by exact fun _ _ => rfl) : PE X (.Subscript a b pos) (tD g W (cOp getD fa fb)) := by
  refine PE.imp (pe_ix (r := rIxA g.K) ?_ ha hb hs) (op_sub2 get_ok)
  rw [← hK]
  exact ix_seq.or (ix_dict (hu_of hr))

/-! ### slices -/
def cPart (f : Option DE) : En → Mo (Option Int) := fun ρ => match f with
  | none => pure none
  | some f => do
    let x ← f ρ
    match x with
    | .int i => pure (some i)
    | _ => bad
def tDp (g : Gx) (W : WX) (f : En → Mo (Option Int)) : TO := fun σ H Q => ∃ m S ρ, SR g m H S ∧ ER g m S.length H σ ρ ∧ PRx g m S H (fun c d H' => W c d σ H') (fun i _ _ H' => Q i H') (f ρ S)
theorem PO.imp {e : Option Expr} {t t' : TO} (h : PO X e t) (i : ∀ σ H Q, t' σ H Q → t σ H Q) : PO X e t' := ⟨fun pins s σ H Q I q => h.run pins s σ H Q I (i σ H Q q)⟩
theorem dp_none : PO X none (tDp g W (cPart none)) := PO.imp po_none fun _ H _ ⟨m, _, _, sr, _, h⟩ => h m H Ev.refl sr
theorem dp_some (ha : PE X a (tD g W fa)) : PO X (some a) (tDp g W (cPart (some fa))) := PO.imp (po_some ha) fun σ H Q ⟨m, S, ρ, sr, er, h⟩ => tD.sub sr er h fun d m1 S1 H1 v s1 _ _ r1 h1 => by
  cases r1 with
  | int i => exact ⟨i, rfl, h1.here s1⟩
  | _ => exact h1.elim
def cutD (xs : List D) (lo hi : Option Int) : List D := (xs.drop (HT.sIx xs.length 0 lo)).take (HT.sIx xs.length xs.length hi - HT.sIx xs.length 0 lo)
theorem cut_rel {m : Nat → Addr} {n : Nat} {H : Hp} {vs : List V} {xs : List D} (r : VRs g m n H vs xs) (lo hi : Option Int) : VRs g m n H (cutV vs lo hi) (cutD xs lo hi) := by
  unfold cutV cutD
  rw [r.length]
  exact (r.drop _).take _
def slO (lo hi : Option Int) (S : Sto) : Option Ob → Rz D
  | some (.lst xs) => .ok (.loc S.length) (S ++ [.lst (cutD xs lo hi)])
  | _ => .no
def slD (lo hi : Option Int) : D → Mo D
  | .tup xs => pure (.tup (cutD xs lo hi))
  | .lsc xs => fun S => .ok (.loc S.length) (S ++ [.lst (cutD xs lo hi)])
  | .str z => fun S => if fit z.length = true then .ok (.str (cutS z lo hi)) S else .no
  | .loc l => fun S => slO lo hi S S[l]?
  | _ => bad
def cSl (f : DE) (lo hi : En → Mo (Option Int)) : DE := fun ρ => do
  let x ← f ρ; let l ← lo ρ; let h ← hi ρ; slD l h x
def rSlAll (K : PySem.W.Frag) : V → Option Int → Option Int → Hp → VK → Prop := fun x lo hi H Q => rSlA K x lo hi H Q ∨ rSlL K x lo hi H Q ∨ rSlS x lo hi H Q
theorem cut_whole {n k l : Nat} (h : HT.sIx n 0 none = 0) : True := trivial
theorem cutD_whole {xs : List D} {lo hi : Option Int} (h : HT.sIx xs.length 0 lo = 0 ∧ HT.sIx xs.length xs.length hi = xs.length) : cutD xs lo hi = xs := by
  unfold cutD
  rw [h.1, h.2, Nat.sub_zero, List.drop_zero, List.take_length]
theorem slD_ok {m : Nat → Addr} {S : Sto} {H : Hp} {x : V} {d : D} {lo hi : Option Int} {Q : VK} {W : XK} (sr : SR g m H S) (r : VR g m S.length H x d) (h : PRx g m S H W (KD g Q) (slD lo hi d S)) : rSlAll g.K x lo hi H Q := by
  cases r with
  | tup a xs ds hq rs =>
    have h2 : PRx g m S H W (KD g Q) (.ok (.tup (cutD ds lo hi)) S) := h
    refine .inl ⟨a, xs, rfl, hq, fun w => ?_, fun _ => tup_new sr (cut_rel rs lo hi) h2⟩
    rw [rs.length] at w
    rw [cutD_whole w] at h2
    exact h2.here sr _ (.tup a xs ds hq rs)
  | lsc a xs ds hq rs =>
    have h2 : PRx g m S H W (KD g Q) (.ok (.loc S.length) (S ++ [.lst (cutD ds lo hi)])) := h
    exact .inr (.inl ⟨a, xs, rfl, hq.sq, lst_new sr (cut_rel rs lo hi) h2⟩)
  | str z =>
    have h2 : PRx g m S H W (KD g Q) (if fit z.length = true then (Rz.ok (D.str (cutS z lo hi)) S : Rz D) else .no) := h
    by_cases qf : fit z.length = true
    · rw [if_pos qf] at h2
      exact .inr (.inr ⟨z, rfl, fit_iff.mp qf, h2.here sr _ (.str _)⟩)
    · rw [if_neg qf] at h2; exact h2.elim
  | loc l hl =>
    have h2 : PRx g m S H W (KD g Q) (slO lo hi S S[l]?) := h
    cases q0 : S[l]? with
    | none => rw [q0] at h2; exact h2.elim
    | some ob =>
      rw [q0] at h2
      cases ob with
      | lst ds =>
        obtain ⟨_, xs, hx, rs⟩ := sr.atL q0
        exact .inr (.inl ⟨m l, xs, rfl, SqL.of hx, lst_new sr (cut_rel rs lo hi) h2⟩)
      | _ => exact h2.elim
  | _ => exact h.elim
theorem de_slice {lo hi : Option Expr} {fl fh : En → Mo (Option Int)} {p2 : Pos} (hK : X.K = g.K) (ha : PE X a (tD g W fa)) (hl : PO X lo (tDp g W fl)) (hh : PO X hi (tDp g W fh)) : PE X (.Subscript a (.Slice lo hi none p2) pos) (tD g W (cSl fa fl fh)) := by
  refine PE.imp (pe_slice (r := rSlAll g.K) (by rw [← hK]; exact sl_tupA.or (sl_list.or sl_str)) ha hl hh) fun σ H Q ⟨m, S, ρ, sr, er, h⟩ => ?_
  refine tD.sub sr er h fun d m1 S1 H1 v s1 er1 _ r1 h1 => ?_
  refine ⟨m1, S1, ρ, s1, er1, h1.bind.mono fun l m2 S2 H2 e2 s2 h2 => ?_⟩
  exact ⟨m2, S2, ρ, s2, er1.ev e2, h2.bind.mono fun u m3 S3 H3 e3 s3 h3 => slD_ok s3 ((r1.ev e2).ev e3) h3⟩

/-! ### membership -/
def inL (x : D) (xs : List D) : Option Bool := if (flatD x && xs.all flatD) = true then some (xs.any fun y => eqF y x) else none
/-- one text in another: by its signs where it is one sign -/
def inS (x z : Str) : Bool := match x.cps.toList with
  | [c] => decide (c ∈ z.cps.toList)
  | _ => !(Builtin.Str.occurrences z x 0 z.length 1).isEmpty
def inO (x : D) : Option Ob → Option Bool
  | some (.lst xs) => inL x xs
  | some (.dct kvs) => match keyD x with
    | some k => some (valD kvs k).isSome
    | none => none
  | _ => none
def inQ : D → D → Sto → Option Bool
  | x, .tup xs, _ => inL x xs
  | x, .lsc xs, _ => inL x xs
  | .str x, .str z, _ => some (inS x z)
  | x, .loc l, S => inO x S[l]?
  | _, _, _ => none
def inD (x y : D) : Mo D := fun S => optD ((inQ x y S).map D.bl) S
def ninD (x y : D) : Mo D := fun S => optD ((inQ x y S).map fun b => D.bl (!b)) S
theorem inV_rel {m : Nat → Addr} {n : Nat} {H : Hp} {x : V} {d : D} (rx : VR g m n H x d) (hx : flatD d = true) : ∀ {xs : List V} {ds : List D}, VRs g m n H xs ds → ds.all flatD = true → inV x xs = ds.any fun y => eqF y d
  | _, _, .nil, _ => rfl
  | _, _, .cons y e xs ds r rs, h => by
    rw [List.all_cons, Bool.and_eq_true] at h
    have ih := inV_rel rx hx rs h.2
    unfold inV at ih ⊢
    rw [List.any_cons, List.any_cons, eqF_rel r rx h.1 hx, ih]
/-- the four kinds -/
def rInA (K : PySem.W.Frag) (neg : Bool) : R2 := fun x y H Q => rIn K neg x y H Q ∨ (∃ (c : Nat) (z : Str), x = .str ⟨#[c]⟩ ∧ y = .str z ∧ Q (.bl (if neg then !decide (c ∈ z.cps.toList) else decide (c ∈ z.cps.toList))) H) ∨
  (∃ i j, x = .str i ∧ y = .str j ∧ Q (.bl (if neg then !(!(Builtin.Str.occurrences j i 0 j.length 1).isEmpty) else !(Builtin.Str.occurrences j i 0 j.length 1).isEmpty)) H) ∨ ∃ a ov, y = .ref a ∧ DGet H a x ov ∧ Q (.bl (if neg then !ov.isSome else ov.isSome)) H
theorem op_inA {k : Nat} (hr : Room k X.A) : OpR X (compareOp .In) (rInA X.K false) := op_in_seq.or (op_in_sign.or (op_in_str.or fun pins s σ H x y v u Q I rx ry h => by
  obtain ⟨a, ov, rfl, dg, q⟩ := h
  obtain rfl : u = Value.ref a := ry
  exact d_in (hu_of hr) I dg rx fun s' I' => ⟨.bl ov.isSome, H, I', rfl, q⟩))
theorem op_ninA {k : Nat} (hr : Room k X.A) : OpR X (compareOp .NotIn) (rInA X.K true) := op_notIn_seq.or (op_notIn_sign.or (op_notin_str.or fun pins s σ H x y v u Q I rx ry h => by
  obtain ⟨a, ov, rfl, dg, q⟩ := h
  obtain rfl : u = Value.ref a := ry
  exact d_notIn (hu_of hr) I dg rx fun s' I' => ⟨.bl (!ov.isSome), H, I', rfl, q⟩))
theorem inL_ok {m : Nat → Addr} {n : Nat} {H : Hp} {x : V} {d : D} {p : Addr} {xs : List V} {ds : List D} {b neg : Bool} {Q : VK} (hq : SqL g.K H p xs ∨ SqT g.K H p xs) (rs : VRs g m n H xs ds) (rx : VR g m n H x d) (h : inL d ds = some b) (q : Q (.bl (if neg then !b else b)) H) : rInA g.K neg x (.ref p) H Q := by
  unfold inL at h
  by_cases z : (flatD d && ds.all flatD) = true
  · rw [if_pos z] at h
    cases h
    rw [Bool.and_eq_true] at z
    refine .inl ⟨p, xs, rfl, hq, flat_rel rx z.1, flats_rel rs z.2, ?_⟩
    rw [inV_rel rx z.1 rs z.2]
    exact q
  · rw [if_neg z] at h; cases h
theorem inQ_ok {m : Nat → Addr} {S : Sto} {H : Hp} {x y : V} {d e : D} {b neg : Bool} {Q : VK} (sr : SR g m H S) (rx : VR g m S.length H x d) (ry : VR g m S.length H y e) (h : inQ d e S = some b) (q : Q (.bl (if neg then !b else b)) H) : rInA g.K neg x y H Q := by
  cases ry with
  | tup a xs ds hq rs => exact inL_ok (.inr hq) rs rx (by cases d <;> exact h) q
  | lsc a xs ds hq rs => exact inL_ok (.inl hq.sq) rs rx (by cases d <;> exact h) q
  | str z =>
    cases rx with
    | str w =>
      have h2 : some (inS w z) = some b := h
      cases h2
      unfold inS at q
      cases hw : w.cps.toList with
      | nil => rw [hw] at q; exact .inr (.inr (.inl ⟨w, z, rfl, rfl, q⟩))
      | cons c r =>
        rw [hw] at q
        cases r with
        | nil =>
          have ew : w = ⟨#[c]⟩ := by
            cases w with
            | mk cs =>
              have z : cs = #[c] := Array.ext' (by simpa using hw)
              rw [z]
          subst ew
          exact .inr (.inl ⟨c, z, rfl, rfl, q⟩)
        | cons c2 r2 => exact .inr (.inr (.inl ⟨w, z, rfl, rfl, q⟩))
    | _ => cases h
  | loc l hl =>
    have h2 : inO d S[l]? = some b := by cases d <;> exact h
    cases q0 : S[l]? with
    | none => rw [q0] at h2; cases h2
    | some ob =>
      rw [q0] at h2
      cases ob with
      | lst ds =>
        obtain ⟨_, xs, hx, rs⟩ := sr.atL q0
        exact inL_ok (.inl (SqL.of hx)) rs rx h2 q
      | dct kvs =>
        obtain ⟨_, ks', hx, hk, rs⟩ := sr.atD q0
        have h3 : (match keyD d with
          | some k => some (valD kvs k).isSome
          | none => none) = some b := h2
        cases qk : keyD d with
        | none => rw [qk] at h3; cases h3
        | some k =>
          rw [qk] at h3
          cases h3
          obtain rfl := keyD_ok rx qk
          refine .inr (.inr (.inr ⟨m l, valV ks' k, rfl, DGet.k hx, ?_⟩))
          obtain ⟨i1, i2⟩ := valD_rel (k := k) hk rs
          have e : (valV ks' k).isSome = (valD kvs k).isSome := by
            cases z : valD kvs k with
            | none => rw [i2 z]; rfl
            | some w => obtain ⟨v, hv, _⟩ := i1 w z; rw [hv]; rfl
          rw [e]
          exact q
      | _ => cases h2
  | _ => cases d <;> cases h
theorem in_ok : S2 g (rInA g.K false) inD := fun m S H x y d e Q W sr rx ry h => by
  have h2 : PRx g m S H W (KD g Q) (optD ((inQ d e S).map D.bl) S) := h
  cases z : inQ d e S with
  | none => rw [z] at h2; exact h2.elim
  | some b => rw [z] at h2; exact inQ_ok (neg := false) sr rx ry z (h2.here sr _ (.bl _))
theorem nin_ok : S2 g (rInA g.K true) ninD := fun m S H x y d e Q W sr rx ry h => by
  have h2 : PRx g m S H W (KD g Q) (optD ((inQ d e S).map fun b => D.bl (!b)) S) := h
  cases z : inQ d e S with
  | none => rw [z] at h2; exact h2.elim
  | some b => rw [z] at h2; exact inQ_ok (neg := true) sr rx ry z (h2.here sr _ (.bl _))
end
end Sm
end
section
/-! Sm, part H: dicts made and written, built-in functions, methods of lists. -/
namespace Sm
open PySem PySem.Spec PyProof.Rows L2

section
variable {X : Cx} {g : Gx} {W : WX} {a b c e o : Expr} {es : List Expr} {fa fb fc fo fv : DE} {fs : En → Mo (List D)} {pos : Pos}
/-! ### writing into a dict, a list -/
def putD (kvs : List (Key × D)) (k : Key) (v : D) : List (Key × D) :=
  if (kvs.any fun kv => decide (kv.1 = k)) = true then kvs.map (fun kv => if kv.1 = k then (kv.1, v) else kv) else kvs ++ [(k, v)]
theorem any_rel {k : Key} : ∀ {ks' : List (Key × V)} {ks : List (Key × D)}, ks'.map (·.1) = ks.map (·.1) → (ks'.any fun kv => decide (kv.1 = k)) = (ks.any fun kv => decide (kv.1 = k))
  | [], [], _ => rfl
  | (a, x) :: r', (b, y) :: r, hk => by
    have hk' : a = b ∧ r'.map (·.1) = r.map (·.1) := by simpa using hk
    obtain ⟨rfl, hk2⟩ := hk'
    rw [List.any_cons, List.any_cons, any_rel hk2]
  | [], _ :: _, hk => by simp at hk
  | _ :: _, [], hk => by simp at hk
theorem mapk_rel {m : Nat → Addr} {n : Nat} {H : Hp} {k : Key} {v : V} {d : D} (rv : VR g m n H v d) : ∀ {ks' : List (Key × V)} {ks : List (Key × D)}, ks'.map (·.1) = ks.map (·.1) → VRs g m n H (ks'.map (·.2)) (ks.map (·.2)) →
    (ks'.map fun kv => if kv.1 = k then (kv.1, v) else kv).map (·.1) = (ks.map fun kv => if kv.1 = k then (kv.1, d) else kv).map (·.1) ∧
    VRs g m n H ((ks'.map fun kv => if kv.1 = k then (kv.1, v) else kv).map (·.2)) ((ks.map fun kv => if kv.1 = k then (kv.1, d) else kv).map (·.2))
  | [], [], _, _ => ⟨rfl, .nil⟩
  | (a, x) :: r', (b, y) :: r, hk, hv => by
    have hk' : a = b ∧ r'.map (·.1) = r.map (·.1) := by simpa using hk
    obtain ⟨rfl, hk2⟩ := hk'
    cases hv with
    | cons _ _ _ _ r1 rs =>
      obtain ⟨i1, i2⟩ := mapk_rel rv hk2 rs
      simp only [List.map_cons]
      by_cases q : a = k
      · rw [if_pos q, if_pos q]
        exact ⟨by rw [i1], .cons _ _ _ _ rv i2⟩
      · rw [if_neg q, if_neg q]
        exact ⟨by rw [i1], .cons _ _ _ _ r1 i2⟩
  | [], _ :: _, hk, _ => by simp at hk
  | _ :: _, [], hk, _ => by simp at hk
theorem putD_rel {m : Nat → Addr} {n : Nat} {H : Hp} {k : Key} {v : V} {d : D} (rv : VR g m n H v d) {ks' : List (Key × V)} {ks : List (Key × D)} (hk : ks'.map (·.1) = ks.map (·.1)) (hv : VRs g m n H (ks'.map (·.2)) (ks.map (·.2))) :
    (putK ks' k v).map (·.1) = (putD ks k d).map (·.1) ∧ VRs g m n H ((putK ks' k v).map (·.2)) ((putD ks k d).map (·.2)) := by
  unfold putK putD
  rw [any_rel hk]
  by_cases q : (ks.any fun kv => decide (kv.1 = k)) = true
  · rw [if_pos q, if_pos q]
    exact mapk_rel rv hk hv
  · rw [if_neg q, if_neg q, List.map_append, List.map_append, List.map_append, List.map_append, hk]
    exact ⟨rfl, hv.append (.cons _ _ _ _ rv .nil)⟩
/-- o[i] = v -/
def stO (i v : D) (l : Nat) (S : Sto) : Option Ob → Option Sto
  | some (.dct kvs) => match keyD i with
    | some k => if fit (kvs.length + 1) = true then some (S.set l (.dct (putD kvs k v))) else none
    | none => none
  | some (.lst xs) => match i with
    | .int j => (ixN xs.length j).map fun j => S.set l (.lst (xs.set j v))
    | _ => none
  | _ => none
def stQ : D → D → D → Sto → Option Sto
  | .loc l, i, v, S => stO i v l S S[l]?
  | _, _, _, _ => none
def rStA : TSet := fun o i v H Q => (∃ a H', o = .ref a ∧ DPut H a i v H' ∧ Q H') ∨ ∃ (p : Addr) (ys : List V) (j : Int) (k : Nat), o = .ref p ∧ i = .int j ∧ H p = some (.lst ys) ∧ ixN ys.length j = some k ∧ Q (upd H p (.lst (ys.set k v)))
theorem stQ_ok {m : Nat → Addr} {S S' : Sto} {H : Hp} {x y z : V} {d i v : D} {Q : Hp → Prop} (sr : SR g m H S) (rx : VR g m S.length H x d) (ry : VR g m S.length H y i) (rz : VR g m S.length H z v) (h : stQ d i v S = some S')
    (q : ∀ H', Ev g m S.length H m S'.length H' → SR g m H' S' → Q H') : rStA x y z H Q := by
  cases rx with
  | loc l hl =>
    have h2 : stO i v l S S[l]? = some S' := h
    cases q0 : S[l]? with
    | none => rw [q0] at h2; cases h2
    | some ob =>
      rw [q0] at h2
      cases ob with
      | lst ds =>
        obtain ⟨hl, xs, hx, rs⟩ := sr.atL q0
        cases ry with
        | int j =>
          have h3 : (ixN ds.length j).map (fun j => S.set l (.lst (ds.set j v))) = some S' := h2
          cases qj : ixN ds.length j with
          | none => rw [qj] at h3; cases h3
          | some k =>
            rw [qj] at h3
            cases h3
            have ew : Ev g m S.length H m S.length (upd H (m l) (.lst (xs.set k z))) := Ev.wr (sr.canw hl)
            refine .inr ⟨m l, xs, j, k, rfl, rfl, hx, by rw [rs.length]; exact qj, q _ (by rw [List.length_set]; exact ew) (sr.wr hl ⟨_, upd_same, ?_⟩)⟩
            exact (rs.set k rz).ev ew
        | _ => cases h2
      | dct kvs =>
        obtain ⟨hl, ks', hx, hk, rs⟩ := sr.atD q0
        have h3 : (match keyD i with
          | some k => if fit (kvs.length + 1) = true then some (S.set l (.dct (putD kvs k v))) else none
          | none => none) = some S' := h2
        cases qk : keyD i with
        | none => rw [qk] at h3; cases h3
        | some k =>
          rw [qk] at h3
          dsimp only at h3
          by_cases qf : fit (kvs.length + 1) = true
          · rw [if_pos qf] at h3
            cases h3
            obtain rfl := keyD_ok ry qk
            have hlen : ks'.length = kvs.length := by
              have := congrArg List.length hk
              simpa using this
            have ew : Ev g m S.length H m S.length (upd H (m l) (.dK (putK ks' k z))) := Ev.wr (sr.canw hl)
            have z1 := fit_iff.mp qf
            obtain ⟨p1, p2⟩ := putD_rel (k := k) rz hk rs
            refine .inl ⟨m l, _, rfl, DPut.k hx (by rw [hlen]; omega), q _ (by rw [List.length_set]; exact ew) (sr.wr hl ⟨_, upd_same, p1, p2.ev ew⟩)⟩
          · rw [if_neg qf] at h3; cases h3
      | _ => cases h2
  | _ => cases h
theorem set_A {k : Nat} (hr : Room k X.A) : PSet X rStA := by
  intro pins s σ H o i v ov iv u Q I ro ri rv h
  rcases h with ⟨a, H', rfl, dp, q⟩ | ⟨p, ys, j, k, rfl, rfl, hp, hk, q⟩
  · obtain rfl : ov = Value.ref a := ro
    exact d_setItem (hu_of hr) I dp ri rv fun s' I' => ⟨H', I', q⟩
  · exact set_list pins s σ H _ _ v ov iv u Q I ro ri rv ⟨p, ys, j, k, rfl, rfl, hp, hk, q⟩
def cSt (fo fi fv : DE) : DS := fun ρ S => (fv ρ S).toF ρ fun v S1 => (fo ρ S1).toF ρ fun o S2 => (fi ρ S2).toF ρ fun i S3 => match stQ o i v S3 with
  | some S4 => .nx ρ S4
  | none => .no
theorem ds_st {k : Nat} {i value : Expr} {fi : DE} {pos' : Pos} (hr : Room k X.A) (ho : PE X o (tD g W fo)) (hi : PE X i (tD g W fi)) (hv : PE X value (tD g W fv))
    (hs : swapsWithSole [.Subscript o i pos'] value pos.line X.env = pure false := by rfl) (hw : swappedStores [.Subscript o i pos'] value X.env = pure none := by rfl) (h1 : (assignEach [.Subscript o i pos'] X.env).map (·.2) = [assign (.Subscript o i pos') X.env] := by rfl)
    (hasg : ∀ v, assign (.Subscript o i pos') X.env v = (do
      let ov ← holding [v] (eval o X.env)
      let iv ← holding [v, ov] (eval i X.env)
      standAt pos'
      holding [v, ov, iv] (setItem ov iv v)
      release [v, ov, iv] []) := by intro _; rfl) : PS X (.Assign [.Subscript o i pos'] value pos) (tS g W (cSt fo fi fv)) :=
  PS.imp (ps_asg hv (pg_sub ho hi (set_A hr) hasg) hs hw h1) fun E σ H ⟨m, S, ρ, sr, er, h⟩ => by
    refine tD.subF sr er h fun v m1 S1 H1 x s1 er1 _ r1 h1 => tD.subF s1 er1 h1 fun o m2 S2 H2 y s2 er2 e2 r2 h2 => tD.subF s2 er2 h2 fun i m3 S3 H3 z s3 er3 e3 r3 h3 => ?_
    cases q : stQ o i v S3 with
    | none => rw [q] at h3; exact h3.elim
    | some S4 =>
      rw [q] at h3
      exact stQ_ok s3 (r2.ev e3) r3 ((r1.ev e2).ev e3) q fun H' e' s' => h3 _ m3 _ e' s' (er3.ev e')

/-! ### displays of dicts -/
def cPairs : List (DE × DE) → En → Mo (List (D × D))
  | [] => fun _ => pure []
  | (fk, fv) :: r => fun ρ => do
    let k ← fk ρ; let v ← fv ρ; let ps ← cPairs r ρ; pure ((k, v) :: ps)
/-- keys and values as the display wants them -/
def asKvs : List (D × D) → Option (List (Key × D))
  | [] => some []
  | (k, v) :: r => match keyD k, asKvs r with
    | some k, some r => some ((k, v) :: r)
    | _, _ => none
def mergeD (kvs more : List (Key × D)) : List (Key × D) := more.foldl (fun acc kv => putD acc kv.1 kv.2) kvs
@[irreducible] def few15 (n : Nat) : Bool := decide (n ≤ 15)
theorem few15_iff {n : Nat} : few15 n = true ↔ n ≤ 15 := by unfold few15; exact decide_eq_true_iff
def dispF (n : Nat) (ps : List (D × D)) (S : Sto) : Rz D := match asKvs ps, S[n]? with
  | some kvs, some (.dct []) => if few15 kvs.length = true then .ok (.loc n) (S.set n (.dct (mergeD [] kvs))) else .no
  | _, _ => .no
def cDict (fs : List (DE × DE)) : DE := fun ρ S => (cPairs fs ρ (S ++ [.dct []])).andThen fun ps S' => dispF S.length ps S'
inductive VPs (g : Gx) (m : Nat → Addr) (n : Nat) (H : Hp) : List (V × V) → List (D × D) → Prop
  | nil : VPs g m n H [] []
  | cons (x y : V) (d e : D) (r : List (V × V)) (q : List (D × D)) : VR g m n H x d → VR g m n H y e → VPs g m n H r q → VPs g m n H ((x, y) :: r) ((d, e) :: q)
theorem pairs_sub : ∀ {fs : List (DE × DE)} {σ : L2.St} {H : Hp} {m : Nat → Addr} {S : Sto} {ρ : En} {Q : List (V × V) → Hp → Prop}, SR g m H S → ER g m S.length H σ ρ →
    PRx g m S H (fun c d H' => W c d σ H') (fun ps m1 S1 H1 => ∀ vs, VPs g m1 S1.length H1 vs ps → Q vs H1) (cPairs fs ρ S) → tPairs (fs.map fun p => (tD g W p.1, tD g W p.2)) σ H Q
  | [], σ, H, m, S, ρ, Q, sr, er, h => h m H Ev.refl sr _ .nil
  | (fk, fv) :: r, σ, H, m, S, ρ, Q, sr, er, h => by
    refine tD.sub sr er h fun k m1 S1 H1 x s1 er1 _ r1 h1 => tD.sub s1 er1 h1 fun v m2 S2 H2 y s2 er2 e2 r2 h2 => ?_
    refine pairs_sub (fs := r) s2 er2 (h2.bind.mono fun ps m3 S3 H3 e3 s3 h3 vs rvs => ?_)
    exact h3 m3 H3 Ev.refl s3 _ (.cons _ _ _ _ _ _ ((r1.ev e2).ev e3) (r2.ev e3) rvs)
theorem asKvs_ok {m : Nat → Addr} {n : Nat} {H : Hp} : ∀ {ps : List (D × D)} {vs : List (V × V)} {kvs : List (Key × D)}, VPs g m n H vs ps → asKvs ps = some kvs →
    ∃ kvs' : List (Key × V), vs = kvs'.map (fun kv => (kV kv.1, kv.2)) ∧ kvs'.map (·.1) = kvs.map (·.1) ∧ VRs g m n H (kvs'.map (·.2)) (kvs.map (·.2))
  | _, _, _, .nil, h => by cases h; exact ⟨[], rfl, rfl, .nil⟩
  | _, _, _, .cons x y d e r q rx ry rs, h => by
    unfold asKvs at h
    cases q1 : keyD d with
    | none => rw [q1] at h; cases h
    | some k =>
      rw [q1] at h
      cases q2 : asKvs q with
      | none => rw [q2] at h; cases h
      | some kr =>
        rw [q2] at h
        cases h
        obtain ⟨kr', a1, a2, a3⟩ := asKvs_ok rs q2
        obtain rfl := keyD_ok rx q1
        exact ⟨(k, y) :: kr', by rw [a1]; rfl, by simp [a2], .cons _ _ _ _ ry a3⟩
theorem merge_rel {m : Nat → Addr} {n : Nat} {H : Hp} : ∀ {more' : List (Key × V)} {more : List (Key × D)} {ks' : List (Key × V)} {ks : List (Key × D)}, more'.map (·.1) = more.map (·.1) → VRs g m n H (more'.map (·.2)) (more.map (·.2)) → ks'.map (·.1) = ks.map (·.1) → VRs g m n H (ks'.map (·.2)) (ks.map (·.2)) →
    (mergeK ks' more').map (·.1) = (mergeD ks more).map (·.1) ∧ VRs g m n H ((mergeK ks' more').map (·.2)) ((mergeD ks more).map (·.2))
  | [], [], _, _, _, _, h1, h2 => ⟨h1, h2⟩
  | (a, x) :: r', (b, y) :: r, ks', ks, hk, hv, h1, h2 => by
    have hk' : a = b ∧ r'.map (·.1) = r.map (·.1) := by simpa using hk
    obtain ⟨rfl, hk2⟩ := hk'
    cases hv with
    | cons _ _ _ _ r1 rs =>
      obtain ⟨p1, p2⟩ := putD_rel (k := a) r1 h1 h2
      exact merge_rel (more' := r') (more := r) (ks' := putK ks' a x) (ks := putD ks a y) hk2 rs p1 p2
  | [], _ :: _, _, _, hk, _, _, _ => by simp at hk
  | _ :: _, [], _, _, hk, _, _, _ => by simp at hk
theorem de_dict {keys : List (Option Expr)} {values : List Expr} {fs : List (DE × DE)} (h : PPs X pos keys values (fs.map fun p => (tD g W p.1, tD g W p.2))) (hall : keys.all (·.isSome) = true := by rfl) (hl : keys.length = values.length := by rfl) (h0 : keys ≠ [] := by exact fun z => nomatch z)
    (h15 : keys.length ≤ 15 := by decide) : PE X (.Dict keys values pos) (tD g W (cDict fs)) :=
  PE.imp (pe_disp h hall hl h0 h15) fun σ H Q ⟨m, S, ρ, sr, er, h⟩ p hp => by
    have h : PRx g m S H (fun c d H' => W c d σ H') (KD g Q) ((cPairs fs ρ (S ++ [.dct []])).andThen fun ps S' => dispF S.length ps S') := h
    have e1 : Ev g m S.length H (ext m S.length p) (S.length + 1) (upd H p (.dK [])) := Ev.ext (Ev.new hp)
    have s1 : SR g (ext m S.length p) (upd H p (.dK [])) (S ++ [.dct []]) := sr.alloc hp ⟨[], upd_same, rfl, .nil⟩
    have lA : (S ++ [Ob.dct []]).length = S.length + 1 := by rw [List.length_append, List.length_singleton]
    have h2 := (PRx.ev (m' := ext m S.length p) (S' := S ++ [Ob.dct []]) (by rw [lA]; exact e1) h).bind
    refine pairs_sub s1 (by rw [lA]; exact er.ev e1) (h2.mono fun ps m3 S3 H3 e3 s3 h3 vs rvs => ?_)
    have lt : S.length < (S ++ [Ob.dct []]).length := by rw [lA]; exact Nat.lt_succ_self _
    have em : m3 S.length = p := by rw [e3.ag _ lt, ext_new]
    unfold dispF at h3
    cases q1 : asKvs ps with
    | none => rw [q1] at h3; exact h3.elim
    | some kvs =>
      rw [q1] at h3
      cases q2 : S3[S.length]? with
      | none => rw [q2] at h3; exact h3.elim
      | some ob =>
        rw [q2] at h3
        cases ob with
        | dct ks =>
          cases ks with
          | cons _ _ => exact h3.elim
          | nil =>
            dsimp only at h3
            by_cases qf : few15 kvs.length = true
            · rw [if_pos qf] at h3
              obtain ⟨hl, ks', hx, hk, _⟩ := s3.atD q2
              have hk0 : ks' = [] := by simpa using hk
              subst hk0
              obtain ⟨kvs', a1, a2, a3⟩ := asKvs_ok rvs q1
              have hlen : kvs'.length = kvs.length := by
                have := congrArg List.length a2
                simpa using this
              obtain ⟨b1, b2⟩ := merge_rel (ks' := []) (ks := []) a2 a3 rfl .nil
              rw [em] at hx
              refine ⟨hx, kvs', a1, by rw [hlen]; exact few15_iff.mp qf, ?_⟩
              have ew : Ev g m3 S3.length H3 m3 S3.length (upd H3 (m3 S.length) (.dK (mergeK [] kvs'))) := Ev.wr (s3.canw hl)
              have sw := s3.wr (u := .dK (mergeK [] kvs')) (o := .dct (mergeD [] kvs)) hl ⟨_, upd_same, b1, b2.ev ew⟩
              have q9 := h3 m3 _ (by rw [List.length_set]; exact ew) sw (.ref (m3 S.length)) (.loc _ (by rw [List.length_set]; exact hl))
              rw [em] at q9
              exact q9
            · rw [if_neg qf] at h3; exact h3.elim
        | _ => exact h3.elim
def newDct : Mo D := fun S => .ok (.loc S.length) (S ++ [.dct []])
theorem de_dict0 : PE X (.Dict [] [] pos) (tD g W fun _ => newDct) := PE.imp pe_dnewK fun _ _ _ ⟨_, _, _, sr, _, h⟩ => dct_new sr rfl .nil h
theorem dps_nil : PPs X pos [] [] (([] : List (DE × DE)).map fun p => (tD g W p.1, tD g W p.2)) := pps_nil
theorem dps_cons {k v : Expr} {fk fv : DE} {ks : List (Option Expr)} {vs : List Expr} {fs : List (DE × DE)} (hk : PE X k (tD g W fk)) (hv : PE X v (tD g W fv)) (hr : PPs X pos ks vs (fs.map fun p => (tD g W p.1, tD g W p.2))) :
    PPs X pos (some k :: ks) (v :: vs) (((fk, fv) :: fs).map fun p => (tD g W p.1, tD g W p.2)) := pps_cons hk hv hr

/-! ### built-in functions -/
theorem CallR.or {f : Value} {r r' : List V → Hp → VK → Prop} (h : CallR X f r) (h' : CallR X f r') : CallR X f (fun xs H Q => r xs H Q ∨ r' xs H Q) := by
  intro pins s σ H xs us Q I rx q
  rcases q with q | q
  · exact h pins s σ H xs us Q I rx q
  · exact h' pins s σ H xs us Q I rx q
def lenO : Option Ob → Option D
  | some (.lst xs) => some (.int xs.length)
  | some (.dct kvs) => some (.int kvs.length)
  | _ => none
def lenQ : D → Sto → Option D
  | .tup xs, _ => some (.int xs.length)
  | .lsc xs, _ => some (.int xs.length)
  | .str z, _ => if fit z.length = true then some (.int z.length) else none
  | .loc l, S => lenO S[l]?
  | _, _ => none
def lenD (d : D) : Mo D := fun S => optD (lenQ d S) S
theorem len_ok : SC g (fun xs H Q => (∃ x n, xs = [x] ∧ LenV g.K x H n ∧ Q (.int n) H) ∨ ∃ a kvs, xs = [V.ref a] ∧ H a = some (.dK kvs) ∧ Q (.int kvs.length) H) (ar1 lenD) := SC.one fun m S H x d Q W sr rx h => by
  have h2 : PRx g m S H W (KD g Q) (optD (lenQ d S) S) := h
  cases rx with
  | tup a xs ds hq rs => exact .inl ⟨_, ds.length, rfl, .inr ⟨xs, hq, rs.length.symm⟩, h2.here sr _ (.int _)⟩
  | lsc a xs ds hq rs => exact .inl ⟨_, ds.length, rfl, .inl ⟨xs, hq.sq, rs.length.symm⟩, h2.here sr _ (.int _)⟩
  | str z =>
    have h3 : PRx g m S H W (KD g Q) (optD (if fit z.length = true then some (.int z.length) else none) S) := h2
    by_cases qf : fit z.length = true
    · rw [if_pos qf] at h3
      exact .inl ⟨_, z.length, rfl, ⟨fit_iff.mp qf, rfl⟩, h3.here sr _ (.int _)⟩
    · rw [if_neg qf] at h3; exact h3.elim
  | loc l hl =>
    have h3 : PRx g m S H W (KD g Q) (optD (lenO S[l]?) S) := h2
    cases q0 : S[l]? with
    | none => rw [q0] at h3; exact h3.elim
    | some ob =>
      rw [q0] at h3
      cases ob with
      | lst ds =>
        obtain ⟨_, xs, hx, rs⟩ := sr.atL q0
        exact .inl ⟨_, ds.length, rfl, .inl ⟨xs, SqL.of hx, rs.length.symm⟩, h3.here sr _ (.int _)⟩
      | dct kvs =>
        obtain ⟨_, ks', hx, hk, rs⟩ := sr.atD q0
        have hlen : ks'.length = kvs.length := by
          have := congrArg List.length hk
          simpa using this
        exact .inr ⟨_, ks', rfl, hx, by rw [hlen]; exact h3.here sr _ (.int _)⟩
      | _ => exact h3.elim
  | _ => exact h2.elim
theorem de_len {p : Pos} (hK : X.K = g.K) (hm : X.mg "len" = none) (ha : PA X (e :: es) (tDs g W fs)) (hg : Gl X "len" := by rfl) (he : starEach (e :: es) X.env = (false, eval e X.env) :: starEach es X.env := by rfl) (hpl : (backTo pos (starEach es X.env)).any (·.1) = false := by rfl) :
    PE X (.Call (.Name "len" p) (e :: es) [] pos) (tD g W (cCall (ar1 lenD) fs)) := de_callB (by rw [← hK]; exact call_len.or call_lenD) len_ok hm PySem.boot_len ha hg he hpl
def intD : D → Mo D
  | .int i => pure (.int i)
  | .bl b => pure (.int (if b then 1 else 0))
  | _ => bad
theorem int_ok : SC g (fun xs H Q => (∃ i, xs = [.int i] ∧ Q (.int i) H) ∨ ∃ k, xs = [.bl k] ∧ Q (.int (if k then 1 else 0)) H) (ar1 intD) := SC.one fun m S H x d Q W sr rx h => by
  cases rx with
  | int i => exact .inl ⟨i, rfl, h.here sr _ (.int _)⟩
  | bl k => exact .inr ⟨k, rfl, h.here sr _ (.int _)⟩
  | _ => exact h.elim
def absD : D → Mo D
  | .int i => pure (.int (if i < 0 then -i else i))
  | _ => bad
theorem abs_ok : SC g (fun xs H Q => ∃ i, xs = [.int i] ∧ Q (.int (if i < 0 then -i else i)) H) (ar1 absD) := SC.one fun m S H x d Q W sr rx h => by
  cases rx with
  | int i => exact ⟨i, rfl, h.here sr _ (.int _)⟩
  | _ => exact h.elim
def maxD : D → D → Mo D
  | .int i, .int j => pure (.int (if j > i then j else i))
  | _, _ => bad
def minD : D → D → Mo D
  | .int i, .int j => pure (.int (if j < i then j else i))
  | _, _ => bad
theorem max_ok : SC g (fun xs H Q => ∃ i j, xs = [.int i, .int j] ∧ Q (.int (if j > i then j else i)) H) (ar2 maxD) := SC.two fun m S H x y d e Q W sr rx ry h => by
  cases rx with
  | int i => cases ry with
    | int j => exact ⟨i, j, rfl, h.here sr _ (.int _)⟩
    | _ => exact h.elim
  | _ => exact h.elim
theorem min_ok : SC g (fun xs H Q => ∃ i j, xs = [.int i, .int j] ∧ Q (.int (if j < i then j else i)) H) (ar2 minD) := SC.two fun m S H x y d e Q W sr rx ry h => by
  cases rx with
  | int i => cases ry with
    | int j => exact ⟨i, j, rfl, h.here sr _ (.int _)⟩
    | _ => exact h.elim
  | _ => exact h.elim

/-! ### isinstance -/
/-- a type: a built-in one by its name, an own class by its number -/
abbrev TK := Sum String Nat
def tv (g : Gx) : TK → Value
  | .inl n => .type n
  | .inr c => .ref (g.ct c)
def tyO : Option Ob → Option TK
  | some (.lst _) => some (.inl "list")
  | some (.dct _) => some (.inl "dict")
  | some (.ins c _) => some (.inr c)
  | none => none
def tyQ : D → Sto → Option TK
  | .non, _ => some (.inl "NoneType")
  | .bl _, _ => some (.inl "bool")
  | .int _, _ => some (.inl "int")
  | .str _, _ => some (.inl "str")
  | .tup _, _ => some (.inl "tuple")
  | .loc l, S => tyO S[l]?
  | _, _ => none
/-- a class as an argument -/
def clQ : D → Option TK
  | .ty n => some (.inl n)
  | .cls c => some (.inr c)
  | _ => none
structure IsTab (g : Gx) (J : TK → TK → Option Bool) : Prop where
  kit : ∀ t c b, J t c = some b → PySem.W.kitOne g.K (tv g t) (tv g c) = some b
  own : ∀ c t b, J (.inr c) t = some b → Cls g.K (g.ct c) ∧ PySem.W.findIn g.K (.ref (g.ct c)) "__class__" = some (some (.builtin "object.__class__")) ∧ PySem.W.specialIn g.K (.builtin "object.__class__") "__get__" = some (some (.builtin "getset_descriptor.__get__")) ∧
    PySem.W.takesIn g.K (.builtin "object.__class__") = some true ∧ PySem.W.mroIn g.K (g.ct c) (.type "object") = some true
def isiQ (J : TK → TK → Option Bool) (x c : D) (S : Sto) : Option Bool := match tyQ x S, clQ c with
  | some t, some k => J t k
  | _, _ => none
def isiD (J : TK → TK → Option Bool) (x c : D) : Mo D := fun S => optD ((isiQ J x c S).map D.bl) S
theorem isi_ok {J : TK → TK → Option Bool} (hJ : IsTab g J) : SC g (rIsi g.K) (ar2 (isiD J)) := SC.two fun m S H x y d e Q W sr rx ry h => by
  have h2 : PRx g m S H W (KD g Q) (optD ((isiQ J d e S).map D.bl) S) := h
  cases z : isiQ J d e S with
  | none => rw [z] at h2; exact h2.elim
  | some b =>
    rw [z] at h2
    unfold isiQ at z
    cases q1 : tyQ d S with
    | none => rw [q1] at z; cases z
    | some t =>
      rw [q1] at z
      cases q2 : clQ e with
      | none => rw [q2] at z; cases z
      | some k =>
        rw [q2] at z
        dsimp only at z
        have kit := hJ.kit t k b z
        have kc : ClsV y (tv g k) := by
          cases ry <;> first | (cases q2; exact .ty _) | (cases q2; exact .own _) | cases q2
        have kt : TyX g.K H x (tv g t) := by
          cases rx with
          | non => cases q1; exact .base .non
          | bl _ => cases q1; exact .base (.bl _)
          | int _ => cases q1; exact .base (.int _)
          | str _ => cases q1; exact .base (.str _)
          | tup a xs ds hq rs =>
            cases q1
            rcases hq with (hq | ⟨o, hq⟩) | ⟨o, its, n, hk, hc, _⟩
            · exact .base (.tup hq)
            · exact .fTuple hq
            · exact .kTuple hk hc
          | loc l hl =>
            have q3 : tyO S[l]? = some t := q1
            cases q0 : S[l]? with
            | none => rw [q0] at q3; cases q3
            | some ob =>
              rw [q0] at q3
              cases ob with
              | lst ds => cases q3; obtain ⟨_, xs, hx, _⟩ := sr.atL q0; exact .base (.lst hx)
              | dct kvs => cases q3; obtain ⟨_, xs, hx, _⟩ := sr.atD q0; exact .base (.dK hx)
              | ins c fs =>
                cases q3
                obtain ⟨_, dx, fs', hx, _⟩ := sr.atI q0
                obtain ⟨o1, o2, o3, o4, o5⟩ := hJ.own c k b z
                exact .base (.ins hx o1 o2 o3 o4 o5)
          | _ => cases q1
        exact ⟨x, y, tv g t, tv g k, b, rfl, kc, kt, kit, h2.here sr _ (.bl _)⟩
theorem de_isi {J : TK → TK → Option Bool} {p : Pos} (hJ : IsTab g J) (hK : X.K = g.K) (hm : X.mg "isinstance" = none) (hv : bootBuiltins "isinstance" = some (.builtin "isinstance")) (ha : PA X (e :: es) (tDs g W fs)) (hg : Gl X "isinstance" := by rfl) (he : starEach (e :: es) X.env = (false, eval e X.env) :: starEach es X.env := by rfl) (hpl : (backTo pos (starEach es X.env)).any (·.1) = false := by rfl) :
    PE X (.Call (.Name "isinstance" p) (e :: es) [] pos) (tD g W (cCall (ar2 (isiD J)) fs)) := de_callB (by rw [← hK]; exact call_isi) (isi_ok hJ) hm hv ha hg he hpl
/-- an own class's name -/
theorem de_cls {x : Str} (c : Nat) (hm : X.mg x = some (.ref (g.ct c))) (hg : Gl X x := by rfl) (hd : (x == ("__debug__" : Str)) = false := by decide) : PE X (.Name x pos) (tD g W (cC (.cls c))) := de_glob hm ⟨.ref (g.ct c), rfl, fun _ _ _ => .cls c⟩ hg hd

/-! ### methods of lists -/
def appO (y : D) (l : Nat) (S : Sto) : Option Ob → Option Sto
  | some (.lst xs) => if fit (xs.length + 1) = true then some (S.set l (.lst (xs ++ [y]))) else none
  | _ => none
def appQ : D → D → Sto → Option Sto
  | .loc l, y, S => appO y l S S[l]?
  | _, _, _ => none
/-- a method that changes the store and gives None -/
def unitQ (o : Option Sto) : Rz D := match o with
  | some S' => .ok .non S'
  | none => .no
def appD (x y : D) : Mo D := fun S => unitQ (appQ x y S)
theorem app_ok : SM g rAppend (am1 appD) := SM.one fun m S H x y d e Q W sr rx ry h => by
  have h2 : PRx g m S H W (KD g Q) (unitQ (appQ d e S)) := h
  cases z : appQ d e S with
  | none => rw [z] at h2; exact h2.elim
  | some S' =>
    rw [z] at h2
    cases rx with
    | loc l hl =>
      have z2 : appO e l S S[l]? = some S' := z
      cases q0 : S[l]? with
      | none => rw [q0] at z2; cases z2
      | some ob =>
        rw [q0] at z2
        cases ob with
        | lst ds =>
          have z3 : (if fit (ds.length + 1) = true then some (S.set l (.lst (ds ++ [e]))) else none) = some S' := z2
          by_cases qf : fit (ds.length + 1) = true
          · rw [if_pos qf] at z3
            cases z3
            obtain ⟨hl, xs, hx, rs⟩ := sr.atL q0
            have zf := fit_iff.mp qf
            have ew : Ev g m S.length H m S.length (upd H (m l) (.lst (xs ++ [y]))) := Ev.wr (sr.canw hl)
            refine ⟨m l, xs, y, rfl, rfl, hx, by rw [rs.length]; omega, h2 m _ (by rw [List.length_set]; exact ew) (sr.wr hl ⟨_, upd_same, ?_⟩) _ .non⟩
            exact (rs.append (.cons _ _ _ _ ry .nil)).ev ew
          · rw [if_neg qf] at z3; cases z3
        | _ => cases z2
    | _ => cases z
end
end Sm
end
section
/-! Sm, part I: the glue: what the top has made, the end of a law. -/
namespace Sm
open PySem PySem.Spec PyProof.Rows L2

/-- addresses by number -/
def pick (l : List Addr) : Nat → Addr := fun i => l.getD i 0
/-- a def of the module -/
structure FnT (K : PySem.W.Frag) (mg : Str → Option Value) (nm : Str) (st : Stmt) (ps : List Str) : Type where
  fn : Addr
  fd : FuncData
  F : L2.Fun K nm nm st fn fd
  b : Binds K fd ps []
  m : mg nm = some (.ref fn)
  k : PySem.W.keepIn K (.ref fn) = true
/-- a method of a class -/
structure MeT (K : PySem.W.Frag) (C : Addr) (nm qual : Str) (st : Stmt) (ps : List Str) : Type where
  fn : Addr
  fd : FuncData
  F : L2.Fun K nm qual st fn fd
  b : Binds K fd ps []
  m : Meth K C nm fn
/-- a class with its own __init__ -/
structure InT (K : PySem.W.Frag) (mg : Str → Option Value) (C : Addr) (nm qual : Str) (st : Stmt) (ps : List Str) : Type where
  fn : Addr
  fd : FuncData
  F : L2.Fun K "__init__" qual st fn fd
  b : Binds K fd ps []
  M : Mk K C fn
  cl : Cls K C
  m : mg nm = some (.ref C)
/-- the table of isinstance as a list -/
def look {α β : Type} [DecidableEq α] (a : α) : List (α × β) → Option β
  | [] => none
  | (x, y) :: r => if a = x then some y else look a r
def tabJ (l : List ((TK × TK) × Bool)) (t c : TK) : Option Bool := look (t, c) l
theorem look_mem {α β : Type} [DecidableEq α] {a : α} {b : β} : ∀ {l : List (α × β)}, look a l = some b → (a, b) ∈ l
  | [], h => by cases h
  | (x, y) :: r, h => by
    unfold look at h
    by_cases q : a = x
    · rw [if_pos q] at h; cases h; rw [q]; exact List.mem_cons_self
    · rw [if_neg q] at h; exact List.mem_cons_of_mem _ (look_mem h)
section
variable {P : Program} {w : World} {K : PySem.W.Frag} {mg : Str → Option Value} {base : Heap} {g : Gx}
theorem isTab_of {l : List ((TK × TK) × Bool)} (h1 : ∀ e ∈ l, PySem.W.kitOne g.K (tv g e.1.1) (tv g e.1.2) = some e.2)
    (h2 : ∀ e ∈ l, ∀ c, e.1.1 = .inr c → Cls g.K (g.ct c) ∧ PySem.W.findIn g.K (.ref (g.ct c)) "__class__" = some (some (.builtin "object.__class__")) ∧ PySem.W.specialIn g.K (.builtin "object.__class__") "__get__" = some (some (.builtin "getset_descriptor.__get__")) ∧
      PySem.W.takesIn g.K (.builtin "object.__class__") = some true ∧ PySem.W.mroIn g.K (g.ct c) (.type "object") = some true) : IsTab g (tabJ l) :=
  ⟨fun t c b h => h1 _ (look_mem h), fun c t b h => h2 _ (look_mem h) c rfl⟩
/-- the table of fields as a list -/
def tabF (l : List (Nat × Str)) : FTab := fun c f => decide ((c, f) ∈ l)
theorem tabOk_of {l : List (Nat × Str)} (h : ∀ e ∈ l, Cls g.K (g.ct e.1) ∧ NoAttr g.K (g.ct e.1) e.2) : TabOk g (tabF l) := ⟨fun c f q => h (c, f) (of_decide_eq_true q)⟩

theorem kit_tt {a b : String} {r : Bool} (h : kitB a b = some r) : PySem.W.kitOne K (.type a) (.type b) = some r := kit_ty h
theorem kit_self {t : Value} : PySem.W.kitOne K t t = some true := if_pos (beq_self_eq_true _)
theorem kit_rt {C : Addr} {T : String} {b : Bool} (h : PySem.W.kitMeta T = true) (s : PySem.W.subIn K (.ref C) (.type T) = some b) : PySem.W.kitOne K (.ref C) (.type T) = some b := by
  unfold PySem.W.kitOne
  rw [if_neg (by intro z; exact absurd (beq_iff_eq.mp z) (by intro q; cases q))]
  show (if PySem.W.kitMeta T = true then _ else _) = _
  rw [if_pos h]
  exact s
theorem kit_xr {C D : Addr} {b : Bool} (ne : (D == C) = false) (i : PySem.W.isClsIn K C = true) (ty : PySem.W.typeIn K (.ref C) = some (.type "type")) (s : PySem.W.subIn K (.ref D) (.ref C) = some b) : PySem.W.kitOne K (.ref D) (.ref C) = some b := by
  unfold PySem.W.kitOne
  rw [if_neg (by intro z; have := beq_iff_eq.mp z; cases this; simp at ne)]
  have e2 : ((PySem.W.clsIn K C).isSome && PySem.W.typeIn K (.ref C) == some (.type "type")) = true := by
    have i' : (PySem.W.clsIn K C).isSome = true := i
    rw [i', ty] <;> rfl
  show (if ((PySem.W.clsIn K C).isSome && PySem.W.typeIn K (.ref C) == some (.type "type")) = true then _ else _) = _
  rw [if_pos e2]
  exact s
theorem kit_tr {C : Addr} {T : String} {b : Bool} (i : PySem.W.isClsIn K C = true) (ty : PySem.W.typeIn K (.ref C) = some (.type "type")) (s : PySem.W.subIn K (.type T) (.ref C) = some b) : PySem.W.kitOne K (.type T) (.ref C) = some b := by
  unfold PySem.W.kitOne
  rw [if_neg (by intro z; have := beq_iff_eq.mp z; cases this)]
  have e2 : ((PySem.W.clsIn K C).isSome && PySem.W.typeIn K (.ref C) == some (.type "type")) = true := by
    have i' : (PySem.W.clsIn K C).isSome = true := i
    rw [i', ty] <;> rfl
  show (if ((PySem.W.clsIn K C).isSome && PySem.W.typeIn K (.ref C) == some (.type "type")) = true then _ else _) = _
  rw [if_pos e2]
  exact s
theorem fa_nil {α : Type} {P : α → Prop} : ∀ e ∈ ([] : List α), P e := fun _ h => by cases h
theorem fa_cons {α : Type} {P : α → Prop} {a : α} {l : List α} (h : P a) (r : ∀ e ∈ l, P e) : ∀ e ∈ a :: l, P e := fun e q => by
  rcases List.mem_cons.mp q with z | z
  · rw [z]; exact h
  · exact r e z
theorem cst_int (i : Int) (t : Tok) : Cst g (.int i t) (.int i) := ⟨.int i, ⟨t, rfl⟩, fun _ _ _ => .int i⟩
theorem cst_str (i : Str) (t : Tok) : Cst g (.str i t) (.str i) := ⟨.str i, ⟨t, rfl⟩, fun _ _ _ => .str i⟩
theorem fn_bad {CX : CXT} {k : Nat} {fn : Addr} {fd : FuncData} {ps : List Str} {np : Nat} : FnOk P w K mg base CX k fn fd ps (spF g np fun _ => bad) :=
  ⟨fun _ _ _ _ h => by obtain ⟨_, _, _, _, _, _, h⟩ := h; exact h.elim, fun _ _ _ _ _ _ _ _ _ _ _ _ _ h => by obtain ⟨_, _, _, _, _, _, h⟩ := h; exact h.elim⟩
theorem fn_do {nm qual : Str} {st : Stmt} {fn : Addr} {fd : FuncData} {N ps : List Str} {k np n : Nat} {s : DS} (F : L2.Fun K nm qual st fn fd) (S : FnScope N ps (defScope st)) (hp : ps.length = np := by rfl) (hn : N.length = n := by rfl)
    (hbody : ∀ (cdv : Value) (A : Around) (outer : List Env) (s0 : Shared) (H : Hp) (E : XK), Room k (A.deeper (envOfC qual (defScope st) s0.heap.objs.size fn cdv)) →
      PSs (cxOf (L2.CX P w) P w K mg base N qual (defScope st) fn cdv A outer s0 H E) (defBody st) (tS g (fun cls d _ H => E cls d H) s)) :
    FnOk P w K mg base (L2.CX P w) (k + 1) fn fd ps (spF g np (cDef n s)) := by
  subst hp
  subst hn
  exact fn_sm F S hbody
/-- a level's denotation: below 2 nothing -/
def lev (F : Nat → List D → Mo D) : Nat → List D → Mo D
  | 0 => fun _ => bad
  | 1 => fun _ => bad
  | k + 2 => F k
@[simp] theorem lev_succ {F : Nat → List D → Mo D} {k : Nat} : lev F (k + 2) = F k := rfl
theorem fn_lev {CX : CXT} {k : Nat} {fn : Addr} {fd : FuncData} {ps : List Str} {np : Nat} {F : Nat → List D → Mo D} (h : ∀ j, FnOk P w K mg base CX (j + 2) fn fd ps (spF g np (F j))) : FnOk P w K mg base CX k fn fd ps (spF g np (lev F k)) := by
  match k with
  | 0 => exact fn_bad
  | 1 => exact fn_bad
  | k + 2 => exact h k

/-! ### the end of a law -/
def spL (n : Nat) (K : PySem.W.Frag) : Sp := fun vs H Q _ => ∃ (a : Addr) (ns : List Int), vs = [.ref a] ∧ ns.length ≤ n ∧ (∀ z ∈ ns, Builtin.Int.intBits z ≤ 1048576) ∧ Only H ∧ SqL K H a (ns.map V.int) ∧ ∀ H', Q (.bl true) H'
theorem lsc_of {H : Hp} {a : Addr} {xs : List V} (hO : Only H) (h : SqL K H a xs) : Lsc K H a xs := by
  rcases h with h | h
  · refine .inl ?_
    rcases h with h | ⟨o, h⟩
    · rcases hO a with z | ⟨o, ys, z⟩
      · rw [z] at h; cases h
      · rw [z] at h; cases h
    · exact ⟨o, h⟩
  · exact .inr h
theorem sr_nil {m : Nat → Addr} {H : Hp} : SR g m H [] := ⟨fun l o h => by simp at h, fun l l' h => by simp at h⟩
theorem law_end {CX : CXT} {n k : Nat} {fn : Addr} {fd : FuncData} {ps : List Str} {F : List D → Mo D} (hK : g.K = K) (G : FnOk P w K mg base CX k fn fd ps (spF g 1 F)) (h : ∀ ns : List Int, ns.length ≤ n → (∀ z ∈ ns, Builtin.Int.intBits z ≤ 1048576) → ∃ S', F [.lsc (ns.map .int)] [] = .ok (.bl true) S') :
    FnOk P w K mg base CX k fn fd ps (spL n K) := by
  refine G.imp fun vs H Q E q => ?_
  obtain ⟨a, ns, rfl, hl, hb, hO, hS, hQ⟩ := q
  obtain ⟨S', e⟩ := h ns hl hb
  refine ⟨rfl, fun _ => 0, [], [.lsc (ns.map .int)], sr_nil, .cons _ _ _ _ (.lsc a (ns.map V.int) _ (by rw [hK]; exact lsc_of hO hS) (VRs.of_ints ns)) .nil, ?_⟩
  rw [e]
  intro m' H' _ _ v rv
  cases rv
  exact hQ H'
theorem walk_sm {l : PySem.W.OpenLaw} {n k : Nat} {q : Program} {loose : List Str} {XP : (Str → Option Value) → Heap → Prop} {YP : World → Heap → Prop} {d : DefRec} {K : Params → PySem.W.Frag} {x : Str}
    (hn : l.most = some n) (hn2 : n ≤ sizeLine) (hdf : d.params.defaults = []) (hr : Room k callerA)
    (hY : ∀ (w : World) (h : Heap), YP w h → (K w.params).In h)
    (F : ∀ (w : World) (mg : Str → Option Value) (fa : Addr) (h : Heap), (K w.params).In h → h.Ns mainGlobals mg → mg d.name = some (.ref fa) →
      ∃ fd : FuncData, (∀ (s : Shared) (u : Value), BindsTo s fd ⟨[u], []⟩ [(x, u)]) ∧
        ∀ base : Heap, (K w.params).In base → base.Ns mainGlobals mg → FnOk l.prog w (K w.params) mg base (L2.CX l.prog w) k fa fd [x] (spL n (K w.params))) :
    PySem.W.WalkO q loose XP YP l.row.toRowW d [] (fun f vs => PySem.call f vs) :=
  L2.walk_ofB (CX := fun w => L2.CX l.prog w) (sp := fun w => spL n (K w.params)) hn hn2 hdf hr hY F (fun w H a ns hl hb hO hS => ⟨a, ns, rfl, hl, hb, hO, hS, fun _ => rfl⟩)
    fun w H s e s' z => by
      obtain ⟨_, _, _, _, _, _, _, _, _, _, _, _, z⟩ := z
      exact z.elim
end
end Sm
end
section
/-! Sm, part J: how denotations are reckoned (for simp). -/
namespace Sm
open PySem PySem.Spec PyProof.Rows L2
section
variable {S S' : Sto} {ρ : En} {f fa fb fc : DE} {fs : En → Mo (List D)} {ft fu : En → Mo Bool} {s t u : DS} {d e : D} {i j : Int}
/-! ### expressions -/
@[simp] theorem cVar_e (i : Nat) : cVar i ρ S = (match ρ[i]? with
  | some (some d) => .ok d S
  | _ => .no) := rfl
@[simp] theorem cC_e : cC d ρ S = .ok d S := rfl
@[simp] theorem cNil_e : cNil ρ S = .ok [] S := rfl
@[simp] theorem cCons_e : cCons f fs ρ S = (f ρ S).andThen fun x S1 => (fs ρ S1).andThen fun xs S2 => .ok (x :: xs) S2 := rfl
@[simp] theorem cTup_e : cTup fs ρ S = (fs ρ S).andThen fun xs S1 => if fit xs.length = true then .ok (.tup xs) S1 else .no := rfl
@[simp] theorem cLst_e : cLst fs ρ S = (fs ρ S).andThen fun xs S1 => newL xs S1 := rfl
@[simp] theorem cOp_e {h : D → D → Mo D} : cOp h fa fb ρ S = (fa ρ S).andThen fun x S1 => (fb ρ S1).andThen fun y S2 => h x y S2 := rfl
@[simp] theorem cUn_e {h : D → Mo D} : cUn h fa ρ S = (fa ρ S).andThen fun x S1 => h x S1 := rfl
@[simp] theorem cTest_e : cTest f ρ S = (f ρ S).andThen fun x S1 => asB x S1 := rfl
@[simp] theorem asB_e {b : Bool} : asB (.bl b) S = .ok b S := rfl
@[simp] theorem cTru_e : cTru f ρ S = (f ρ S).andThen fun x S1 => trD x S1 := rfl
@[simp] theorem cNotT_e : cNotT ft ρ S = (ft ρ S).andThen fun k S1 => .ok (!k) S1 := rfl
@[simp] theorem cAndT_e : cAndT ft fu ρ S = (ft ρ S).andThen fun k S1 => if k = true then fu ρ S1 else .ok false S1 := by
  show (ft ρ S).andThen _ = _
  congr
  funext k S1
  cases k <;> rfl
@[simp] theorem cOrT_e : cOrT ft fu ρ S = (ft ρ S).andThen fun k S1 => if k = true then .ok true S1 else fu ρ S1 := by
  show (ft ρ S).andThen _ = _
  congr
  funext k S1
  cases k <;> rfl
@[simp] theorem cAnd_e : cAnd fa fb ρ S = (fa ρ S).andThen fun x S1 => (trD x S1).andThen fun k S2 => if k = true then fb ρ S2 else .ok x S2 := by
  show (fa ρ S).andThen _ = _
  congr
  funext x S1
  show (trD x S1).andThen _ = _
  congr
  funext k S2
  cases k <;> rfl
@[simp] theorem cOr_e : cOr fa fb ρ S = (fa ρ S).andThen fun x S1 => (trD x S1).andThen fun k S2 => if k = true then .ok x S2 else fb ρ S2 := by
  show (fa ρ S).andThen _ = _
  congr
  funext x S1
  show (trD x S1).andThen _ = _
  congr
  funext k S2
  cases k <;> rfl
@[simp] theorem cNot_e : cNot fa ρ S = (fa ρ S).andThen fun x S1 => (trD x S1).andThen fun k S2 => .ok (.bl (!k)) S2 := rfl
@[simp] theorem cIf_e : cIf ft fa fb ρ S = (ft ρ S).andThen fun k S1 => if k = true then fa ρ S1 else fb ρ S1 := by
  show (ft ρ S).andThen _ = _
  congr
  funext k S1
  cases k <;> rfl
@[simp] theorem cCall_e {h : List D → Mo D} : cCall h fs ρ S = (fs ρ S).andThen fun xs S1 => h xs S1 := rfl
@[simp] theorem cChain_e {h h' : D → D → Mo D} : cChain h h' fa fb fc ρ S = (fa ρ S).andThen fun x S1 => (fb ρ S1).andThen fun y S2 => (h x y S2).andThen fun z S3 => (asB z S3).andThen fun k S4 => if k = true then (fc ρ S4).andThen fun u S5 => h' y u S5 else .ok (.bl false) S4 := by
  show (fa ρ S).andThen _ = _
  congr
  funext x S1
  show (fb ρ S1).andThen _ = _
  congr
  funext y S2
  show (h x y S2).andThen _ = _
  congr
  funext z S3
  show (asB z S3).andThen _ = _
  congr
  funext k S4
  cases k <;> rfl
@[simp] theorem cMt_e {T : String} {h : D → List D → Mo D} : cMt T h fa fs ρ S = (fa ρ S).andThen fun x S1 => (chk T x S1).andThen fun _ S2 => (fs ρ S2).andThen fun xs S3 => h x xs S3 := rfl
@[simp] theorem cMt0_e {T : String} {h : D → List D → Mo D} : cMt0 T h fa ρ S = (fa ρ S).andThen fun x S1 => (chk T x S1).andThen fun _ S2 => h x [] S2 := rfl
@[simp] theorem cFld_e {T : FTab} {nm : Str} : cFld T nm fa ρ S = (fa ρ S).andThen fun x S1 => fldD T nm x S1 := rfl
@[simp] theorem apF_e {np : Nat} {F : List D → Mo D} {ds : List D} : apF np F ds S = if ds.length = np then F ds S else .no := by
  unfold apF
  split <;> rfl
@[simp] theorem ar1_e {h : D → Mo D} : ar1 h [d] S = h d S := rfl
@[simp] theorem ar2_e {h : D → D → Mo D} : ar2 h [d, e] S = h d e S := rfl
@[simp] theorem am0_e {h : D → Mo D} : am0 h d [] S = h d S := rfl
@[simp] theorem am1_e {h : D → D → Mo D} : am1 h d [e] S = h d e S := rfl
@[simp] theorem optD_some {α : Type} {a : α} : optD (some a) S = .ok a S := rfl
@[simp] theorem optD_none {α : Type} : optD (none : Option α) S = .no := rfl
@[simp] theorem newL_e {xs : List D} (h : xs.length ≤ 16777216) : newL xs S = .ok (.loc S.length) (S ++ [.lst xs]) := by
  unfold newL
  rw [if_pos (fit_of h)]
@[simp] theorem fit_e {n : Nat} (h : n ≤ 16777216) : fit n = true := fit_of h
@[simp] theorem cSl_e {lo hi : En → Mo (Option Int)} : cSl fa lo hi ρ S = (fa ρ S).andThen fun x S1 => (lo ρ S1).andThen fun l S2 => (hi ρ S2).andThen fun h S3 => slD l h x S3 := rfl
@[simp] theorem cPart_none : cPart none ρ S = .ok none S := rfl
@[simp] theorem cPart_some : cPart (some fa) ρ S = (fa ρ S).andThen fun x S1 => match x with
    | .int i => .ok (some i) S1
    | _ => .no := by
  show (fa ρ S).andThen _ = _
  congr
  funext x S1
  cases x <;> rfl
/-! ### operations -/
@[simp] theorem addD_int : addD (.int i) (.int j) S = .ok (.int (i + j)) S := rfl
@[simp] theorem addD_str {x y : Str} : addD (.str x) (.str y) S = if fit (x.length + y.length) = true then .ok (.str (x ++ y)) S else .no := rfl
@[simp] theorem addD_tup {x y : List D} : addD (.tup x) (.tup y) S = if fit (x.length + y.length) = true then .ok (.tup (x ++ y)) S else .no := rfl
@[simp] theorem addD_loc {l l' : Nat} : addD (.loc l) (.loc l') S = addO S S[l]? S[l']? := rfl
@[simp] theorem subD_int : subD (.int i) (.int j) S = .ok (.int (i - j)) S := rfl
@[simp] theorem mulD_int : mulD (.int i) (.int j) S = if okMul i j = true then .ok (.int (i * j)) S else .no := rfl
@[simp] theorem fdivD_int : fdivD (.int i) (.int j) S = if okDiv i j = true then .ok (.int (i.fdiv j)) S else .no := rfl
@[simp] theorem modD_int : modD (.int i) (.int j) S = if okMod i j = true then .ok (.int (i % j)) S else .no := rfl
@[simp] theorem powD_int : powD (.int i) (.int j) S = if okPow i j = true then .ok (.int (i ^ j.toNat)) S else .no := rfl
@[simp] theorem shrD_int : shrD (.int i) (.int j) S = if okShr i j = true then .ok (.int (i / 2 ^ j.toNat)) S else .no := rfl
@[simp] theorem andD_int : andD (.int i) (.int j) S = .ok (.int (Builtin.bitAnd i j)) S := rfl
@[simp] theorem negD_int : negD (.int i) S = .ok (.int (-i)) S := rfl
@[simp] theorem ltI_int : ltI (.int i) (.int j) S = .ok (.bl (decide (i < j))) S := rfl
@[simp] theorem leI_int : leI (.int i) (.int j) S = .ok (.bl (decide (i ≤ j))) S := rfl
@[simp] theorem gtI_int : gtI (.int i) (.int j) S = .ok (.bl (decide (j < i))) S := rfl
@[simp] theorem geI_int : geI (.int i) (.int j) S = .ok (.bl (decide (j ≤ i))) S := rfl
@[simp] theorem okMod_e (h : 0 < j) : okMod i j = true := okMod_iff.mpr h
@[simp] theorem okShr_e (h : 0 ≤ j) : okShr i j = true := okShr_iff.mpr h
@[simp] theorem okPow_e (h : 0 ≤ j) (h2 : j ≤ 1000000) (h3 : i.natAbs < 18446744073709551616) : okPow i j = true := okPow_iff.mpr ⟨h, h2, h3⟩
theorem log2_lt {n k : Nat} (hk : 0 < k) (h : n < 2 ^ k) : n.log2 < k := by
  rcases Nat.eq_zero_or_pos n with z | z
  · subst z; simpa using hk
  · exact (Nat.log2_lt (Nat.ne_of_gt z)).mpr h
@[simp] theorem okDiv_e (h : 0 < j) (h2 : j < 18446744073709551616) : okDiv i j = true := okDiv_iff.mpr ⟨by omega, by
  have : j.natAbs.log2 < 64 := log2_lt (by decide) (by omega)
  omega⟩
theorem okDiv_n (h : j ≠ 0) (h2 : j.natAbs < 2 ^ 9000) : okDiv i j = true := okDiv_iff.mpr ⟨h, log2_lt (by decide) h2⟩
@[simp] theorem fdiv_e (h : 0 < j) : i.fdiv j = i / j := Int.fdiv_eq_ediv_of_nonneg i (by omega)
@[simp] theorem okMul_e (h : -18446744073709551616 < i) (h2 : i < 18446744073709551616) : okMul i j = true := okMul_iff.mpr (.inl (.inl ⟨by simpa using h, by simpa using h2⟩))
theorem okMul_n {a b : Nat} (ha : i.natAbs < 2 ^ a) (hb : j.natAbs < 2 ^ b) (h0 : 0 < a) (h1 : 0 < b) (h : a + b ≤ 1000000) : okMul i j = true := okMul_iff.mpr (.inr (wide_mul ha hb h0 h1 h))
@[simp] theorem intD_int : intD (.int i) S = .ok (.int i) S := rfl
@[simp] theorem intD_bl {b : Bool} : intD (.bl b) S = .ok (.int (if b = true then 1 else 0)) S := rfl
@[simp] theorem absD_int : absD (.int i) S = .ok (.int (if i < 0 then -i else i)) S := rfl
@[simp] theorem maxD_int : maxD (.int i) (.int j) S = .ok (.int (if j > i then j else i)) S := rfl
@[simp] theorem minD_int : minD (.int i) (.int j) S = .ok (.int (if j < i then j else i)) S := rfl
theorem eqN_flat {n : Nat} {b : Bool} (h : scalF d e = some b) : eqN S n d e = some b := by
  cases n with
  | zero => exact h
  | succ n => unfold eqN; rw [h]
theorem okTop_flat (h : flatD d = true) : okTop S d = true := by
  cases d <;> first | rfl | (cases h; done)
theorem eqQ_flat {b : Bool} (h : scalF d e = some b) : eqQ d e S = some b := by
  obtain ⟨h1, h2, _⟩ := scalF_some h
  unfold eqQ
  rw [okTop_flat h1, okTop_flat h2, eqN_flat h]
  rfl
theorem eqD_flat {b : Bool} (h : scalF d e = some b) : eqD d e S = .ok (.bl b) S := by
  unfold eqD
  rw [eqQ_flat h]
theorem neD_flat {b : Bool} (h : scalF d e = some b) : neD d e S = .ok (.bl (!b)) S := by
  unfold neD
  rw [eqQ_flat h]
@[simp] theorem eqD_int : eqD (.int i) (.int j) S = .ok (.bl (i == j)) S := eqD_flat rfl
@[simp] theorem neD_int : neD (.int i) (.int j) S = .ok (.bl (!(i == j))) S := neD_flat rfl
@[simp] theorem eqD_str {x y : Str} : eqD (.str x) (.str y) S = .ok (.bl (x == y)) S := eqD_flat rfl
@[simp] theorem neD_str {x y : Str} : neD (.str x) (.str y) S = .ok (.bl (!(x == y))) S := neD_flat rfl
@[simp] theorem eqD_bl {x y : Bool} : eqD (.bl x) (.bl y) S = .ok (.bl (x == y)) S := eqD_flat rfl
@[simp] theorem neD_bl {x y : Bool} : neD (.bl x) (.bl y) S = .ok (.bl (!(x == y))) S := neD_flat rfl
@[simp] theorem eqD_ni : eqD .non (.int j) S = .ok (.bl false) S := eqD_flat rfl
@[simp] theorem eqD_in : eqD (.int j) .non S = .ok (.bl false) S := eqD_flat rfl
@[simp] theorem eqD_ns {x : Str} : eqD .non (.str x) S = .ok (.bl false) S := eqD_flat rfl
@[simp] theorem eqD_sn {x : Str} : eqD (.str x) .non S = .ok (.bl false) S := eqD_flat rfl
@[simp] theorem eqD_is {x : Str} : eqD (.int i) (.str x) S = .ok (.bl false) S := eqD_flat rfl
@[simp] theorem eqD_si {x : Str} : eqD (.str x) (.int i) S = .ok (.bl false) S := eqD_flat rfl
@[simp] theorem neD_ni : neD .non (.int j) S = .ok (.bl true) S := neD_flat (b := false) rfl
@[simp] theorem neD_in : neD (.int j) .non S = .ok (.bl true) S := neD_flat (b := false) rfl
@[simp] theorem neD_is {x : Str} : neD (.int i) (.str x) S = .ok (.bl true) S := neD_flat (b := false) rfl
@[simp] theorem neD_si {x : Str} : neD (.str x) (.int i) S = .ok (.bl true) S := neD_flat (b := false) rfl
/-- all of them, if all can be told -/
def mapO (f : D → Option D) : List D → Option (List D)
  | [] => some []
  | x :: xs => match f x, mapO f xs with
    | some y, some ys => some (y :: ys)
    | _, _ => none
/-- data with its lists written out, n deep at most -/
def cont (S : Sto) : Nat → D → Option D
  | 0, d => if flatD d = true then some d else none
  | n + 1, .tup xs => (mapO (cont S n) xs).map .tup
  | n + 1, .lsc xs => (mapO (cont S n) xs).map .lsc
  | n + 1, .loc l => match S[l]? with
    | some (.lst xs) => (mapO (cont S n) xs).map .lsc
    | some (.ins _ _) => some (.loc l)
    | _ => none
  | _ + 1, d => if flatD d = true then some d else none
theorem mapO_len {f : D → Option D} : ∀ {xs ys : List D}, mapO f xs = some ys → ys.length = xs.length
  | [], _, h => by cases h; rfl
  | x :: xs, ys, h => by
    unfold mapO at h
    cases q : f x with
    | none => simp only [q] at h; cases h
    | some y =>
      cases q2 : mapO f xs with
      | none => simp only [q, q2] at h; cases h
      | some zs =>
        simp only [q, q2] at h
        cases h
        simp [mapO_len q2]
theorem eqAll_cont {f : D → D → Option Bool} {c : D → Option D} (hf : ∀ d e r, c d = some r → c e = some r → f d e = some true) : ∀ {xs ys zs : List D}, mapO c xs = some zs → mapO c ys = some zs → eqAll f xs ys = some true
  | [], ys, _, h, h' => by cases h; cases ys with
    | nil => rfl
    | cons _ _ => have := mapO_len h'; simp at this
  | x :: xs, [], _, h, h' => by cases h'; have := mapO_len h; simp at this
  | x :: xs, y :: ys, zs, h, h' => by
    unfold mapO at h h'
    cases q1 : c x with
    | none => simp only [q1] at h; cases h
    | some u =>
      cases q2 : mapO c xs with
      | none => simp only [q1, q2] at h; cases h
      | some us =>
        cases q3 : c y with
        | none => simp only [q3] at h'; cases h'
        | some w =>
          cases q4 : mapO c ys with
          | none => simp only [q3, q4] at h'; cases h'
          | some ws =>
            simp only [q1, q2] at h
            simp only [q3, q4] at h'
            cases h
            cases h'
            unfold eqAll
            rw [hf x y _ q1 q3, eqAll_cont hf q2 q4]
            rfl
theorem flat_self : flatD d = true → scalF d d = some true := by
  intro h
  cases d <;> first | (cases h; done) | (simp [scalF, flatD, eqF])
theorem cont_shape {n : Nat} {r : D} (h : cont S n d = some r) : (flatD d = true ∧ r = d) ∨ (∃ k xs zs, n = k + 1 ∧ d = .tup xs ∧ mapO (cont S k) xs = some zs ∧ r = .tup zs) ∨ (∃ k xs zs, n = k + 1 ∧ lstS S d = some xs ∧ flatD d = false ∧ (∀ ys, d ≠ .tup ys) ∧ mapO (cont S k) xs = some zs ∧ r = .lsc zs) ∨ (∃ l, d = .loc l ∧ r = .loc l ∧ lstS S d = none ∧ ∃ k, n = k + 1) := by
  cases n with
  | zero =>
    have h2 : (if flatD d = true then some d else none) = some r := by cases d <;> exact h
    split at h2
    · rename_i q; cases h2; exact .inl ⟨q, rfl⟩
    · cases h2
  | succ k =>
    cases d with
    | tup xs =>
      obtain ⟨zs, q, rfl⟩ := Option.map_eq_some_iff.mp (show (mapO (cont S k) xs).map D.tup = some r from h)
      exact .inr (.inl ⟨k, xs, zs, rfl, rfl, q, rfl⟩)
    | lsc xs =>
      obtain ⟨zs, q, rfl⟩ := Option.map_eq_some_iff.mp (show (mapO (cont S k) xs).map D.lsc = some r from h)
      exact .inr (.inr (.inl ⟨k, xs, zs, rfl, rfl, rfl, (by intro _ z; cases z), q, rfl⟩))
    | loc l =>
      unfold cont at h
      cases q0 : S[l]? with
      | none => simp only [q0] at h; cases h
      | some o =>
        simp only [q0] at h
        cases o with
        | lst xs =>
          obtain ⟨zs, q, rfl⟩ := Option.map_eq_some_iff.mp h
          exact .inr (.inr (.inl ⟨k, xs, zs, rfl, by show lstO S[l]? = _; rw [q0]; rfl, rfl, (by intro _ z; cases z), q, rfl⟩))
        | ins c fs => cases h; exact .inr (.inr (.inr ⟨l, rfl, rfl, by show lstO S[l]? = _; rw [q0]; rfl, k, rfl⟩))
        | dct kvs => cases h
    | _ =>
      first
        | (cases h; exact .inl ⟨rfl, rfl⟩)
        | (cases h; done)
theorem eqN_cont (n : Nat) : ∀ {d e r : D}, cont S n d = some r → cont S n e = some r → eqN S n d e = some true := by
  induction n using Nat.strongRecOn with
  | ind n ih =>
    intro d e r h h'
    rcases cont_shape h with ⟨f1, rfl⟩ | ⟨k, xs, zs, rfl, rfl, m1, rfl⟩ | ⟨k, xs, zs, rfl, l1, f1, t1, m1, rfl⟩ | ⟨l, rfl, rfl, l1, k, rfl⟩
    · rcases cont_shape h' with ⟨f2, rfl⟩ | ⟨_, _, _, _, rfl, _, rfl⟩ | ⟨_, _, _, _, _, f2, _, _, rfl⟩ | ⟨l, rfl, rfl, _⟩
      · exact eqN_flat (flat_self f1)
      · cases f1
      · cases f1
      · cases f1
    · rcases cont_shape h' with ⟨f2, e2⟩ | ⟨_, ys, zs', e1, rfl, m2, e2⟩ | ⟨_, _, _, _, _, _, _, _, e2⟩ | ⟨l, _, e2, _⟩
      · subst e2; cases f2
      · cases e1
        cases e2
        show (match scalF (.tup xs) (.tup ys) with
          | some b => some b
          | none => (eqAll (eqN S k) xs ys).map fun b => b && decide (xs.length = ys.length)) = some true
        rw [eqAll_cont (f := eqN S k) (c := cont S k) (fun _ _ _ a b => ih k (Nat.lt_succ_self k) a b) m1 m2]
        have : xs.length = ys.length := by rw [← mapO_len m1, ← mapO_len m2]
        simp [scalF, flatD, this]
      · cases e2
      · cases e2
    · rcases cont_shape h' with ⟨f2, e2⟩ | ⟨_, ys, zs', e1, rfl, m2, e2⟩ | ⟨_, ys, zs', e1, l2, f2, t2, m2, e2⟩ | ⟨l, _, e2, _⟩
      · subst e2; cases f2
      · cases e2
      · cases e1
        cases e2
        have key : eqC (eqN S k) S d e = eqL (eqN S k) S d e := by
          cases d <;> cases e <;> first | rfl | exact absurd rfl (t1 _) | exact absurd rfl (t2 _)
        unfold eqN
        have : scalF d e = none := by unfold scalF; rw [f1]; rfl
        rw [this]
        dsimp only
        rw [key]
        unfold eqL
        simp only [l1, l2]
        rw [if_pos (by rw [← mapO_len m1, ← mapO_len m2])]
        exact eqAll_cont (f := eqN S k) (c := cont S k) (fun _ _ _ a b => ih k (Nat.lt_succ_self k) a b) m1 m2
      · cases e2
    · rcases cont_shape h' with ⟨f2, e2⟩ | ⟨_, _, _, _, _, _, e2⟩ | ⟨_, _, _, _, _, _, _, _, e2⟩ | ⟨l', e1, e2, l2, _⟩
      · subst e2; cases f2
      · cases e2
      · cases e2
      · cases e2
        subst e1
        unfold eqN
        show eqL (eqN S k) S (.loc l) (.loc l) = some true
        unfold eqL
        simp only [l1]
        simp [sameI]
theorem top_cont {n : Nat} {r : D} (h : cont S n d = some r) (hn : ∀ l, r ≠ .loc l) : okTop S d = true := by
  rcases cont_shape h with ⟨f1, rfl⟩ | ⟨k, xs, zs, rfl, rfl, m1, rfl⟩ | ⟨k, xs, zs, rfl, l1, f1, t1, m1, rfl⟩ | ⟨l, rfl, rfl, l1, k, rfl⟩
  · exact okTop_flat f1
  · rfl
  · have : okTop S d = (flatD d || (lstS S d).isSome) := by cases d <;> first | rfl | exact absurd rfl (t1 _)
    rw [this, l1]
    simp
  · exact absurd rfl (hn l)
/-- what is written out alike is equal -/
theorem eq_cont {r : D} (h : cont S 60 d = some r) (h' : cont S 60 e = some r) (hn : ∀ l, r ≠ .loc l) : eqD d e S = .ok (.bl true) S := by
  unfold eqD eqQ
  rw [top_cont h hn, top_cont h' hn, eqN_cont 60 h h']
  rfl
theorem ne_cont {r : D} (h : cont S 60 d = some r) (h' : cont S 60 e = some r) (hn : ∀ l, r ≠ .loc l) : neD d e S = .ok (.bl false) S := by
  unfold neD eqQ
  rw [top_cont h hn, top_cont h' hn, eqN_cont 60 h h']
  rfl
@[simp] theorem mapO_nil {f : D → Option D} : mapO f [] = some [] := rfl
@[simp] theorem mapO_cons {f : D → Option D} {x : D} {xs : List D} : mapO f (x :: xs) = (f x).bind fun y => (mapO f xs).map fun ys => y :: ys := by
  conv => lhs; unfold mapO
  cases f x <;> cases mapO f xs <;> rfl
@[simp] theorem cont_tup {n : Nat} {xs : List D} : cont S (n + 1) (.tup xs) = (mapO (cont S n) xs).map .tup := rfl
@[simp] theorem cont_lsc {n : Nat} {xs : List D} : cont S (n + 1) (.lsc xs) = (mapO (cont S n) xs).map .lsc := rfl
@[simp] theorem cont_int {n : Nat} : cont S n (.int i) = some (.int i) := by cases n <;> rfl
@[simp] theorem cont_str {n : Nat} {x : Str} : cont S n (.str x) = some (.str x) := by cases n <;> rfl
@[simp] theorem cont_bl {n : Nat} {x : Bool} : cont S n (.bl x) = some (.bl x) := by cases n <;> rfl
@[simp] theorem cont_non {n : Nat} : cont S n .non = some .non := by cases n <;> rfl
theorem cont_loc {n l : Nat} : cont S (n + 1) (.loc l) = match S[l]? with
    | some (.lst xs) => (mapO (cont S n) xs).map .lsc
    | some (.ins _ _) => some (.loc l)
    | _ => none := rfl
@[simp] theorem isNone_n : isNone .non .non S = .ok (.bl true) S := rfl
@[simp] theorem isNone_i : isNone (.int i) .non S = .ok (.bl false) S := rfl
@[simp] theorem isNone_s {x : Str} : isNone (.str x) .non S = .ok (.bl false) S := rfl
@[simp] theorem isNone_t {x : List D} : isNone (.tup x) .non S = .ok (.bl false) S := rfl
@[simp] theorem isNone_l {x : Nat} : isNone (.loc x) .non S = .ok (.bl false) S := rfl
@[simp] theorem notNone_n : notNone .non .non S = .ok (.bl false) S := rfl
@[simp] theorem notNone_i : notNone (.int i) .non S = .ok (.bl true) S := rfl
@[simp] theorem notNone_s {x : Str} : notNone (.str x) .non S = .ok (.bl true) S := rfl
@[simp] theorem notNone_t {x : List D} : notNone (.tup x) .non S = .ok (.bl true) S := rfl
@[simp] theorem notNone_l {x : Nat} : notNone (.loc x) .non S = .ok (.bl true) S := rfl
@[simp] theorem getD_tup {xs : List D} : getD (.tup xs) (.int i) S = optD (L2.atI xs i) S := rfl
@[simp] theorem getD_lsc {xs : List D} : getD (.lsc xs) (.int i) S = optD (L2.atI xs i) S := rfl
@[simp] theorem getD_loc {l : Nat} : getD (.loc l) d S = optD (getO d S[l]?) S := rfl
@[simp] theorem getO_lst {xs : List D} : getO (.int i) (some (.lst xs)) = L2.atI xs i := rfl
@[simp] theorem getO_dctI {kvs : List (Key × D)} : getO (.int i) (some (.dct kvs)) = valD kvs (.inl i) := rfl
@[simp] theorem getO_dctS {x : Str} {kvs : List (Key × D)} : getO (.str x) (some (.dct kvs)) = valD kvs (.inr x) := rfl
@[simp] theorem isiD_e {J : TK → TK → Option Bool} : isiD J d e S = optD ((isiQ J d e S).map D.bl) S := rfl
@[simp] theorem fldD_loc {T : FTab} {nm : Str} {l : Nat} : fldD T nm (.loc l) S = optD (fldO T nm S[l]?) S := rfl
@[simp] theorem fldO_ins {T : FTab} {nm : Str} {c : Nat} {fs : List (Str × D)} : fldO T nm (some (.ins c fs)) = if T c nm = true then fs.lookup nm else none := rfl
@[simp] theorem lenD_e : lenD d S = optD (lenQ d S) S := rfl
@[simp] theorem lenQ_tup {xs : List D} : lenQ (.tup xs) S = some (.int xs.length) := rfl
@[simp] theorem lenQ_lsc {xs : List D} : lenQ (.lsc xs) S = some (.int xs.length) := rfl
@[simp] theorem lenQ_loc {l : Nat} : lenQ (.loc l) S = lenO S[l]? := rfl
@[simp] theorem lenO_lst {xs : List D} : lenO (some (.lst xs)) = some (.int xs.length) := rfl
@[simp] theorem lenO_dct {xs : List (Key × D)} : lenO (some (.dct xs)) = some (.int xs.length) := rfl
@[simp] theorem tyQ_non : tyQ .non S = some (.inl "NoneType") := rfl
@[simp] theorem tyQ_bl {b : Bool} : tyQ (.bl b) S = some (.inl "bool") := rfl
@[simp] theorem tyQ_int : tyQ (.int i) S = some (.inl "int") := rfl
@[simp] theorem tyQ_str {x : Str} : tyQ (.str x) S = some (.inl "str") := rfl
@[simp] theorem tyQ_tup {x : List D} : tyQ (.tup x) S = some (.inl "tuple") := rfl
@[simp] theorem tyQ_loc {l : Nat} : tyQ (.loc l) S = tyO S[l]? := rfl
@[simp] theorem tyO_lst {x : List D} : tyO (some (.lst x)) = some (.inl "list") := rfl
@[simp] theorem tyO_dct {x : List (Key × D)} : tyO (some (.dct x)) = some (.inl "dict") := rfl
@[simp] theorem tyO_ins {c : Nat} {x : List (Str × D)} : tyO (some (.ins c x)) = some (.inr c) := rfl
@[simp] theorem clQ_ty {n : String} : clQ (.ty n) = some (.inl n) := rfl
@[simp] theorem clQ_cls {n : Nat} : clQ (.cls n) = some (.inr n) := rfl
@[simp] theorem trD_bl {b : Bool} : trD (.bl b) S = .ok b S := rfl
@[simp] theorem trD_int : trD (.int i) S = .ok (i != 0) S := rfl
@[simp] theorem trD_non : trD .non S = .ok false S := rfl
@[simp] theorem trD_tup {x : List D} : trD (.tup x) S = .ok (!x.isEmpty) S := rfl
@[simp] theorem trD_locs {l : Nat} : trD (.loc l) S = trO S S[l]? := rfl
@[simp] theorem trO_lst {x : List D} : trO S (some (.lst x)) = .ok (!x.isEmpty) S := rfl
@[simp] theorem trO_dct {x : List (Key × D)} : trO S (some (.dct x)) = .ok (!x.isEmpty) S := rfl
@[simp] theorem chk_e {T : String} : chk T d S = if tyD T d S = true then .ok () S else .no := rfl
@[simp] theorem appD_loc {l : Nat} : appD (.loc l) e S = unitQ (appO e l S S[l]?) := rfl
@[simp] theorem appO_lst {l : Nat} {xs : List D} : appO e l S (some (.lst xs)) = if fit (xs.length + 1) = true then some (S.set l (.lst (xs ++ [e]))) else none := rfl
@[simp] theorem unitQ_some : unitQ (some S) = .ok .non S := rfl
/-! ### statements -/
def Fz.sq (r : Fz) (t : DS) : Fz := match r with
  | .nx ρ' S' => t ρ' S'
  | o => o
@[simp] theorem sq_nx : (Fz.nx ρ S).sq t = t ρ S := rfl
@[simp] theorem sq_ret : (Fz.ret d S).sq t = .ret d S := rfl
@[simp] theorem sq_no : Fz.no.sq t = .no := rfl
@[simp] theorem sq_brk : (Fz.brk ρ S).sq t = .brk ρ S := rfl
@[simp] theorem sq_cnt : (Fz.cnt ρ S).sq t = .cnt ρ S := rfl
@[simp] theorem sq_ex {x : Exn} : (Fz.ex x ρ S).sq t = .ex x ρ S := rfl
@[simp] theorem cSeq_e : cSeq s t ρ S = (s ρ S).sq t := by
  unfold cSeq Fz.sq
  rfl
@[simp] theorem cNext_e : cNext ρ S = .nx ρ S := rfl
@[simp] theorem cBrk_e : cBrk ρ S = .brk ρ S := rfl
@[simp] theorem cCnt_e : cCnt ρ S = .cnt ρ S := rfl
@[simp] theorem cExpr_e : cExpr f ρ S = (f ρ S).toF ρ fun _ S1 => .nx ρ S1 := rfl
@[simp] theorem cRet_e : cRet f ρ S = (f ρ S).toF ρ fun d S1 => .ret d S1 := rfl
@[simp] theorem cRetN_e : cRetN ρ S = .ret .non S := rfl
@[simp] theorem cIfS_e : cIfS ft s t ρ S = (ft ρ S).toF ρ fun k S1 => if k = true then s ρ S1 else t ρ S1 := by
  show (ft ρ S).toF ρ _ = _
  congr
  funext k S1
  cases k <;> rfl
@[simp] theorem kName_e {i : Nat} : kName i d ρ S = .nx (ρ.set i (some d)) S := rfl
def Fz.nxO (r : Fz) : Fz := match r with
  | .nx ρ' S' => .nx ρ' S'
  | _ => .no
@[simp] theorem nxO_nx : (Fz.nx ρ S).nxO = .nx ρ S := rfl
@[simp] theorem cAsg_e {k : DG} : cAsg f k ρ S = (f ρ S).toF ρ fun d S1 => (k d ρ S1).nxO := rfl
@[simp] theorem kTup_e {ks : DGs} {n : Nat} {xs : List D} : kTup ks n (.tup xs) ρ S = if xs.length = n then ks xs ρ S else .no := rfl
theorem kTup_l {ks : DGs} {n l : Nat} {xs : List D} (h : S[l]? = some (.lst xs)) : kTup ks n (.loc l) ρ S = if xs.length = n then ks xs ρ S else .no := by
  unfold kTup unS
  simp only [h, unO]
@[simp] theorem kCons_e {k : DG} {ks : DGs} {r : List D} : kCons k ks (d :: r) ρ S = match k d ρ S with
    | .nx ρ' S' => ks r ρ' S'
    | _ => .no := rfl
@[simp] theorem kNil_e : kNil [] ρ S = .nx ρ S := rfl
@[simp] theorem cPar_e {i j : Nat} : cPar i j fs ρ S = (fs ρ S).toF ρ fun ds S1 => match ds with
  | [d, e] => .nx ((ρ.set i (some d)).set j (some e)) S1
  | _ => .no := rfl
@[simp] theorem cSt_e {fo fi fv : DE} : cSt fo fi fv ρ S = (fv ρ S).toF ρ fun v S1 => (fo ρ S1).toF ρ fun o S2 => (fi ρ S2).toF ρ fun i S3 => match stQ o i v S3 with
  | some S4 => .nx ρ S4
  | none => .no := rfl
@[simp] theorem stQ_loc {l : Nat} {i v : D} : stQ (.loc l) i v S = stO i v l S S[l]? := rfl
@[simp] theorem stO_lst {l : Nat} {v : D} {xs : List D} : stO (.int i) v l S (some (.lst xs)) = (L2.ixN xs.length i).map fun j => S.set l (.lst (xs.set j v)) := rfl
@[simp] theorem stO_dctI {l : Nat} {v : D} {kvs : List (Key × D)} : stO (.int i) v l S (some (.dct kvs)) = if fit (kvs.length + 1) = true then some (S.set l (.dct (putD kvs (.inl i) v))) else none := rfl
@[simp] theorem stO_dctS {l : Nat} {v : D} {x : Str} {kvs : List (Key × D)} : stO (.str x) v l S (some (.dct kvs)) = if fit (kvs.length + 1) = true then some (S.set l (.dct (putD kvs (.inr x) v))) else none := rfl
@[simp] theorem cSetF_e {T : FTab} {nm : Str} {fo fv : DE} : cSetF T nm fo fv ρ S = (fv ρ S).toF ρ fun v S1 => (fo ρ S1).toF ρ fun o S2 => match setG T nm v o S2 with
  | some S3 => .nx ρ S3
  | none => .no := rfl
@[simp] theorem setG_loc {T : FTab} {nm : Str} {l : Nat} {v : D} : setG T nm v (.loc l) S = setO T nm v l S S[l]? := rfl
@[simp] theorem few_e {n : Nat} (h : n < 1000) : few n = true := few_iff.mpr h
@[simp] theorem setO_ins {T : FTab} {nm : Str} {l c : Nat} {v : D} {fs : List (Str × D)} : setO T nm v l S (some (.ins c fs)) = if (T c nm && few fs.length) = true then some (S.set l (.ins c (putFD nm v fs))) else none := rfl
@[simp] theorem newI_e {c np : Nat} {F : List D → Mo D} {ds : List D} : newI c np F ds S = (apF np F (.loc S.length :: ds) (S ++ [.ins c []])).andThen fun r S' => match r with
  | .non => .ok (.loc S.length) S'
  | _ => .no := rfl
theorem cFor_e {it : En → Mo Wk} {k : DG} : cFor it k s ρ S = (it ρ S).toF ρ fun w S1 => match w with
  | .items ds => loopI k s ds ρ S1
  | .view nx n => loopV k s nx n 0 ρ S1 := rfl
@[simp] theorem cIt_e : cIt f ρ S = (f ρ S).andThen fun x S1 => itD x S1 := rfl
@[simp] theorem itD_tup {xs : List D} : itD (.tup xs) S = .ok (.items xs) S := rfl
@[simp] theorem itD_lsc {xs : List D} : itD (.lsc xs) S = .ok (.items xs) S := rfl
@[simp] theorem itD_str {x : Str} : itD (.str x) S = .ok (.items (x.cps.toList.map fun c => .str ⟨#[c]⟩)) S := rfl
@[simp] theorem itD_loc {l : Nat} : itD (.loc l) S = match S[l]? with
    | some (.lst xs) => .ok (.view (liveX l) xs.length) S
    | _ => .no := rfl
@[simp] theorem loopI_nil {k : DG} : loopI k s [] ρ S = .nx ρ S := rfl
/-- what a turn leaves to the rest -/
def Fz.tn (r : Fz) (rest : DS) : Fz := match r with
  | .nx ρ' S' => rest ρ' S'
  | .cnt ρ' S' => rest ρ' S'
  | .brk ρ' S' => .nx ρ' S'
  | o => o
@[simp] theorem tn_nx : (Fz.nx ρ S).tn t = t ρ S := rfl
@[simp] theorem tn_cnt : (Fz.cnt ρ S).tn t = t ρ S := rfl
@[simp] theorem tn_brk : (Fz.brk ρ S).tn t = .nx ρ S := rfl
@[simp] theorem tn_ret : (Fz.ret d S).tn t = .ret d S := rfl
@[simp] theorem tn_no : Fz.no.tn t = .no := rfl
theorem loopI_cons {k : DG} {r : List D} : loopI k s (d :: r) ρ S = match k d ρ S with
    | .nx ρ1 S1 => (s ρ1 S1).tn (loopI k s r)
    | _ => .no := by
  conv => lhs; unfold loopI
  cases k d ρ S with
  | nx ρ1 S1 => cases s ρ1 S1 <;> rfl
  | _ => rfl
theorem loopV_end {k : DG} {nx : Nx} {n i : Nat} (h : nx i S = some none) : loopV k s nx n i ρ S = .nx ρ S := by
  cases n with
  | zero => unfold loopV; rw [h]
  | succ n => unfold loopV; rw [h]
theorem loopV_succ {k : DG} {nx : Nx} {i n : Nat} (h : nx i S = some (some d)) : loopV k s nx (n + 1) i ρ S = match k d ρ S with
    | .nx ρ1 S1 => (s ρ1 S1).tn (loopV k s nx n (i + 1))
    | _ => .no := by
  conv => lhs; unfold loopV
  simp only [h]
  cases k d ρ S with
  | nx ρ1 S1 => cases s ρ1 S1 <;> rfl
  | _ => rfl
@[simp] theorem liveX_e {l i : Nat} : liveX l i S = liveO i S[l]? := rfl
@[simp] theorem liveO_lst {i : Nat} {xs : List D} : liveO i (some (.lst xs)) = some xs[i]? := rfl
/-- a loop that keeps an invariant: over items -/
theorem loopI_inv {k : DG} (P : Nat → En → Sto → Prop) {ds : List D} (h : ∀ i d ρ S, ds[i]? = some d → P i ρ S → ∃ ρ1 S1, k d ρ S = .nx ρ1 S1 ∧ ∃ ρ' S', (s ρ1 S1 = .nx ρ' S' ∨ s ρ1 S1 = .cnt ρ' S') ∧ P (i + 1) ρ' S') (h0 : P 0 ρ S) :
    ∃ ρ' S', loopI k s ds ρ S = .nx ρ' S' ∧ P ds.length ρ' S' := by
  suffices ∀ (n : Nat) (r : List D) (ρ : En) (S : Sto), ds.drop n = r → n ≤ ds.length → P n ρ S → ∃ ρ' S', loopI k s r ρ S = .nx ρ' S' ∧ P ds.length ρ' S' from this 0 ds ρ S rfl (Nat.zero_le _) h0
  intro n r
  induction r generalizing n with
  | nil =>
    intro ρ S e hn p
    have : ds.length ≤ n := by simpa using e
    have e2 : n = ds.length := by omega
    subst e2
    exact ⟨ρ, S, rfl, p⟩
  | cons d r ih =>
    intro ρ S e hn p
    have hd : ds[n]? = some d := by
      have := congrArg (fun l => l[0]?) e
      simpa using this
    have hr : ds.drop (n + 1) = r := by
      have := congrArg List.tail e
      simpa using this
    have hlt : n < ds.length := by
      rw [List.getElem?_eq_some_iff] at hd
      exact hd.1
    obtain ⟨ρ1, S1, e1, ρ', S', e2, p2⟩ := h n d ρ S hd p
    obtain ⟨ρ2, S2, e3, p3⟩ := ih (n + 1) ρ' S' hr hlt p2
    refine ⟨ρ2, S2, ?_, p3⟩
    rw [loopI_cons, e1]
    show (s ρ1 S1).tn _ = _
    rcases e2 with e2 | e2 <;> (rw [e2]; exact e3)
/-- .. over things of the store, that stand fast -/
theorem loopV_inv {k : DG} {nx : Nx} {ds : List D} (P : Nat → En → Sto → Prop) (hl : ∀ i ρ S, P i ρ S → nx i S = some ds[i]?) (h : ∀ i d ρ S, ds[i]? = some d → P i ρ S → ∃ ρ1 S1, k d ρ S = .nx ρ1 S1 ∧ ∃ ρ' S', (s ρ1 S1 = .nx ρ' S' ∨ s ρ1 S1 = .cnt ρ' S') ∧ P (i + 1) ρ' S') (h0 : P 0 ρ S) :
    ∃ ρ' S', loopV k s nx ds.length 0 ρ S = .nx ρ' S' ∧ P ds.length ρ' S' := by
  suffices ∀ (m n : Nat) (ρ : En) (S : Sto), n + m = ds.length → P n ρ S → ∃ ρ' S', loopV k s nx m n ρ S = .nx ρ' S' ∧ P ds.length ρ' S' from this ds.length 0 ρ S (by omega) h0
  intro m
  induction m with
  | zero =>
    intro n ρ S e p
    have e2 : n = ds.length := by omega
    subst e2
    exact ⟨ρ, S, loopV_end (by rw [hl _ _ _ p]; simp), p⟩
  | succ m ih =>
    intro n ρ S e p
    have hlt : n < ds.length := by omega
    have hd : ds[n]? = some ds[n] := List.getElem?_eq_getElem hlt
    obtain ⟨ρ1, S1, e1, ρ', S', e2, p2⟩ := h n _ ρ S hd p
    obtain ⟨ρ2, S2, e3, p3⟩ := ih (n + 1) ρ' S' (by omega) p2
    refine ⟨ρ2, S2, ?_, p3⟩
    rw [loopV_succ (by rw [hl _ _ _ p, hd]), e1]
    show (s ρ1 S1).tn _ = _
    rcases e2 with e2 | e2 <;> (rw [e2]; exact e3)
theorem loopL_inv {k : DG} {l : Nat} {ds : List D} (P : Nat → En → Sto → Prop) (hl : ∀ i ρ S, P i ρ S → S[l]? = some (.lst ds)) (h : ∀ i d ρ S, ds[i]? = some d → P i ρ S → ∃ ρ1 S1, k d ρ S = .nx ρ1 S1 ∧ ∃ ρ' S', (s ρ1 S1 = .nx ρ' S' ∨ s ρ1 S1 = .cnt ρ' S') ∧ P (i + 1) ρ' S') (h0 : P 0 ρ S) :
    ∃ ρ' S', loopV k s (liveX l) ds.length 0 ρ S = .nx ρ' S' ∧ P ds.length ρ' S' :=
  loopV_inv P (fun i ρ S p => by rw [liveX_e, hl _ _ _ p]; rfl) h h0
@[simp] theorem toR_nx : (Fz.nx ρ S).toR = .ok .non S := rfl
@[simp] theorem toR_ret : (Fz.ret d S).toR = .ok d S := rfl
@[simp] theorem cDef_e {n : Nat} {ds : List D} : cDef n s ds S = (s (startE n ds) S).toR := rfl
end
end Sm
namespace Sm
open PySem PySem.Spec PyProof.Rows L2
section
variable {S X : Sto} {o : Ob}
@[simp high] theorem get_app0 : (S ++ X)[S.length]? = X[0]? := by
  rw [List.getElem?_append_right (Nat.le_refl _), Nat.sub_self]
@[simp high] theorem get_appk {k : Nat} : (S ++ X)[S.length + k]? = X[k]? := by
  rw [List.getElem?_append_right (by omega)]
  congr 1
  omega
@[simp] theorem set_app0 : (S ++ X).set S.length o = S ++ X.set 0 o := by
  rw [List.set_append_right _ _ (Nat.le_refl _), Nat.sub_self]
@[simp] theorem set_appk {k : Nat} : (S ++ X).set (S.length + k) o = S ++ X.set k o := by
  rw [List.set_append_right _ _ (by omega)]
  congr 2
  omega
theorem get_old {l : Nat} {q : Ob} (h : S[l]? = some q) : (S ++ X)[l]? = some q := by
  rw [List.getElem?_append_left (List.getElem?_eq_some_iff.mp h).1]
  exact h
end
end Sm
namespace Sm
open PySem PySem.Spec PyProof.Rows L2
@[simp] theorem str_inj {a b : String} : (Str.ofString a = Str.ofString b) = (a = b) := by
  refine propext ⟨fun h => ?_, fun h => by rw [h]⟩
  rw [Str.ofString_eq_toList, Str.ofString_eq_toList] at h
  have h2 : (a.toList.map Char.toNat) = b.toList.map Char.toNat := by
    have := congrArg (fun s => s.cps.toList) h
    simpa using this
  have h3 : a.toList = b.toList := by
    have inj : ∀ x y : Char, x.toNat = y.toNat → x = y := fun x y e => Char.ext (UInt32.toNat_inj.mp e)
    exact (List.map_inj_right (fun x y e => inj x y e)).mp h2
  exact String.toList_inj.mp h3
@[simp] theorem str_len {a : String} : (Str.ofString a).length = a.length := by
  rw [Str.ofString_eq_toList]
  show ((a.toList.map Char.toNat).toArray).size = a.length
  simp only [List.size_toArray, List.length_map]
  first | rfl | exact String.length_toList
end Sm
namespace Sm
open PySem PySem.Spec PyProof.Rows L2
section
variable {S X : Sto} {o : Ob} {ρ : En} {d v : D} {i : Int} {k k' : Key}
@[simp] theorem cDict_e {fs : List (DE × DE)} : cDict fs ρ S = (cPairs fs ρ (S ++ [.dct []])).andThen fun ps S' => dispF S.length ps S' := rfl
@[simp] theorem cPairs_nil : cPairs [] ρ S = .ok [] S := rfl
@[simp] theorem cPairs_cons {fk fv : DE} {r : List (DE × DE)} : cPairs ((fk, fv) :: r) ρ S = (fk ρ S).andThen fun k S1 => (fv ρ S1).andThen fun v S2 => (cPairs r ρ S2).andThen fun ps S3 => .ok ((k, v) :: ps) S3 := rfl
@[simp] theorem asKvs_nil : asKvs [] = some [] := rfl
@[simp] theorem asKvs_str {x : Str} {r : List (D × D)} : asKvs ((.str x, v) :: r) = (asKvs r).map fun q => (.inr x, v) :: q := by
  conv => lhs; unfold asKvs
  show (match some (Sum.inr x), asKvs r with
    | some k, some r => some ((k, v) :: r)
    | _, _ => none) = _
  cases asKvs r <;> rfl
@[simp] theorem asKvs_int {r : List (D × D)} : asKvs ((.int i, v) :: r) = (asKvs r).map fun q => (.inl i, v) :: q := by
  conv => lhs; unfold asKvs
  show (match some (Sum.inl i), asKvs r with
    | some k, some r => some ((k, v) :: r)
    | _, _ => none) = _
  cases asKvs r <;> rfl
@[simp] theorem few15_e {n : Nat} (h : n ≤ 15) : few15 n = true := few15_iff.mpr h
theorem dispF_e {n : Nat} {ps : List (D × D)} {kvs : List (Key × D)} (h : asKvs ps = some kvs) (h2 : S[n]? = some (.dct [])) (h3 : kvs.length ≤ 15) : dispF n ps S = .ok (.loc n) (S.set n (.dct (mergeD [] kvs))) := by
  unfold dispF
  rw [h, h2]
  simp only
  rw [if_pos (few15_iff.mpr h3)]
@[simp] theorem valD_nil : valD [] k = none := rfl
@[simp] theorem valD_cons {r : List (Key × D)} : valD ((k', v) :: r) k = if k' = k then some v else valD r k := by
  unfold valD
  rw [List.find?_cons]
  by_cases h : k' = k
  · simp [h]
  · simp [h]
theorem atI_nn {α : Type} {xs : List α} (h : 0 ≤ i) : L2.atI xs i = xs[i.toNat]? := by
  unfold L2.atI L2.ixN
  rw [if_pos h]
  by_cases h2 : i < xs.length
  · rw [if_pos h2]; rfl
  · rw [if_neg h2]
    show none = _
    rw [List.getElem?_eq_none (by omega)]
@[simp] theorem atI_cast {α : Type} {xs : List α} {n : Nat} : L2.atI xs (n : Int) = xs[n]? := atI_nn (by omega)
@[simp] theorem atI_lit {α : Type} {xs : List α} {n : Nat} : L2.atI xs (no_index (OfNat.ofNat n)) = xs[n]? := atI_cast
@[simp] theorem atI_m1 {α : Type} {xs : List α} : L2.atI xs (-1) = xs.getLast? := by
  unfold L2.atI L2.ixN
  rw [if_neg (by omega)]
  cases xs with
  | nil => rfl
  | cons x r =>
    rw [if_pos (by simp; omega)]
    show (x :: r)[((-1 : Int) + ((x :: r).length : Nat)).toNat]? = _
    rw [List.getLast?_eq_getElem?]
    congr 1
    omega
end
end Sm
namespace Sm
open PySem PySem.Spec PyProof.Rows L2
section
variable {S X : Sto} {o : Ob} {ρ : En} {d v : D} {i : Int}
theorem cut_mem {xs : List D} {lo hi : Option Int} {n : Nat} (h : (cutD xs lo hi)[n]? = some d) : d ∈ xs := List.mem_of_mem_drop (List.mem_of_mem_take (List.mem_of_getElem? h))
theorem cut_int {ns : List Int} {lo hi : Option Int} {n : Nat} (h : (cutD (ns.map .int) lo hi)[n]? = some d) : ∃ z, z ∈ ns ∧ d = .int z := by
  obtain ⟨z, h1, h2⟩ := List.mem_map.mp (cut_mem h)
  exact ⟨z, h1, h2.symm⟩
theorem map_int {ns : List Int} {n : Nat} (h : (ns.map D.int)[n]? = some d) : ∃ z, z ∈ ns ∧ d = .int z := by
  obtain ⟨z, h1, h2⟩ := List.mem_map.mp (List.mem_of_getElem? h)
  exact ⟨z, h1, h2.symm⟩
@[simp] theorem slD_lsc {xs : List D} {lo hi : Option Int} : slD lo hi (.lsc xs) S = .ok (.loc S.length) (S ++ [.lst (cutD xs lo hi)]) := rfl
@[simp] theorem slD_tup {xs : List D} {lo hi : Option Int} : slD lo hi (.tup xs) S = .ok (.tup (cutD xs lo hi)) S := rfl
@[simp] theorem slD_loc {l : Nat} {lo hi : Option Int} : slD lo hi (.loc l) S = slO lo hi S S[l]? := rfl
@[simp] theorem slO_lst {xs : List D} {lo hi : Option Int} : slO lo hi S (some (.lst xs)) = .ok (.loc S.length) (S ++ [.lst (cutD xs lo hi)]) := rfl
end
end Sm
end
section
/-! Sm, part K: list(), tuple(), sorted(), sum(); more methods of lists; zip, enumerate. -/
namespace Sm
open PySem PySem.Spec PyProof.Rows L2
section
variable {X : Cx} {g : Gx} {W : WX} {e o a b : Expr} {es : List Expr} {fs : En → Mo (List D)} {pos : Pos}
/-- the items of a list or a tuple -/
def seqS (S : Sto) : D → Option (List D)
  | .tup xs => some xs
  | d => lstS S d
theorem lstS_of {m : Nat → Addr} {S : Sto} {H : Hp} {d : D} {v : V} {xs : List D} (sr : SR g m H S) (r : VR g m S.length H v d) (h : lstS S d = some xs) : ∃ a vs, v = .ref a ∧ SqL g.K H a vs ∧ VRs g m S.length H vs xs := lstS_ok sr r h
theorem seqS_ok {m : Nat → Addr} {S : Sto} {H : Hp} {d : D} {v : V} {xs : List D} (sr : SR g m H S) (r : VR g m S.length H v d) (h : seqS S d = some xs) : ∃ a vs, v = .ref a ∧ (SqL g.K H a vs ∨ SqT g.K H a vs) ∧ VRs g m S.length H vs xs := by
  by_cases ht : ∃ ys, d = .tup ys
  · obtain ⟨ys, rfl⟩ := ht
    cases h
    cases r with
    | tup a vs _ hq rs => exact ⟨a, vs, rfl, .inr hq, rs⟩
  · have h2 : lstS S d = some xs := by cases d <;> first | exact h | exact absurd ⟨_, rfl⟩ ht
    obtain ⟨a, vs, h1, h3, h4⟩ := lstS_ok sr r h2
    exact ⟨a, vs, h1, .inl h3, h4⟩
/-- a key as data -/
def kD : Key → D
  | .inl i => .int i
  | .inr x => .str x
def keysO : Option Ob → Option (List Key)
  | some (.dct kvs) => some (kvs.map (·.1))
  | _ => none
def keysS (S : Sto) : D → Option (List Key)
  | .loc l => keysO S[l]?
  | _ => none
theorem keysS_ok {m : Nat → Addr} {S : Sto} {H : Hp} {d : D} {v : V} {ks : List Key} (sr : SR g m H S) (r : VR g m S.length H v d) (h : keysS S d = some ks) : ∃ a kvs, v = .ref a ∧ H a = some (.dK kvs) ∧ kvs.map (·.1) = ks := by
  cases r with
  | loc l hl =>
    have h2 : keysO S[l]? = some ks := h
    cases q : S[l]? with
    | none => rw [q] at h2; cases h2
    | some ob =>
      rw [q] at h2
      cases ob with
      | dct kvs =>
        cases h2
        obtain ⟨_, kvs', hv, hk, _⟩ := sr.atD q
        exact ⟨m l, kvs', rfl, hv, hk⟩
      | _ => cases h2
  | _ => cases h
theorem VRs.of_keys {m : Nat → Addr} {n : Nat} {H : Hp} : ∀ ks : List Key, VRs g m n H (ks.map kV) (ks.map kD)
  | [] => .nil
  | .inl i :: r => .cons _ _ _ _ (.int i) (VRs.of_keys r)
  | .inr x :: r => .cons _ _ _ _ (.str x) (VRs.of_keys r)
/-- a new list -/
def mkL (xs : List D) (S : Sto) : Rz D := .ok (.loc S.length) (S ++ [.lst xs])
def listD (d : D) : Mo D := fun S => match seqS S d with
  | some xs => mkL xs S
  | none => match keysS S d with
    | some ks => mkL (ks.map kD) S
    | none => .no
def rListA (K : PySem.W.Frag) : List V → Hp → VK → Prop := fun xs H Q => (∃ p ys, xs = [.ref p] ∧ (SqL K H p ys ∨ SqT K H p ys) ∧ ∀ l, H l = none → Q (.ref l) (upd H l (.lst ys))) ∨
  ∃ (a : Addr) (kvs : List (Key × V)), xs = [.ref a] ∧ Rd H a (.dK kvs) ∧ ∀ p, H p = none → Q (.ref p) (upd H p (.lst (kvs.map fun kv => kV kv.1)))
theorem call_listA (hK : X.K = g.K) (hc : X.calm = true) : CallR X (.type "list") (rListA g.K) := by
  rw [← hK]
  exact call_list_of.or (call_listD hc)
theorem list_ok : SC g (rListA g.K) (ar1 listD) := SC.one fun m S H x d Q W sr rx h => by
  unfold listD at h
  cases q : seqS S d with
  | some xs =>
    rw [q] at h
    obtain ⟨a, vs, rfl, hq, rs⟩ := seqS_ok sr rx q
    exact .inl ⟨a, vs, rfl, hq, lst_new sr rs h⟩
  | none =>
    rw [q] at h
    dsimp only at h
    cases q2 : keysS S d with
    | none => rw [q2] at h; exact h.elim
    | some ks =>
      rw [q2] at h
      obtain ⟨a, kvs, rfl, hv, hk⟩ := keysS_ok sr rx q2
      refine .inr ⟨a, kvs, rfl, .inl hv, ?_⟩
      have e : (kvs.map fun kv => kV kv.1) = ks.map kV := by rw [← hk, List.map_map]; rfl
      rw [e]
      exact lst_new sr (VRs.of_keys ks) h
def tupleD (d : D) : Mo D := fun S => match seqS S d with
  | some xs => .ok (.tup xs) S
  | none => .no
def rTupA (K : PySem.W.Frag) : List V → Hp → VK → Prop := fun xs H Q => ∃ p ys, xs = [.ref p] ∧ ((SqL K H p ys ∧ ∀ l, H l = none → Q (.ref l) (upd H l (.tup ys))) ∨ (SqT K H p ys ∧ Q (.ref p) H))
theorem call_tupA (hK : X.K = g.K) : CallR X (.type "tuple") (rTupA g.K) := by
  rw [← hK]
  exact call_tuple_of
theorem tuple_ok : SC g (rTupA g.K) (ar1 tupleD) := SC.one fun m S H x d Q W sr rx h => by
  unfold tupleD at h
  cases q : seqS S d with
  | none => rw [q] at h; exact h.elim
  | some xs =>
    rw [q] at h
    obtain ⟨a, vs, rfl, hq, rs⟩ := seqS_ok sr rx q
    refine ⟨a, vs, rfl, ?_⟩
    rcases hq with hq | hq
    · exact .inl ⟨hq, tup_new sr rs h⟩
    · exact .inr ⟨hq, h.here sr _ (.tup a vs xs hq rs)⟩

/-! ### sorted ints -/
def intsOf : List D → Option (List Int)
  | [] => some []
  | .int i :: r => (intsOf r).map fun q => i :: q
  | _ :: _ => none
theorem intsOf_eq : ∀ {xs : List D} {ns : List Int}, intsOf xs = some ns → xs = ns.map .int
  | [], _, h => by cases h; rfl
  | .int i :: r, ns, h => by
    obtain ⟨q, h1, rfl⟩ := Option.map_eq_some_iff.mp (show (intsOf r).map (fun q => i :: q) = some ns from h)
    rw [intsOf_eq h1]
    rfl
  | .non :: _, _, h => by cases h
  | .bl _ :: _, _, h => by cases h
  | .str _ :: _, _, h => by cases h
  | .ty _ :: _, _, h => by cases h
  | .cls _ :: _, _, h => by cases h
  | .fnc _ :: _, _, h => by cases h
  | .loc _ :: _, _, h => by cases h
  | .tup _ :: _, _, h => by cases h
  | .lsc _ :: _, _, h => by cases h
@[simp] theorem intsOf_map : ∀ ns : List Int, intsOf (ns.map .int) = some ns
  | [] => rfl
  | n :: r => by
    show (intsOf (r.map D.int)).map (fun q => n :: q) = _
    rw [intsOf_map r]
    rfl
def isort (ns : List Int) : List Int := ns.mergeSort fun a b => decide (a ≤ b)
theorem isort_perm (ns : List Int) : (isort ns).Perm ns := List.mergeSort_perm ns _
theorem isort_sorted (ns : List Int) : (isort ns).Pairwise (· ≤ ·) := by
  have := List.pairwise_mergeSort (le := fun a b : Int => decide (a ≤ b)) (fun a b c h1 h2 => by simp at *; omega) (fun a b => by simp; omega) ns
  exact this.imp fun h => by simpa using h
theorem sorted_uniq : ∀ {xs ys : List Int}, xs.Perm ys → xs.Pairwise (· ≤ ·) → ys.Pairwise (· ≤ ·) → xs = ys
  | [], ys, p, _, _ => (List.Perm.eq_nil p.symm).symm
  | x :: xs, [], p, _, _ => absurd (List.Perm.eq_nil p) (by simp)
  | x :: xs, y :: ys, p, h1, h2 => by
    have e : x = y := by
      have m1 : x ∈ y :: ys := p.mem_iff.mp List.mem_cons_self
      have m2 : y ∈ x :: xs := p.mem_iff.mpr List.mem_cons_self
      rcases List.mem_cons.mp m1 with z | z
      · exact z
      · rcases List.mem_cons.mp m2 with w | w
        · exact w.symm
        · have a := (List.pairwise_cons.mp h1).1 y w
          have b := (List.pairwise_cons.mp h2).1 x z
          omega
    subst e
    rw [sorted_uniq (List.Perm.cons_inv p) (List.pairwise_cons.mp h1).2 (List.pairwise_cons.mp h2).2]
theorem isort_uniq {ns ms : List Int} (p : ms.Perm ns) (h : ms.Pairwise (· ≤ ·)) : ms = isort ns := sorted_uniq (p.trans (isort_perm ns).symm) h (isort_sorted ns)
def intKeys : List Key → Option (List Int)
  | [] => some []
  | .inl i :: r => (intKeys r).map fun q => i :: q
  | .inr _ :: _ => none
theorem intKeys_eq : ∀ {ks : List Key} {ns : List Int}, intKeys ks = some ns → ks = ns.map Sum.inl
  | [], _, h => by cases h; rfl
  | .inl i :: r, ns, h => by
    obtain ⟨q, h1, rfl⟩ := Option.map_eq_some_iff.mp (show (intKeys r).map (fun q => i :: q) = some ns from h)
    rw [intKeys_eq h1]
    rfl
  | .inr _ :: _, _, h => by cases h
@[simp] theorem intKeys_map : ∀ ns : List Int, intKeys (ns.map Sum.inl) = some ns
  | [] => rfl
  | n :: r => by
    show (intKeys (r.map Sum.inl)).map (fun q => n :: q) = _
    rw [intKeys_map r]
    rfl
/-- sorted(d) of a dict whose keys are ints, any number of them -/
def rSortDI : List V → Hp → VK → Prop := fun xs H Q => ∃ (a : Addr) (kvs : List (Key × V)) (ks : List Int), xs = [.ref a] ∧ Rd H a (.dK kvs) ∧ kvs.map (·.1) = ks.map Sum.inl ∧
    ∀ (ys : List Int) (p : Addr), ys.Perm ks → ys.Pairwise (· ≤ ·) → H p = none → Q (.ref p) (upd H p (.lst (ys.map V.int)))
theorem call_sortedDIW (hcalm : X.calm = true) : CallR X (.builtin "sorted") rSortDI := by
  intro pins s σ H xs us Q I r q
  obtain ⟨a, kvs, ks, ex, hd, hks, q⟩ := q
  subst ex
  obtain ⟨u, eu, rx⟩ := vals1 r
  subst eu
  cases rx
  obtain ⟨z, lo, vs, rel, dd⟩ := dk_rd I.hok hd
  obtain ⟨ep, hat⟩ := dd.dictAt
  have hkeys : vs.map (·.1) = ks.map Sum.inl := rel.keys.symm.trans hks
  have hl : vs.length = ks.length := by
    have e := congrArg List.length hkeys
    rw [List.length_map, List.length_map] at e
    exact e
  have h16 : vs.length ≤ sizeLine := by rw [← rel.length]; exact z
  refine Calls.call_function_entry PyProof.Rows.kind_sorted PyProof.Rows.plain_sorted PyProof.Rows.entry_sorted (PyProof.Rows.args_sorted1 _) ?_
  unfold Builtin.«sorted»
  refine wpAny_bind (m := checkCount "sorted" 1 1 _) (wpAny_pure ?_)
  refine wpAny_bind (PySem.W.kdu_collect (A := X.A.in1) (PySem.W.kdl_dict (knd := mixKind X.prog X.w) (kvs := vs) (ep := ep) lo) (I.ok.hd hcalm) hat h16 fun h' tk acc hk hacc => ?_)
  have hal : acc.toList.length = ks.length := by rw [Array.length_toList, hacc.1, hl]
  have hS : IntsAre acc.toList ks := ints_each hal fun j v e => by
    obtain ⟨k, x, e1, e2⟩ := hacc.2 j v (by rw [← Array.getElem?_toList]; exact e)
    have e3 : (vs.map (·.1))[j]? = some k := by rw [List.getElem?_map, e1]; rfl
    rw [hkeys, List.getElem?_map] at e3
    cases e4 : ks[j]? with
    | none => rw [e4] at e3; cases e3
    | some y =>
      rw [e4] at e3
      have e5 : Sum.inl y = k := Option.some.inj e3
      subst e5
      rcases keyIs_shape (show keyIs (Sum.inl y) v = true from e2) with ⟨i, t, ek, ev⟩ | ⟨z, t, ek, ev⟩
      · cases ek
        exact ⟨y, t, rfl, ev⟩
      · cases ek
  have hz2 : acc.toList.length ≤ sizeLine := by rw [hal, ← hl]; exact h16
  have I1 : Inv X pins σ H { s with heap := h', toks := tk } := I.kept hk
  refine wpAny_bind (wpAny_newList ?_ hz2)
  have hoL : (h'.push (seqObj "list" acc.toList.toArray 0)).get? h'.objs.size = some (seqObj "list" acc.toList.toArray 0) := Heap.get?_push_size _ rfl
  show wpAny _ _ _ _ _ { s with heap := h'.push (seqObj "list" acc.toList.toArray 0), toks := tk }
  refine wpAny_bind (wpAny_holding (wpAny_call_entry PyProof.Rows.slot_list_sort ⟨_, hoL, rfl⟩ PyProof.Rows.entry_list_sort
    (SrtO.list_sort_ord (s := { s with heap := h'.push (seqObj "list" acc.toList.toArray 0), toks := tk }) SrtO.swo_int hoL hz2 (fun h2 => SrtO.ints_sortable hS h2) fun out h1 h2 => ⟨_, rfl, ?_⟩)
    (PyProof.Rows.args_list_sort _)))
  obtain ⟨k1, k2, k3⟩ := SrtO.ints_out hS h1 h2
  obtain ⟨e', he'⟩ := PyProof.Rows.sortedHeap_at (vs := acc.toList) (out := out.toArray) hoL
  have hlen : ((out.map SrtO.iv).map V.int).length ≤ sizeLine := by
    rw [List.length_map, k2.length_eq, ← hal]
    exact hz2
  refine wpAny_pure ⟨_, rfl, .ref h'.objs.size, upd H h'.objs.size (.lst ((out.map SrtO.iv).map V.int)), I1.laid (t' := tk) (fun b u e => ?_) (Nat.le_refl _)
    (show ObjOk X.prog X.w _ _ _ (.lst ((out.map SrtO.iv).map V.int)) from ⟨hlen, out, e', vals_of_ints k1, he'⟩), rfl, q _ _ k2 k3 (I1.hok.fresh (Nat.le_refl _))⟩
  have hb : b < h'.objs.size := Heap.lt_size e
  rw [PyProof.Rows.sortedHeap_old (Nat.ne_of_lt hb) (by rw [size_push']; exact Nat.lt_succ_of_lt hb)]
  exact Heap.get?_push_of_some _ e
def sortQ (d : D) (S : Sto) : Option (List Int) := match lstS S d with
  | some xs => intsOf xs
  | none => match keysS S d with
    | some ks => intKeys ks
    | none => none
def sortD (d : D) : Mo D := fun S => match sortQ d S with
  | some ns => mkL ((isort ns).map .int) S
  | none => .no
theorem call_sortA (hK : X.K = g.K) (hc : X.calm = true) : CallR X (.builtin "sorted") (fun xs H Q => rSortedI g.K xs H Q ∨ rSortDI xs H Q) := by
  rw [← hK]
  exact cr_sortedI.or (call_sortedDIW hc)
theorem sort_ok : SC g (fun xs H Q => rSortedI g.K xs H Q ∨ rSortDI xs H Q) (ar1 sortD) := SC.one fun m S H x d Q W sr rx h => by
  unfold sortD sortQ at h
  cases q : lstS S d with
  | some xs =>
    simp only [q] at h
    cases q2 : intsOf xs with
    | none => rw [q2] at h; exact h.elim
    | some ns =>
      rw [q2] at h
      obtain ⟨a, vs, rfl, hq, rs⟩ := lstS_ok sr rx q
      rw [intsOf_eq q2] at rs
      rw [rs.ints] at hq
      refine .inl ⟨a, ns, rfl, hq, fun ns' p hp hs hn => ?_⟩
      rw [isort_uniq hp hs]
      exact lst_new sr (VRs.of_ints _) h p hn
  | none =>
    simp only [q] at h
    cases q1 : keysS S d with
    | none => rw [q1] at h; exact h.elim
    | some ks =>
      simp only [q1] at h
      cases q2 : intKeys ks with
      | none => rw [q2] at h; exact h.elim
      | some ns =>
        rw [q2] at h
        obtain ⟨a, kvs, rfl, hv, hk⟩ := keysS_ok sr rx q1
        refine .inr ⟨a, kvs, ns, rfl, .inl hv, by rw [hk]; exact intKeys_eq q2, fun ns' p hp hs hn => ?_⟩
        rw [isort_uniq hp hs]
        exact lst_new sr (VRs.of_ints _) h p hn
def sumD (d : D) : Mo D := fun S => match lstS S d with
  | some xs => match intsOf xs with
    | some ns => .ok (.int ns.sum) S
    | none => .no
  | none => .no
theorem call_sumA (hK : X.K = g.K) (hc : X.calm = true) : CallR X (.builtin "sum") (rSum g.K) := by
  rw [← hK]
  exact cr_sum hc
theorem sum_ok : SC g (rSum g.K) (ar1 sumD) := SC.one fun m S H x d Q W sr rx h => by
  unfold sumD at h
  cases q : lstS S d with
  | none => rw [q] at h; exact h.elim
  | some xs =>
    simp only [q] at h
    cases q2 : intsOf xs with
    | none => rw [q2] at h; exact h.elim
    | some ns =>
      rw [q2] at h
      obtain ⟨a, vs, rfl, hq, rs⟩ := lstS_ok sr rx q
      rw [intsOf_eq q2] at rs
      rw [rs.ints] at hq
      exact ⟨a, ns, rfl, hq, h.here sr _ (.int _)⟩
def blsOf : List D → Option (List Bool)
  | [] => some []
  | .bl i :: r => (blsOf r).map fun q => i :: q
  | _ :: _ => none
theorem blsOf_rel {m : Nat → Addr} {n : Nat} {H : Hp} : ∀ {xs : List D} {bs : List Bool} {vs : List V}, blsOf xs = some bs → VRs g m n H vs xs → vs = bs.map V.bl
  | [], _, _, h, r => by cases h; cases r; rfl
  | .bl i :: xs, bs, _, h, r => by
    obtain ⟨q, h1, rfl⟩ := Option.map_eq_some_iff.mp (show (blsOf xs).map (fun q => i :: q) = some bs from h)
    cases r with
    | cons _ _ _ _ r1 rs =>
      cases r1
      rw [blsOf_rel h1 rs]
      rfl
  | .non :: _, _, _, h, _ => by cases h
  | .int _ :: _, _, _, h, _ => by cases h
  | .str _ :: _, _, _, h, _ => by cases h
  | .ty _ :: _, _, _, h, _ => by cases h
  | .cls _ :: _, _, _, h, _ => by cases h
  | .fnc _ :: _, _, _, h, _ => by cases h
  | .loc _ :: _, _, _, h, _ => by cases h
  | .tup _ :: _, _, _, h, _ => by cases h
  | .lsc _ :: _, _, _, h, _ => by cases h
@[simp] theorem blsOf_map : ∀ ns : List Bool, blsOf (ns.map .bl) = some ns
  | [] => rfl
  | n :: r => by
    show (blsOf (r.map D.bl)).map (fun q => n :: q) = _
    rw [blsOf_map r]
    rfl
def allD (d : D) : Mo D := fun S => match lstS S d with
  | some xs => match blsOf xs with
    | some bs => .ok (.bl (bs.all id)) S
    | none => .no
  | none => .no
def anyD (d : D) : Mo D := fun S => match lstS S d with
  | some xs => match blsOf xs with
    | some bs => .ok (.bl (bs.any id)) S
    | none => .no
  | none => .no
theorem call_allA (hK : X.K = g.K) (hc : X.calm = true) : CallR X (.builtin "all") (rAll g.K) := by
  rw [← hK]
  exact cr_all hc
theorem call_anyA (hK : X.K = g.K) (hc : X.calm = true) : CallR X (.builtin "any") (rAny g.K) := by
  rw [← hK]
  exact cr_any hc
theorem all_ok : SC g (rAll g.K) (ar1 allD) := SC.one fun m S H x d Q W sr rx h => by
  unfold allD at h
  cases q : lstS S d with
  | none => rw [q] at h; exact h.elim
  | some xs =>
    simp only [q] at h
    cases q2 : blsOf xs with
    | none => rw [q2] at h; exact h.elim
    | some ns =>
      rw [q2] at h
      obtain ⟨a, vs, rfl, hq, rs⟩ := lstS_ok sr rx q
      rw [blsOf_rel q2 rs] at hq
      exact ⟨a, ns, rfl, hq, h.here sr _ (.bl _)⟩
theorem any_ok : SC g (rAny g.K) (ar1 anyD) := SC.one fun m S H x d Q W sr rx h => by
  unfold anyD at h
  cases q : lstS S d with
  | none => rw [q] at h; exact h.elim
  | some xs =>
    simp only [q] at h
    cases q2 : blsOf xs with
    | none => rw [q2] at h; exact h.elim
    | some ns =>
      rw [q2] at h
      obtain ⟨a, vs, rfl, hq, rs⟩ := lstS_ok sr rx q
      rw [blsOf_rel q2 rs] at hq
      exact ⟨a, ns, rfl, hq, h.here sr _ (.bl _)⟩

/-! ### methods of lists -/
theorem extend_tup (l : Addr) (items : Array Value) (n : Nat) (b : Addr) (items2 : Array Value) (n2 : Nat) (dd : Option Addr) (sl : Array (Option Value)) (hs0 : ¬(!items.isEmpty && Builtin.List.listTooLong (items.size + items2.size)) = true) (hs1 : items.size ≤ sizeLine) (hs2 : items.size + items2.size ≤ sizeLine + 1) :
    Meets (Builtin.«list.extend» ⟨[.ref l, .ref b], []⟩) (fun _ R s => s.heap.get? l = some { cls := .type "list", dict := none, data := .seq items n, slots := #[] } ∧ s.heap.get? b = some { cls := .type "tuple", dict := dd, data := .seq items2 n2, slots := sl } ∧ R (.ok (.ret Value.none)) { s with heap := s.heap.update l (Obj.mapSeq fun x => x ++ items2) }) :=
  .of_wp fun prog w A R s h => by
    obtain ⟨hp, g, d, tk, os⟩ := s; obtain ⟨hl, hb, h⟩ := h; have f1 := AutoSeq1.idx_int; have f2 := AutoSeq1.sub_tuple_tuple; have f3 := AutoSeq1.sub_list_list; have f4 := AutoSeq1.sub_tuple_list; have f5 := AutoSeq1.sub_list_tuple
    have hz' : (items ++ items2).size ≤ sizeLine + 1 := by rw [Array.size_append]; exact hs2
    wp_walk using (wpAny_updateSeq hl rfl (hz := hs1) (_hz' := hz')), wpAny_loadPart' hl, wpAny_loadPart' hb; exact ⟨_, rfl, h⟩
def rExtT (K : PySem.W.Frag) : V → List V → Hp → VK → Prop := fun x vs H Q => ∃ l b xs zs, x = .ref l ∧ vs = [.ref b] ∧ H l = some (.lst xs) ∧ SqT K H b zs ∧ xs.length + zs.length ≤ sizeLine ∧ Q .non (upd H l (.lst (xs ++ zs)))
theorem mt_extT : MtM X "list.extend" (rExtT X.K) := by
  intro pins s σ H x vs v us Q I rx rv h
  obtain ⟨l, b, xs, zs, rfl, rfl, hH, hB, hz, q⟩ := h
  cases rx
  obtain ⟨u, rfl, ru⟩ := rv.one
  cases ru
  obtain ⟨z, its, n, r, hl, e⟩ := I.lstM hH
  obtain ⟨its2, r2, pt, hl2⟩ := I.tuple hB
  obtain ⟨⟨cls, dd, data, sl⟩, e2, hc, n2, hd⟩ := pt
  simp only at hc hd
  subst hc hd
  have l2 := r2.length
  have hsz : its.toArray.size + its2.toArray.size ≤ sizeLine := by rw [List.size_toArray, List.size_toArray]; omega
  have hlong : ¬ (!its.toArray.isEmpty && Builtin.List.listTooLong (its.toArray.size + its2.toArray.size)) = true := by
    rw [notLongL hsz, Bool.and_false]
    exact Bool.false_ne_true
  refine call_meets F.slot_list_extend ⟨_, e, rfl⟩ F.entry_list_extend (F.args_list_extend_2 _ _)
    (extend_tup l its.toArray n b its2.toArray n2 dd sl hlong (by rw [List.size_toArray]; omega) (by omega)) ⟨e, e2, ?_⟩
  refine ⟨.non, _, I.lset (its' := its ++ its2) hH e (by simp) (r.append r2) ?_, rfl, q⟩
  rw [List.length_append]
  omega
def lstM : D → Sto → Option (Nat × List D)
  | .loc l, S => (lstO S[l]?).map fun xs => (l, xs)
  | _, _ => none
/-- a list of the store, that may be written -/
theorem lstM_ok {m : Nat → Addr} {S : Sto} {H : Hp} {d : D} {v : V} {l : Nat} {xs : List D} (sr : SR g m H S) (r : VR g m S.length H v d) (h : lstM d S = some (l, xs)) : d = .loc l ∧ l < S.length ∧ v = .ref (m l) ∧ ∃ vs, H (m l) = some (.lst vs) ∧ VRs g m S.length H vs xs := by
  cases r with
  | loc l' hl =>
    have h2 : (lstO S[l']?).map (fun xs => (l', xs)) = some (l, xs) := h
    obtain ⟨ys, h3, h4⟩ := Option.map_eq_some_iff.mp h2
    cases h4
    cases q : S[l]? with
    | none => rw [q] at h3; cases h3
    | some ob =>
      rw [q] at h3
      cases ob with
      | lst zs =>
        cases h3
        obtain ⟨_, vs, hv, rs⟩ := sr.atL q
        exact ⟨rfl, hl, rfl, vs, hv, rs⟩
      | _ => cases h3
  | _ => cases h
/-- the store with a list written -/
theorem lst_wr {m : Nat → Addr} {S : Sto} {H : Hp} {l : Nat} {vs : List V} {xs : List D} (sr : SR g m H S) (hl : l < S.length) (rs : VRs g m S.length H vs xs) : Ev g m S.length H m (S.set l (.lst xs)).length (upd H (m l) (.lst vs)) ∧ SR g m (upd H (m l) (.lst vs)) (S.set l (.lst xs)) := by
  have ew : Ev g m S.length H m S.length (upd H (m l) (.lst vs)) := Ev.wr (sr.canw hl)
  exact ⟨by rw [List.length_set]; exact ew, sr.wr hl ⟨vs, upd_same, rs.ev ew⟩⟩
/-- the items of a tuple or a list of the store -/
def seqM (S : Sto) : D → Option (List D)
  | .tup xs => some xs
  | .loc l => lstO S[l]?
  | _ => none
def extD (x y : D) : Mo D := fun S => match lstM x S, seqM S y with
  | some (l, xs), some ys => if fit (xs.length + ys.length) = true then .ok .non (S.set l (.lst (xs ++ ys))) else .no
  | _, _ => .no
def rExtA (K : PySem.W.Frag) : V → List V → Hp → VK → Prop := fun x vs H Q => rExtend x vs H Q ∨ rExtT K x vs H Q
theorem MtR.or' {id : String} {r r' : V → List V → Hp → VK → Prop} (h : MtR X id r) (h' : MtR X id r') : MtR X id (fun x xs H Q => r x xs H Q ∨ r' x xs H Q) := fun pins s σ H x xs v us Q I rx rs q => q.elim (h pins s σ H x xs v us Q I rx rs) (h' pins s σ H x xs v us Q I rx rs)
theorem mt_extA (hK : X.K = g.K) : MtR X "list.extend" (rExtA g.K) := by
  rw [← hK]
  exact MtR.or' mt_extend mt_extT
theorem ext_ok : SM g (rExtA g.K) (am1 extD) := SM.one fun m S H x y d e Q W sr rx ry h => by
  unfold extD at h
  cases q : lstM d S with
  | none => simp only [q] at h; exact h.elim
  | some p =>
    obtain ⟨l, xs⟩ := p
    cases q2 : seqM S e with
    | none => simp only [q, q2] at h; exact h.elim
    | some ys =>
      simp only [q, q2] at h
      by_cases q3 : fit (xs.length + ys.length) = true
      · rw [if_pos q3] at h
        obtain ⟨rfl, hl, rfl, vs, hv, rs⟩ := lstM_ok sr rx q
        have sz := fit_iff.mp q3
        by_cases ht : ∃ zs, e = .tup zs
        · obtain ⟨zs, rfl⟩ := ht
          cases q2
          cases ry with
          | tup a ws _ hq rs2 =>
            obtain ⟨ew, sw⟩ := lst_wr sr hl (rs.append rs2)
            exact .inr ⟨m l, a, vs, ws, rfl, rfl, hv, hq, by rw [rs.length, rs2.length]; exact sz, h _ _ ew sw _ .non⟩
        · cases ry with
          | loc l' hl' =>
            obtain ⟨_, _, _, ws, hv2, rs2⟩ := lstM_ok (xs := ys) (l := l') sr (.loc l' hl') (by
              have h2 : lstO S[l']? = some ys := q2
              show (lstO S[l']?).map _ = _
              rw [h2]; rfl)
            obtain ⟨ew, sw⟩ := lst_wr sr hl (rs.append rs2)
            exact .inl ⟨m l, m l', vs, ws, rfl, rfl, hv, hv2, by rw [rs.length, rs2.length]; exact sz, h _ _ ew sw _ .non⟩
          | tup a ws zs hq rs2 => exact absurd ⟨_, rfl⟩ ht
          | _ => cases q2
      · rw [if_neg q3] at h; exact h.elim

def popD (x : D) : Mo D := fun S => match lstM x S with
  | some (l, xs) => match xs[xs.length - 1]? with
    | some y => .ok y (S.set l (.lst xs.dropLast))
    | none => .no
  | none => .no
theorem VRs.dropLast {m : Nat → Addr} {n : Nat} {H : Hp} {vs : List V} {ds : List D} (r : VRs g m n H vs ds) : VRs g m n H vs.dropLast ds.dropLast := by
  rw [List.dropLast_eq_take, List.dropLast_eq_take, r.length]
  exact r.take _
theorem pop_ok : SM g rPop (am0 popD) := SM.zero fun m S H x d Q W sr rx h => by
  unfold popD at h
  cases q : lstM d S with
  | none => simp only [q] at h; exact h.elim
  | some p =>
    obtain ⟨l, xs⟩ := p
    simp only [q] at h
    cases q2 : xs[xs.length - 1]? with
    | none => rw [q2] at h; exact h.elim
    | some y =>
      rw [q2] at h
      obtain ⟨rfl, hl, rfl, vs, hv, rs⟩ := lstM_ok sr rx q
      obtain ⟨v, hvi, rv⟩ := rs.get q2
      obtain ⟨ew, sw⟩ := lst_wr sr hl rs.dropLast
      exact ⟨m l, vs, v, rfl, rfl, hv, by rw [rs.length]; exact hvi, h _ _ ew sw _ (rv.ev (by rw [List.length_set] at ew; rw [List.length_set]; exact ew))⟩
def clrD (x : D) : Mo D := fun S => match lstM x S with
  | some (l, _) => .ok .non (S.set l (.lst []))
  | none => .no
theorem clr_ok : SM g rClear (am0 clrD) := SM.zero fun m S H x d Q W sr rx h => by
  unfold clrD at h
  cases q : lstM d S with
  | none => simp only [q] at h; exact h.elim
  | some p =>
    obtain ⟨l, xs⟩ := p
    simp only [q] at h
    obtain ⟨rfl, hl, rfl, vs, hv, rs⟩ := lstM_ok sr rx q
    obtain ⟨ew, sw⟩ := lst_wr sr hl (vs := []) (xs := []) .nil
    exact ⟨m l, vs, rfl, rfl, hv, h _ _ ew sw _ .non⟩
/-- where the first item stands that is equal -/
def idxL (y : D) : List D → Nat → Option Nat
  | [], _ => none
  | x :: r, k => if eqF x y = true then some k else idxL y r (k + 1)
theorem idxL_ok {y : D} : ∀ {xs : List D} {k j : Nat}, idxL y xs k = some j → k ≤ j ∧ ∃ x, xs[j - k]? = some x ∧ eqF x y = true ∧ ∀ i z, i < j - k → xs[i]? = some z → eqF z y = false
  | [], _, _, h => by cases h
  | x :: r, k, j, h => by
    unfold idxL at h
    by_cases q : eqF x y = true
    · rw [if_pos q] at h
      cases h
      exact ⟨Nat.le_refl _, x, by simp, q, fun i z hi => by omega⟩
    · rw [if_neg q] at h
      obtain ⟨h1, z, h2, h3, h4⟩ := idxL_ok h
      refine ⟨by omega, z, ?_, h3, fun i z' hi hz => ?_⟩
      · rw [show j - k = (j - (k + 1)) + 1 by omega]
        simpa using h2
      · cases i with
        | zero => simp at hz; subst hz; simpa using q
        | succ i => exact h4 i z' (by omega) (by simpa using hz)
def indexD (x y : D) : Mo D := fun S => match lstS S x with
  | some xs => if (flatD y && xs.all flatD) = true then match idxL y xs 0 with
    | some j => .ok (.int (j : Nat)) S
    | none => .no else .no
  | none => .no
theorem mt_indexA (hK : X.K = g.K) : MtR X "list.index" (rIndex g.K) := by
  rw [← hK]
  exact mt_index
theorem index_ok : SM g (rIndex g.K) (am1 indexD) := SM.one fun m S H x y d e Q W sr rx ry h => by
  unfold indexD at h
  cases q : lstS S d with
  | none => simp only [q] at h; exact h.elim
  | some xs =>
    simp only [q] at h
    by_cases q2 : (flatD e && xs.all flatD) = true
    · rw [if_pos q2] at h
      rw [Bool.and_eq_true] at q2
      cases q3 : idxL e xs 0 with
      | none => rw [q3] at h; exact h.elim
      | some j =>
        rw [q3] at h
        obtain ⟨a, vs, rfl, hq, rs⟩ := lstS_ok sr rx q
        obtain ⟨_, z, h2, h3, h4⟩ := idxL_ok q3
        simp only [Nat.sub_zero] at h2 h4
        obtain ⟨v, hvi, rv⟩ := rs.get h2
        have fl : ∀ {i : Nat} {z : D}, xs[i]? = some z → flatD z = true := fun hz => List.all_eq_true.mp q2.2 _ (List.mem_of_getElem? hz)
        refine ⟨a, vs, y, j, v, rfl, rfl, hq, flat_rel ry q2.1, flats_rel rs q2.2, hvi, by rw [eqF_rel rv ry (fl h2) q2.1]; exact h3, fun i v' hi hv' => ?_, h.here sr _ (.int _)⟩
        obtain ⟨z', hz', rz⟩ := rs.get' hv'
        rw [eqF_rel rz ry (fl hz') q2.1]
        exact h4 i z' hi hz'
    · rw [if_neg q2] at h; exact h.elim

/-! ### zip, enumerate -/
def zipX (f f' : Sto → Option (List D)) : Nx := fun i S => match f S, f' S with
  | some xs, some ys => match xs[i]?, ys[i]? with
    | some x, some y => some (some (.tup [x, y]))
    | _, _ => some none
  | _, _ => none
def enumX (f : Sto → Option (List D)) : Nx := fun i S => match f S with
  | some xs => some (xs[i]?.map fun x => .tup [.int (i : Nat), x])
  | none => none
/-- a list, told at each turn: locked or of the store -/
def lstF (d : D) : Sto → Option (List D) := fun S => lstS S d
theorem lstF_ok {m m' : Nat → Addr} {n : Nat} {S' : Sto} {H H' : Hp} {d : D} {a : Addr} {xs : List D} (r : VR g m n H (.ref a) d) (e : Ev g m n H m' S'.length H') (sr : SR g m' H' S') (h : lstF d S' = some xs) : ∃ vs, SqL g.K H' a vs ∧ VRs g m' S'.length H' vs xs := by
  obtain ⟨a', vs, e1, h2, h3⟩ := lstS_ok sr (r.ev e) h
  cases e1
  exact ⟨vs, h2, h3⟩
theorem pair_new {m : Nat → Addr} {S : Sto} {H : Hp} {T : Addr} {x y : V} {d e : D} (sr : SR g m H S) (hT : H T = none) (rx : VR g m S.length H x d) (ry : VR g m S.length H y e) :
    Ev g m S.length H m S.length (upd H T (.tup [x, y])) ∧ SR g m (upd H T (.tup [x, y])) S ∧ VR g m S.length (upd H T (.tup [x, y])) (.ref T) (.tup [d, e]) := by
  have ev : Ev g m S.length H m S.length (upd H T (.tup [x, y])) := Ev.new hT
  exact ⟨ev, sr.aside hT, .tup T [x, y] _ (SqT.of upd_same) (.cons _ _ _ _ (rx.ev ev) (.cons _ _ _ _ (ry.ev ev) .nil))⟩
theorem zip_vw {m : Nat → Addr} {n : Nat} {H : Hp} {d e : D} {a a' : Addr} (r : VR g m n H (.ref a) d) (r' : VR g m n H (.ref a') e) : VwOk g (Itz g.K a a') m n H (zipX (lstF d) (lstF e)) := fun i m' H' S' ev sr => by
  unfold zipX
  cases q1 : lstF d S' with
  | none => exact ⟨fun h => (nomatch h), fun _ h => (nomatch h)⟩
  | some xs =>
    cases q2 : lstF e S' with
    | none => exact ⟨fun h => (nomatch h), fun _ h => (nomatch h)⟩
    | some ys =>
      obtain ⟨vs, h1, r1⟩ := lstF_ok r ev sr q1
      obtain ⟨ws, h2, r2⟩ := lstF_ok r' ev sr q2
      dsimp only
      cases z1 : xs[i]? with
      | none => exact ⟨fun _ => ⟨vs, ws, h1, h2, .inl (by rw [r1.length]; exact List.getElem?_eq_none_iff.mp z1)⟩, fun _ h => (nomatch h)⟩
      | some x =>
        cases z2 : ys[i]? with
        | none => exact ⟨fun _ => ⟨vs, ws, h1, h2, .inr (by rw [r2.length]; exact List.getElem?_eq_none_iff.mp z2)⟩, fun _ h => (nomatch h)⟩
        | some y =>
          obtain ⟨v, hv, rv⟩ := r1.get z1
          obtain ⟨w, hw, rw'⟩ := r2.get z2
          refine ⟨fun h => (nomatch h), fun d' hd => ?_⟩
          cases hd
          refine ⟨⟨vs, ws, v, w, h1, h2, hv, hw⟩, fun u H'' yl => ?_⟩
          obtain ⟨T, x', y', rfl, hT, rfl, k1, k2⟩ := yl
          have e1 := k1 vs h1
          rw [hv] at e1; cases e1
          have e2 := k2 ws h2
          rw [hw] at e2; cases e2
          exact pair_new sr hT rv rw'
theorem enum_vw {m : Nat → Addr} {n : Nat} {H : Hp} {d : D} {a : Addr} (r : VR g m n H (.ref a) d) : VwOk g (Ite g.K a) m n H (enumX (lstF d)) := fun i m' H' S' ev sr => by
  unfold enumX
  cases q1 : lstF d S' with
  | none => exact ⟨fun h => (nomatch h), fun _ h => (nomatch h)⟩
  | some xs =>
    obtain ⟨vs, h1, r1⟩ := lstF_ok r ev sr q1
    dsimp only
    cases z1 : xs[i]? with
    | none => exact ⟨fun _ => ⟨vs, h1, by rw [r1.length]; exact List.getElem?_eq_none_iff.mp z1⟩, fun _ h => (nomatch h)⟩
    | some x =>
      obtain ⟨v, hv, rv⟩ := r1.get z1
      refine ⟨fun h => (nomatch h), fun d' hd => ?_⟩
      cases hd
      refine ⟨⟨vs, v, h1, hv⟩, fun u H'' yl => ?_⟩
      obtain ⟨T, x', rfl, hT, rfl, k1⟩ := yl
      have e1 := k1 vs h1
      rw [hv] at e1; cases e1
      exact pair_new sr hT (.int _) rv
def lenLs (S : Sto) (d : D) : Nat := ((lstS S d).getD []).length
/-- zip(xs, ys), enumerate(xs) of lists -/
def zipI : List D → Mo Wk
  | [d, e] => fun S => if ((lstS S d).isSome && (lstS S e).isSome) = true then .ok (.view (zipX (lstF d) (lstF e)) (min (lenLs S d) (lenLs S e))) S else .no
  | _ => bad
def enumI : List D → Mo Wk
  | [d] => fun S => if (lstS S d).isSome = true then .ok (.view (enumX (lstF d)) (lenLs S d)) S else .no
  | _ => bad
theorem lstS_isSome {m : Nat → Addr} {S : Sto} {H : Hp} {d : D} {v : V} (sr : SR g m H S) (r : VR g m S.length H v d) (h : (lstS S d).isSome = true) : ∃ a vs, v = .ref a ∧ SqL g.K H a vs := by
  obtain ⟨xs, q⟩ := Option.isSome_iff_exists.mp h
  obtain ⟨a, vs, h1, h2, _⟩ := lstS_ok sr r q
  exact ⟨a, vs, h1, h2⟩
theorem di_zip {elts : List Expr} {kk : Nat} {tpos p : Pos} (hK : X.K = g.K) (hm : X.mg "zip" = none) (ha : PA X [a, b] (tDs g W fs)) (hg : Gl X "zip" := by rfl)
    (hs : starEach [a, b] X.env = (false, eval a X.env) :: starEach [b] X.env := by rfl) (hpl : (backTo pos (starEach [b] X.env)).any (·.1) = false := by rfl) :
    PI X (.Tuple elts kk tpos) (.Call (.Name "zip" p) [a, b] [] pos) (tIt g W (cRng zipI fs)) :=
  PI.imp (pi_zip hg hm ha hs hpl) fun σ H R ⟨m, S, ρ, sr, er, h⟩ => tDs.sub sr er h fun ds m1 S1 H1 vs s1 _ _ r1 h1 => by
    cases r1 with
    | nil => exact h1.elim
    | cons x d xs ds rx rs =>
      cases rs with
      | nil => exact h1.elim
      | cons y e ys es ry rs =>
        cases rs with
        | cons _ _ _ _ _ _ => exact h1.elim
        | nil =>
          have h2 : PRx g m1 S1 H1 _ (fun w m1 S1 H1 => ∀ J, ItOk g J m1 S1.length H1 w → R J H1) (if ((lstS S1 d).isSome && (lstS S1 e).isSome) = true then Rz.ok (Wk.view (zipX (lstF d) (lstF e)) (min (lenLs S1 d) (lenLs S1 e))) S1 else .no) := h1
          by_cases q : ((lstS S1 d).isSome && (lstS S1 e).isSome) = true
          · rw [if_pos q] at h2
            rw [Bool.and_eq_true] at q
            obtain ⟨a1, vs1, rfl, q1⟩ := lstS_isSome s1 rx q.1
            obtain ⟨a2, vs2, rfl, q2⟩ := lstS_isSome s1 ry q.2
            rw [hK]
            exact ⟨a1, a2, vs1, vs2, rfl, q1, q2, h2 m1 H1 Ev.refl s1 _ (zip_vw rx ry)⟩
          · rw [if_neg q] at h2; exact h2.elim
theorem di_enum {elts : List Expr} {kk : Nat} {tpos p : Pos} (hK : X.K = g.K) (hm : X.mg "enumerate" = none) (ha : PA X [a] (tDs g W fs)) (hg : Gl X "enumerate" := by rfl)
    (hs : starEach [a] X.env = [(false, eval a X.env)] := by rfl) :
    PI X (.Tuple elts kk tpos) (.Call (.Name "enumerate" p) [a] [] pos) (tIt g W (cRng enumI fs)) :=
  PI.imp (pi_enum hg hm ha hs) fun σ H R ⟨m, S, ρ, sr, er, h⟩ => tDs.sub sr er h fun ds m1 S1 H1 vs s1 _ _ r1 h1 => by
    cases r1 with
    | nil => exact h1.elim
    | cons x d xs ds rx rs =>
      cases rs with
      | cons _ _ _ _ _ _ => exact h1.elim
      | nil =>
        have h2 : PRx g m1 S1 H1 _ (fun w m1 S1 H1 => ∀ J, ItOk g J m1 S1.length H1 w → R J H1) (if (lstS S1 d).isSome = true then Rz.ok (Wk.view (enumX (lstF d)) (lenLs S1 d)) S1 else .no) := h1
        by_cases q : (lstS S1 d).isSome = true
        · rw [if_pos q] at h2
          obtain ⟨a1, vs1, rfl, q1⟩ := lstS_isSome s1 rx q
          rw [hK]
          exact ⟨a1, vs1, rfl, q1, h2 m1 H1 Ev.refl s1 _ (enum_vw rx)⟩
        · rw [if_neg q] at h2; exact h2.elim
end
end Sm
end
section
/-! Sm, part L: how denotations are reckoned, on. -/
namespace Sm
open PySem PySem.Spec PyProof.Rows L2
section
variable {S X : Sto} {o : Ob} {ρ ρ' : En} {d e v : D} {i : Int} {s : DS}
@[simp] theorem lstO_lst {xs : List D} : lstO (some (.lst xs)) = some xs := rfl
@[simp] theorem lstO_ins {c : Nat} {fs : List (Str × D)} : lstO (some (.ins c fs)) = none := rfl
@[simp] theorem lstO_dct {fs : List (Key × D)} : lstO (some (.dct fs)) = none := rfl
@[simp] theorem lstS_loc {l : Nat} : lstS S (.loc l) = lstO S[l]? := rfl
@[simp] theorem lstS_lsc {xs : List D} : lstS S (.lsc xs) = some xs := rfl
@[simp] theorem lstS_tup {xs : List D} : lstS S (.tup xs) = none := rfl
@[simp] theorem seqS_loc {l : Nat} : seqS S (.loc l) = lstO S[l]? := rfl
@[simp] theorem seqS_tup {xs : List D} : seqS S (.tup xs) = some xs := rfl
@[simp] theorem seqM_tup {xs : List D} : seqM S (.tup xs) = some xs := rfl
@[simp] theorem seqM_loc {l : Nat} : seqM S (.loc l) = lstO S[l]? := rfl
@[simp] theorem keysS_loc {l : Nat} : keysS S (.loc l) = keysO S[l]? := rfl
@[simp] theorem keysO_dct {kvs : List (Key × D)} : keysO (some (.dct kvs)) = some (kvs.map (·.1)) := rfl
theorem tupleD_e {xs : List D} (h : seqS S d = some xs) : tupleD d S = .ok (.tup xs) S := by unfold tupleD; rw [h]
@[simp] theorem tupleD_loc {l : Nat} {xs : List D} (h : S[l]? = some (.lst xs)) : tupleD (.loc l) S = .ok (.tup xs) S := tupleD_e (by rw [seqS_loc, h]; rfl)
@[simp] theorem tupleD_tup {xs : List D} : tupleD (.tup xs) S = .ok (.tup xs) S := rfl
theorem listD_e {xs : List D} (h : seqS S d = some xs) : listD d S = .ok (.loc S.length) (S ++ [.lst xs]) := by unfold listD; rw [h]; rfl
@[simp] theorem listD_tup {xs : List D} : listD (.tup xs) S = .ok (.loc S.length) (S ++ [.lst xs]) := rfl
@[simp] theorem listD_loc {l : Nat} {xs : List D} (h : S[l]? = some (.lst xs)) : listD (.loc l) S = .ok (.loc S.length) (S ++ [.lst xs]) := listD_e (by rw [seqS_loc, h]; rfl)
theorem sortD_e {ns : List Int} (h : sortQ d S = some ns) : sortD d S = .ok (.loc S.length) (S ++ [.lst ((isort ns).map .int)]) := by unfold sortD; rw [h]; rfl
theorem sortD_loc {l : Nat} {ns : List Int} (h : S[l]? = some (.lst (ns.map .int))) : sortD (.loc l) S = .ok (.loc S.length) (S ++ [.lst ((isort ns).map .int)]) := sortD_e (by unfold sortQ; rw [lstS_loc, h]; exact intsOf_map ns)
theorem sortD_dct {l : Nat} {kvs : List (Key × D)} {ns : List Int} (h : S[l]? = some (.dct kvs)) (hk : kvs.map (·.1) = ns.map Sum.inl) : sortD (.loc l) S = .ok (.loc S.length) (S ++ [.lst ((isort ns).map .int)]) := sortD_e (by unfold sortQ; rw [lstS_loc, keysS_loc, h]; simp [hk])
@[simp] theorem lstM_loc {l : Nat} : lstM (.loc l) S = (lstO S[l]?).map fun xs => (l, xs) := rfl
theorem extD_e {l : Nat} {xs ys : List D} (h : S[l]? = some (.lst xs)) (h2 : seqM S e = some ys) (h3 : xs.length + ys.length ≤ 16777216) : extD (.loc l) e S = .ok .non (S.set l (.lst (xs ++ ys))) := by
  unfold extD
  rw [lstM_loc, h, h2]
  simp only [lstO_lst, Option.map_some]
  rw [if_pos (fit_of h3)]
theorem popD_e {l : Nat} {xs : List D} {y : D} (h : S[l]? = some (.lst (xs ++ [y]))) : popD (.loc l) S = .ok y (S.set l (.lst xs)) := by
  unfold popD
  rw [lstM_loc, h]
  simp
theorem appD_e {l : Nat} {xs : List D} (h : S[l]? = some (.lst xs)) (h3 : xs.length + 1 ≤ 16777216) : appD (.loc l) e S = .ok .non (S.set l (.lst (xs ++ [e]))) := by
  rw [appD_loc, h]
  simp only [appO_lst]
  rw [if_pos (fit_of h3)]
  rfl
@[simp] theorem tyD_lst {l : Nat} {xs : List D} (h : S[l]? = some (.lst xs)) : tyD "list" (.loc l) S = true := by
  unfold tyD
  simp only [h]
  decide
@[simp] theorem cRng_e {h : List D → Mo Wk} {fs : En → Mo (List D)} : cRng h fs ρ S = (fs ρ S).andThen fun xs S1 => h xs S1 := rfl
@[simp] theorem rng1_e (h0 : -4611686018427387904 ≤ i) (h : i < 4611686018427387904) : rng1 [.int i] S = .ok (.items (rgD 0 i.toNat)) S := by
  show (if okR i = true then Rz.ok (Wk.items (rgD 0 i.toNat)) S else .no) = _
  rw [if_pos (okR_iff.mpr ⟨by simpa using h0, by simpa using h⟩)]
theorem rgD_get {lo : Int} {n k : Nat} (h : (rgD lo n)[k]? = some d) : k < n ∧ d = .int (lo + (k : Nat)) := by
  unfold rgD at h
  rw [List.getElem?_map] at h
  obtain ⟨j, h1, h2⟩ := Option.map_eq_some_iff.mp h
  have := List.getElem?_eq_some_iff.mp h1
  obtain ⟨h3, h4⟩ := this
  simp at h3 h4
  subst h4
  exact ⟨h3, h2.symm⟩
@[simp] theorem rgD_len {lo : Int} {n : Nat} : (rgD lo n).length = n := by unfold rgD; simp
@[simp] theorem cMeth_e {c np : Nat} {nm : Str} {F : List D → Mo D} {fo : DE} {fs : En → Mo (List D)} : cMeth c nm np F fo fs ρ S = (fo ρ S).andThen fun x S1 => (chkI c nm x S1).andThen fun _ S2 => (fs ρ S2).andThen fun xs S3 => apF np F (x :: xs) S3 := rfl
@[simp] theorem chkI_ins {l c : Nat} {nm : Str} {fs : List (Str × D)} (h : S[l]? = some (.ins c fs)) (h2 : fs.lookup nm = none) : chkI c nm (.loc l) S = .ok () S := by
  unfold chkI insG
  simp [h, h2]
/-! ### comprehensions -/
theorem cLc_e {it : En → Mo Wk} {t : CT} {tst : En → Mo Bool} {elt : DE} : cLc it t tst elt ρ S = (it ρ S).andThen fun w S1 => match w with
    | .items ds => lcI t tst elt (wipeE ρ t.vs) S1.length ds (S1 ++ [.lst []])
    | .view nx k => lcV t tst elt (wipeE ρ t.vs) S1.length nx k 0 (S1 ++ [.lst []]) := by
  show (it ρ S).andThen _ = _
  congr
theorem lcTurn_t {t : CT} {tst : En → Mo Bool} {elt : DE} {n : Nat} {y : D} {S1 S2 : Sto} {acc : List D} (h1 : t.put ρ d = some ρ') (h2 : tst ρ' S = .ok true S1) (h3 : elt ρ' S1 = .ok y S2) (h4 : S2[n]? = some (.lst acc)) (h5 : acc.length < 16777216) :
    lcTurn t tst elt ρ n d S = some (S2.set n (.lst (acc ++ [y]))) := by
  unfold lcTurn
  simp only [h1, h2, h3]
  unfold pushL
  simp only [h4]
  rw [if_pos (fit_of (by omega))]
theorem lcTurn_f {t : CT} {tst : En → Mo Bool} {elt : DE} {n : Nat} {S1 : Sto} (h1 : t.put ρ d = some ρ') (h2 : tst ρ' S = .ok false S1) : lcTurn t tst elt ρ n d S = some S1 := by
  unfold lcTurn
  simp only [h1, h2]
/-- by an invariant, over things that stand fast -/
theorem lcV_inv {t : CT} {tst : En → Mo Bool} {elt : DE} {n : Nat} {nx : Nx} {ds : List D} (P : Nat → Sto → Prop) (hl : ∀ i S, P i S → nx i S = some ds[i]?) (h : ∀ i d S, ds[i]? = some d → P i S → ∃ S', lcTurn t tst elt ρ n d S = some S' ∧ P (i + 1) S') (h0 : P 0 S) :
    ∃ S', lcV t tst elt ρ n nx ds.length 0 S = .ok (.loc n) S' ∧ P ds.length S' := by
  suffices ∀ (m k : Nat) (S : Sto), k + m = ds.length → P k S → ∃ S', lcV t tst elt ρ n nx m k S = .ok (.loc n) S' ∧ P ds.length S' from this ds.length 0 S (by omega) h0
  intro m
  induction m with
  | zero =>
    intro k S e p
    have e2 : k = ds.length := by omega
    subst e2
    refine ⟨S, ?_, p⟩
    unfold lcV
    rw [hl _ _ p]
    simp
  | succ m ih =>
    intro k S e p
    have hlt : k < ds.length := by omega
    have hd : ds[k]? = some ds[k] := List.getElem?_eq_getElem hlt
    obtain ⟨S1, e1, p1⟩ := h k _ S hd p
    obtain ⟨S2, e2, p2⟩ := ih (k + 1) S1 (by omega) p1
    refine ⟨S2, ?_, p2⟩
    unfold lcV
    rw [hl _ _ p, hd]
    simp only [e1]
    exact e2
theorem lcI_inv {t : CT} {tst : En → Mo Bool} {elt : DE} {n : Nat} {ds : List D} (P : Nat → Sto → Prop) (h : ∀ i d S, ds[i]? = some d → P i S → ∃ S', lcTurn t tst elt ρ n d S = some S' ∧ P (i + 1) S') (h0 : P 0 S) :
    ∃ S', lcI t tst elt ρ n ds S = .ok (.loc n) S' ∧ P ds.length S' := by
  suffices ∀ (r : List D) (k : Nat) (S : Sto), ds.drop k = r → k ≤ ds.length → P k S → ∃ S', lcI t tst elt ρ n r S = .ok (.loc n) S' ∧ P ds.length S' from this ds 0 S rfl (Nat.zero_le _) h0
  intro r
  induction r with
  | nil =>
    intro k S e hk p
    have : ds.length ≤ k := by simpa using e
    have e2 : k = ds.length := by omega
    subst e2
    exact ⟨S, rfl, p⟩
  | cons d r ih =>
    intro k S e hk p
    have hd : ds[k]? = some d := by
      have := congrArg (fun l => l[0]?) e
      simpa using this
    have hr : ds.drop (k + 1) = r := by
      have := congrArg List.tail e
      simpa using this
    have hlt : k < ds.length := by
      rw [List.getElem?_eq_some_iff] at hd
      exact hd.1
    obtain ⟨S1, e1, p1⟩ := h k _ S hd p
    obtain ⟨S2, e2, p2⟩ := ih (k + 1) S1 hr hlt p1
    refine ⟨S2, ?_, p2⟩
    unfold lcI
    simp only [e1]
    exact e2
/-- where nothing else changes: the list of what f gives -/
theorem lcV_map {t : CT} {tst : En → Mo Bool} {elt : DE} {nx : Nx} {ds : List D} (f : D → Option D) (hn : ds.length ≤ 16777216) (hl : ∀ i acc, nx i (S ++ [.lst acc]) = some ds[i]?)
    (h : ∀ d acc, d ∈ ds → ∃ ρ', t.put ρ d = some ρ' ∧ ((∃ y, tst ρ' (S ++ [.lst acc]) = .ok true (S ++ [.lst acc]) ∧ elt ρ' (S ++ [.lst acc]) = .ok y (S ++ [.lst acc]) ∧ f d = some y) ∨ (tst ρ' (S ++ [.lst acc]) = .ok false (S ++ [.lst acc]) ∧ f d = none))) :
    lcV t tst elt ρ S.length nx ds.length 0 (S ++ [.lst []]) = .ok (.loc S.length) (S ++ [.lst (ds.filterMap f)]) := by
  obtain ⟨S', e, p⟩ := lcV_inv (t := t) (tst := tst) (elt := elt) (ρ := ρ) (n := S.length) (nx := nx) (ds := ds) (S := S ++ [.lst []]) (fun i S' => S' = S ++ [.lst ((ds.take i).filterMap f)]) (fun i S' h => by rw [h]; exact hl i _)
    (fun i d S' hd hS => by
      subst hS
      obtain ⟨ρ', h1, h2⟩ := h d ((ds.take i).filterMap f) (List.mem_of_getElem? hd)
      have hlt := (List.getElem?_eq_some_iff.mp hd).1
      have e : ds.take (i + 1) = ds.take i ++ [d] := by rw [List.take_add_one, hd]; rfl
      rcases h2 with ⟨y, h3, h4, h5⟩ | ⟨h3, h5⟩
      · refine ⟨_, lcTurn_t (acc := (ds.take i).filterMap f) h1 h3 h4 (by simp) (Nat.lt_of_le_of_lt (List.length_filterMap_le _ _) (by rw [List.length_take]; omega)), ?_⟩
        rw [e, List.filterMap_append]
        simp [h5]
      · refine ⟨_, lcTurn_f h1 h3, ?_⟩
        rw [e, List.filterMap_append]
        simp [h5]) (by simp)
  rw [e, p]
  simp
theorem lcI_map {t : CT} {tst : En → Mo Bool} {elt : DE} {ds : List D} (f : D → Option D) (hn : ds.length ≤ 16777216)
    (h : ∀ d acc, d ∈ ds → ∃ ρ', t.put ρ d = some ρ' ∧ ((∃ y, tst ρ' (S ++ [.lst acc]) = .ok true (S ++ [.lst acc]) ∧ elt ρ' (S ++ [.lst acc]) = .ok y (S ++ [.lst acc]) ∧ f d = some y) ∨ (tst ρ' (S ++ [.lst acc]) = .ok false (S ++ [.lst acc]) ∧ f d = none))) :
    lcI t tst elt ρ S.length ds (S ++ [.lst []]) = .ok (.loc S.length) (S ++ [.lst (ds.filterMap f)]) := by
  obtain ⟨S', e, p⟩ := lcI_inv (t := t) (tst := tst) (elt := elt) (ρ := ρ) (n := S.length) (ds := ds) (S := S ++ [.lst []]) (fun i S' => S' = S ++ [.lst ((ds.take i).filterMap f)])
    (fun i d S' hd hS => by
      subst hS
      obtain ⟨ρ', h1, h2⟩ := h d ((ds.take i).filterMap f) (List.mem_of_getElem? hd)
      have hlt := (List.getElem?_eq_some_iff.mp hd).1
      have e : ds.take (i + 1) = ds.take i ++ [d] := by rw [List.take_add_one, hd]; rfl
      rcases h2 with ⟨y, h3, h4, h5⟩ | ⟨h3, h5⟩
      · refine ⟨_, lcTurn_t (acc := (ds.take i).filterMap f) h1 h3 h4 (by simp) (Nat.lt_of_le_of_lt (List.length_filterMap_le _ _) (by rw [List.length_take]; omega)), ?_⟩
        rw [e, List.filterMap_append]
        simp [h5]
      · refine ⟨_, lcTurn_f h1 h3, ?_⟩
        rw [e, List.filterMap_append]
        simp [h5]) (by simp)
  rw [e, p]
  simp
@[simp] theorem cTrue_e : cTrue ρ S = .ok true S := rfl
@[simp] theorem put_one {k : Nat} : CT.put ρ (.one k) d = some (ρ.set k (some d)) := rfl
@[simp] theorem vs_one {k : Nat} : CT.vs (.one k) = [k] := rfl
@[simp] theorem vs_many {k : List Nat} : CT.vs (.many k) = k := rfl
theorem put_many {is : List Nat} {ds : List D} (h : ds.length = is.length) : CT.put ρ (.many is) (.tup ds) = some (setAll ρ is ds) := by
  show (if ds.length = is.length then some (setAll ρ is ds) else none) = _
  rw [if_pos h]
@[simp] theorem setAll_nil : setAll ρ [] [] = ρ := rfl
@[simp] theorem setAll_cons {k : Nat} {is : List Nat} {ds : List D} : setAll ρ (k :: is) (d :: ds) = setAll (ρ.set k (some d)) is ds := rfl
@[simp] theorem wipeE_nil : wipeE ρ [] = ρ := rfl
@[simp] theorem wipeE_cons {k : Nat} {is : List Nat} : wipeE ρ (k :: is) = (wipeE ρ is).set k none := rfl
/-! ### while -/
theorem cWhile_step {c : En → Mo Bool} {n : Nat} : cWhile c s (n + 1) ρ S = (c ρ S).toF ρ fun k S1 => if k = true then (s ρ S1).tn (cWhile c s n) else .nx ρ S1 := by
  conv => lhs; unfold cWhile
  congr
  funext k S1
  cases k with
  | false => rfl
  | true => cases s ρ S1 <;> rfl
/-- a while by a measure: P's turns come to an end -/
theorem cWhile_inv {c : En → Mo Bool} (P : Nat → En → Sto → Prop) (Q : En → Sto → Prop) (h : ∀ k ρ S, P k ρ S → (∃ S1, c ρ S = .ok false S1 ∧ Q ρ S1) ∨ (∃ S1 ρ' S' j, c ρ S = .ok true S1 ∧ (s ρ S1 = .nx ρ' S' ∨ s ρ S1 = .cnt ρ' S') ∧ j < k ∧ P j ρ' S')) :
    ∀ k n ρ S, k < n → P k ρ S → ∃ ρ' S', cWhile c s n ρ S = .nx ρ' S' ∧ Q ρ' S' := by
  intro k
  induction k using Nat.strongRecOn with
  | ind k ih =>
    intro n ρ S hn p
    obtain ⟨n, rfl⟩ : ∃ m, n = m + 1 := ⟨n - 1, by omega⟩
    rw [cWhile_step]
    rcases h k ρ S p with ⟨S1, e, q⟩ | ⟨S1, ρ1, S', j, e, e2, hj, p2⟩
    · exact ⟨ρ, S1, by rw [e]; rfl, q⟩
    · obtain ⟨ρ2, S2, e3, q⟩ := ih j hj n ρ1 S' (by omega) p2
      refine ⟨ρ2, S2, ?_, q⟩
      rw [e]
      simp only [toF_ok, if_true]
      rcases e2 with e2 | e2 <;> (rw [e2]; exact e3)
end
end Sm
namespace Sm
open PySem PySem.Spec PyProof.Rows L2
section
variable {S X : Sto} {d e v : D} {i : Int}
theorem mapO_id {f : D → Option D} : ∀ {xs : List D}, (∀ x ∈ xs, f x = some x) → mapO f xs = some xs
  | [], _ => rfl
  | x :: xs, h => by
    rw [mapO_cons, h x List.mem_cons_self, mapO_id fun y hy => h y (List.mem_cons_of_mem _ hy)]
    rfl
theorem str_app_len {x y : Str} : (x ++ y).length = x.length + y.length := by
  show (x.cps ++ y.cps).size = x.cps.size + y.cps.size
  simp
theorem getD_str {z : Str} (hz : z.length ≤ 16777216) (h0 : 0 ≤ i) (h : i < z.length) : ∃ c, getD (.str z) (.int i) S = .ok (.str ⟨#[c]⟩) S := by
  have hl : z.cps.toList.length = z.length := by
    show z.cps.toList.length = z.cps.size
    simp
  have hi : i.toNat < z.cps.toList.length := by omega
  refine ⟨z.cps.toList[i.toNat], ?_⟩
  show optD (if fit z.length = true then (L2.atI z.cps.toList i).map (fun c => D.str ⟨#[c]⟩) else none) S = _
  rw [if_pos (fit_of hz), atI_nn h0, List.getElem?_eq_getElem hi]
  rfl
theorem lenD_str {z : Str} (hz : z.length ≤ 16777216) : lenD (.str z) S = .ok (.int z.length) S := by
  show optD (if fit z.length = true then some (D.int z.length) else none) S = _
  rw [if_pos (fit_of hz)]
  rfl
end
end Sm
namespace Sm
open PySem PySem.Spec PyProof.Rows L2
@[simp] theorem lookup_str {a b : Str} {v : D} {r : List (Str × D)} : List.lookup a ((b, v) :: r) = if a = b then some v else List.lookup a r := by
  rw [List.lookup_cons]
  by_cases h : a = b
  · subst h; simp
  · have : (a == b) = false := by simpa using h
    rw [this, if_neg h]
end Sm
end
section
namespace K21
open PySem PySem.Spec PyProof.Rows L2 Sm
noncomputable section
def tab : FTab := tabF []
def isT : TK → TK → Option Bool := tabJ [((.inl "NoneType", .inl "list"), false), ((.inl "bool", .inl "list"), false), ((.inl "int", .inl "list"), false), ((.inl "str", .inl "list"), false), ((.inl "tuple", .inl "list"), false), ((.inl "list", .inl "list"), true), ((.inl "dict", .inl "list"), false), ((.inl "NoneType", .inl "tuple"), false), ((.inl "bool", .inl "tuple"), false), ((.inl "int", .inl "tuple"), false), ((.inl "str", .inl "tuple"), false), ((.inl "tuple", .inl "tuple"), true), ((.inl "list", .inl "tuple"), false), ((.inl "dict", .inl "tuple"), false)]
@[simp] theorem isT_0 : isT (.inl "NoneType") (.inl "list") = some false := by decide +kernel
@[simp] theorem isT_1 : isT (.inl "bool") (.inl "list") = some false := by decide +kernel
@[simp] theorem isT_2 : isT (.inl "int") (.inl "list") = some false := by decide +kernel
@[simp] theorem isT_3 : isT (.inl "str") (.inl "list") = some false := by decide +kernel
@[simp] theorem isT_4 : isT (.inl "tuple") (.inl "list") = some false := by decide +kernel
@[simp] theorem isT_5 : isT (.inl "list") (.inl "list") = some true := by decide +kernel
@[simp] theorem isT_6 : isT (.inl "dict") (.inl "list") = some false := by decide +kernel
@[simp] theorem isT_7 : isT (.inl "NoneType") (.inl "tuple") = some false := by decide +kernel
@[simp] theorem isT_8 : isT (.inl "bool") (.inl "tuple") = some false := by decide +kernel
@[simp] theorem isT_9 : isT (.inl "int") (.inl "tuple") = some false := by decide +kernel
@[simp] theorem isT_10 : isT (.inl "str") (.inl "tuple") = some false := by decide +kernel
@[simp] theorem isT_11 : isT (.inl "tuple") (.inl "tuple") = some true := by decide +kernel
@[simp] theorem isT_12 : isT (.inl "list") (.inl "tuple") = some false := by decide +kernel
@[simp] theorem isT_13 : isT (.inl "dict") (.inl "tuple") = some false := by decide +kernel
@[irreducible] def wfuel : Nat := 1000000000
theorem wfuel_big : 900000000 < wfuel := by unfold wfuel; omega
/- operands(0:step, 1:word, 2:name) -/
def b_operands  : DS :=
  cSeq (cAsg (cOp getD (cVar 0) (cC (.int 0))) (kName 1)) <|
  cSeq (cIfS (cOrT (cTest (cOp eqD (cVar 1) (cC (.str "read")))) (cTest (cOp eqD (cVar 1) (cC (.str "load"))))) (cRet (cLst (cCons (cTup (cCons (cC (.str "name")) (cCons (cOp getD (cVar 0) (cC (.int 2))) cNil))) cNil))) (cNext)) <|
  cSeq (cIfS (cOrT (cTest (cOp eqD (cVar 1) (cC (.str "set")))) (cTest (cOp eqD (cVar 1) (cC (.str "store"))))) (cRet (cLst (cCons (cTup (cCons (cC (.str "name")) (cCons (cOp getD (cVar 0) (cC (.int 2))) cNil))) (cCons (cOp getD (cVar 0) (cC (.int 3))) cNil)))) (cNext)) <|
  cSeq (cIfS (cTest (cOp eqD (cVar 1) (cC (.str "math")))) (cRet (cLst (cCons (cOp getD (cVar 0) (cC (.int 3))) (cCons (cOp getD (cVar 0) (cC (.int 4))) cNil)))) (cNext)) <|
  cSeq (cIfS (cTest (cOp eqD (cVar 1) (cC (.str "make")))) (cRet (cCall (ar1 listD) (cCons (cOp getD (cVar 0) (cC (.int 3))) cNil))) (cNext)) <|
  cSeq (cIfS (cTest (cOp eqD (cVar 1) (cC (.str "call")))) (cRet (cOp addD (cLst (cCons (cOp getD (cVar 0) (cC (.int 2))) cNil)) (cCall (ar1 listD) (cCons (cOp getD (cVar 0) (cC (.int 3))) cNil)))) (cNext)) <|
  cSeq (cIfS (cTest (cOp eqD (cVar 1) (cC (.str "raise")))) (cRet (cLst (cCons (cOp getD (cVar 0) (cC (.int 3))) cNil))) (cNext)) <|
  cSeq (cIfS (cTest (cOp eqD (cVar 1) (cC (.str "close")))) (cRet (cLc (cIt (cOp getD (cVar 0) (cC (.int 3)))) (.one 2) (cTrue) (cTup (cCons (cC (.str "name")) (cCons (cVar 2) cNil))))) (cNext)) <|
  cSeq (cIfS (cTest (cOp inD (cVar 1) (cLst (cCons (cC (.str "start")) (cCons (cC (.str "box")) (cCons (cC (.str "tell")) (cCons (cC (.str "if")) (cCons (cC (.str "match")) cNil)))))))) (cRet (cLst (cCons (cOp getD (cVar 0) (cC (.int 2))) cNil))) (cNext)) <|
  cRet (cLst cNil)
def F_operands : List D → Mo D := cDef 3 b_operands
/- inner(0:step, 1:word) -/
def b_inner  : DS :=
  cSeq (cAsg (cOp getD (cVar 0) (cC (.int 0))) (kName 1)) <|
  cSeq (cIfS (cTest (cOp eqD (cVar 1) (cC (.str "func")))) (cRet (cLst (cCons (cTup (cCons (cOp getD (cVar 0) (cC (.int 2))) (cCons (cOp getD (cVar 0) (cC (.int 3))) cNil))) cNil))) (cNext)) <|
  cSeq (cIfS (cTest (cOp eqD (cVar 1) (cC (.str "if")))) (cRet (cLst (cCons (cTup (cCons (cTup cNil) (cCons (cOp getD (cVar 0) (cC (.int 3))) cNil))) (cCons (cTup (cCons (cTup cNil) (cCons (cOp getD (cVar 0) (cC (.int 4))) cNil))) cNil)))) (cNext)) <|
  cSeq (cIfS (cTest (cOp eqD (cVar 1) (cC (.str "match")))) (cRet (cLst (cCons (cTup (cCons (cOp getD (cVar 0) (cC (.int 4))) (cCons (cOp getD (cVar 0) (cC (.int 5))) cNil))) (cCons (cTup (cCons (cTup cNil) (cCons (cOp getD (cVar 0) (cC (.int 6))) cNil))) cNil)))) (cNext)) <|
  cSeq (cIfS (cTest (cOp eqD (cVar 1) (cC (.str "try")))) (cRet (cLst (cCons (cTup (cCons (cTup cNil) (cCons (cOp getD (cVar 0) (cC (.int 2))) cNil))) (cCons (cTup (cCons (cTup (cCons (cOp getD (cVar 0) (cC (.int 4))) cNil)) (cCons (cOp getD (cVar 0) (cC (.int 5))) cNil))) cNil)))) (cNext)) <|
  cRet (cLst cNil)
def F_inner : List D → Mo D := cDef 2 b_inner
/- given_in(0:body, 1:found, 2:step, 3:names, 4:within) -/
def l_given_in_1 (c_given_in : List D → Mo D) : DS :=
  cSeq (cExpr (cMt "list" (am1 extD) (cVar 1) (cCons (cVar 3) cNil))) <|
  cExpr (cMt "list" (am1 extD) (cVar 1) (cCons (cCall (apF 1 c_given_in) (cCons (cVar 4) cNil)) cNil))
def l_given_in_0 (c_given_in : List D → Mo D) : DS :=
  cSeq (cExpr (cMt "list" (am1 appD) (cVar 1) (cCons (cOp getD (cVar 2) (cC (.int 1))) cNil))) <|
  cFor (cIt (cCall (apF 1 F_inner) (cCons (cVar 2) cNil))) (kTup (kCons (kName 3) (kCons (kName 4) kNil)) 2) (l_given_in_1 c_given_in)
def b_given_in (c_given_in : List D → Mo D) : DS :=
  cSeq (cAsg (cLst cNil) (kName 1)) <|
  cSeq (cFor (cIt (cOp getD (cVar 0) (cC (.int 0)))) (kName 2) (l_given_in_0 c_given_in)) <|
  cRet (cCall (ar1 sortD) (cCons (cVar 1) cNil))
def F_given_in : Nat → List D → Mo D
  | 0 => fun _ => bad
  | n + 1 => cDef 5 (b_given_in (F_given_in n))
/- mentioned(0:body, 1:atoms, 2:found, 3:step, 4:names, 5:within, 6:name, 7:word) -/
def l_mentioned_3 (c_mentioned : List D → Mo D) : DS :=
  cIfS (cTest (cOp eqD (cVar 7) (cC (.str "name")))) (cSt (cVar 2) (cVar 6) (cC (.bl true))) (cNext)
def l_mentioned_2 (c_mentioned : List D → Mo D) : DS :=
  cSt (cVar 2) (cVar 6) (cC (.bl true))
def l_mentioned_1 (c_mentioned : List D → Mo D) : DS :=
  cFor (cIt (cCall (apF 1 c_mentioned) (cCons (cVar 5) cNil))) (kName 6) (l_mentioned_2 c_mentioned)
def l_mentioned_0 (c_mentioned : List D → Mo D) : DS :=
  cSeq (cExpr (cMt "list" (am1 extD) (cVar 1) (cCons (cCall (apF 1 F_operands) (cCons (cVar 3) cNil)) cNil))) <|
  cFor (cIt (cCall (apF 1 F_inner) (cCons (cVar 3) cNil))) (kTup (kCons (kName 4) (kCons (kName 5) kNil)) 2) (l_mentioned_1 c_mentioned)
def b_mentioned (c_mentioned : List D → Mo D) : DS :=
  cSeq (cAsg (cLst (cCons (cOp getD (cVar 0) (cC (.int 1))) cNil)) (kName 1)) <|
  cSeq (cAsg ((fun _ => newDct)) (kName 2)) <|
  cSeq (cFor (cIt (cOp getD (cVar 0) (cC (.int 0)))) (kName 3) (l_mentioned_0 c_mentioned)) <|
  cSeq (cFor (cIt (cVar 1)) (kTup (kCons (kName 7) (kCons (kName 6) kNil)) 2) (l_mentioned_3 c_mentioned)) <|
  cRet (cCall (ar1 sortD) (cCons (cVar 2) cNil))
def F_mentioned : Nat → List D → Mo D
  | 0 => fun _ => bad
  | n + 1 => cDef 8 (b_mentioned (F_mentioned n))
/- _law_cell_at(0:_law_script, 1:_law_k) -/
def b_law_cell_at  : DS :=
  cSeq (cIfS (cTest (cOp ltI (cVar 1) (cCall (ar1 lenD) (cCons (cVar 0) cNil)))) (cRet (cOp getD (cVar 0) (cVar 1))) (cNext)) <|
  cRet (cC (.int 0))
def F_law_cell_at : List D → Mo D := cDef 2 b_law_cell_at
/- _law_state(0:_law_script, 1:_law_number, 2:_law_seed) -/
def b_law_state  : DS :=
  cSeq (cAsg (cCall (ar2 maxD) (cCons (cCall (apF 2 F_law_cell_at) (cCons (cVar 0) (cCons (cC (.int 1)) cNil))) (cCons (cOp subD (cUn negD (cC (.int 1))) (cCall (apF 2 F_law_cell_at) (cCons (cVar 0) (cCons (cC (.int 1)) cNil)))) cNil))) (kName 1)) <|
  cSeq (cAsg (cC (.int 0)) (kName 2)) <|
  cSeq (cIfS (cTest (cOp eqD (cOp modD (cCall (apF 2 F_law_cell_at) (cCons (cVar 0) (cCons (cC (.int 0)) cNil))) (cC (.int 2))) (cC (.int 1)))) (cAsg (cOp addD (cC (.int 1)) (cOp modD (cCall (apF 2 F_law_cell_at) (cCons (cVar 0) (cCons (cC (.int 0)) cNil))) (cC (.int 2147483646)))) (kName 2)) (cNext)) <|
  cRet (cDict [(cC (.str "number"), cVar 1), (cC (.str "seed"), cVar 2), (cC (.str "steps"), cC (.int 40)), (cC (.str "name"), cC (.int 0)), (cC (.str "here"), cLst cNil), (cC (.str "used"), cLst cNil), (cC (.str "made"), cLst cNil)])
def F_law_state : List D → Mo D := cDef 3 b_law_state
/- _law_take(0:_law_state_here, 1:_law_many, 2:_law_digit) -/
def b_law_take  : DS :=
  cSeq (cIfS (cAndT (cTest (cOp eqD (cOp getD (cVar 0) (cC (.str "number"))) (cC (.int 0)))) (cTest (cOp gtI (cOp getD (cVar 0) (cC (.str "seed"))) (cC (.int 0))))) (cSeq (cSt (cVar 0) (cC (.str "seed")) (cOp modD (cOp mulD (cOp getD (cVar 0) (cC (.str "seed"))) (cC (.int 48271))) (cC (.int 2147483647)))) <|
  cSt (cVar 0) (cC (.str "number")) (cOp modD (cOp mulD (cOp getD (cVar 0) (cC (.str "seed"))) (cOp getD (cVar 0) (cC (.str "seed")))) (cC (.int 2147483629)))) (cNext)) <|
  cSeq (cAsg (cOp modD (cOp getD (cVar 0) (cC (.str "number"))) (cVar 1)) (kName 2)) <|
  cSeq (cSt (cVar 0) (cC (.str "number")) (cOp fdivD (cOp getD (cVar 0) (cC (.str "number"))) (cVar 1))) <|
  cRet (cVar 2)
def F_law_take : List D → Mo D := cDef 3 b_law_take
/- _law_atom(0:_law_state_here) -/
def b_law_atom  : DS :=
  cSeq (cIfS (cTest (cOp eqD (cCall (apF 2 F_law_take) (cCons (cVar 0) (cCons (cC (.int 3)) cNil))) (cC (.int 0)))) (cRet (cTup (cCons (cC (.str "number")) (cCons (cOp subD (cCall (apF 2 F_law_take) (cCons (cVar 0) (cCons (cOp powD (cC (.int 10)) (cC (.int 12))) cNil))) (cCall (apF 2 F_law_take) (cCons (cVar 0) (cCons (cOp powD (cC (.int 10)) (cC (.int 12))) cNil)))) cNil)))) (cNext)) <|
  cRet (cTup (cCons (cC (.str "name")) (cCons (cCall (apF 2 F_law_take) (cCons (cVar 0) (cCons (cOp addD (cOp getD (cVar 0) (cC (.str "name"))) (cC (.int 3))) cNil))) cNil)))
def F_law_atom : List D → Mo D := cDef 1 b_law_atom
/- _law_fresh(0:_law_state_here) -/
def b_law_fresh  : DS :=
  cSeq (cSt (cVar 0) (cC (.str "name")) (cOp addD (cOp getD (cVar 0) (cC (.str "name"))) (cC (.int 1)))) <|
  cSeq (cExpr (cMt "list" (am1 appD) (cOp getD (cVar 0) (cC (.str "here"))) (cCons (cOp subD (cOp getD (cVar 0) (cC (.str "name"))) (cC (.int 1))) cNil))) <|
  cRet (cOp subD (cOp getD (cVar 0) (cC (.str "name"))) (cC (.int 1)))
def F_law_fresh : List D → Mo D := cDef 1 b_law_fresh
/- _law_some(0:_law_state_here, 1:_law_many, 2:_law_k) -/
def b_law_some  : DS :=
  cRet (cCall (ar1 tupleD) (cCons (cLc (cRng rng1 (cCons (cCall (apF 2 F_law_take) (cCons (cVar 0) (cCons (cVar 1) cNil))) cNil)) (.one 2) (cTrue) (cCall (apF 1 F_law_fresh) (cCons (cVar 0) cNil))) cNil))
def F_law_some : List D → Mo D := cDef 3 b_law_some
/- _law_flat(0:_law_state_here, 1:_law_word, 2:_law_to, 3:_law_place, 4:_law_one, 5:_law_names, 6:_law_k, 7:_law_name, 8:_law_other, 9:_law_atoms) -/
def b_law_flat  : DS :=
  cSeq (cAsg (cCall (apF 1 F_law_atom) (cCons (cVar 0) cNil)) (kName 4)) <|
  cSeq (cIfS (cTest (cOp inD (cVar 1) (cLst (cCons (cC (.str "start")) (cCons (cC (.str "box")) (cCons (cC (.str "tell")) cNil)))))) (cRet (cLst (cCons (cTup (cCons (cVar 1) (cCons (cVar 2) (cCons (cVar 4) (cCons (cVar 3) cNil))))) (cCons (cLst (cCons (cVar 4) cNil)) cNil)))) (cNext)) <|
  cSeq (cIfS (cTest (cOp inD (cVar 1) (cLst (cCons (cC (.str "read")) (cCons (cC (.str "load")) cNil))))) (cRet (cLst (cCons (cTup (cCons (cVar 1) (cCons (cVar 2) (cCons (cOp addD (cVar 2) (cC (.int 7))) cNil)))) (cCons (cLst (cCons (cTup (cCons (cC (.str "name")) (cCons (cOp addD (cVar 2) (cC (.int 7))) cNil))) cNil)) cNil)))) (cNext)) <|
  cSeq (cIfS (cTest (cOp inD (cVar 1) (cLst (cCons (cC (.str "set")) (cCons (cC (.str "store")) cNil))))) (cRet (cLst (cCons (cTup (cCons (cVar 1) (cCons (cVar 2) (cCons (cC (.int 5)) (cCons (cVar 4) (cCons (cVar 3) cNil)))))) (cCons (cLst (cCons (cTup (cCons (cC (.str "name")) (cCons (cC (.int 5)) cNil))) (cCons (cVar 4) cNil))) cNil)))) (cNext)) <|
  cSeq (cIfS (cTest (cOp eqD (cVar 1) (cC (.str "raise")))) (cRet (cLst (cCons (cTup (cCons (cVar 1) (cCons (cVar 2) (cCons (cC (.str "a")) (cCons (cVar 4) (cCons (cVar 3) cNil)))))) (cCons (cLst (cCons (cVar 4) cNil)) cNil)))) (cNext)) <|
  cSeq (cIfS (cTest (cOp eqD (cVar 1) (cC (.str "ask")))) (cRet (cLst (cCons (cTup (cCons (cVar 1) (cCons (cVar 2) (cCons (cVar 3) cNil)))) (cCons (cLst cNil) cNil)))) (cNext)) <|
  cSeq (cIfS (cTest (cOp eqD (cVar 1) (cC (.str "close")))) (cSeq (cAsg (cCall (ar1 tupleD) (cCons (cLc (cRng rng1 (cCons (cCall (apF 2 F_law_take) (cCons (cVar 0) (cCons (cC (.int 5)) cNil))) cNil)) (.one 6) (cTrue) (cOp addD (cOp modD (cVar 3) (cC (.int 7))) (cOp mulD (cC (.int 3)) (cVar 6)))) cNil)) (kName 5)) <|
  cRet (cLst (cCons (cTup (cCons (cVar 1) (cCons (cVar 2) (cCons (cC (.int 2)) (cCons (cVar 5) (cCons (cVar 3) cNil)))))) (cCons (cLc (cIt (cVar 5)) (.one 7) (cTrue) (cTup (cCons (cC (.str "name")) (cCons (cVar 7) cNil)))) cNil)))) (cNext)) <|
  cSeq (cAsg (cCall (apF 1 F_law_atom) (cCons (cVar 0) cNil)) (kName 8)) <|
  cSeq (cIfS (cTest (cOp eqD (cVar 1) (cC (.str "math")))) (cRet (cLst (cCons (cTup (cCons (cVar 1) (cCons (cVar 2) (cCons (cC (.str "less")) (cCons (cVar 4) (cCons (cVar 8) (cCons (cVar 3) cNil))))))) (cCons (cLst (cCons (cVar 4) (cCons (cVar 8) cNil))) cNil)))) (cNext)) <|
  cSeq (cAsg (cCall (ar1 tupleD) (cCons (cSl (cLst (cCons (cVar 8) (cCons (cVar 4) (cCons (cVar 8) (cCons (cTup (cCons (cC (.str "name")) (cCons (cVar 2) cNil))) cNil))))) (cPart none) (cPart (some (cCall (apF 2 F_law_take) (cCons (cVar 0) (cCons (cC (.int 5)) cNil)))))) cNil)) (kName 9)) <|
  cSeq (cIfS (cTest (cOp eqD (cVar 1) (cC (.str "make")))) (cRet (cLst (cCons (cTup (cCons (cVar 1) (cCons (cVar 2) (cCons (cC (.str "b")) (cCons (cVar 9) (cCons (cVar 3) cNil)))))) (cCons (cCall (ar1 listD) (cCons (cVar 9) cNil)) cNil)))) (cNext)) <|
  cRet (cLst (cCons (cTup (cCons (cC (.str "call")) (cCons (cVar 2) (cCons (cVar 4) (cCons (cVar 9) (cCons (cVar 3) (cCons (cOp eqD (cOp modD (cVar 3) (cC (.int 2))) (cC (.int 0))) cNil))))))) (cCons (cOp addD (cLst (cCons (cVar 4) cNil)) (cCall (ar1 listD) (cCons (cVar 9) cNil))) cNil)))
def F_law_flat : List D → Mo D := cDef 10 b_law_flat
/- _law_wide(0:_law_state_here, 1:_law_word, 2:_law_to, 3:_law_place, 4:_law_deep, 5:_law_atom_here, 6:_law_names, 7:_law_one, 8:_law_other, 9:_law_name) -/
def b_law_wide (c_law_wide : List D → Mo D) (c_law_made : List D → Mo D) (c_law_body : List D → Mo D) : DS :=
  cSeq (cAsg (cCall (apF 1 F_law_atom) (cCons (cVar 0) cNil)) (kName 5)) <|
  cSeq (cAsg (cTup cNil) (kName 6)) <|
  cSeq (cIfS (cTest (cOp inD (cVar 1) (cLst (cCons (cC (.str "func")) (cCons (cC (.str "match")) cNil))))) (cAsg (cCall (apF 2 F_law_some) (cCons (cVar 0) (cCons (cC (.int 5)) cNil))) (kName 6)) (cNext)) <|
  cSeq (cAsg (cCall (apF 2 c_law_body) (cCons (cVar 0) (cCons (cOp subD (cVar 4) (cC (.int 1))) cNil))) (kName 7)) <|
  cSeq (cIfS (cTest (cOp eqD (cVar 1) (cC (.str "func")))) (cRet (cLst (cCons (cTup (cCons (cVar 1) (cCons (cVar 2) (cCons (cVar 6) (cCons (cVar 7) (cCons (cVar 3) cNil)))))) (cCons (cLst cNil) (cCons (cLst (cCons (cTup (cCons (cVar 6) (cCons (cVar 7) cNil))) cNil)) cNil))))) (cNext)) <|
  cSeq (cAsg (cCall (apF 2 c_law_body) (cCons (cVar 0) (cCons (cOp subD (cVar 4) (cC (.int 1))) cNil))) (kName 8)) <|
  cSeq (cIfS (cTest (cOp eqD (cVar 1) (cC (.str "if")))) (cRet (cLst (cCons (cTup (cCons (cVar 1) (cCons (cVar 2) (cCons (cVar 5) (cCons (cVar 7) (cCons (cVar 8) (cCons (cVar 3) cNil))))))) (cCons (cLst (cCons (cVar 5) cNil)) (cCons (cLst (cCons (cTup (cCons (cTup cNil) (cCons (cVar 7) cNil))) (cCons (cTup (cCons (cTup cNil) (cCons (cVar 8) cNil))) cNil))) cNil))))) (cNext)) <|
  cSeq (cIfS (cTest (cOp eqD (cVar 1) (cC (.str "match")))) (cRet (cLst (cCons (cTup (cCons (cVar 1) (cCons (cVar 2) (cCons (cVar 5) (cCons (cC (.str "tag")) (cCons (cVar 6) (cCons (cVar 7) (cCons (cVar 8) (cCons (cVar 3) cNil))))))))) (cCons (cLst (cCons (cVar 5) cNil)) (cCons (cLst (cCons (cTup (cCons (cVar 6) (cCons (cVar 7) cNil))) (cCons (cTup (cCons (cTup cNil) (cCons (cVar 8) cNil))) cNil))) cNil))))) (cNext)) <|
  cSeq (cAsg (cCall (apF 1 F_law_fresh) (cCons (cVar 0) cNil)) (kName 9)) <|
  cRet (cLst (cCons (cTup (cCons (cVar 1) (cCons (cVar 2) (cCons (cVar 7) (cCons (cC (.str "odd")) (cCons (cVar 9) (cCons (cVar 8) (cCons (cVar 3) cNil)))))))) (cCons (cLst cNil) (cCons (cLst (cCons (cTup (cCons (cTup cNil) (cCons (cVar 7) cNil))) (cCons (cTup (cCons (cTup (cCons (cVar 9) cNil)) (cCons (cVar 8) cNil))) cNil))) cNil))))
/- _law_made(0:_law_state_here, 1:_law_deep, 2:_law_words, 3:_law_word, 4:_law_to, 5:_law_place, 6:_law_made_here) -/
def b_law_made (c_law_wide : List D → Mo D) (c_law_made : List D → Mo D) (c_law_body : List D → Mo D) : DS :=
  cSeq (cAsg (cLst (cCons (cC (.str "start")) (cCons (cC (.str "read")) (cCons (cC (.str "set")) (cCons (cC (.str "math")) (cCons (cC (.str "make")) (cCons (cC (.str "tell")) (cCons (cC (.str "ask")) (cCons (cC (.str "raise")) (cCons (cC (.str "call")) (cCons (cC (.str "box")) (cCons (cC (.str "load")) (cCons (cC (.str "store")) (cCons (cC (.str "close")) cNil)))))))))))))) (kName 2)) <|
  cSeq (cAsg (cOp addD (cVar 2) (cLst (cCons (cC (.str "func")) (cCons (cC (.str "if")) (cCons (cC (.str "match")) (cCons (cC (.str "try")) cNil)))))) (kName 2)) <|
  cSeq (cAsg (cOp getD (cVar 2) (cCall (apF 2 F_law_take) (cCons (cVar 0) (cCons (cC (.int 17)) cNil)))) (kName 3)) <|
  cSeq (cAsg (cCall (apF 1 F_law_fresh) (cCons (cVar 0) cNil)) (kName 4)) <|
  cSeq (cAsg (cCall (apF 2 F_law_take) (cCons (cVar 0) (cCons (cC (.int 600)) cNil))) (kName 5)) <|
  cSeq (cSt (cVar 0) (cC (.str "steps")) (cOp subD (cOp getD (cVar 0) (cC (.str "steps"))) (cC (.int 1)))) <|
  cSeq (cIfS (cTest (cOp inD (cVar 3) (cLst (cCons (cC (.str "func")) (cCons (cC (.str "if")) (cCons (cC (.str "match")) (cCons (cC (.str "try")) cNil))))))) (cAsg (cCall (apF 5 c_law_wide) (cCons (cVar 0) (cCons (cVar 3) (cCons (cVar 4) (cCons (cVar 5) (cCons (cVar 1) cNil)))))) (kName 6)) (cAsg (cOp addD (cCall (apF 4 F_law_flat) (cCons (cVar 0) (cCons (cVar 3) (cCons (cVar 4) (cCons (cVar 5) cNil))))) (cLst (cCons (cLst cNil) cNil))) (kName 6))) <|
  cSeq (cExpr (cMt "list" (am1 extD) (cOp getD (cVar 0) (cC (.str "used"))) (cCons (cOp getD (cVar 6) (cC (.int 1))) cNil))) <|
  cSeq (cExpr (cMt "list" (am1 appD) (cOp getD (cVar 0) (cC (.str "made"))) (cCons (cVar 6) cNil))) <|
  cRet (cOp getD (cVar 6) (cC (.int 0)))
/- _law_body(0:_law_state_here, 1:_law_deep, 2:_law_steps, 3:_law_many, 4:_law_k, 5:_law_last) -/
def l_law_body_0 (c_law_wide : List D → Mo D) (c_law_made : List D → Mo D) (c_law_body : List D → Mo D) : DS :=
  cIfS (cTest (cOp gtI (cOp getD (cVar 0) (cC (.str "steps"))) (cC (.int 0)))) (cExpr (cMt "list" (am1 appD) (cVar 2) (cCons (cCall (apF 2 c_law_made) (cCons (cVar 0) (cCons (cVar 1) cNil))) cNil))) (cNext)
def b_law_body (c_law_wide : List D → Mo D) (c_law_made : List D → Mo D) (c_law_body : List D → Mo D) : DS :=
  cSeq (cAsg (cLst cNil) (kName 2)) <|
  cSeq (cAsg (cC (.int 0)) (kName 3)) <|
  cSeq (cIfS (cTest (cOp gtI (cVar 1) (cC (.int 0)))) (cAsg (cCall (apF 2 F_law_take) (cCons (cVar 0) (cCons (cC (.int 8)) cNil))) (kName 3)) (cNext)) <|
  cSeq (cFor (cRng rng1 (cCons (cVar 3) cNil)) (kName 4) (l_law_body_0 c_law_wide c_law_made c_law_body)) <|
  cSeq (cAsg (cCall (apF 1 F_law_atom) (cCons (cVar 0) cNil)) (kName 5)) <|
  cSeq (cExpr (cMt "list" (am1 appD) (cOp getD (cVar 0) (cC (.str "used"))) (cCons (cVar 5) cNil))) <|
  cRet (cTup (cCons (cCall (ar1 tupleD) (cCons (cVar 2) cNil)) (cCons (cVar 5) cNil)))
def R_law_wide : Nat → (List D → Mo D) × (List D → Mo D) × (List D → Mo D)
  | 0 => (fun _ => bad, fun _ => bad, fun _ => bad)
  | n + 1 => (cDef 10 (b_law_wide ((R_law_wide n).1) ((R_law_wide n).2.1) ((R_law_wide n).2.2)), cDef 7 (b_law_made ((R_law_wide n).1) ((R_law_wide n).2.1) ((R_law_wide n).2.2)), cDef 6 (b_law_body ((R_law_wide n).1) ((R_law_wide n).2.1) ((R_law_wide n).2.2)))
def F_law_wide (n : Nat) : List D → Mo D := (R_law_wide n).1
def F_law_made (n : Nat) : List D → Mo D := (R_law_wide n).2.1
def F_law_body (n : Nat) : List D → Mo D := (R_law_wide n).2.2
theorem F_law_wide_zero : F_law_wide 0 = fun _ => bad := rfl
theorem F_law_made_zero : F_law_made 0 = fun _ => bad := rfl
theorem F_law_body_zero : F_law_body 0 = fun _ => bad := rfl
theorem F_law_wide_succ (n : Nat) : F_law_wide (n + 1) = cDef 10 (b_law_wide (F_law_wide n) (F_law_made n) (F_law_body n)) := rfl
theorem F_law_made_succ (n : Nat) : F_law_made (n + 1) = cDef 7 (b_law_made (F_law_wide n) (F_law_made n) (F_law_body n)) := rfl
theorem F_law_body_succ (n : Nat) : F_law_body (n + 1) = cDef 6 (b_law_body (F_law_wide n) (F_law_made n) (F_law_body n)) := rfl
/- _law_right(0:_law_found, 1:_law_due, 2:_law_one) -/
def l_law_right_0  : DS :=
  cIfS (cNotT (cTru (cCall (ar2 (isiD isT)) (cCons (cVar 2) (cCons (cC (.ty "tuple")) cNil))))) (cRet (cC (.bl false))) (cNext)
def b_law_right  : DS :=
  cSeq (cIfS (cOrT (cNotT (cTru (cCall (ar2 (isiD isT)) (cCons (cVar 0) (cCons (cC (.ty "list")) cNil))))) (cTest (cOp neD (cVar 0) (cVar 1)))) (cRet (cC (.bl false))) (cNext)) <|
  cSeq (cFor (cIt (cVar 0)) (kName 2) (l_law_right_0)) <|
  cSeq (cExpr (cMt "list" (am1 appD) (cVar 0) (cCons (cC (.int 0)) cNil))) <|
  cRet (cC (.bl true))
def F_law_right : List D → Mo D := cDef 3 b_law_right
/- law(0:_law_script, 1:_law_state_here, 2:_law_steps, 3:_law_body_here, 4:_law_names, 5:_law_word, 6:_law_name, 7:_law_again, 8:_law_step, 9:_law_due, 10:_law_bodies, 11:_law_found, 12:_law_other) -/
def l_law_3  : DS :=
  cIfS (cOrT (cNotT (cTru (cCall (apF 2 F_law_right) (cCons (cCall (apF 1 F_operands) (cCons (cVar 8) cNil)) (cCons (cVar 9) cNil))))) (cNotT (cTru (cCall (apF 2 F_law_right) (cCons (cCall (apF 1 F_inner) (cCons (cVar 8) cNil)) (cCons (cVar 10) cNil)))))) (cRet (cC (.bl false))) (cNext)
def l_law_2  : DS :=
  cSeq (cFor (cIt (cOp getD (cVar 1) (cC (.str "made")))) (kTup (kCons (kName 8) (kCons (kName 9) (kCons (kName 10) kNil))) 3) (l_law_3)) <|
  cSeq (cAsg (cCall (apF 1 (F_given_in 40)) (cCons (cVar 3) cNil)) (kName 11)) <|
  cSeq (cAsg (cCall (apF 1 (F_mentioned 40)) (cCons (cVar 3) cNil)) (kName 12)) <|
  cSeq (cIfS (cOrT (cNotT (cTru (cCall (ar2 (isiD isT)) (cCons (cVar 11) (cCons (cC (.ty "list")) cNil))))) (cTest (cOp neD (cVar 11) (cCall (ar1 sortD) (cCons (cOp getD (cVar 1) (cC (.str "here"))) cNil))))) (cRet (cC (.bl false))) (cNext)) <|
  cSeq (cIfS (cOrT (cNotT (cTru (cCall (ar2 (isiD isT)) (cCons (cVar 12) (cCons (cC (.ty "list")) cNil))))) (cTest (cOp neD (cVar 12) (cCall (ar1 sortD) (cCons (cVar 4) cNil))))) (cRet (cC (.bl false))) (cNext)) <|
  cSeq (cExpr (cMt "list" (am1 appD) (cVar 11) (cCons (cC (.int 0)) cNil))) <|
  cExpr (cMt "list" (am1 appD) (cVar 12) (cCons (cC (.int 0)) cNil))
def l_law_1  : DS :=
  cIfS (cTest (cOp eqD (cVar 5) (cC (.str "name")))) (cSt (cVar 4) (cVar 6) (cC (.bl true))) (cNext)
def l_law_0  : DS :=
  cExpr (cMt "list" (am1 appD) (cVar 2) (cCons (cCall (apF 2 (F_law_made 40)) (cCons (cVar 1) (cCons (cC (.int 3)) cNil))) cNil))
def b_law  : DS :=
  cSeq (cAsg (cCall (apF 1 F_law_state) (cCons (cVar 0) cNil)) (kName 1)) <|
  cSeq (cAsg (cLst cNil) (kName 2)) <|
  cSeq (cWhile (cAndT (cTest (cOp gtI (cOp getD (cVar 1) (cC (.str "steps"))) (cC (.int 0)))) (cTest (cOp ltI (cCall (ar1 lenD) (cCons (cVar 2) cNil)) (cC (.int 20))))) (l_law_0) wfuel) <|
  cSeq (cAsg (cTup (cCons (cCall (ar1 tupleD) (cCons (cVar 2) cNil)) (cCons (cCall (apF 1 F_law_atom) (cCons (cVar 1) cNil)) cNil))) (kName 3)) <|
  cSeq (cAsg ((fun _ => newDct)) (kName 4)) <|
  cSeq (cFor (cIt (cOp addD (cOp getD (cVar 1) (cC (.str "used"))) (cLst (cCons (cOp getD (cVar 3) (cC (.int 1))) cNil)))) (kTup (kCons (kName 5) (kCons (kName 6) kNil)) 2) (l_law_1)) <|
  cSeq (cFor (cRng rng1 (cCons (cC (.int 2)) cNil)) (kName 7) (l_law_2)) <|
  cRet (cOp eqD (cVar 3) (cTup (cCons (cCall (ar1 tupleD) (cCons (cVar 2) cNil)) (cCons (cOp getD (cVar 3) (cC (.int 1))) cNil))))
def F_law : List D → Mo D := cDef 13 b_law
end
end K21
end
section
section
namespace K21
open PySem PySem.Spec PyProof.Rows L2 Sm
/-- an atom: a number, a name -/
inductive At where
  | num (i : Int) | nam (i : Int)
def atD : At → D
  | .num i => .tup [.str "number", .int i]
  | .nam i => .tup [.str "name", .int i]
def nmD (i : Int) : D := .int i
/-- what stands within a step: the names given at its beginning, its text, the names given in it, those used in it -/
structure In where
  names : List Int
  d : D
  g : List Int
  m : List Int
def inD' (i : In) : D := .tup [.tup (i.names.map .int), i.d]
/-- a step: its name, itself, its operands, what stands within -/
structure St where
  to : Int
  d : D
  ops : List At
  ins : List In
/-- operands(step) tells them, in a new list -/
def OpOk (s : St) : Prop := ∀ S : Sto, ∃ l X, F_operands [s.d] S = .ok (.loc l) (S ++ X) ∧ S.length ≤ l ∧ (S ++ X)[l]? = some (.lst (s.ops.map atD))
def InOk (s : St) : Prop := ∀ S : Sto, ∃ l X, F_inner [s.d] S = .ok (.loc l) (S ++ X) ∧ S.length ≤ l ∧ (S ++ X)[l]? = some (.lst (s.ins.map inD'))
def ToOk (s : St) : Prop := ∃ w r, s.d = .tup (w :: .int s.to :: r)
theorem op_first {w : Str} {to : Int} {a : At} {r : List D} {ins : List In} (hw : w ∈ (["start", "box", "tell", "if", "match"] : List Str)) : OpOk ⟨to, .tup (.str w :: .int to :: atD a :: r), [a], ins⟩ := fun S => by
  refine ⟨S.length + 1, [.lst [.str "start", .str "box", .str "tell", .str "if", .str "match"], .lst [atD a]], ?_, by omega, by simp⟩
  simp only [List.mem_cons, List.not_mem_nil, or_false] at hw
  rcases hw with rfl | rfl | rfl | rfl | rfl <;> simp -implicitDefEqProofs [F_operands, b_operands, startE, inD, inQ, inO, inL, flatD, eqF]
theorem op_none {w : Str} {to : Int} {r : List D} {ins : List In} (hw : w ∈ (["ask", "func", "try"] : List Str)) : OpOk ⟨to, .tup (.str w :: .int to :: r), [], ins⟩ := fun S => by
  refine ⟨S.length + 1, [.lst [.str "start", .str "box", .str "tell", .str "if", .str "match"], .lst []], ?_, by omega, by simp⟩
  simp only [List.mem_cons, List.not_mem_nil, or_false] at hw
  rcases hw with rfl | rfl | rfl <;> simp -implicitDefEqProofs [F_operands, b_operands, startE, inD, inQ, inO, inL, flatD, eqF]
theorem op_read {w : Str} {to n : Int} {r : List D} {ins : List In} (hw : w = "read" ∨ w = "load") : OpOk ⟨to, .tup (.str w :: .int to :: .int n :: r), [.nam n], ins⟩ := fun S => by
  refine ⟨S.length, [.lst [atD (.nam n)]], ?_, by omega, by simp⟩
  rcases hw with rfl | rfl <;> simp -implicitDefEqProofs [F_operands, b_operands, startE, atD]
theorem op_set {w : Str} {to n : Int} {a : At} {r : List D} {ins : List In} (hw : w = "set" ∨ w = "store") : OpOk ⟨to, .tup (.str w :: .int to :: .int n :: atD a :: r), [.nam n, a], ins⟩ := fun S => by
  refine ⟨S.length, [.lst [atD (.nam n), atD a]], ?_, by omega, by simp⟩
  rcases hw with rfl | rfl <;> simp -implicitDefEqProofs [F_operands, b_operands, startE, atD]
theorem op_math {to : Int} {x : D} {a b : At} {r : List D} {ins : List In} : OpOk ⟨to, .tup (.str "math" :: .int to :: x :: atD a :: atD b :: r), [a, b], ins⟩ := fun S => by
  refine ⟨S.length, [.lst [atD a, atD b]], ?_, by omega, by simp⟩
  simp -implicitDefEqProofs [F_operands, b_operands, startE]
theorem op_make {to : Int} {x : D} {as : List At} {r : List D} {ins : List In} : OpOk ⟨to, .tup (.str "make" :: .int to :: x :: .tup (as.map atD) :: r), as, ins⟩ := fun S => by
  refine ⟨S.length, [.lst (as.map atD)], ?_, by omega, by simp⟩
  simp -implicitDefEqProofs [F_operands, b_operands, startE]
theorem op_call {to : Int} {a : At} {as : List At} {r : List D} {ins : List In} (hl : as.length ≤ 1000) : OpOk ⟨to, .tup (.str "call" :: .int to :: atD a :: .tup (as.map atD) :: r), a :: as, ins⟩ := fun S => by
  refine ⟨S.length + 2, [.lst [atD a], .lst (as.map atD), .lst ((a :: as).map atD)], ?_, by omega, by simp⟩
  have hf : fit (1 + as.length) = true := fit_of (by omega)
  simp -implicitDefEqProofs [F_operands, b_operands, startE, addO, joinL, hf]
theorem op_raise {to : Int} {x : D} {a : At} {r : List D} {ins : List In} : OpOk ⟨to, .tup (.str "raise" :: .int to :: x :: atD a :: r), [a], ins⟩ := fun S => by
  refine ⟨S.length, [.lst [atD a]], ?_, by omega, by simp⟩
  simp -implicitDefEqProofs [F_operands, b_operands, startE]
theorem names_fm : ∀ ns : List Int, (ns.map D.int).filterMap (fun d => match d with | .int i => some (atD (.nam i)) | _ => none) = ns.map fun n => atD (.nam n)
  | [] => rfl
  | n :: r => by
    simp only [List.map_cons, List.filterMap_cons]
    rw [names_fm r]
/-- [('name', n) for n in names] -/
theorem lc_names {it : En → Mo Wk} {k : Nat} {ρ : En} {S : Sto} {ns : List Int} (hit : it ρ S = .ok (.items (ns.map .int)) S) (hl : ns.length ≤ 1000) (hk : k < ρ.length) :
    cLc it (.one k) cTrue (cTup (cCons (cC (.str "name")) (cCons (cVar k) cNil))) ρ S = .ok (.loc S.length) (S ++ [.lst (ns.map fun n => atD (.nam n))]) := by
  rw [cLc_e, hit]
  simp only [andThen_ok, vs_one, wipeE_cons, wipeE_nil]
  rw [lcI_map (fun d => match d with | .int i => some (atD (.nam i)) | _ => none) (by rw [List.length_map]; omega) (fun d acc hd => by
    obtain ⟨p, hp, rfl⟩ := List.mem_map.mp hd
    exact ⟨_, rfl, .inl ⟨atD (.nam p), rfl, by simp [atD, hk], by simp⟩⟩)]
  rw [names_fm]
theorem op_close {to : Int} {x : D} {ns : List Int} {r : List D} {ins : List In} (hl : ns.length ≤ 1000) : OpOk ⟨to, .tup (.str "close" :: .int to :: x :: .tup (ns.map .int) :: r), ns.map .nam, ins⟩ := fun S => by
  refine ⟨S.length, [.lst ((ns.map At.nam).map atD)], ?_, by omega, by simp⟩
  have h := lc_names (it := cIt (cOp getD (cVar 0) (cC (.int 3)))) (k := 2) (ρ := [some (.tup (.str "close" :: .int to :: x :: .tup (ns.map .int) :: r)), some (.str "close"), none]) (S := S) (ns := ns) (by simp) hl (by simp)
  have e : (ns.map At.nam).map atD = ns.map fun n => atD (.nam n) := by rw [List.map_map]; rfl
  rw [e]
  simp -implicitDefEqProofs [F_operands, b_operands, startE, h]
theorem in_none {w : Str} {d : D} {to : Int} {ops : List At} {r : List D} (hd : d = .tup (.str w :: r)) (hw : w ∉ (["func", "if", "match", "try"] : List Str)) : InOk ⟨to, d, ops, []⟩ := fun S => by
  refine ⟨S.length, [.lst []], ?_, by omega, by simp⟩
  simp only [List.mem_cons, List.not_mem_nil, or_false, not_or] at hw
  obtain ⟨h1, h2, h3, h4⟩ := hw
  subst hd
  simp -implicitDefEqProofs [F_inner, b_inner, startE, h1, h2, h3, h4]
theorem in_func {to : Int} {ops : List At} {i : In} {r : List D} : InOk ⟨to, .tup (.str "func" :: .int to :: .tup (i.names.map .int) :: i.d :: r), ops, [i]⟩ := fun S => by
  refine ⟨S.length, [.lst [inD' i]], ?_, by omega, by simp⟩
  simp -implicitDefEqProofs [F_inner, b_inner, startE, inD']
theorem in_if {to : Int} {a : D} {ops : List At} {i j : In} {r : List D} (hi : i.names = []) (hj : j.names = []) : InOk ⟨to, .tup (.str "if" :: .int to :: a :: i.d :: j.d :: r), ops, [i, j]⟩ := fun S => by
  refine ⟨S.length, [.lst [inD' i, inD' j]], ?_, by omega, by simp⟩
  simp -implicitDefEqProofs [F_inner, b_inner, startE, inD', hi, hj]
theorem in_match {to : Int} {a t : D} {ops : List At} {i j : In} {r : List D} (hj : j.names = []) : InOk ⟨to, .tup (.str "match" :: .int to :: a :: t :: .tup (i.names.map .int) :: i.d :: j.d :: r), ops, [i, j]⟩ := fun S => by
  refine ⟨S.length, [.lst [inD' i, inD' j]], ?_, by omega, by simp⟩
  simp -implicitDefEqProofs [F_inner, b_inner, startE, inD', hj]
theorem in_try {to n : Int} {t : D} {ops : List At} {i j : In} {r : List D} (hi : i.names = []) (hj : j.names = [n]) : InOk ⟨to, .tup (.str "try" :: .int to :: i.d :: t :: .int n :: j.d :: r), ops, [i, j]⟩ := fun S => by
  refine ⟨S.length, [.lst [inD' i, inD' j]], ?_, by omega, by simp⟩
  simp -implicitDefEqProofs [F_inner, b_inner, startE, inD', hi, hj]
end K21
end
section
namespace K21
open PySem PySem.Spec PyProof.Rows L2 Sm
theorem tail_get {S0 X : Sto} {a q : Ob} {l : Nat} (h : (S0 ++ a :: X)[l]? = some q) (hl : S0.length < l) : ∃ k, l = S0.length + 1 + k ∧ X[k]? = some q := by
  refine ⟨l - S0.length - 1, by omega, ?_⟩
  rw [List.getElem?_append_right (by omega)] at h
  rw [show l - S0.length = (l - S0.length - 1) + 1 by omega] at h
  simpa using h
theorem tail_put {S0 X : Sto} {a q : Ob} {k : Nat} (h : X[k]? = some q) : (S0 ++ a :: X)[S0.length + 1 + k]? = some q := by
  rw [List.getElem?_append_right (by omega), show S0.length + 1 + k - S0.length = k + 1 by omega]
  simpa using h
def nmA : At → List Int
  | .num _ => []
  | .nam i => [i]
def gOf (s : St) : List Int := s.to :: s.ins.flatMap fun i => i.names ++ i.g
def mOf (s : St) : List Int := s.ops.flatMap nmA ++ s.ins.flatMap (·.m)
/-- a body at most n deep, with the names given in it, those used in it -/
def Bod : Nat → D → List Int → List Int → Prop
  | 0, _, _, _ => False
  | n + 1, d, g, m => ∃ (ss : List St) (last : At), d = .tup [.tup (ss.map (·.d)), atD last] ∧ g = ss.flatMap gOf ∧ m = nmA last ++ ss.flatMap mOf ∧ g.length ≤ 100000 ∧ m.length ≤ 100000 ∧ (ss.flatMap (·.ops)).length ≤ 100000 ∧
    ∀ s ∈ ss, ToOk s ∧ OpOk s ∧ InOk s ∧ ∀ i ∈ s.ins, Bod n i.d i.g i.m
def iL (L : List Int) : Ob := .lst (L.map .int)
theorem given_in : ∀ (n : Nat) {d : D} {g m : List Int}, Bod n d g m → ∀ S : Sto, ∃ l X, F_given_in n [d] S = .ok (.loc l) (S ++ X) ∧ S.length ≤ l ∧ (S ++ X)[l]? = some (iL (isort g)) := by
  intro n
  induction n with
  | zero => intro d g m h; exact h.elim
  | succ n ih =>
    rintro d g m ⟨ss, last, rfl, rfl, rfl, hg, hm, _, hss⟩ S0
    -- the inner loop
    have inner : ∀ (pre : List Int) (s : St) (L : List Int) (X : Sto) (d0 : D) (b c : Option D), s ∈ ss → L.Perm (pre ++ [s.to]) → (pre ++ gOf s).length ≤ 100000 → ∃ b' c' L' X', cFor (cIt (cCall (apF 1 F_inner) (cCons (cVar 2) cNil))) (kTup (kCons (kName 3) (kCons (kName 4) kNil)) 2) (l_given_in_1 (F_given_in n)) [some d0, some (.loc S0.length), some s.d, b, c] (S0 ++ iL L :: X) = .nx [some d0, some (.loc S0.length), some s.d, b', c'] (S0 ++ iL L' :: X') ∧ L'.Perm (pre ++ gOf s) := by
      intro pre s L X d0 b c hs hL hlen
      obtain ⟨hto, hop, hin, hbod⟩ := hss s hs
      obtain ⟨l, Y, e, hl, hget⟩ := hin (S0 ++ iL L :: X)
      have hY : S0 ++ iL L :: X ++ Y = S0 ++ iL L :: (X ++ Y) := by simp
      rw [hY] at e hget
      obtain ⟨k, rfl, hk⟩ := tail_get hget (by simp at hl; omega)
      have hge : ∀ L' Z, (S0 ++ iL L' :: (X ++ Y ++ Z))[S0.length + 1 + k]? = some (.lst (s.ins.map inD')) := fun L' Z => tail_put (get_old hk)
      obtain ⟨ρ', S', e2, b', c', L', Z', rfl, rfl, hp, _⟩ := loopL_inv (k := kTup (kCons (kName 3) (kCons (kName 4) kNil)) 2) (s := l_given_in_1 (F_given_in n)) (l := S0.length + 1 + k) (ds := s.ins.map inD') (ρ := [some d0, some (.loc S0.length), some s.d, b, c]) (S := S0 ++ iL L :: (X ++ Y))
        (fun i ρ S' => ∃ b c L' Z, ρ = [some d0, some (.loc S0.length), some s.d, b, c] ∧ S' = S0 ++ iL L' :: (X ++ Y ++ Z) ∧ L'.Perm (pre ++ s.to :: (s.ins.take i).flatMap fun i => i.names ++ i.g) ∧ i ≤ s.ins.length)
        (by rintro i ρ S' ⟨b, c, L', Z, rfl, rfl, _⟩; exact hge L' Z)
        (by
          rintro i d ρ S' hd ⟨b, c, L', Z, rfl, rfl, hp, _⟩
          rw [List.getElem?_map] at hd
          obtain ⟨j, hj, rfl⟩ := Option.map_eq_some_iff.mp hd
          have hjm := List.mem_of_getElem? hj
          have htk : (s.ins.take (i + 1)).flatMap (fun i => i.names ++ i.g) = (s.ins.take i).flatMap (fun i => i.names ++ i.g) ++ (j.names ++ j.g) := by
            rw [List.take_add_one, hj, List.flatMap_append]; simp
          have hsub : ((s.ins.take (i + 1)).flatMap fun i => i.names ++ i.g).length ≤ (s.ins.flatMap fun i => i.names ++ i.g).length := by
            conv => rhs; rw [← List.take_append_drop (i + 1) s.ins, List.flatMap_append, List.length_append]
            omega
          have hL1 : L'.length = pre.length + 1 + ((s.ins.take i).flatMap fun i => i.names ++ i.g).length := by
            rw [hp.length_eq]; simp; omega
          have hb : L'.length + j.names.length + j.g.length ≤ 100000 := by
            rw [htk] at hsub
            simp only [gOf, List.length_append, List.length_cons] at hlen hsub
            omega
          obtain ⟨l2, Z2, e3, hl2, hg2⟩ := ih (hbod j hjm) (S0 ++ iL (L' ++ j.names) :: (X ++ Y ++ Z))
          have hZ : S0 ++ iL (L' ++ j.names) :: (X ++ Y ++ Z) ++ Z2 = S0 ++ iL (L' ++ j.names) :: (X ++ Y ++ (Z ++ Z2)) := by simp
          rw [hZ] at e3 hg2
          have e4 : extD (.loc S0.length) (.tup (j.names.map .int)) (S0 ++ iL L' :: (X ++ Y ++ Z)) = .ok .non (S0 ++ iL (L' ++ j.names) :: (X ++ Y ++ Z)) := by
            rw [extD_e (xs := L'.map .int) (ys := j.names.map .int) (by simp [iL]) rfl (by simp; omega)]
            simp [iL]
          have e5 : extD (.loc S0.length) (.loc l2) (S0 ++ iL (L' ++ j.names) :: (X ++ Y ++ (Z ++ Z2))) = .ok .non (S0 ++ iL (L' ++ j.names ++ isort j.g) :: (X ++ Y ++ (Z ++ Z2))) := by
            rw [extD_e (xs := (L' ++ j.names).map .int) (ys := (isort j.g).map .int) (by simp [iL]) (by rw [seqM_loc, hg2]; rfl) (by simp [(isort_perm j.g).length_eq]; omega)]
            simp [iL]
          have ht : ∀ L Z, tyD "list" (.loc S0.length) (S0 ++ iL L :: Z) = true := fun L Z => tyD_lst (xs := L.map .int) (by simp [iL])
          refine ⟨[some d0, some (.loc S0.length), some s.d, some (.tup (j.names.map .int)), some j.d], S0 ++ iL L' :: (X ++ Y ++ Z), by simp [inD'], [some d0, some (.loc S0.length), some s.d, some (.tup (j.names.map .int)), some j.d], S0 ++ iL (L' ++ j.names ++ isort j.g) :: (X ++ Y ++ (Z ++ Z2)), .inl ?_, _, _, _, Z ++ Z2, rfl, rfl, ?_, (List.getElem?_eq_some_iff.mp hj).1⟩
          · unfold l_given_in_1
            generalize F_given_in n = G at *
            simp only [List.append_assoc] at e3 e4 e5 ⊢
            simp -implicitDefEqProofs [ht, e4, e3, e5]
          · rw [htk]
            refine (List.Perm.append (List.Perm.append_right _ hp) (isort_perm j.g)).trans ?_
            simp)
        ⟨b, c, L, [], rfl, by simp, by simpa using hL, Nat.zero_le _⟩
      refine ⟨b', c', L', X ++ Y ++ Z', ?_, ?_⟩
      · have hh := hge L []
        rw [List.append_nil] at hh
        rw [cFor_e]
        generalize F_given_in n = G at *
        simp -implicitDefEqProofs [e, hh]
        have e2' := e2
        rw [List.length_map] at e2'
        simpa using e2'
      · have hp' := hp
        rw [List.length_map, List.take_length] at hp'
        exact hp'
    obtain ⟨ρ', S', e, a, b, c, L, X, rfl, rfl, hp, _⟩ := loopI_inv (k := kName 2) (s := l_given_in_0 (F_given_in n)) (ds := ss.map (·.d)) (ρ := [some (.tup [.tup (ss.map (·.d)), atD last]), some (.loc S0.length), none, none, none]) (S := S0 ++ [iL []])
      (fun i ρ S' => ∃ a b c L X, ρ = [some (.tup [.tup (ss.map (·.d)), atD last]), some (.loc S0.length), a, b, c] ∧ S' = S0 ++ iL L :: X ∧ L.Perm ((ss.take i).flatMap gOf) ∧ i ≤ ss.length)
      (by
        rintro i d ρ S' hd ⟨a, b, c, L, X, rfl, rfl, hp, _⟩
        rw [List.getElem?_map] at hd
        obtain ⟨s, hs, rfl⟩ := Option.map_eq_some_iff.mp hd
        have hsm := List.mem_of_getElem? hs
        have htk : (ss.take (i + 1)).flatMap gOf = (ss.take i).flatMap gOf ++ gOf s := by
          rw [List.take_add_one, hs, List.flatMap_append]; simp
        have hsub : ((ss.take (i + 1)).flatMap gOf).length ≤ (ss.flatMap gOf).length := by
          conv => rhs; rw [← List.take_append_drop (i + 1) ss, List.flatMap_append, List.length_append]
          omega
        obtain ⟨w, r, hto⟩ := (hss s hsm).1
        obtain ⟨b', c', L', X', e, hp'⟩ := inner ((ss.take i).flatMap gOf) s (L ++ [s.to]) X (.tup [.tup (ss.map (·.d)), atD last]) b c hsm (List.Perm.append_right _ hp) (by rw [← htk]; omega)
        refine ⟨_, _, rfl, [some (.tup [.tup (ss.map (·.d)), atD last]), some (.loc S0.length), some s.d, b', c'], S0 ++ iL L' :: X', .inl ?_, _, _, _, _, _, rfl, rfl, by rw [htk]; exact hp', (List.getElem?_eq_some_iff.mp hs).1⟩
        have hgt : ∀ S, getD s.d (.int 1) S = .ok (.int s.to) S := fun S => by rw [hto]; simp
        have ha : appD (.loc S0.length) (.int s.to) (S0 ++ iL L :: X) = .ok .non (S0 ++ iL (L ++ [s.to]) :: X) := by
          have hle := hp.length_eq
          rw [htk, List.length_append] at hsub
          rw [appD_e (xs := L.map .int) (by simp [iL]) (by simp; omega)]
          simp [iL]
        have ht : tyD "list" (.loc S0.length) (S0 ++ iL L :: X) = true := tyD_lst (xs := L.map .int) (by simp [iL])
        unfold l_given_in_0
        generalize F_given_in n = G at *
        simp -implicitDefEqProofs only [kName_e, List.set_cons_succ, List.set_cons_zero]
        simp -implicitDefEqProofs [hgt, ha, ht, e, -appD_loc])
      ⟨none, none, none, [], [], rfl, rfl, by simp, Nat.zero_le _⟩
    rw [List.length_map, List.take_length] at hp
    have hs : isort L = isort (ss.flatMap gOf) := isort_uniq ((isort_perm L).trans hp) (isort_sorted L)
    refine ⟨S0.length + 1 + X.length, iL L :: (X ++ [iL (isort (ss.flatMap gOf))]), ?_, by omega, ?_⟩
    · show cDef 5 (b_given_in (F_given_in n)) _ _ = _
      have hf : cFor (cIt (cOp getD (cVar 0) (cC (.int 0)))) (kName 2) (l_given_in_0 (F_given_in n)) [some (.tup [.tup (ss.map (·.d)), atD last]), some (.loc S0.length), none, none, none] (S0 ++ [.lst []]) = .nx [some (.tup [.tup (ss.map (·.d)), atD last]), some (.loc S0.length), a, b, c] (S0 ++ iL L :: X) := by
        rw [cFor_e]
        generalize F_given_in n = G at *
        simp -implicitDefEqProofs
        exact e
      have hsd : sortD (.loc S0.length) (S0 ++ iL L :: X) = .ok (.loc (S0.length + 1 + X.length)) (S0 ++ iL L :: (X ++ [iL (isort (ss.flatMap gOf))])) := by
        rw [sortD_loc (ns := L) (by simp [iL]), hs]
        simp [iL]
        omega
      unfold b_given_in
      generalize F_given_in n = G at *
      simp -implicitDefEqProofs [startE, hf, hsd]
    · have : S0 ++ iL L :: (X ++ [iL (isort (ss.flatMap gOf))]) = S0 ++ iL L :: (X ++ [iL (isort (ss.flatMap gOf))]) := rfl
      exact tail_put (by simp)
end K21
end
section
namespace K21
open PySem PySem.Spec PyProof.Rows L2 Sm
theorem tail_get2 {S0 X : Sto} {a b q : Ob} {l : Nat} (h : (S0 ++ a :: b :: X)[l]? = some q) (hl : S0.length + 1 < l) : ∃ k, l = S0.length + 2 + k ∧ X[k]? = some q := by
  refine ⟨l - S0.length - 2, by omega, ?_⟩
  rw [List.getElem?_append_right (by omega)] at h
  rw [show l - S0.length = (l - S0.length - 2) + 1 + 1 by omega] at h
  simpa using h
theorem tail_put2 {S0 X : Sto} {a b q : Ob} {k : Nat} (h : X[k]? = some q) : (S0 ++ a :: b :: X)[S0.length + 2 + k]? = some q := by
  rw [List.getElem?_append_right (by omega), show S0.length + 2 + k - S0.length = k + 1 + 1 by omega]
  simpa using h
/-- the dict of names -/
def kd (ks : List Int) : List (Key × D) := ks.map fun k => (.inl k, .bl true)
def insK (ks : List Int) (n : Int) : List Int := if n ∈ ks then ks else ks ++ [n]
def insAll (ks xs : List Int) : List Int := xs.foldl insK ks
theorem insK_mem {ks : List Int} {n z : Int} : z ∈ insK ks n ↔ z ∈ ks ∨ z = n := by
  unfold insK
  by_cases h : n ∈ ks
  · rw [if_pos h]
    exact ⟨.inl, fun q => q.elim id fun e => e ▸ h⟩
  · rw [if_neg h]; simp
theorem insK_nd {ks : List Int} {n : Int} (h : ks.Nodup) : (insK ks n).Nodup := by
  unfold insK
  by_cases q : n ∈ ks
  · rw [if_pos q]; exact h
  · rw [if_neg q, List.nodup_append]
    refine ⟨h, by simp, fun a ha b hb => ?_⟩
    simp at hb
    subst hb
    exact fun e => q (e ▸ ha)
theorem insK_len {ks : List Int} {n : Int} : (insK ks n).length ≤ ks.length + 1 := by
  unfold insK
  split
  · omega
  · simp
theorem insAll_mem {z : Int} : ∀ {xs ks : List Int}, z ∈ insAll ks xs ↔ z ∈ ks ∨ z ∈ xs
  | [], ks => by simp [insAll]
  | x :: xs, ks => by
    show z ∈ insAll (insK ks x) xs ↔ _
    rw [insAll_mem, insK_mem]
    simp [or_assoc]
theorem insAll_nd : ∀ {xs ks : List Int}, ks.Nodup → (insAll ks xs).Nodup
  | [], _, h => h
  | x :: xs, ks, h => insAll_nd (xs := xs) (insK_nd h)
theorem insAll_len : ∀ {xs ks : List Int}, (insAll ks xs).length ≤ ks.length + xs.length
  | [], ks => by simp [insAll]
  | x :: xs, ks => by
    have h1 := insAll_len (xs := xs) (ks := insK ks x)
    have h2 := insK_len (ks := ks) (n := x)
    show (insAll (insK ks x) xs).length ≤ _
    simp only [List.length_cons]
    omega
theorem insAll_snoc {ks xs : List Int} {n : Int} : insAll ks (xs ++ [n]) = insK (insAll ks xs) n := by
  unfold insAll
  rw [List.foldl_append]
  rfl
theorem insAll_app {ks xs ys : List Int} : insAll ks (xs ++ ys) = insAll (insAll ks xs) ys := by
  unfold insAll
  rw [List.foldl_append]
theorem put_kd {ks : List Int} {n : Int} : putD (kd ks) (.inl n) (.bl true) = kd (insK ks n) := by
  unfold putD insK kd
  by_cases h : n ∈ ks
  · have h1 : ((ks.map fun k => ((Sum.inl k : Key), D.bl true)).any fun kv => decide (kv.1 = Sum.inl n)) = true := by
      rw [List.any_eq_true]
      exact ⟨_, List.mem_map.mpr ⟨n, h, rfl⟩, by simp⟩
    rw [if_pos h1, if_pos h, List.map_map]
    refine List.map_congr_left fun k _ => ?_
    simp
  · have h1 : ¬ ((ks.map fun k => ((Sum.inl k : Key), D.bl true)).any fun kv => decide (kv.1 = Sum.inl n)) = true := by
      rw [List.any_eq_true]
      rintro ⟨kv, hm, he⟩
      obtain ⟨k, hk, rfl⟩ := List.mem_map.mp hm
      simp at he
      exact h (he ▸ hk)
    rw [if_neg h1, if_neg h, List.map_append]
    rfl
theorem kd_keys {ks : List Int} : (kd ks).map (·.1) = ks.map Sum.inl := by
  unfold kd
  rw [List.map_map]
  rfl
theorem kd_len {ks : List Int} : (kd ks).length = ks.length := by unfold kd; simp
theorem nd_perm {xs ys : List Int} (h1 : xs.Nodup) (h2 : ys.Nodup) (h : ∀ z, z ∈ xs ↔ z ∈ ys) : xs.Perm ys := by
  rw [List.perm_iff_count]
  intro a
  rw [h1.count, h2.count]
  simp only [h a]
theorem nd_isort {xs ys : List Int} (h1 : xs.Nodup) (h2 : ys.Nodup) (h : ∀ z, z ∈ xs ↔ z ∈ ys) : isort xs = isort ys :=
  isort_uniq ((isort_perm xs).trans (nd_perm h1 h2 h)) (isort_sorted xs)
def aL (A : List At) : Ob := .lst (A.map atD)
def sm (S0 : Sto) (A : List At) (ks : List Int) (X : Sto) : Sto := S0 ++ aL A :: .dct (kd ks) :: X
theorem sm_app {S0 X Y : Sto} {A : List At} {ks : List Int} : sm S0 A ks X ++ Y = sm S0 A ks (X ++ Y) := by simp [sm]
theorem sm_atoms {S0 X : Sto} {A : List At} {ks : List Int} : (sm S0 A ks X)[S0.length]? = some (aL A) := by simp [sm]
theorem sm_dict {S0 X : Sto} {A : List At} {ks : List Int} : (sm S0 A ks X)[S0.length + 1]? = some (.dct (kd ks)) := by simp [sm]
theorem sm_rest {S0 X : Sto} {A : List At} {ks : List Int} {k : Nat} {q : Ob} (h : X[k]? = some q) : (sm S0 A ks X)[S0.length + 2 + k]? = some q := tail_put2 h
theorem sm_get {S0 X Y : Sto} {A : List At} {ks : List Int} {l : Nat} {q : Ob} (h : (sm S0 A ks X)[l]? = some q) (hl : (sm S0 A ks Y).length ≤ l) : ∃ k, l = S0.length + 2 + k ∧ X[k]? = some q := tail_get2 h (by simp [sm] at hl; omega)
theorem sm_put {S0 X : Sto} {A : List At} {ks : List Int} {n : Int} (h : ks.length ≤ 1000000) : stQ (.loc (S0.length + 1)) (.int n) (.bl true) (sm S0 A ks X) = some (sm S0 A (insK ks n) X) := by
  rw [stQ_loc, sm_dict, stO_dctI, kd_len, if_pos (fit_of (by omega)), put_kd]
  simp [sm]
theorem sm_ext {S0 X : Sto} {A B : List At} {ks : List Int} {l : Nat} (hl : (sm S0 A ks X)[l]? = some (aL B)) (h : A.length + B.length ≤ 1000000) : extD (.loc S0.length) (.loc l) (sm S0 A ks X) = .ok .non (sm S0 (A ++ B) ks X) := by
  rw [extD_e (xs := A.map atD) (ys := B.map atD) sm_atoms (by rw [seqM_loc, hl]; rfl) (by simp; omega)]
  simp [sm, aL]
/-- for name in a list of names: found[name] = True -/
theorem put_loop {n : Nat} {S0 : Sto} {A : List At} {it : En → Mo Wk} {k : Nat} {ns : List Int} (a0 b c d e f g : Option D) (ks : List Int) (X : Sto) (hX : X[k]? = some (iL ns)) (hl : ks.length + ns.length ≤ 1000000) {Y : Sto} {ks0 : List Int}
    (hit : it [a0, b, some (.loc (S0.length + 1)), c, d, e, f, g] (sm S0 A ks0 Y) = .ok (.view (liveX (S0.length + 2 + k)) ns.length) (sm S0 A ks X)) :
    ∃ f', cFor it (kName 6) (l_mentioned_2 (F_mentioned n)) [a0, b, some (.loc (S0.length + 1)), c, d, e, f, g] (sm S0 A ks0 Y) = .nx [a0, b, some (.loc (S0.length + 1)), c, d, e, f', g] (sm S0 A (insAll ks ns) X) := by
  obtain ⟨ρ', S', e2, f', rfl, rfl⟩ := loopL_inv (k := kName 6) (s := l_mentioned_2 (F_mentioned n)) (l := S0.length + 2 + k) (ds := ns.map .int) (ρ := [a0, b, some (.loc (S0.length + 1)), c, d, e, f, g]) (S := sm S0 A ks X)
    (fun i ρ S' => ∃ f, ρ = [a0, b, some (.loc (S0.length + 1)), c, d, e, f, g] ∧ S' = sm S0 A (insAll ks (ns.take i)) X)
    (by rintro i ρ S' ⟨f, rfl, rfl⟩; exact sm_rest hX)
    (by
      rintro i d' ρ S' hd ⟨f, rfl, rfl⟩
      rw [List.getElem?_map] at hd
      obtain ⟨z, hz, rfl⟩ := Option.map_eq_some_iff.mp hd
      have htk : ns.take (i + 1) = ns.take i ++ [z] := by rw [List.take_add_one, hz]; rfl
      have hb : (insAll ks (ns.take i)).length ≤ 1000000 := by
        have := insAll_len (ks := ks) (xs := ns.take i)
        rw [List.length_take] at this
        omega
      refine ⟨_, _, rfl, [a0, b, some (.loc (S0.length + 1)), c, d, e, some (.int z), g], _, .inl ?_, _, rfl, by rw [htk, insAll_snoc]⟩
      unfold l_mentioned_2
      simp -implicitDefEqProofs [sm_put hb, -stQ_loc])
    ⟨f, rfl, rfl⟩
  refine ⟨f', ?_⟩
  rw [cFor_e, hit]
  rw [List.length_map, List.take_length] at e2
  exact e2
/-- what is told of the names of a text -/
def MnOk (n : Nat) (d : D) (m : List Int) : Prop := ∀ S : Sto, ∃ l X ks, F_mentioned n [d] S = .ok (.loc l) (S ++ X) ∧ S.length ≤ l ∧ (S ++ X)[l]? = some (iL (isort ks)) ∧ ks.Nodup ∧ (∀ z, z ∈ ks ↔ z ∈ m) ∧ ks.length ≤ m.length
theorem flat_take {α β : Type} (f : α → List β) {xs : List α} {i : Nat} {x : α} (h : xs[i]? = some x) : (xs.take (i + 1)).flatMap f = (xs.take i).flatMap f ++ f x ∧ ((xs.take i).flatMap f).length + (f x).length ≤ (xs.flatMap f).length := by
  have e : (xs.take (i + 1)).flatMap f = (xs.take i).flatMap f ++ f x := by rw [List.take_add_one, h, List.flatMap_append]; simp
  refine ⟨e, ?_⟩
  have hs : ((xs.take (i + 1)).flatMap f).length ≤ (xs.flatMap f).length := by
    conv => rhs; rw [← List.take_append_drop (i + 1) xs, List.flatMap_append, List.length_append]
    omega
  rw [e, List.length_append] at hs
  exact hs
/-- the bodies within a step -/
theorem ins_loop {n : Nat} {S0 : Sto} {A : List At} (s : St) (hin : InOk s) (hm : ∀ i ∈ s.ins, MnOk n i.d i.m) (d0 : D) (b c d e : Option D) (ks : List Int) (X : Sto) (hl : ks.length + (s.ins.flatMap (·.m)).length ≤ 1000000) :
    ∃ b' c' d' e' ks' X', cFor (cIt (cCall (apF 1 F_inner) (cCons (cVar 3) cNil))) (kTup (kCons (kName 4) (kCons (kName 5) kNil)) 2) (l_mentioned_1 (F_mentioned n)) [some d0, some (.loc S0.length), some (.loc (S0.length + 1)), some s.d, b, c, d, e] (sm S0 A ks X) = .nx [some d0, some (.loc S0.length), some (.loc (S0.length + 1)), some s.d, b', c', d', e'] (sm S0 A ks' X') ∧
      (ks.Nodup → ks'.Nodup) ∧ (∀ z, z ∈ ks' ↔ z ∈ ks ∨ z ∈ s.ins.flatMap (·.m)) ∧ ks'.length ≤ ks.length + (s.ins.flatMap (·.m)).length := by
  obtain ⟨l, Y, e1, hl1, hget⟩ := hin (sm S0 A ks X)
  rw [sm_app] at e1 hget
  obtain ⟨k, rfl, hk⟩ := sm_get (Y := X) hget hl1
  obtain ⟨ρ', S', e2, b', c', d', e', ks', Z, rfl, rfl, h1, h2, h3, _⟩ := loopL_inv (k := kTup (kCons (kName 4) (kCons (kName 5) kNil)) 2) (s := l_mentioned_1 (F_mentioned n)) (l := S0.length + 2 + k) (ds := s.ins.map inD') (ρ := [some d0, some (.loc S0.length), some (.loc (S0.length + 1)), some s.d, b, c, d, e]) (S := sm S0 A ks (X ++ Y))
    (fun i ρ S' => ∃ b c d e ks' Z, ρ = [some d0, some (.loc S0.length), some (.loc (S0.length + 1)), some s.d, b, c, d, e] ∧ S' = sm S0 A ks' (X ++ Y ++ Z) ∧ (ks.Nodup → ks'.Nodup) ∧ (∀ z, z ∈ ks' ↔ z ∈ ks ∨ z ∈ (s.ins.take i).flatMap (·.m)) ∧ ks'.length ≤ ks.length + ((s.ins.take i).flatMap (·.m)).length ∧ i ≤ s.ins.length)
    (by rintro i ρ S' ⟨b, c, d, e, ks', Z, rfl, rfl, _⟩; exact sm_rest (get_old hk))
    (by
      rintro i dd ρ S' hd ⟨b, c, d, e, ks', Z, rfl, rfl, h1, h2, h3, _⟩
      rw [List.getElem?_map] at hd
      obtain ⟨j, hj, rfl⟩ := Option.map_eq_some_iff.mp hd
      obtain ⟨htk, hsub⟩ := flat_take (·.m) hj
      obtain ⟨l2, Z2, ms, e3, hl2, hg2, hnd, hmem, hlen⟩ := hm j (List.mem_of_getElem? hj) (sm S0 A ks' (X ++ Y ++ Z))
      rw [sm_app] at e3 hg2
      obtain ⟨k2, rfl, hk2⟩ := sm_get (Y := X ++ Y ++ Z) hg2 hl2
      obtain ⟨d'', e4⟩ := put_loop (n := n) (S0 := S0) (A := A) (it := cIt (cCall (apF 1 (F_mentioned n)) (cCons (cVar 5) cNil))) (k := k2) (ns := isort ms) (some d0) (some (.loc S0.length)) (some s.d) (some (.tup (j.names.map .int))) (some j.d) d e ks' (X ++ Y ++ Z ++ Z2) hk2 (by rw [(isort_perm ms).length_eq]; omega) (Y := X ++ Y ++ Z) (ks0 := ks')
        (by
          have hg3 := hg2
          generalize F_mentioned n = G at *
          simp only [List.append_assoc] at e3 hg3 ⊢
          simp -implicitDefEqProofs [e3, hg3, iL])
      refine ⟨[some d0, some (.loc S0.length), some (.loc (S0.length + 1)), some s.d, some (.tup (j.names.map .int)), some j.d, d, e], sm S0 A ks' (X ++ Y ++ Z), by simp [inD'], _, _, .inl e4, _, _, _, _, _, Z ++ Z2, rfl, by rw [← List.append_assoc], fun h => insAll_nd (h1 h), fun z => ?_, ?_, (List.getElem?_eq_some_iff.mp hj).1⟩
      · rw [insAll_mem, h2, htk, List.mem_append, (isort_perm ms).mem_iff, hmem, or_assoc]
      · have := insAll_len (ks := ks') (xs := isort ms)
        rw [(isort_perm ms).length_eq] at this
        rw [htk, List.length_append]
        omega)
    ⟨b, c, d, e, ks, [], rfl, by simp, id, by simp, by simp, Nat.zero_le _⟩
  rw [List.length_map] at e2 h2 h3
  rw [List.take_length] at h2 h3
  refine ⟨b', c', d', e', ks', X ++ Y ++ Z, ?_, h1, h2, h3⟩
  rw [cFor_e]
  have hh := sm_rest (S0 := S0) (A := A) (ks := ks) hk
  generalize l_mentioned_1 (F_mentioned n) = G at *
  rw [List.append_assoc] at e2 ⊢
  simp -implicitDefEqProofs [e1, hh]
  exact e2
theorem atoms_loop {n : Nat} {S0 : Sto} {A : List At} (d0 a3 b c d e : Option D) (ks : List Int) (X : Sto) (hl : ks.length + (A.flatMap nmA).length ≤ 1000000) :
    ∃ f g, cFor (cIt (cVar 1)) (kTup (kCons (kName 7) (kCons (kName 6) kNil)) 2) (l_mentioned_3 (F_mentioned n)) [d0, some (.loc S0.length), some (.loc (S0.length + 1)), a3, b, c, d, e] (sm S0 A ks X) = .nx [d0, some (.loc S0.length), some (.loc (S0.length + 1)), a3, b, c, f, g] (sm S0 A (insAll ks (A.flatMap nmA)) X) := by
  obtain ⟨ρ', S', e4, f', g', rfl, rfl⟩ := loopL_inv (k := kTup (kCons (kName 7) (kCons (kName 6) kNil)) 2) (s := l_mentioned_3 (F_mentioned n)) (l := S0.length) (ds := A.map atD) (ρ := [d0, some (.loc S0.length), some (.loc (S0.length + 1)), a3, b, c, d, e]) (S := sm S0 A ks X)
    (fun i ρ S' => ∃ f g, ρ = [d0, some (.loc S0.length), some (.loc (S0.length + 1)), a3, b, c, f, g] ∧ S' = sm S0 A (insAll ks ((A.take i).flatMap nmA)) X)
    (by rintro i ρ S' ⟨f, g, rfl, rfl⟩; exact sm_atoms)
    (by
      rintro i dd ρ S' hd ⟨f, g, rfl, rfl⟩
      rw [List.getElem?_map] at hd
      obtain ⟨x, hx, rfl⟩ := Option.map_eq_some_iff.mp hd
      obtain ⟨ht, hs⟩ := flat_take nmA hx
      have hb : (insAll ks ((A.take i).flatMap nmA)).length ≤ 1000000 := by
        have h5 := insAll_len (ks := ks) (xs := (A.take i).flatMap nmA)
        omega
      cases x with
      | num z =>
        refine ⟨[d0, some (.loc S0.length), some (.loc (S0.length + 1)), a3, b, c, some (.int z), some (.str "number")], _, by simp [atD]; rfl, [d0, some (.loc S0.length), some (.loc (S0.length + 1)), a3, b, c, some (.int z), some (.str "number")], _, .inl ?_, _, _, rfl, rfl⟩
        rw [ht]
        unfold l_mentioned_3
        simp -implicitDefEqProofs [nmA]
      | nam z =>
        refine ⟨[d0, some (.loc S0.length), some (.loc (S0.length + 1)), a3, b, c, some (.int z), some (.str "name")], _, by simp [atD]; rfl, [d0, some (.loc S0.length), some (.loc (S0.length + 1)), a3, b, c, some (.int z), some (.str "name")], _, .inl ?_, _, _, rfl, rfl⟩
        rw [ht]
        unfold l_mentioned_3
        simp -implicitDefEqProofs [nmA, sm_put hb, -stQ_loc, insAll_snoc])
    ⟨d, e, rfl, by simp [insAll]⟩
  rw [List.length_map, List.take_of_length_le (by simp)] at e4
  refine ⟨f', g', ?_⟩
  rw [cFor_e]
  have hh := sm_atoms (S0 := S0) (A := A) (ks := ks) (X := X)
  generalize l_mentioned_3 (F_mentioned n) = G at *
  simp -implicitDefEqProofs [hh, aL]
  exact e4
theorem mentioned : ∀ (n : Nat) {d : D} {g m : List Int}, Bod n d g m → MnOk n d m := by
  intro n
  induction n with
  | zero => intro d g m h; exact h.elim
  | succ n ih =>
    rintro d g m ⟨ss, last, rfl, rfl, rfl, hg, hm, hops, hss⟩ S0
    have hmm : (ss.flatMap fun s => s.ins.flatMap (·.m)).length ≤ 100000 := by
      have h2 : ∀ ss : List St, (ss.flatMap fun s => s.ins.flatMap (·.m)).length ≤ (ss.flatMap mOf).length := by
        intro ss
        induction ss with
        | nil => simp
        | cons s r ih =>
          have e : (mOf s).length = (s.ops.flatMap nmA).length + (s.ins.flatMap (·.m)).length := by simp [mOf]
          simp only [List.flatMap_cons, List.length_append]
          omega
      have := h2 ss
      rw [List.length_append] at hm
      omega
    -- the steps
    obtain ⟨ρ', S', e, a3, b, c, d, e', ks, X, rfl, rfl, h1, h2, h3, _⟩ := loopI_inv (k := kName 3) (s := l_mentioned_0 (F_mentioned n)) (ds := ss.map (·.d)) (ρ := [some (.tup [.tup (ss.map (·.d)), atD last]), some (.loc S0.length), some (.loc (S0.length + 1)), none, none, none, none, none]) (S := sm S0 [last] [] [])
      (fun i ρ S' => ∃ a b c d e ks X, ρ = [some (.tup [.tup (ss.map (·.d)), atD last]), some (.loc S0.length), some (.loc (S0.length + 1)), a, b, c, d, e] ∧ S' = sm S0 (last :: (ss.take i).flatMap (·.ops)) ks X ∧ ks.Nodup ∧ (∀ z, z ∈ ks ↔ z ∈ (ss.take i).flatMap fun s => s.ins.flatMap (·.m)) ∧ ks.length ≤ ((ss.take i).flatMap fun s => s.ins.flatMap (·.m)).length ∧ i ≤ ss.length)
      (by
        rintro i dd ρ S' hd ⟨a, b, c, d, e, ks, X, rfl, rfl, h1, h2, h3, _⟩
        rw [List.getElem?_map] at hd
        obtain ⟨s, hs, rfl⟩ := Option.map_eq_some_iff.mp hd
        obtain ⟨hto, hop, hin, hbod⟩ := hss s (List.mem_of_getElem? hs)
        obtain ⟨ht1, hs1⟩ := flat_take (·.ops) hs
        obtain ⟨ht2, hs2⟩ := flat_take (fun s : St => s.ins.flatMap (·.m)) hs
        obtain ⟨l, Y, e1, hl1, hget⟩ := hop (sm S0 (last :: (ss.take i).flatMap (·.ops)) ks X)
        rw [sm_app] at e1 hget
        have e2 := sm_ext (S0 := S0) (A := last :: (ss.take i).flatMap (·.ops)) (B := s.ops) (ks := ks) (X := X ++ Y) hget (by simp only [List.length_cons]; omega)
        obtain ⟨b', c', d', e', ks', X', e3, k1, k2, k3⟩ := ins_loop (n := n) (S0 := S0) (A := last :: (ss.take i).flatMap (·.ops) ++ s.ops) s hin (fun j hj => ih (hbod j hj)) (.tup [.tup (ss.map (·.d)), atD last]) b c d e ks (X ++ Y) (by omega)
        refine ⟨_, _, rfl, [some (.tup [.tup (ss.map (·.d)), atD last]), some (.loc S0.length), some (.loc (S0.length + 1)), some s.d, b', c', d', e'], sm S0 (last :: (ss.take (i + 1)).flatMap (·.ops)) ks' X', .inl ?_, _, _, _, _, _, _, _, rfl, rfl, k1 h1, fun z => ?_, ?_, (List.getElem?_eq_some_iff.mp hs).1⟩
        · have htyp : tyD "list" (.loc S0.length) (sm S0 (last :: (ss.take i).flatMap (·.ops)) ks X) = true := tyD_lst sm_atoms
          have eA : last :: (ss.take (i + 1)).flatMap (·.ops) = last :: (ss.take i).flatMap (·.ops) ++ s.ops := by rw [ht1]; rfl
          rw [eA]
          unfold l_mentioned_0
          generalize F_mentioned n = G at *
          simp -implicitDefEqProofs only [kName_e, List.set_cons_succ, List.set_cons_zero]
          generalize sm S0 (last :: (ss.take i).flatMap (·.ops)) ks X = S1 at *
          generalize sm S0 (last :: (ss.take i).flatMap (·.ops)) ks (X ++ Y) = S2 at *
          generalize sm S0 (last :: (ss.take i).flatMap (·.ops) ++ s.ops) ks (X ++ Y) = S3 at *
          simp -implicitDefEqProofs [htyp, e1, e2, e3]
        · rw [k2, h2, ht2, List.mem_append]
        · rw [ht2, List.length_append]
          omega)
      ⟨none, none, none, none, none, [], [], rfl, by simp, by simp, by simp, by simp, Nat.zero_le _⟩
    rw [List.length_map] at e h2 h3
    rw [List.take_length] at e h2 h3
    have hnm : ∀ l : List At, (l.flatMap nmA).length ≤ l.length := by
      intro l
      induction l with
      | nil => simp
      | cons x r ih => cases x <;> simp only [List.flatMap_cons, nmA, List.length_append, List.length_cons, List.length_nil] <;> omega
    generalize hA : last :: ss.flatMap (·.ops) = A at *
    have hAl : A.length ≤ 100001 := by rw [← hA, List.length_cons]; omega
    obtain ⟨f', g', e4⟩ := atoms_loop (n := n) (S0 := S0) (A := A) (some (.tup [.tup (ss.map (·.d)), atD last])) a3 b c d e' ks X (by have := hnm A; omega)
    have hks : ks.length + (A.flatMap nmA).length ≤ 1000000 := by have := hnm A; omega
    have hmem : ∀ z, z ∈ insAll ks (A.flatMap nmA) ↔ z ∈ nmA last ++ ss.flatMap mOf := by
      intro z
      rw [insAll_mem, h2, ← hA]
      simp only [List.flatMap_cons, List.mem_append, List.mem_flatMap, mOf]
      constructor
      · rintro (⟨s, hs, i, hi, hz⟩ | hz | ⟨x, ⟨s, hs, hx⟩, hz⟩)
        · exact .inr ⟨s, hs, .inr ⟨i, hi, hz⟩⟩
        · exact .inl hz
        · exact .inr ⟨s, hs, .inl ⟨x, hx, hz⟩⟩
      · rintro (hz | ⟨s, hs, ⟨x, hx, hz⟩ | ⟨i, hi, hz⟩⟩)
        · exact .inr (.inl hz)
        · exact .inr (.inr ⟨x, ⟨s, hs, hx⟩, hz⟩)
        · exact .inl ⟨s, hs, i, hi, hz⟩
    have hlen : (insAll ks (A.flatMap nmA)).length ≤ (nmA last ++ ss.flatMap mOf).length := by
      have h5 := insAll_len (ks := ks) (xs := A.flatMap nmA)
      have h6 : ∀ ss : List St, ((ss.flatMap (·.ops)).flatMap nmA).length + (ss.flatMap fun s => s.ins.flatMap (·.m)).length = (ss.flatMap mOf).length := by
        intro ss
        induction ss with
        | nil => simp
        | cons s r ih =>
          have e : (mOf s).length = (s.ops.flatMap nmA).length + (s.ins.flatMap (·.m)).length := by simp [mOf]
          simp only [List.flatMap_cons, List.length_append, List.flatMap_append]
          omega
      have h7 := h6 ss
      have h8 : (A.flatMap nmA).length = (nmA last).length + ((ss.flatMap (·.ops)).flatMap nmA).length := by rw [← hA, List.flatMap_cons, List.length_append]
      rw [List.length_append]
      omega
    generalize hks' : insAll ks (A.flatMap nmA) = ks' at *
    refine ⟨S0.length + 2 + X.length, aL A :: .dct (kd ks') :: (X ++ [iL (isort ks')]), ks', ?_, by omega, tail_put2 (by simp), hks' ▸ insAll_nd h1, hmem, hlen⟩
    show cDef 8 (b_mentioned (F_mentioned n)) _ _ = _
    have hf1 : cFor (cIt (cOp getD (cVar 0) (cC (.int 0)))) (kName 3) (l_mentioned_0 (F_mentioned n)) [some (.tup [.tup (ss.map (·.d)), atD last]), some (.loc S0.length), some (.loc (S0.length + 1)), none, none, none, none, none] (S0 ++ [.lst [atD last], .dct []]) = .nx [some (.tup [.tup (ss.map (·.d)), atD last]), some (.loc S0.length), some (.loc (S0.length + 1)), a3, b, c, d, e'] (sm S0 A ks X) := by
      rw [cFor_e]
      generalize l_mentioned_0 (F_mentioned n) = G at *
      simp -implicitDefEqProofs
      exact e
    have hsd : sortD (.loc (S0.length + 1)) (sm S0 A ks' X) = .ok (.loc (S0.length + 2 + X.length)) (S0 ++ aL A :: .dct (kd ks') :: (X ++ [iL (isort ks')])) := by
      rw [sortD_dct sm_dict kd_keys]
      simp [sm, iL]
      omega
    unfold b_mentioned
    generalize l_mentioned_0 (F_mentioned n) = G at *
    generalize l_mentioned_3 (F_mentioned n) = G3 at *
    simp -implicitDefEqProofs [startE, hf1, e4, hsd, newDct]
end K21
end
section
namespace K21
open PySem PySem.Spec PyProof.Rows L2 Sm
/-- the state's dict -/
def dk (n s p q : Int) : List (Key × D) := [(.inr "number", .int n), (.inr "seed", .int s), (.inr "steps", .int p), (.inr "name", .int q), (.inr "here", .loc 1), (.inr "used", .loc 2), (.inr "made", .loc 3)]
/-- one step as it was noted: itself, where its list stands, its operands' one, its inner one (counted behind the first four things) -/
structure En' where
  s : St
  l : Nat
  a : Nat
  b : Nat
/-- the state: number, seed, steps, name; the names given, the atoms used, what was made; the rest of the store -/
structure Sg where
  n : Int
  s : Int
  p : Int
  q : Int
  h : List Int
  u : List At
  m : List En'
  B : Nat
def stt (σ : Sg) (R : Sto) : Sto := .dct (dk σ.n σ.s σ.p σ.q) :: iL σ.h :: aL σ.u :: .lst (σ.m.map fun e => .loc (e.l + 4)) :: R
theorem stt_app {σ : Sg} {R X : Sto} : stt σ R ++ X = stt σ (R ++ X) := rfl
@[simp] theorem stt_len {σ : Sg} {R : Sto} : (stt σ R).length = R.length + 4 := rfl
@[simp high] theorem stt_0 {σ : Sg} {R : Sto} : (stt σ R)[0]? = some (.dct (dk σ.n σ.s σ.p σ.q)) := rfl
@[simp high] theorem stt_1 {σ : Sg} {R : Sto} : (stt σ R)[1]? = some (iL σ.h) := rfl
@[simp high] theorem stt_2 {σ : Sg} {R : Sto} : (stt σ R)[2]? = some (aL σ.u) := rfl
@[simp high] theorem stt_3 {σ : Sg} {R : Sto} : (stt σ R)[3]? = some (.lst (σ.m.map fun e => .loc (e.l + 4))) := rfl
@[simp high] theorem stt_r {σ : Sg} {R : Sto} {k : Nat} : (stt σ R)[k + 4]? = R[k]? := rfl
@[simp] theorem set_0 {σ : Sg} {R : Sto} {n s p q : Int} : (stt σ R).set 0 (.dct (dk n s p q)) = stt { σ with n := n, s := s, p := p, q := q } R := rfl
@[simp] theorem set_1 {σ : Sg} {R : Sto} {h : List Int} : (stt σ R).set 1 (iL h) = stt { σ with h := h } R := rfl
@[simp] theorem set_2 {σ : Sg} {R : Sto} {u : List At} : (stt σ R).set 2 (aL u) = stt { σ with u := u } R := rfl
@[simp] theorem set_r {σ : Sg} {R : Sto} {k : Nat} {o : Ob} : (stt σ R).set (k + 4) o = stt σ (R.set k o) := rfl
theorem get_n {n s p q : Int} : getO (.str "number") (some (.dct (dk n s p q))) = some (.int n) := by simp [dk]
theorem get_s {n s p q : Int} : getO (.str "seed") (some (.dct (dk n s p q))) = some (.int s) := by simp [dk]
theorem get_p {n s p q : Int} : getO (.str "steps") (some (.dct (dk n s p q))) = some (.int p) := by simp [dk]
theorem get_q {n s p q : Int} : getO (.str "name") (some (.dct (dk n s p q))) = some (.int q) := by simp [dk]
theorem get_h {n s p q : Int} : getO (.str "here") (some (.dct (dk n s p q))) = some (.loc 1) := by simp [dk]
theorem get_u {n s p q : Int} : getO (.str "used") (some (.dct (dk n s p q))) = some (.loc 2) := by simp [dk]
theorem get_m {n s p q : Int} : getO (.str "made") (some (.dct (dk n s p q))) = some (.loc 3) := by simp [dk]
theorem gn {σ : Sg} {R : Sto} : getD (.loc 0) (.str "number") (stt σ R) = .ok (.int σ.n) (stt σ R) := by rw [getD_loc, stt_0, get_n]; rfl
theorem gs {σ : Sg} {R : Sto} : getD (.loc 0) (.str "seed") (stt σ R) = .ok (.int σ.s) (stt σ R) := by rw [getD_loc, stt_0, get_s]; rfl
theorem gp {σ : Sg} {R : Sto} : getD (.loc 0) (.str "steps") (stt σ R) = .ok (.int σ.p) (stt σ R) := by rw [getD_loc, stt_0, get_p]; rfl
theorem gq {σ : Sg} {R : Sto} : getD (.loc 0) (.str "name") (stt σ R) = .ok (.int σ.q) (stt σ R) := by rw [getD_loc, stt_0, get_q]; rfl
theorem gh {σ : Sg} {R : Sto} : getD (.loc 0) (.str "here") (stt σ R) = .ok (.loc 1) (stt σ R) := by rw [getD_loc, stt_0, get_h]; rfl
theorem gu {σ : Sg} {R : Sto} : getD (.loc 0) (.str "used") (stt σ R) = .ok (.loc 2) (stt σ R) := by rw [getD_loc, stt_0, get_u]; rfl
theorem gm {σ : Sg} {R : Sto} : getD (.loc 0) (.str "made") (stt σ R) = .ok (.loc 3) (stt σ R) := by rw [getD_loc, stt_0, get_m]; rfl
theorem stQ_0 {σ : Sg} {R : Sto} {x : Str} {v : D} {kvs : List (Key × D)} (h : putD (dk σ.n σ.s σ.p σ.q) (.inr x) v = kvs) : stQ (.loc 0) (.str x) v (stt σ R) = some ((stt σ R).set 0 (.dct kvs)) := by
  rw [stQ_loc, stt_0, stO_dctS, if_pos (fit_of (by simp [dk])), h]
theorem pn {σ : Sg} {R : Sto} {x : Int} : stQ (.loc 0) (.str "number") (.int x) (stt σ R) = some (stt { σ with n := x } R) := stQ_0 (by simp [putD, dk])
theorem ps {σ : Sg} {R : Sto} {x : Int} : stQ (.loc 0) (.str "seed") (.int x) (stt σ R) = some (stt { σ with s := x } R) := stQ_0 (by simp [putD, dk])
theorem pp {σ : Sg} {R : Sto} {x : Int} : stQ (.loc 0) (.str "steps") (.int x) (stt σ R) = some (stt { σ with p := x } R) := stQ_0 (by simp [putD, dk])
theorem pq {σ : Sg} {R : Sto} {x : Int} : stQ (.loc 0) (.str "name") (.int x) (stt σ R) = some (stt { σ with q := x } R) := stQ_0 (by simp [putD, dk])
def sdOk (s : Int) : Prop := 0 ≤ s ∧ s < 2147483648
/-- a digit taken: number and seed alone change -/
theorem take (σ : Sg) (R : Sto) (many : Int) (hs : sdOk σ.s) (h1 : 0 < many) (h2 : many < 18446744073709551616) : ∃ z n s, F_law_take [.loc 0, .int many] (stt σ R) = .ok (.int z) (stt { σ with n := n, s := s } R) ∧ 0 ≤ z ∧ z < many ∧ sdOk s := by
  obtain ⟨hs1, hs2⟩ := hs
  have hm1 := fun x : Int => Int.emod_nonneg x (show many ≠ 0 by omega)
  have hm2 := fun x : Int => Int.emod_lt_of_pos x h1
  have k1 : ∀ x, okMod x many = true := fun x => okMod_e h1
  have k2 : ∀ x, okDiv x many = true := fun x => okDiv_e h1 h2
  have k3 : ∀ x : Int, x.fdiv many = x / many := fun x => fdiv_e h1
  by_cases hc : σ.n = 0 ∧ 0 < σ.s
  · have k4 : okMul σ.s 48271 = true := okMul_e (by omega) (by omega)
    have k5 : okMul (σ.s * 48271 % 2147483647) (σ.s * 48271 % 2147483647) = true := okMul_e (by omega) (by omega)
    refine ⟨(σ.s * 48271 % 2147483647) * (σ.s * 48271 % 2147483647) % 2147483629 % many, (σ.s * 48271 % 2147483647) * (σ.s * 48271 % 2147483647) % 2147483629 / many, σ.s * 48271 % 2147483647, ?_, hm1 _, hm2 _, by unfold sdOk; omega⟩
    unfold F_law_take b_law_take
    simp -implicitDefEqProofs [startE, gn, gs, pn, ps, hc.1, hc.2, k1, k2, k3, k4, k5, -getD_loc, -stQ_loc]
  · refine ⟨σ.n % many, σ.n / many, σ.s, ?_, hm1 _, hm2 _, hs1, hs2⟩
    unfold F_law_take b_law_take
    by_cases h0 : σ.n = 0
    · have h3 : ¬ 0 < σ.s := fun z => hc ⟨h0, z⟩
      simp -implicitDefEqProofs [startE, gn, gs, pn, ps, h0, h3, k1, k2, k3, -getD_loc, -stQ_loc]
    · simp -implicitDefEqProofs [startE, gn, gs, pn, ps, h0, k1, k2, k3, -getD_loc, -stQ_loc]
theorem atom (σ : Sg) (R : Sto) (hs : sdOk σ.s) (hq : 0 ≤ σ.q) (hq2 : σ.q ≤ 1000000) : ∃ a n s, F_law_atom [.loc 0] (stt σ R) = .ok (atD a) (stt { σ with n := n, s := s } R) ∧ sdOk s := by
  obtain ⟨z, n, s, e, h1, h2, h3⟩ := take σ R 3 hs (by omega) (by omega)
  by_cases hz : z = 0
  · obtain ⟨z1, n1, s1, e1, _, _, h4⟩ := take { σ with n := n, s := s } R 1000000000000 h3 (by omega) (by omega)
    obtain ⟨z2, n2, s2, e2, _, _, h5⟩ := take { σ with n := n1, s := s1 } R 1000000000000 h4 (by omega) (by omega)
    refine ⟨.num (z1 - z2), n2, s2, ?_, h5⟩
    unfold F_law_atom b_law_atom
    simp -implicitDefEqProofs [startE, e, hz, e1, e2, atD]
  · obtain ⟨z1, n1, s1, e1, _, _, h4⟩ := take { σ with n := n, s := s } R (σ.q + 3) h3 (by omega) (by omega)
    refine ⟨.nam z1, n1, s1, ?_, h4⟩
    unfold F_law_atom b_law_atom
    simp -implicitDefEqProofs [startE, e, hz, e1, atD, gq, -getD_loc]
theorem fresh (σ : Sg) (R : Sto) (hl : σ.h.length ≤ 1000000) : F_law_fresh [.loc 0] (stt σ R) = .ok (.int σ.q) (stt { σ with q := σ.q + 1, h := σ.h ++ [σ.q] } R) := by
  have ha : ∀ σ : Sg, σ.h.length ≤ 1000000 → ∀ z, appD (.loc 1) (.int z) (stt σ R) = .ok .non (stt { σ with h := σ.h ++ [z] } R) := fun σ hl z => by
    rw [appD_e (xs := σ.h.map .int) stt_1 (by simp; omega)]
    have : (Ob.lst (σ.h.map D.int ++ [.int z])) = iL (σ.h ++ [z]) := by simp [iL]
    rw [this, set_1]
  have ht : ∀ σ : Sg, tyD "list" (.loc 1) (stt σ R) = true := fun σ => tyD_lst (xs := σ.h.map .int) stt_1
  unfold F_law_fresh b_law_fresh
  have h2 := ha { σ with q := σ.q + 1 } hl σ.q
  simp -implicitDefEqProofs [startE, gq, pq, gh, h2, ht, -getD_loc, -stQ_loc, -appD_loc]
end K21
end
section
namespace K21
open PySem PySem.Spec PyProof.Rows L2 Sm
/-- data without a place of the store in it, c deep -/
def Cl (d : D) (c : Nat) : Prop := ∀ S k, c ≤ k → cont S k d = some d
theorem Cl.mono {d : D} {c c' : Nat} (h : Cl d c) (hc : c ≤ c') : Cl d c' := fun S k hk => h S k (by omega)
theorem cl_int (i : Int) : Cl (.int i) 0 := fun S k _ => cont_int
theorem cl_str (i : Str) : Cl (.str i) 0 := fun S k _ => cont_str
theorem cl_bl (i : Bool) : Cl (.bl i) 0 := fun S k _ => cont_bl
theorem cl_tup {xs : List D} {c : Nat} (h : ∀ x ∈ xs, Cl x c) : Cl (.tup xs) (c + 1) := fun S k hk => by
  obtain ⟨j, rfl⟩ : ∃ j, k = j + 1 := ⟨k - 1, by omega⟩
  rw [cont_tup, mapO_id fun x hx => h x hx S j (by omega)]
  rfl
theorem cl_two {x y : D} {c : Nat} (hx : Cl x c) (hy : Cl y c) : Cl (.tup [x, y]) (c + 1) := cl_tup fun z hz => by
  simp only [List.mem_cons, List.not_mem_nil, or_false] at hz
  rcases hz with rfl | rfl
  · exact hx
  · exact hy
theorem cl_at (a : At) : Cl (atD a) 1 := by
  cases a with
  | num i => exact cl_two (cl_str _) (cl_int _)
  | nam i => exact cl_two (cl_str _) (cl_int _)
theorem cl_ats (as : List At) : Cl (.tup (as.map atD)) 2 := cl_tup fun x hx => by
  obtain ⟨a, _, rfl⟩ := List.mem_map.mp hx
  exact cl_at a
theorem cl_ints (as : List Int) : Cl (.tup (as.map .int)) 1 := cl_tup (c := 0) fun x hx => by
  obtain ⟨a, _, rfl⟩ := List.mem_map.mp hx
  exact cl_int a
/-- a step that is told well, c deep -/
structure SOk (s : St) (c : Nat) : Prop where
  to : ToOk s
  op : OpOk s
  inn : InOk s
  cl : Cl s.d c
theorem lst_at {σ : Sg} {R : Sto} {n : Nat} {ds : List D} (h : n = R.length) : (stt σ (R ++ [.lst ds]))[n + 4]? = some (.lst ds) := by
  subst h
  rw [stt_r]
  simp
theorem ops_len {as : List At} : (as.map atD).length = as.length := List.length_map _
/-- what a flat step comes to -/
def FlatOk (σ : Sg) (R : Sto) (w : Str) (to place : Int) : Prop := ∃ (d : D) (ops : List At) (l a : Nat) (n s : Int) (X : Sto), F_law_flat [.loc 0, .str w, .int to, .int place] (stt σ R) = .ok (.loc (l + 4)) (stt { σ with n := n, s := s } (R ++ X)) ∧ R.length ≤ a ∧ (R ++ X)[l]? = some (.lst [d, .loc (a + 4)]) ∧ (R ++ X)[a]? = some (aL ops) ∧ SOk ⟨to, d, ops, []⟩ 3 ∧ ops.length ≤ 5 ∧ sdOk s
theorem cl_list3 {xs : List D} (h : ∀ x ∈ xs, Cl x 2) : Cl (.tup xs) 3 := cl_tup h
theorem flat_first (σ : Sg) (R : Sto) (w : Str) (to place : Int) (hs : sdOk σ.s) (hq : 0 ≤ σ.q) (hq2 : σ.q ≤ 1000000) (hw : w = "start" ∨ w = "box" ∨ w = "tell") : FlatOk σ R w to place := by
  obtain ⟨a, n, s, e, h⟩ := atom σ R hs hq hq2
  refine ⟨.tup [.str w, .int to, atD a, .int place], [a], R.length + 2, R.length + 1, n, s, [.lst [.str "start", .str "box", .str "tell"], .lst [atD a], .lst [.tup [.str w, .int to, atD a, .int place], .loc (R.length + 1 + 4)]], ?_, by omega, by simp, by simp [aL], ⟨⟨_, _, rfl⟩, op_first (by rcases hw with rfl | rfl | rfl <;> simp), in_none rfl (by rcases hw with rfl | rfl | rfl <;> simp), ?_⟩, by simp, h⟩
  · unfold F_law_flat b_law_flat
    have hin : inQ (.str w) (.loc (R.length + 4)) (stt { σ with n := n, s := s } (R ++ [.lst [.str "start", .str "box", .str "tell"]])) = some true := by
      show inO _ _ = _
      rw [lst_at rfl]
      rcases hw with rfl | rfl | rfl <;> simp [inO, inL, flatD, eqF]
    simp -implicitDefEqProofs [startE, e, inD, hin, stt_app]
  · refine cl_list3 fun x hx => ?_
    simp only [List.mem_cons, List.not_mem_nil, or_false] at hx
    rcases hx with rfl | rfl | rfl | rfl
    · exact (cl_str _).mono (by omega)
    · exact (cl_int _).mono (by omega)
    · exact (cl_at _).mono (by omega)
    · exact (cl_int _).mono (by omega)
abbrev A1 : Ob := .lst [.str "start", .str "box", .str "tell"]
abbrev A2 : Ob := .lst [.str "read", .str "load"]
abbrev A3 : Ob := .lst [.str "set", .str "store"]
theorem inQ_at {w : Str} {l : Nat} {S : Sto} {xs : List Str} {b : Bool} (h : S[l]? = some (.lst (xs.map .str))) (hb : (xs.any fun x => x == w) = b) : inQ (.str w) (.loc l) S = some b := by
  show inO _ S[l]? = _
  rw [h, ← hb]
  show inL _ _ = _
  have e : (xs.map D.str).all flatD = true := by rw [List.all_map]; simp [flatD]
  unfold inL
  rw [e]
  simp only [flatD, Bool.and_self, if_true, List.any_map]
  rfl
theorem inD_at {w : Str} {l : Nat} {S : Sto} {xs : List Str} {b : Bool} (h : S[l]? = some (.lst (xs.map .str))) (hb : (xs.any fun x => x == w) = b) : inD (.str w) (.loc l) S = .ok (.bl b) S := by
  show optD ((inQ _ _ S).map D.bl) S = _
  rw [inQ_at h hb]
  rfl
/-- the three questions ahead -/
theorem ask1 {σ : Sg} {R : Sto} {w : Str} {b : Bool} (h : (["start", "box", "tell"] : List Str).any (fun x => x == w) = b) : inD (.str w) (.loc (R.length + 4)) (stt σ (R ++ [A1])) = .ok (.bl b) (stt σ (R ++ [A1])) := inD_at (xs := ["start", "box", "tell"]) (lst_at rfl) h
theorem ask2 {σ : Sg} {R : Sto} {w : Str} {b : Bool} (h : (["read", "load"] : List Str).any (fun x => x == w) = b) : inD (.str w) (.loc (R.length + 1 + 4)) (stt σ (R ++ [A1, A2])) = .ok (.bl b) (stt σ (R ++ [A1, A2])) := inD_at (xs := ["read", "load"]) (by rw [stt_r]; simp) h
theorem ask3 {σ : Sg} {R : Sto} {w : Str} {b : Bool} (h : (["set", "store"] : List Str).any (fun x => x == w) = b) : inD (.str w) (.loc (R.length + 2 + 4)) (stt σ (R ++ [A1, A2, A3])) = .ok (.bl b) (stt σ (R ++ [A1, A2, A3])) := inD_at (xs := ["set", "store"]) (by rw [stt_r]; simp) h
theorem flat_read (σ : Sg) (R : Sto) (w : Str) (to place : Int) (hs : sdOk σ.s) (hq : 0 ≤ σ.q) (hq2 : σ.q ≤ 1000000) (hw : w = "read" ∨ w = "load") : FlatOk σ R w to place := by
  obtain ⟨a, n, s, e, h⟩ := atom σ R hs hq hq2
  refine ⟨.tup [.str w, .int to, .int (to + 7)], [.nam (to + 7)], R.length + 3, R.length + 2, n, s, [A1, A2, .lst [atD (.nam (to + 7))], .lst [.tup [.str w, .int to, .int (to + 7)], .loc (R.length + 2 + 4)]], ?_, by omega, by simp, by simp [aL], ⟨⟨_, _, rfl⟩, op_read hw, in_none rfl (by rcases hw with rfl | rfl <;> simp), ?_⟩, by simp, h⟩
  · have i1 := ask1 (σ := { σ with n := n, s := s }) (R := R) (w := w) (b := false) (by rcases hw with rfl | rfl <;> simp)
    have i2 := ask2 (σ := { σ with n := n, s := s }) (R := R) (w := w) (b := true) (by rcases hw with rfl | rfl <;> simp)
    unfold F_law_flat b_law_flat
    generalize atD a = ad at *
    simp -implicitDefEqProofs [startE, e, stt_app, atD, i1, i2]
  · refine cl_list3 fun x hx => ?_
    simp only [List.mem_cons, List.not_mem_nil, or_false] at hx
    rcases hx with rfl | rfl | rfl
    · exact (cl_str _).mono (by omega)
    · exact (cl_int _).mono (by omega)
    · exact (cl_int _).mono (by omega)
theorem flat_set (σ : Sg) (R : Sto) (w : Str) (to place : Int) (hs : sdOk σ.s) (hq : 0 ≤ σ.q) (hq2 : σ.q ≤ 1000000) (hw : w = "set" ∨ w = "store") : FlatOk σ R w to place := by
  obtain ⟨a, n, s, e, h⟩ := atom σ R hs hq hq2
  refine ⟨.tup [.str w, .int to, .int 5, atD a, .int place], [.nam 5, a], R.length + 4, R.length + 3, n, s, [A1, A2, A3, .lst [atD (.nam 5), atD a], .lst [.tup [.str w, .int to, .int 5, atD a, .int place], .loc (R.length + 3 + 4)]], ?_, by omega, by simp, by simp [aL], ⟨⟨_, _, rfl⟩, op_set hw, in_none rfl (by rcases hw with rfl | rfl <;> simp), ?_⟩, by simp, h⟩
  · have i1 := ask1 (σ := { σ with n := n, s := s }) (R := R) (w := w) (b := false) (by rcases hw with rfl | rfl <;> simp)
    have i2 := ask2 (σ := { σ with n := n, s := s }) (R := R) (w := w) (b := false) (by rcases hw with rfl | rfl <;> simp)
    have i3 := ask3 (σ := { σ with n := n, s := s }) (R := R) (w := w) (b := true) (by rcases hw with rfl | rfl <;> simp)
    unfold F_law_flat b_law_flat
    generalize atD a = ad at *
    simp -implicitDefEqProofs [startE, e, stt_app, atD, i1, i2, i3]
  · refine cl_list3 fun x hx => ?_
    simp only [List.mem_cons, List.not_mem_nil, or_false] at hx
    rcases hx with rfl | rfl | rfl | rfl | rfl
    · exact (cl_str _).mono (by omega)
    · exact (cl_int _).mono (by omega)
    · exact (cl_int _).mono (by omega)
    · exact (cl_at _).mono (by omega)
    · exact (cl_int _).mono (by omega)
theorem flat_raise (σ : Sg) (R : Sto) (to place : Int) (hs : sdOk σ.s) (hq : 0 ≤ σ.q) (hq2 : σ.q ≤ 1000000) : FlatOk σ R "raise" to place := by
  obtain ⟨a, n, s, e, h⟩ := atom σ R hs hq hq2
  refine ⟨.tup [.str "raise", .int to, .str "a", atD a, .int place], [a], R.length + 4, R.length + 3, n, s, [A1, A2, A3, .lst [atD a], .lst [.tup [.str "raise", .int to, .str "a", atD a, .int place], .loc (R.length + 3 + 4)]], ?_, by omega, by simp, by simp [aL], ⟨⟨_, _, rfl⟩, op_raise, in_none rfl (by simp), ?_⟩, by simp, h⟩
  · have i1 := ask1 (σ := { σ with n := n, s := s }) (R := R) (w := "raise") (b := false) (by simp)
    have i2 := ask2 (σ := { σ with n := n, s := s }) (R := R) (w := "raise") (b := false) (by simp)
    have i3 := ask3 (σ := { σ with n := n, s := s }) (R := R) (w := "raise") (b := false) (by simp)
    unfold F_law_flat b_law_flat
    generalize atD a = ad at *
    simp -implicitDefEqProofs [startE, e, stt_app, atD, i1, i2, i3]
  · refine cl_list3 fun x hx => ?_
    simp only [List.mem_cons, List.not_mem_nil, or_false] at hx
    rcases hx with rfl | rfl | rfl | rfl | rfl
    · exact (cl_str _).mono (by omega)
    · exact (cl_int _).mono (by omega)
    · exact (cl_str _).mono (by omega)
    · exact (cl_at _).mono (by omega)
    · exact (cl_int _).mono (by omega)
theorem flat_ask (σ : Sg) (R : Sto) (to place : Int) (hs : sdOk σ.s) (hq : 0 ≤ σ.q) (hq2 : σ.q ≤ 1000000) : FlatOk σ R "ask" to place := by
  obtain ⟨a, n, s, e, h⟩ := atom σ R hs hq hq2
  refine ⟨.tup [.str "ask", .int to, .int place], [], R.length + 4, R.length + 3, n, s, [A1, A2, A3, .lst [], .lst [.tup [.str "ask", .int to, .int place], .loc (R.length + 3 + 4)]], ?_, by omega, by simp, by simp [aL], ⟨⟨_, _, rfl⟩, op_none (by simp), in_none rfl (by simp), ?_⟩, by simp, h⟩
  · have i1 := ask1 (σ := { σ with n := n, s := s }) (R := R) (w := "ask") (b := false) (by simp)
    have i2 := ask2 (σ := { σ with n := n, s := s }) (R := R) (w := "ask") (b := false) (by simp)
    have i3 := ask3 (σ := { σ with n := n, s := s }) (R := R) (w := "ask") (b := false) (by simp)
    unfold F_law_flat b_law_flat
    generalize atD a = ad at *
    simp -implicitDefEqProofs [startE, e, stt_app, atD, i1, i2, i3]
  · refine cl_list3 fun x hx => ?_
    simp only [List.mem_cons, List.not_mem_nil, or_false] at hx
    rcases hx with rfl | rfl | rfl
    · exact (cl_str _).mono (by omega)
    · exact (cl_int _).mono (by omega)
    · exact (cl_int _).mono (by omega)
theorem flat_math (σ : Sg) (R : Sto) (to place : Int) (hs : sdOk σ.s) (hq : 0 ≤ σ.q) (hq2 : σ.q ≤ 1000000) : FlatOk σ R "math" to place := by
  obtain ⟨a, n, s, e, h⟩ := atom σ R hs hq hq2
  obtain ⟨b, n2, s2, e2, h2⟩ := atom { σ with n := n, s := s } (R ++ [A1, A2, A3]) h hq hq2
  refine ⟨.tup [.str "math", .int to, .str "less", atD a, atD b, .int place], [a, b], R.length + 4, R.length + 3, n2, s2, [A1, A2, A3, .lst [atD a, atD b], .lst [.tup [.str "math", .int to, .str "less", atD a, atD b, .int place], .loc (R.length + 3 + 4)]], ?_, by omega, by simp, by simp [aL], ⟨⟨_, _, rfl⟩, op_math, in_none rfl (by simp), ?_⟩, by simp, h2⟩
  · have i1 := ask1 (σ := { σ with n := n, s := s }) (R := R) (w := "math") (b := false) (by simp)
    have i2 := ask2 (σ := { σ with n := n, s := s }) (R := R) (w := "math") (b := false) (by simp)
    have i3 := ask3 (σ := { σ with n := n, s := s }) (R := R) (w := "math") (b := false) (by simp)
    unfold F_law_flat b_law_flat
    generalize atD a = ad at *
    generalize atD b = bd at *
    simp -implicitDefEqProofs [startE, e, e2, stt_app, atD, i1, i2, i3]
  · refine cl_list3 fun x hx => ?_
    simp only [List.mem_cons, List.not_mem_nil, or_false] at hx
    rcases hx with rfl | rfl | rfl | rfl | rfl | rfl
    · exact (cl_str _).mono (by omega)
    · exact (cl_int _).mono (by omega)
    · exact (cl_str _).mono (by omega)
    · exact (cl_at _).mono (by omega)
    · exact (cl_at _).mono (by omega)
    · exact (cl_int _).mono (by omega)
end K21
end
section
namespace K21
open PySem PySem.Spec PyProof.Rows L2 Sm
theorem cut4 {w x y z : D} {i : Int} (h0 : 0 ≤ i) (h : i < 5) : Sm.cutD [w, x, y, z] none (some i) = [w, x, y, z].take i.toNat := by
  have : i = 0 ∨ i = 1 ∨ i = 2 ∨ i = 3 ∨ i = 4 := by omega
  rcases this with rfl | rfl | rfl | rfl | rfl <;> rfl
/-- make and call: the atoms ahead of them -/
theorem four {σ : Sg} {R : Sto} {a b : At} {to : Int} (hs : sdOk σ.s) : ∃ (as : List At) (z n s : Int), as.length ≤ 4 ∧ sdOk s ∧ F_law_take [.loc 0, .int 5] (stt σ R) = .ok (.int z) (stt { σ with n := n, s := s } R) ∧ Sm.cutD [atD b, atD a, atD b, .tup [.str "name", .int to]] none (some z) = as.map atD := by
  obtain ⟨z, n, s, e, h1, h2, h3⟩ := take σ R 5 hs (by omega) (by omega)
  refine ⟨[b, a, b, At.nam to].take z.toNat, z, n, s, by rw [List.length_take]; simp; omega, h3, e, ?_⟩
  rw [cut4 h1 h2, List.map_take]
  rfl
theorem flat_make (σ : Sg) (R : Sto) (to place : Int) (hs : sdOk σ.s) (hq : 0 ≤ σ.q) (hq2 : σ.q ≤ 1000000) : FlatOk σ R "make" to place := by
  obtain ⟨a, n, s, e, h⟩ := atom σ R hs hq hq2
  obtain ⟨b, n2, s2, e2, h2⟩ := atom { σ with n := n, s := s } (R ++ [A1, A2, A3]) h hq hq2
  obtain ⟨as, z, n3, s3, hl, h3, e3, hc⟩ := four (σ := { σ with n := n2, s := s2 }) (R := R ++ [A1, A2, A3, .lst [atD b, atD a, atD b, .tup [.str "name", .int to]]]) (a := a) (b := b) (to := to) h2
  refine ⟨.tup [.str "make", .int to, .str "b", .tup (as.map atD), .int place], as, R.length + 6, R.length + 5, n3, s3, [A1, A2, A3, .lst [atD b, atD a, atD b, .tup [.str "name", .int to]], .lst (as.map atD), aL as, .lst [.tup [.str "make", .int to, .str "b", .tup (as.map atD), .int place], .loc (R.length + 5 + 4)]], ?_, by omega, by simp, by simp, ⟨⟨_, _, rfl⟩, op_make, in_none rfl (by simp), ?_⟩, by omega, h3⟩
  · have i1 := ask1 (σ := { σ with n := n, s := s }) (R := R) (w := "make") (b := false) (by simp)
    have i2 := ask2 (σ := { σ with n := n, s := s }) (R := R) (w := "make") (b := false) (by simp)
    have i3 := ask3 (σ := { σ with n := n, s := s }) (R := R) (w := "make") (b := false) (by simp)
    unfold F_law_flat b_law_flat
    unfold aL
    generalize as.map atD = L at *
    generalize atD a = ad at *
    generalize atD b = bd at *
    simp -implicitDefEqProofs [startE, e, e2, e3, hc, stt_app, i1, i2, i3]
  · refine cl_list3 fun x hx => ?_
    simp only [List.mem_cons, List.not_mem_nil, or_false] at hx
    rcases hx with rfl | rfl | rfl | rfl | rfl
    · exact (cl_str _).mono (by omega)
    · exact (cl_int _).mono (by omega)
    · exact (cl_str _).mono (by omega)
    · exact (cl_ats _).mono (by omega)
    · exact (cl_int _).mono (by omega)
theorem flat_call (σ : Sg) (R : Sto) (to place : Int) (hs : sdOk σ.s) (hq : 0 ≤ σ.q) (hq2 : σ.q ≤ 1000000) : FlatOk σ R "call" to place := by
  obtain ⟨a, n, s, e, h⟩ := atom σ R hs hq hq2
  obtain ⟨b, n2, s2, e2, h2⟩ := atom { σ with n := n, s := s } (R ++ [A1, A2, A3]) h hq hq2
  obtain ⟨as, z, n3, s3, hl, h3, e3, hc⟩ := four (σ := { σ with n := n2, s := s2 }) (R := R ++ [A1, A2, A3, .lst [atD b, atD a, atD b, .tup [.str "name", .int to]]]) (a := a) (b := b) (to := to) h2
  refine ⟨.tup [.str "call", .int to, atD a, .tup (as.map atD), .int place, .bl (place % 2 == 0)], a :: as, R.length + 8, R.length + 7, n3, s3, [A1, A2, A3, .lst [atD b, atD a, atD b, .tup [.str "name", .int to]], .lst (as.map atD), .lst [atD a], .lst (as.map atD), aL (a :: as), .lst [.tup [.str "call", .int to, atD a, .tup (as.map atD), .int place, .bl (place % 2 == 0)], .loc (R.length + 7 + 4)]], ?_, by omega, by simp, by simp, ⟨⟨_, _, rfl⟩, op_call (by omega), in_none rfl (by simp), ?_⟩, by simp; omega, h3⟩
  · have i1 := ask1 (σ := { σ with n := n, s := s }) (R := R) (w := "call") (b := false) (by simp)
    have i2 := ask2 (σ := { σ with n := n, s := s }) (R := R) (w := "call") (b := false) (by simp)
    have i3 := ask3 (σ := { σ with n := n, s := s }) (R := R) (w := "call") (b := false) (by simp)
    have hf : fit (1 + (as.map atD).length) = true := fit_of (by rw [List.length_map]; omega)
    unfold F_law_flat b_law_flat
    unfold aL
    rw [List.map_cons]
    generalize as.map atD = L at *
    generalize atD a = ad at *
    generalize atD b = bd at *
    simp -implicitDefEqProofs [startE, e, e2, e3, hc, stt_app, i1, i2, i3, addO, joinL, hf]
  · refine cl_list3 fun x hx => ?_
    simp only [List.mem_cons, List.not_mem_nil, or_false] at hx
    rcases hx with rfl | rfl | rfl | rfl | rfl | rfl
    · exact (cl_str _).mono (by omega)
    · exact (cl_int _).mono (by omega)
    · exact (cl_at _).mono (by omega)
    · exact (cl_ats _).mono (by omega)
    · exact (cl_int _).mono (by omega)
    · exact (cl_bl _).mono (by omega)
end K21
end
section
namespace K21
open PySem PySem.Spec PyProof.Rows L2 Sm
theorem rg_fm (f : Int → D) (n : Nat) : (rgD 0 n).filterMap (fun d => match d with | .int i => some (f i) | _ => none) = ((List.range n).map fun k => f (k : Nat)) := by
  unfold rgD
  rw [List.filterMap_map]
  rw [← List.filterMap_eq_map]
  congr 1
  funext k
  simp
theorem flat_close (σ : Sg) (R : Sto) (to place : Int) (hs : sdOk σ.s) (hq : 0 ≤ σ.q) (hq2 : σ.q ≤ 1000000) : FlatOk σ R "close" to place := by
  obtain ⟨a, n, s, e, h⟩ := atom σ R hs hq hq2
  obtain ⟨z, n2, s2, e2, z0, z5, h2⟩ := take { σ with n := n, s := s } (R ++ [A1, A2, A3]) 5 h (by omega) (by omega)
  obtain ⟨ns, hns⟩ : ∃ ns : List Int, ns = (List.range z.toNat).map fun k => place % 7 + 3 * ((k : Nat) : Int) := ⟨_, rfl⟩
  have hl : ns.length ≤ 4 := by rw [hns, List.length_map, List.length_range]; omega
  have hr : ∀ S, rng1 [.int z] S = .ok (.items (rgD 0 z.toNat)) S := fun S => rng1_e (by omega) (by omega)
  have hlc : cLc (cRng rng1 (cCons (cCall (apF 2 F_law_take) (cCons (cVar 0) (cCons (cC (.int 5)) cNil))) cNil)) (.one 6) cTrue (cOp addD (cOp modD (cVar 3) (cC (.int 7))) (cOp mulD (cC (.int 3)) (cVar 6))) [some (.loc 0), some (.str "close"), some (.int to), some (.int place), some (atD a), none, none, none, none, none] (stt { σ with n := n, s := s } (R ++ [A1, A2, A3])) = .ok (.loc (R.length + 3 + 4)) (stt { σ with n := n2, s := s2 } (R ++ [A1, A2, A3, iL ns])) := by
    rw [cLc_e]
    have e3 : cRng rng1 (cCons (cCall (apF 2 F_law_take) (cCons (cVar 0) (cCons (cC (.int 5)) cNil))) cNil) [some (.loc 0), some (.str "close"), some (.int to), some (.int place), some (atD a), none, none, none, none, none] (stt { σ with n := n, s := s } (R ++ [A1, A2, A3])) = .ok (.items (rgD 0 z.toNat)) (stt { σ with n := n2, s := s2 } (R ++ [A1, A2, A3])) := by
      simp -implicitDefEqProofs [e2, hr]
    rw [e3]
    simp only [andThen_ok, vs_one, wipeE_cons, wipeE_nil]
    have h4 := lcI_map (t := .one 6) (tst := cTrue) (elt := cOp addD (cOp modD (cVar 3) (cC (.int 7))) (cOp mulD (cC (.int 3)) (cVar 6))) (ds := rgD 0 z.toNat) (ρ := List.set [some (.loc 0), some (.str "close"), some (.int to), some (.int place), some (atD a), none, none, none, none, none] 6 none) (S := stt { σ with n := n2, s := s2 } (R ++ [A1, A2, A3])) (fun d => match d with | .int i => some (D.int (place % 7 + 3 * i)) | _ => none) (by rw [rgD_len]; omega) (fun d acc hd => by
      obtain ⟨k, hk⟩ := List.mem_iff_getElem?.mp hd
      obtain ⟨_, rfl⟩ := rgD_get hk
      exact ⟨_, rfl, .inl ⟨_, by simp, by simp -implicitDefEqProofs; rfl, by simp⟩⟩)
    rw [rg_fm (fun i => D.int (place % 7 + 3 * i))] at h4
    have e5 : ((List.range z.toNat).map fun k => D.int (place % 7 + 3 * ((k : Nat) : Int))) = ns.map .int := by rw [hns, List.map_map]; rfl
    rw [e5] at h4
    simp [stt_app] at h4 ⊢
    exact h4
  have hlc2 : ∀ S : Sto, cLc (cIt (cVar 5)) (.one 7) cTrue (cTup (cCons (cC (.str "name")) (cCons (cVar 7) cNil))) [some (.loc 0), some (.str "close"), some (.int to), some (.int place), some (atD a), some (.tup (ns.map .int)), none, none, none, none] S = .ok (.loc S.length) (S ++ [.lst (ns.map fun n => atD (.nam n))]) := fun S => lc_names (by simp) (by omega) (by simp)
  have e6 : (ns.map At.nam).map atD = ns.map fun n => atD (.nam n) := by rw [List.map_map]; rfl
  refine ⟨.tup [.str "close", .int to, .int 2, .tup (ns.map .int), .int place], ns.map .nam, R.length + 5, R.length + 4, n2, s2, [A1, A2, A3, iL ns, aL (ns.map .nam), .lst [.tup [.str "close", .int to, .int 2, .tup (ns.map .int), .int place], .loc (R.length + 4 + 4)]], ?_, by omega, by simp, by simp, ⟨⟨_, _, rfl⟩, op_close (by omega), in_none rfl (by simp), ?_⟩, by simp; omega, h2⟩
  · have i1 := ask1 (σ := { σ with n := n, s := s }) (R := R) (w := "close") (b := false) (by simp)
    have i2 := ask2 (σ := { σ with n := n, s := s }) (R := R) (w := "close") (b := false) (by simp)
    have i3 := ask3 (σ := { σ with n := n, s := s }) (R := R) (w := "close") (b := false) (by simp)
    unfold aL
    rw [e6]
    have hg : (stt { σ with n := n2, s := s2 } (R ++ [A1, A2, A3, iL ns]))[R.length + 3 + 4]? = some (.lst (ns.map .int)) := by rw [stt_r]; simp [iL]
    unfold F_law_flat b_law_flat
    generalize (ns.map fun n => atD (.nam n)) = L at *
    generalize atD a = ad at *
    have htl := tupleD_loc hg
    simp -implicitDefEqProofs [startE, e, hlc, hlc2, htl, stt_app, i1, i2, i3]
  · refine cl_list3 fun x hx => ?_
    simp only [List.mem_cons, List.not_mem_nil, or_false] at hx
    rcases hx with rfl | rfl | rfl | rfl | rfl
    · exact (cl_str _).mono (by omega)
    · exact (cl_int _).mono (by omega)
    · exact (cl_int _).mono (by omega)
    · exact (cl_ints _).mono (by omega)
    · exact (cl_int _).mono (by omega)
theorem flat_all (σ : Sg) (R : Sto) (w : Str) (to place : Int) (hs : sdOk σ.s) (hq : 0 ≤ σ.q) (hq2 : σ.q ≤ 1000000) (hw : w ∈ (["start", "read", "set", "math", "make", "tell", "ask", "raise", "call", "box", "load", "store", "close"] : List Str)) : FlatOk σ R w to place := by
  simp only [List.mem_cons, List.not_mem_nil, or_false] at hw
  rcases hw with rfl | rfl | rfl | rfl | rfl | rfl | rfl | rfl | rfl | rfl | rfl | rfl | rfl
  · exact flat_first σ R _ to place hs hq hq2 (.inl rfl)
  · exact flat_read σ R _ to place hs hq hq2 (.inl rfl)
  · exact flat_set σ R _ to place hs hq hq2 (.inl rfl)
  · exact flat_math σ R to place hs hq hq2
  · exact flat_make σ R to place hs hq hq2
  · exact flat_first σ R _ to place hs hq hq2 (.inr (.inr rfl))
  · exact flat_ask σ R to place hs hq hq2
  · exact flat_raise σ R to place hs hq hq2
  · exact flat_call σ R to place hs hq hq2
  · exact flat_first σ R _ to place hs hq hq2 (.inr (.inl rfl))
  · exact flat_read σ R _ to place hs hq hq2 (.inr rfl)
  · exact flat_set σ R _ to place hs hq hq2 (.inr rfl)
  · exact flat_close σ R to place hs hq hq2
end K21
end
section
namespace K21
open PySem PySem.Spec PyProof.Rows L2 Sm
/-- what holds of the state between two steps -/
structure Ok (σ : Sg) : Prop where
  s : sdOk σ.s
  q : σ.q = σ.h.length
  p0 : 0 ≤ σ.p
  hb : (σ.h.length : Int) + 8 * σ.p ≤ 400
  ub : (σ.u.length : Int) + 8 * σ.p ≤ 800
  mb : (σ.m.length : Int) + σ.p ≤ 40
def EntOk (R : Sto) (e : En') : Prop := R[e.l]? = some (.lst [e.s.d, .loc (e.a + 4), .loc (e.b + 4)]) ∧ R[e.a]? = some (aL e.s.ops) ∧ R[e.b]? = some (.lst (e.s.ins.map inD')) ∧ SOk e.s 12 ∧ (∀ i ∈ e.s.ins, Cl i.d 12) ∧ e.s.ops.length + e.s.ins.length ≤ 10
theorem EntOk.old {R X : Sto} {e : En'} (h : EntOk R e) : EntOk (R ++ X) e := ⟨get_old h.1, get_old h.2.1, get_old h.2.2.1, h.2.2.2⟩
/-- from one state to a later one: the names given, the names used, the steps noted; c1 names and c2 atoms above the budget -/
structure Gn (σ σ' : Sg) (R' : Sto) (g m : List Int) (c1 c2 c3 : Int) : Prop where
  h : ∃ gs, σ'.h = σ.h ++ gs ∧ gs.Perm g
  u : ∃ us, σ'.u = σ.u ++ us ∧ (us.flatMap nmA).Perm m
  m : ∃ ms, σ'.m = σ.m ++ ms ∧ ∀ e ∈ ms, EntOk R' e
  hb : (σ'.h.length : Int) + 8 * σ'.p ≤ σ.h.length + 8 * σ.p + c1
  ub : (σ'.u.length : Int) + 8 * σ'.p ≤ σ.u.length + 8 * σ.p + c2
  mb : (σ'.m.length : Int) + σ'.p ≤ σ.m.length + σ.p + c3
  q : σ'.q - σ.q = (σ'.h.length : Int) - σ.h.length
  p0 : 0 ≤ σ.p → 0 ≤ σ'.p
  s : sdOk σ'.s
  nw : ∀ e ∈ σ'.m.drop σ.m.length, σ.B ≤ e.l ∧ σ.B ≤ e.a ∧ σ.B ≤ e.b
  b : σ'.B = σ.B
theorem Gn.refl {σ : Sg} {R : Sto} (hs : sdOk σ.s) : Gn σ σ R [] [] 0 0 0 := ⟨⟨[], by simp, .refl _⟩, ⟨[], by simp, by simp⟩, ⟨[], by simp, fun _ h => by cases h⟩, by omega, by omega, by omega, by omega, id, hs, by simp, rfl⟩
theorem Gn.trans {σ σ' σ'' : Sg} {R1 X : Sto} {g m g' m' : List Int} {c1 c2 c3 d1 d2 d3 : Int} (a : Gn σ σ' R1 g m c1 c2 c3) (b : Gn σ' σ'' (R1 ++ X) g' m' d1 d2 d3) : Gn σ σ'' (R1 ++ X) (g ++ g') (m ++ m') (c1 + d1) (c2 + d2) (c3 + d3) := by
  obtain ⟨g1, a1, a2⟩ := a.h
  obtain ⟨u1, a3, a4⟩ := a.u
  obtain ⟨m1, a5, a6⟩ := a.m
  obtain ⟨g2, b1, b2⟩ := b.h
  obtain ⟨u2, b3, b4⟩ := b.u
  obtain ⟨m2, b5, b6⟩ := b.m
  refine ⟨⟨g1 ++ g2, by rw [b1, a1, List.append_assoc], a2.append b2⟩, ⟨u1 ++ u2, by rw [b3, a3, List.append_assoc], by rw [List.flatMap_append]; exact a4.append b4⟩, ⟨m1 ++ m2, by rw [b5, a5, List.append_assoc], fun e he => ?_⟩, ?_, ?_, ?_, ?_, fun h => b.p0 (a.p0 h), b.s, ?_, by rw [b.b, a.b]⟩
  · rcases List.mem_append.mp he with h | h
    · exact (a6 e h).old
    · exact b6 e h
  · have := a.hb; have := b.hb; omega
  · have := a.ub; have := b.ub; omega
  · have := a.mb; have := b.mb; omega
  · have := a.q; have := b.q; omega
  · intro e he
    have h1 : σ'.m.drop σ.m.length = m1 := by rw [a5, List.drop_left]
    have h2 : σ''.m.drop σ'.m.length = m2 := by rw [b5, List.drop_left]
    rw [b5, a5, List.append_assoc, List.drop_left] at he
    rcases List.mem_append.mp he with h | h
    · exact a.nw e (by rw [h1]; exact h)
    · rw [← a.b]; exact b.nw e (by rw [h2]; exact h)
theorem Gn.old {σ σ' : Sg} {R X : Sto} {g m : List Int} {c1 c2 c3 : Int} (a : Gn σ σ' R g m c1 c2 c3) : Gn σ σ' (R ++ X) g m c1 c2 c3 := by
  obtain ⟨m1, a5, a6⟩ := a.m
  exact ⟨a.h, a.u, ⟨m1, a5, fun e he => (a6 e he).old⟩, a.hb, a.ub, a.mb, a.q, a.p0, a.s, a.nw, a.b⟩
/-- number and seed alone changed -/
theorem Gn.ns {σ : Sg} {R : Sto} {n s : Int} (hs : sdOk s) : Gn σ { σ with n := n, s := s } R [] [] 0 0 0 := ⟨⟨[], by simp, .refl _⟩, ⟨[], by simp, by simp⟩, ⟨[], by simp, fun _ h => by cases h⟩, by simp, by simp, by simp, by simp, id, hs, by simp, rfl⟩
theorem Ok.gn {σ σ' : Sg} {R : Sto} {g m : List Int} {c1 c2 c3 : Int} (o : Ok σ) (a : Gn σ σ' R g m c1 c2 c3) (h1 : (σ.h.length : Int) + 8 * σ.p + c1 ≤ 400) (h2 : (σ.u.length : Int) + 8 * σ.p + c2 ≤ 800) (h3 : (σ.m.length : Int) + σ.p + c3 ≤ 40) : Ok σ' := by
  refine ⟨a.s, ?_, a.p0 o.p0, ?_, ?_, ?_⟩
  · have := a.q; have := o.q; omega
  · have := a.hb; omega
  · have := a.ub; omega
  · have := a.mb; omega
/-- tuple([fresh(state) for k in range(take(state, 5))]) -/
theorem some5 (σ : Sg) (R : Sto) (o : Ok σ) : ∃ ns σ' X, F_law_some [.loc 0, .int 5] (stt σ R) = .ok (.tup (ns.map .int)) (stt σ' (R ++ X)) ∧ Gn σ σ' (R ++ X) ns [] 4 0 0 ∧ ns.length ≤ 4 := by
  obtain ⟨z, n, s, e, z0, z5, hs⟩ := take σ R 5 o.s (by omega) (by omega)
  have hr : ∀ S, rng1 [.int z] S = .ok (.items (rgD 0 z.toNat)) S := fun S => rng1_e (by omega) (by omega)
  have hh : σ.h.length ≤ 400 := by have := o.hb; have := o.p0; omega
  obtain ⟨S', e2, ns, rfl, hl⟩ := lcI_inv (t := .one 2) (tst := cTrue) (elt := cCall (apF 1 F_law_fresh) (cCons (cVar 0) cNil)) (ρ := List.set [some (.loc 0), some (.int 5), none] 2 none) (n := R.length + 4) (ds := rgD 0 z.toNat) (S := stt { σ with n := n, s := s } (R ++ [iL []]))
    (fun i S' => ∃ ns, S' = stt { σ with n := n, s := s, q := σ.q + i, h := σ.h ++ ns } (R ++ [iL ns]) ∧ ns.length = i)
    (by
      rintro i d S' hd ⟨ns, rfl, hl⟩
      obtain ⟨hi, rfl⟩ := rgD_get hd
      have e3 := fresh { σ with n := n, s := s, q := σ.q + i, h := σ.h ++ ns } (R ++ [iL ns]) (by simp; omega)
      refine ⟨_, lcTurn_t (acc := ns.map .int) (y := .int (σ.q + i)) (S1 := stt { σ with n := n, s := s, q := σ.q + i, h := σ.h ++ ns } (R ++ [iL ns])) (S2 := stt { σ with n := n, s := s, q := σ.q + i + 1, h := σ.h ++ ns ++ [σ.q + i] } (R ++ [iL ns])) put_one cTrue_e (by simp -implicitDefEqProofs [e3]) (by rw [stt_r]; simp [iL]) (by simp; omega), ns ++ [σ.q + i], ?_, by simp [hl]⟩
      rw [set_r]
      simp [iL, Int.add_assoc])
    ⟨[], by simp, rfl⟩
  rw [rgD_len] at hl
  refine ⟨ns, { σ with n := n, s := s, q := σ.q + z.toNat, h := σ.h ++ ns }, [iL ns], ?_, ⟨⟨ns, rfl, .refl _⟩, ⟨[], by simp, by simp⟩, ⟨[], by simp, fun _ h => by cases h⟩, by simp; omega, by simp, by simp, by simp; omega, id, hs, by simp, rfl⟩, by omega⟩
  have hlc : cLc (cRng rng1 (cCons (cCall (apF 2 F_law_take) (cCons (cVar 0) (cCons (cVar 1) cNil))) cNil)) (.one 2) cTrue (cCall (apF 1 F_law_fresh) (cCons (cVar 0) cNil)) [some (.loc 0), some (.int 5), none] (stt σ R) = .ok (.loc (R.length + 4)) (stt { σ with n := n, s := s, q := σ.q + z.toNat, h := σ.h ++ ns } (R ++ [iL ns])) := by
    rw [cLc_e]
    have e3 : cRng rng1 (cCons (cCall (apF 2 F_law_take) (cCons (cVar 0) (cCons (cVar 1) cNil))) cNil) [some (.loc 0), some (.int 5), none] (stt σ R) = .ok (.items (rgD 0 z.toNat)) (stt { σ with n := n, s := s } R) := by
      simp -implicitDefEqProofs [e, hr]
    rw [e3]
    simp only [andThen_ok, vs_one, wipeE_cons, wipeE_nil]
    rw [rgD_len] at e2
    exact e2
  have htl : tupleD (.loc (R.length + 4)) (stt { σ with n := n, s := s, q := σ.q + z.toNat, h := σ.h ++ ns } (R ++ [iL ns])) = .ok (.tup (ns.map .int)) (stt { σ with n := n, s := s, q := σ.q + z.toNat, h := σ.h ++ ns } (R ++ [iL ns])) := tupleD_loc (by rw [stt_r]; simp [iL])
  unfold F_law_some b_law_some
  generalize ({ σ with n := n, s := s, q := σ.q + z.toNat, h := σ.h ++ ns } : Sg) = σ2 at *
  simp -implicitDefEqProofs [startE, hlc, htl]
theorem atomG (σ : Sg) (R : Sto) (o : Ok σ) : ∃ a n s, F_law_atom [.loc 0] (stt σ R) = .ok (atD a) (stt { σ with n := n, s := s } R) ∧ sdOk s ∧ Gn σ { σ with n := n, s := s } R [] [] 0 0 0 := by
  have h1 := o.q; have h2 := o.hb; have h3 := o.p0
  obtain ⟨a, n, s, e, h⟩ := atom σ R o.s (by omega) (by omega)
  exact ⟨a, n, s, e, h, Gn.ns h⟩
/-- a text of depth k is made by F -/
def BodyOk (k : Nat) (F : List D → Mo D) : Prop := ∀ σ R, Ok σ → σ.B ≤ R.length → (σ.u.length : Int) + 8 * σ.p + 1 ≤ 800 → ∃ d g m X σ', F [.loc 0, .int k] (stt σ R) = .ok d (stt σ' (R ++ X)) ∧ Bod (k + 1) d g m ∧ Cl d (2 + 3 * k) ∧ Gn σ σ' (R ++ X) g m 0 1 0
/-- a step of depth k + 1 is made by F -/
def MadeOk (k : Nat) (F : List D → Mo D) : Prop := ∀ σ R, Ok σ → σ.B ≤ R.length → 0 < σ.p → ∃ s X σ', F [.loc 0, .int ((k + 1 : Nat) : Int)] (stt σ R) = .ok s.d (stt σ' (R ++ X)) ∧ SOk s (3 * k + 3) ∧ (∀ i ∈ s.ins, Bod (k + 1) i.d i.g i.m) ∧ s.ops.length ≤ 5 ∧ Gn σ σ' (R ++ X) (gOf s) (mOf s) 0 0 0
end K21
end
section
namespace K21
open PySem PySem.Spec PyProof.Rows L2 Sm
theorem Gn.weak {σ σ' : Sg} {R : Sto} {g m g' m' : List Int} {c1 c2 c3 d1 d2 d3 : Int} (a : Gn σ σ' R g m c1 c2 c3) (hg : g.Perm g') (hm : m.Perm m') (h1 : c1 ≤ d1) (h2 : c2 ≤ d2) (h3 : c3 ≤ d3) : Gn σ σ' R g' m' d1 d2 d3 := by
  obtain ⟨g1, a1, a2⟩ := a.h
  obtain ⟨u1, a3, a4⟩ := a.u
  exact ⟨⟨g1, a1, a2.trans hg⟩, ⟨u1, a3, a4.trans hm⟩, a.m, by have := a.hb; omega, by have := a.ub; omega, by have := a.mb; omega, a.q, a.p0, a.s, a.nw, a.b⟩
abbrev B1 : Ob := .lst [.str "func", .str "match"]
theorem askB {σ : Sg} {R : Sto} {w : Str} {b : Bool} (h : (["func", "match"] : List Str).any (fun x => x == w) = b) : inD (.str w) (.loc (R.length + 4)) (stt σ (R ++ [B1])) = .ok (.bl b) (stt σ (R ++ [B1])) := inD_at (xs := ["func", "match"]) (lst_at rfl) h
def WideOk (k : Nat) (F : List D → Mo D) (w : Str) : Prop := ∀ σ R (to place : Int), Ok σ → σ.B ≤ R.length → (σ.h.length : Int) + 8 * σ.p + 5 ≤ 400 → (σ.u.length : Int) + 8 * σ.p + 2 ≤ 800 → ∃ s l a b X σ', s.to = to ∧ R.length ≤ l ∧ R.length ≤ a ∧ R.length ≤ b ∧ F [.loc 0, .str w, .int to, .int place, .int ((k + 1 : Nat) : Int)] (stt σ R) = .ok (.loc (l + 4)) (stt σ' (R ++ X)) ∧
  (R ++ X)[l]? = some (.lst [s.d, .loc (a + 4), .loc (b + 4)]) ∧ (R ++ X)[a]? = some (aL s.ops) ∧ (R ++ X)[b]? = some (.lst (s.ins.map inD')) ∧ SOk s (3 * k + 3) ∧ (∀ i ∈ s.ins, Bod (k + 1) i.d i.g i.m ∧ Cl i.d (2 + 3 * k)) ∧ s.ops.length ≤ 5 ∧ s.ins.length ≤ 5 ∧
  Gn σ σ' (R ++ X) (s.ins.flatMap fun i => i.names ++ i.g) (s.ins.flatMap (·.m)) 5 2 0
theorem wide_func {k n : Nat} (hbd : BodyOk k (F_law_body n)) : WideOk k (F_law_wide (n + 1)) "func" := by
  intro σ R to place o hB hh hu
  obtain ⟨a, n1, s1, e1, h1, g1⟩ := atomG σ R o
  have o1 : Ok { σ with n := n1, s := s1 } := o.gn g1 (by omega) (by omega) (by have := o.mb; omega)
  obtain ⟨ns, σ2, X1, e2, g2, hn⟩ := some5 { σ with n := n1, s := s1 } (R ++ [B1]) o1
  have o2 : Ok σ2 := o1.gn g2 (by show (σ.h.length : Int) + 8 * σ.p + 4 ≤ 400; omega) (by show (σ.u.length : Int) + 8 * σ.p + 0 ≤ 800; omega) (by have := o1.mb; omega)
  have hu2 : (σ2.u.length : Int) + 8 * σ2.p ≤ σ.u.length + 8 * σ.p + 0 := g2.ub
  obtain ⟨d1, gg, mm, X2, σ3, e3, b3, c3, g3⟩ := hbd σ2 (R ++ [B1] ++ X1) o2 (by have : σ2.B = σ.B := g2.b; simp only [List.length_append]; omega) (by omega)
  have g13 := ((g1.old (X := [B1])).trans g2).trans g3
  obtain ⟨R3, hR3⟩ : ∃ R3, R3 = R ++ [B1] ++ X1 ++ X2 := ⟨_, rfl⟩
  obtain ⟨T, hT⟩ : ∃ T : Sto, T = [.lst [], .lst [.tup [.tup (ns.map .int), d1]], .lst [.tup [.str "func", .int to, .tup (ns.map .int), d1, .int place], .loc (R3.length + 4), .loc (R3.length + 1 + 4)]] := ⟨_, rfl⟩
  have eR : R ++ ([B1] ++ X1 ++ X2 ++ T) = R3 ++ T := by rw [hR3]; simp
  refine ⟨⟨to, .tup [.str "func", .int to, .tup (ns.map .int), d1, .int place], [], [⟨ns, d1, gg, mm⟩]⟩, R3.length + 2, R3.length, R3.length + 1, [B1] ++ X1 ++ X2 ++ T, σ3, rfl, by rw [hR3]; simp only [List.length_append]; omega, by rw [hR3]; simp only [List.length_append]; omega, by rw [hR3]; simp only [List.length_append]; omega, ?_, by rw [eR, hT]; simp, by rw [eR, hT]; simp [aL], by rw [eR, hT]; simp [inD'], ⟨⟨_, _, rfl⟩, op_none (by simp), in_func (i := ⟨ns, d1, gg, mm⟩), ?_⟩, ?_, by simp, by simp, ?_⟩
  · have i1 := askB (σ := { σ with n := n1, s := s1 }) (R := R) (w := "func") (b := true) (by simp)
    have ek : ((k + 1 : Nat) : Int) - 1 = (k : Nat) := by omega
    rw [eR, F_law_wide_succ]
    unfold b_law_wide
    rw [← hR3] at e3
    subst hT
    generalize F_law_body n = G at *
    generalize F_law_wide n = G2 at *
    generalize F_law_made n = G3 at *
    generalize ((k + 1 : Nat) : Int) = kk at *
    generalize R ++ [B1] ++ X1 = R2 at *
    generalize atD a = ad at *
    generalize ns.map D.int = nsD at *
    simp -implicitDefEqProofs [startE, e1, e2, e3, i1, stt_app, ek]
  · refine (cl_tup (c := 2 + 3 * k) fun x hx => ?_).mono (by omega)
    simp only [List.mem_cons, List.not_mem_nil, or_false] at hx
    rcases hx with rfl | rfl | rfl | rfl | rfl
    · exact (cl_str _).mono (by omega)
    · exact (cl_int _).mono (by omega)
    · exact (cl_ints _).mono (by omega)
    · exact c3
    · exact (cl_int _).mono (by omega)
  · intro i hi
    simp only [List.mem_cons, List.not_mem_nil, or_false] at hi
    subst hi
    exact ⟨b3, c3⟩
  · rw [eR]
    have := g13
    rw [← hR3] at this
    exact (this.old (X := T)).weak (by simp) (by simp) (by omega) (by omega) (by omega)
theorem freshG (σ : Sg) (R : Sto) (o : Ok σ) : F_law_fresh [.loc 0] (stt σ R) = .ok (.int σ.q) (stt { σ with q := σ.q + 1, h := σ.h ++ [σ.q] } R) ∧ Gn σ { σ with q := σ.q + 1, h := σ.h ++ [σ.q] } R [σ.q] [] 1 0 0 := by
  have h1 := o.p0; have h2 := o.hb
  exact ⟨fresh σ R (by omega), ⟨[σ.q], rfl, .refl _⟩, ⟨[], by simp, by simp⟩, ⟨[], by simp, fun _ h => by cases h⟩, by simp; omega, by simp, by simp, by simp; omega, id, o.s, by simp, rfl⟩
theorem wide_if {k n : Nat} (hbd : BodyOk k (F_law_body n)) : WideOk k (F_law_wide (n + 1)) "if" := by
  intro σ R to place o hB hh hu
  obtain ⟨a, n1, s1, e1, h1, g1⟩ := atomG σ R o
  have o1 : Ok { σ with n := n1, s := s1 } := o.gn g1 (by omega) (by omega) (by have := o.mb; omega)
  obtain ⟨d1, ga, ma, X1, σ2, e3, b3, c3, g3⟩ := hbd { σ with n := n1, s := s1 } (R ++ [B1]) o1 (by show σ.B ≤ _; simp only [List.length_append]; omega) (by show (σ.u.length : Int) + 8 * σ.p + 1 ≤ 800; omega)
  have o2 : Ok σ2 := o1.gn g3 (by show (σ.h.length : Int) + 8 * σ.p + 0 ≤ 400; omega) (by show (σ.u.length : Int) + 8 * σ.p + 1 ≤ 800; omega) (by have := o1.mb; omega)
  have hu2 : (σ2.u.length : Int) + 8 * σ2.p ≤ σ.u.length + 8 * σ.p + 1 := g3.ub
  obtain ⟨d2, gb, mb, X2, σ3, e4, b4, c4, g4⟩ := hbd σ2 (R ++ [B1] ++ X1) o2 (by have : σ2.B = σ.B := g3.b; simp only [List.length_append]; omega) (by omega)
  have g13 := ((g1.old (X := [B1])).trans g3).trans g4
  obtain ⟨R3, hR3⟩ : ∃ R3, R3 = R ++ [B1] ++ X1 ++ X2 := ⟨_, rfl⟩
  obtain ⟨T, hT⟩ : ∃ T : Sto, T = [.lst [atD a], .lst [.tup [.tup [], d1], .tup [.tup [], d2]], .lst [.tup [.str "if", .int to, atD a, d1, d2, .int place], .loc (R3.length + 4), .loc (R3.length + 1 + 4)]] := ⟨_, rfl⟩
  have eR : R ++ ([B1] ++ X1 ++ X2 ++ T) = R3 ++ T := by rw [hR3]; simp
  refine ⟨⟨to, .tup [.str "if", .int to, atD a, d1, d2, .int place], [a], [⟨[], d1, ga, ma⟩, ⟨[], d2, gb, mb⟩]⟩, R3.length + 2, R3.length, R3.length + 1, [B1] ++ X1 ++ X2 ++ T, σ3, rfl, by rw [hR3]; simp only [List.length_append]; omega, by rw [hR3]; simp only [List.length_append]; omega, by rw [hR3]; simp only [List.length_append]; omega, ?_, by rw [eR, hT]; simp, by rw [eR, hT]; simp [aL], by rw [eR, hT]; simp [inD'], ⟨⟨_, _, rfl⟩, op_first (by simp), in_if (i := ⟨[], d1, ga, ma⟩) (j := ⟨[], d2, gb, mb⟩) rfl rfl, ?_⟩, ?_, by simp, by simp, ?_⟩
  · have i1 := askB (σ := { σ with n := n1, s := s1 }) (R := R) (w := "if") (b := false) (by simp)
    have ek : ((k + 1 : Nat) : Int) - 1 = (k : Nat) := by omega
    rw [eR, F_law_wide_succ]
    unfold b_law_wide
    rw [← hR3] at e4
    subst hT
    generalize F_law_body n = G at *
    generalize F_law_wide n = G2 at *
    generalize F_law_made n = G3 at *
    generalize ((k + 1 : Nat) : Int) = kk at *
    generalize R ++ [B1] ++ X1 = R2 at *
    generalize atD a = ad at *
    simp -implicitDefEqProofs [startE, e1, e3, e4, i1, stt_app, ek]
  · refine (cl_tup (c := 2 + 3 * k) fun x hx => ?_).mono (by omega)
    simp only [List.mem_cons, List.not_mem_nil, or_false] at hx
    rcases hx with rfl | rfl | rfl | rfl | rfl | rfl
    · exact (cl_str _).mono (by omega)
    · exact (cl_int _).mono (by omega)
    · exact (cl_at _).mono (by omega)
    · exact c3
    · exact c4
    · exact (cl_int _).mono (by omega)
  · intro i hi
    simp only [List.mem_cons, List.not_mem_nil, or_false] at hi
    rcases hi with rfl | rfl
    · exact ⟨b3, c3⟩
    · exact ⟨b4, c4⟩
  · rw [eR]
    have := g13
    rw [← hR3] at this
    exact (this.old (X := T)).weak (by simp) (by simp) (by omega) (by omega) (by omega)
theorem wide_match {k n : Nat} (hbd : BodyOk k (F_law_body n)) : WideOk k (F_law_wide (n + 1)) "match" := by
  intro σ R to place o hB hh hu
  obtain ⟨a, n1, s1, e1, h1, g1⟩ := atomG σ R o
  have o1 : Ok { σ with n := n1, s := s1 } := o.gn g1 (by omega) (by omega) (by have := o.mb; omega)
  obtain ⟨ns, σ1, X0, e2, g2, hn⟩ := some5 { σ with n := n1, s := s1 } (R ++ [B1]) o1
  have o1' : Ok σ1 := o1.gn g2 (by show (σ.h.length : Int) + 8 * σ.p + 4 ≤ 400; omega) (by show (σ.u.length : Int) + 8 * σ.p + 0 ≤ 800; omega) (by have := o1.mb; omega)
  have hh1 : (σ1.h.length : Int) + 8 * σ1.p ≤ σ.h.length + 8 * σ.p + 4 := g2.hb
  have hu1 : (σ1.u.length : Int) + 8 * σ1.p ≤ σ.u.length + 8 * σ.p + 0 := g2.ub
  obtain ⟨d1, ga, ma, X1, σ2, e3, b3, c3, g3⟩ := hbd σ1 (R ++ [B1] ++ X0) o1' (by have : σ1.B = σ.B := g2.b; simp only [List.length_append]; omega) (by omega)
  have o2 : Ok σ2 := o1'.gn g3 (by omega) (by omega) (by have := o1'.mb; omega)
  have hu2 := g3.ub
  obtain ⟨d2, gb, mb, X2, σ3, e4, b4, c4, g4⟩ := hbd σ2 (R ++ [B1] ++ X0 ++ X1) o2 (by have b1 : σ1.B = σ.B := g2.b; have b2 : σ2.B = σ1.B := g3.b; simp only [List.length_append]; omega) (by omega)
  have g13 := (((g1.old (X := [B1])).trans g2).trans g3).trans g4
  obtain ⟨R3, hR3⟩ : ∃ R3, R3 = R ++ [B1] ++ X0 ++ X1 ++ X2 := ⟨_, rfl⟩
  obtain ⟨T, hT⟩ : ∃ T : Sto, T = [.lst [atD a], .lst [.tup [.tup (ns.map .int), d1], .tup [.tup [], d2]], .lst [.tup [.str "match", .int to, atD a, .str "tag", .tup (ns.map .int), d1, d2, .int place], .loc (R3.length + 4), .loc (R3.length + 1 + 4)]] := ⟨_, rfl⟩
  have eR : R ++ ([B1] ++ X0 ++ X1 ++ X2 ++ T) = R3 ++ T := by rw [hR3]; simp
  refine ⟨⟨to, .tup [.str "match", .int to, atD a, .str "tag", .tup (ns.map .int), d1, d2, .int place], [a], [⟨ns, d1, ga, ma⟩, ⟨[], d2, gb, mb⟩]⟩, R3.length + 2, R3.length, R3.length + 1, [B1] ++ X0 ++ X1 ++ X2 ++ T, σ3, rfl, by rw [hR3]; simp only [List.length_append]; omega, by rw [hR3]; simp only [List.length_append]; omega, by rw [hR3]; simp only [List.length_append]; omega, ?_, by rw [eR, hT]; simp, by rw [eR, hT]; simp [aL], by rw [eR, hT]; simp [inD'], ⟨⟨_, _, rfl⟩, op_first (by simp), in_match (i := ⟨ns, d1, ga, ma⟩) (j := ⟨[], d2, gb, mb⟩) rfl, ?_⟩, ?_, by simp, by simp, ?_⟩
  · have i1 := askB (σ := { σ with n := n1, s := s1 }) (R := R) (w := "match") (b := true) (by simp)
    have ek : ((k + 1 : Nat) : Int) - 1 = (k : Nat) := by omega
    rw [eR, F_law_wide_succ]
    unfold b_law_wide
    rw [← hR3] at e4
    subst hT
    generalize F_law_body n = G at *
    generalize F_law_wide n = G2 at *
    generalize F_law_made n = G3 at *
    generalize ((k + 1 : Nat) : Int) = kk at *
    generalize R ++ [B1] ++ X0 ++ X1 = R2 at *
    generalize R ++ [B1] ++ X0 = R1 at *
    generalize atD a = ad at *
    generalize ns.map D.int = nsD at *
    simp -implicitDefEqProofs [startE, e1, e2, e3, e4, i1, stt_app, ek]
  · refine (cl_tup (c := 2 + 3 * k) fun x hx => ?_).mono (by omega)
    simp only [List.mem_cons, List.not_mem_nil, or_false] at hx
    rcases hx with rfl | rfl | rfl | rfl | rfl | rfl | rfl | rfl
    · exact (cl_str _).mono (by omega)
    · exact (cl_int _).mono (by omega)
    · exact (cl_at _).mono (by omega)
    · exact (cl_str _).mono (by omega)
    · exact (cl_ints _).mono (by omega)
    · exact c3
    · exact c4
    · exact (cl_int _).mono (by omega)
  · intro i hi
    simp only [List.mem_cons, List.not_mem_nil, or_false] at hi
    rcases hi with rfl | rfl
    · exact ⟨b3, c3⟩
    · exact ⟨b4, c4⟩
  · rw [eR]
    have := g13
    rw [← hR3] at this
    exact (this.old (X := T)).weak (by simp) (by simp) (by omega) (by omega) (by omega)
theorem wide_try {k n : Nat} (hbd : BodyOk k (F_law_body n)) : WideOk k (F_law_wide (n + 1)) "try" := by
  intro σ R to place o hB hh hu
  obtain ⟨a, n1, s1, e1, h1, g1⟩ := atomG σ R o
  have o1 : Ok { σ with n := n1, s := s1 } := o.gn g1 (by omega) (by omega) (by have := o.mb; omega)
  obtain ⟨d1, ga, ma, X1, σ2, e3, b3, c3, g3⟩ := hbd { σ with n := n1, s := s1 } (R ++ [B1]) o1 (by show σ.B ≤ _; simp only [List.length_append]; omega) (by show (σ.u.length : Int) + 8 * σ.p + 1 ≤ 800; omega)
  have o2 : Ok σ2 := o1.gn g3 (by show (σ.h.length : Int) + 8 * σ.p + 0 ≤ 400; omega) (by show (σ.u.length : Int) + 8 * σ.p + 1 ≤ 800; omega) (by have := o1.mb; omega)
  have hh2 : (σ2.h.length : Int) + 8 * σ2.p ≤ σ.h.length + 8 * σ.p + 0 := g3.hb
  have hu2 : (σ2.u.length : Int) + 8 * σ2.p ≤ σ.u.length + 8 * σ.p + 1 := g3.ub
  obtain ⟨d2, gb, mb, X2, σ3, e4, b4, c4, g4⟩ := hbd σ2 (R ++ [B1] ++ X1) o2 (by have : σ2.B = σ.B := g3.b; simp only [List.length_append]; omega) (by omega)
  have o3 : Ok σ3 := o2.gn g4 (by omega) (by omega) (by have := o2.mb; omega)
  obtain ⟨e5, g5⟩ := freshG σ3 (R ++ [B1] ++ X1 ++ X2) o3
  have g13 := (((g1.old (X := [B1])).trans g3).trans g4).trans (X := []) (by rw [List.append_nil]; exact g5)
  rw [List.append_nil] at g13
  obtain ⟨R3, hR3⟩ : ∃ R3, R3 = R ++ [B1] ++ X1 ++ X2 := ⟨_, rfl⟩
  obtain ⟨T, hT⟩ : ∃ T : Sto, T = [.lst [], .lst [.tup [.tup [], d1], .tup [.tup [.int σ3.q], d2]], .lst [.tup [.str "try", .int to, d1, .str "odd", .int σ3.q, d2, .int place], .loc (R3.length + 4), .loc (R3.length + 1 + 4)]] := ⟨_, rfl⟩
  have eR : R ++ ([B1] ++ X1 ++ X2 ++ T) = R3 ++ T := by rw [hR3]; simp
  refine ⟨⟨to, .tup [.str "try", .int to, d1, .str "odd", .int σ3.q, d2, .int place], [], [⟨[], d1, ga, ma⟩, ⟨[σ3.q], d2, gb, mb⟩]⟩, R3.length + 2, R3.length, R3.length + 1, [B1] ++ X1 ++ X2 ++ T, { σ3 with q := σ3.q + 1, h := σ3.h ++ [σ3.q] }, rfl, by rw [hR3]; simp only [List.length_append]; omega, by rw [hR3]; simp only [List.length_append]; omega, by rw [hR3]; simp only [List.length_append]; omega, ?_, by rw [eR, hT]; simp, by rw [eR, hT]; simp [aL], by rw [eR, hT]; simp [inD'], ⟨⟨_, _, rfl⟩, op_none (by simp), in_try (i := ⟨[], d1, ga, ma⟩) (j := ⟨[σ3.q], d2, gb, mb⟩) rfl rfl, ?_⟩, ?_, by simp, by simp, ?_⟩
  rotate_left 3
  · rw [eR]
    have := g13
    rw [← hR3] at this
    refine (this.old (X := T)).weak ?_ (by simp) (by omega) (by omega) (by omega)
    simp only [List.flatMap_cons, List.flatMap_nil, List.nil_append, List.append_nil]
    rw [List.append_assoc]
    exact List.Perm.append_left ga List.perm_append_comm
  · have i1 := askB (σ := { σ with n := n1, s := s1 }) (R := R) (w := "try") (b := false) (by simp)
    have ek : ((k + 1 : Nat) : Int) - 1 = (k : Nat) := by omega
    rw [eR, F_law_wide_succ]
    unfold b_law_wide
    rw [← hR3] at e4 e5
    subst hT
    generalize F_law_body n = G at *
    generalize F_law_wide n = G2 at *
    generalize F_law_made n = G3 at *
    generalize ((k + 1 : Nat) : Int) = kk at *
    generalize R ++ [B1] ++ X1 = R2 at *
    generalize atD a = ad at *
    simp -implicitDefEqProofs [startE, e1, e3, e4, e5, i1, stt_app, ek]
  · refine (cl_tup (c := 2 + 3 * k) fun x hx => ?_).mono (by omega)
    simp only [List.mem_cons, List.not_mem_nil, or_false] at hx
    rcases hx with rfl | rfl | rfl | rfl | rfl | rfl | rfl
    · exact (cl_str _).mono (by omega)
    · exact (cl_int _).mono (by omega)
    · exact c3
    · exact (cl_str _).mono (by omega)
    · exact (cl_int _).mono (by omega)
    · exact c4
    · exact (cl_int _).mono (by omega)
  · intro i hi
    simp only [List.mem_cons, List.not_mem_nil, or_false] at hi
    rcases hi with rfl | rfl
    · exact ⟨b3, c3⟩
    · exact ⟨b4, c4⟩
end K21
end
section
namespace K21
open PySem PySem.Spec PyProof.Rows L2 Sm
abbrev W1 : Ob := .lst [.str "start", .str "read", .str "set", .str "math", .str "make", .str "tell", .str "ask", .str "raise", .str "call", .str "box", .str "load", .str "store", .str "close"]
abbrev W2 : Ob := .lst [.str "func", .str "if", .str "match", .str "try"]
abbrev W3 : Ob := .lst [.str "start", .str "read", .str "set", .str "math", .str "make", .str "tell", .str "ask", .str "raise", .str "call", .str "box", .str "load", .str "store", .str "close", .str "func", .str "if", .str "match", .str "try"]
def words13 : List Str := ["start", "read", "set", "math", "make", "tell", "ask", "raise", "call", "box", "load", "store", "close"]
def words4 : List Str := ["func", "if", "match", "try"]
/-- the last part: the operands noted, the step noted -/
theorem finish {σ : Sg} {R : Sto} {s : St} {l a b : Nat} (h1 : R[l]? = some (.lst [s.d, .loc (a + 4), .loc (b + 4)])) (h2 : R[a]? = some (aL s.ops)) (hu : σ.u.length + s.ops.length ≤ 10000) (hm : σ.m.length ≤ 10000) :
    getD (.loc (l + 4)) (.int 1) (stt σ R) = .ok (.loc (a + 4)) (stt σ R) ∧ extD (.loc 2) (.loc (a + 4)) (stt σ R) = .ok .non (stt { σ with u := σ.u ++ s.ops } R) ∧
    appD (.loc 3) (.loc (l + 4)) (stt { σ with u := σ.u ++ s.ops } R) = .ok .non (stt { σ with u := σ.u ++ s.ops, m := σ.m ++ [⟨s, l, a, b⟩] } R) ∧
    getD (.loc (l + 4)) (.int 0) (stt { σ with u := σ.u ++ s.ops, m := σ.m ++ [⟨s, l, a, b⟩] } R) = .ok s.d (stt { σ with u := σ.u ++ s.ops, m := σ.m ++ [⟨s, l, a, b⟩] } R) := by
  refine ⟨by rw [getD_loc, stt_r, h1]; simp, ?_, ?_, by rw [getD_loc, stt_r, h1]; simp⟩
  · rw [extD_e (xs := σ.u.map atD) (ys := s.ops.map atD) stt_2 (by rw [seqM_loc, stt_r, h2]; rfl) (by simp; omega)]
    have : Ob.lst (σ.u.map atD ++ s.ops.map atD) = aL (σ.u ++ s.ops) := by simp [aL]
    rw [this, set_2]
  · rw [appD_e (xs := σ.m.map fun e => .loc (e.l + 4)) (stt_3 (σ := { σ with u := σ.u ++ s.ops }) (R := R)) (by simp; omega)]
    simp [stt]
theorem tyU {σ : Sg} {R : Sto} : tyD "list" (.loc 2) (stt σ R) = true := tyD_lst (xs := σ.u.map atD) stt_2
theorem tyM {σ : Sg} {R : Sto} : tyD "list" (.loc 3) (stt σ R) = true := tyD_lst (xs := σ.m.map fun e => .loc (e.l + 4)) stt_3
theorem Gn.fin {σ : Sg} {R : Sto} {e : En'} (he : EntOk R e) (hs : sdOk σ.s) (ho : e.s.ops.length ≤ 5) (hw : σ.B ≤ e.l ∧ σ.B ≤ e.a ∧ σ.B ≤ e.b) : Gn σ { σ with u := σ.u ++ e.s.ops, m := σ.m ++ [e] } R [] (e.s.ops.flatMap nmA) 0 5 1 :=
  ⟨⟨[], by simp, .refl _⟩, ⟨e.s.ops, rfl, .refl _⟩, ⟨[e], rfl, fun x hx => by simp at hx; subst hx; exact he⟩, by simp, by simp; omega, by simp; omega, by simp, id, hs, by simpa using hw, rfl⟩
/-- word, name, place, one step less -/
theorem begin (σ : Sg) (R : Sto) (o : Ok σ) (hp : 0 < σ.p) : ∃ w z n0 s0 place n s, w ∈ words13 ++ words4 ∧ F_law_take [.loc 0, .int 17] (stt σ (R ++ [W1, W2, W3])) = .ok (.int z) (stt { σ with n := n0, s := s0 } (R ++ [W1, W2, W3])) ∧
    (∀ σ', getD (.loc (R.length + 2 + 4)) (.int z) (stt σ' (R ++ [W1, W2, W3])) = .ok (.str w) (stt σ' (R ++ [W1, W2, W3]))) ∧
    F_law_fresh [.loc 0] (stt { σ with n := n0, s := s0 } (R ++ [W1, W2, W3])) = .ok (.int σ.q) (stt { σ with n := n0, s := s0, q := σ.q + 1, h := σ.h ++ [σ.q] } (R ++ [W1, W2, W3])) ∧
    F_law_take [.loc 0, .int 600] (stt { σ with n := n0, s := s0, q := σ.q + 1, h := σ.h ++ [σ.q] } (R ++ [W1, W2, W3])) = .ok (.int place) (stt { σ with n := n, s := s, q := σ.q + 1, h := σ.h ++ [σ.q] } (R ++ [W1, W2, W3])) ∧
    Gn σ { σ with n := n, s := s, p := σ.p - 1, q := σ.q + 1, h := σ.h ++ [σ.q] } R [σ.q] [] (-7) (-8) (-1) := by
  have hb := o.hb
  obtain ⟨z, n0, s0, e1, z0, z17, h1⟩ := take σ (R ++ [W1, W2, W3]) 17 o.s (by omega) (by omega)
  have e2 := fresh { σ with n := n0, s := s0 } (R ++ [W1, W2, W3]) (by show σ.h.length ≤ 1000000; omega)
  obtain ⟨place, n, s, e3, _, _, h3⟩ := take { σ with n := n0, s := s0, q := σ.q + 1, h := σ.h ++ [σ.q] } (R ++ [W1, W2, W3]) 600 h1 (by omega) (by omega)
  have hz : ∃ w, (words13 ++ words4)[z.toNat]? = some w := ⟨(words13 ++ words4)[z.toNat]'(by show z.toNat < 17; omega), List.getElem?_eq_getElem _⟩
  obtain ⟨w, hw⟩ := hz
  refine ⟨w, z, n0, s0, place, n, s, List.mem_of_getElem? hw, e1, fun σ' => ?_, e2, e3, ⟨[σ.q], rfl, .refl _⟩, ⟨[], by simp, by simp⟩, ⟨[], by simp, fun _ h => by cases h⟩, by simp; omega, by simp; omega, by simp; omega, by simp; omega, fun _ => by show 0 ≤ σ.p - 1; omega, h3, by simp, rfl⟩
  have hg : (stt σ' (R ++ [W1, W2, W3]))[R.length + 2 + 4]? = some (.lst ((words13 ++ words4).map .str)) := by rw [stt_r]; simp [words13, words4]
  rw [getD_loc, hg, getO_lst, atI_nn z0, List.getElem?_map, hw]
  rfl
theorem wide_all {k n : Nat} (hbd : BodyOk k (F_law_body n)) {w : Str} (hw : w ∈ words4) : WideOk k (F_law_wide (n + 1)) w := by
  unfold words4 at hw
  simp only [List.mem_cons, List.not_mem_nil, or_false] at hw
  rcases hw with rfl | rfl | rfl | rfl
  · exact wide_func hbd
  · exact wide_if hbd
  · exact wide_match hbd
  · exact wide_try hbd
theorem askW {σ : Sg} {R : Sto} {w : Str} {b : Bool} (h : words4.any (fun x => x == w) = b) : inD (.str w) (.loc (R.length + 3 + 4)) (stt σ (R ++ [W1, W2, W3, W2])) = .ok (.bl b) (stt σ (R ++ [W1, W2, W3, W2])) := inD_at (xs := words4) (by rw [stt_r]; simp [words4]) h
theorem Bod.cl12 {d : D} {k : Nat} (h : Cl d (2 + 3 * k)) (hk : k ≤ 3) : Cl d 12 := h.mono (by omega)
theorem made {k n : Nat} (hk : k ≤ 2) (hbd : BodyOk k (F_law_body n)) : MadeOk k (F_law_made (n + 2)) := by
  intro σ R o hB hp
  obtain ⟨w, z, n0, s0, place, n1, s1, hw, e1, e2, e3, e4, g0⟩ := begin σ R o hp
  have hb := o.hb; have hub := o.ub; have hmb := o.mb; have hq0 := o.q
  obtain ⟨σa, hσa⟩ : ∃ σa : Sg, σa = { σ with n := n1, s := s1, p := σ.p - 1, q := σ.q + 1, h := σ.h ++ [σ.q] } := ⟨_, rfl⟩
  rw [← hσa] at g0
  have oa : Ok σa := o.gn g0 (by omega) (by omega) (by omega)
  have ha1 := g0.hb; have ha2 := g0.ub; have ha3 := g0.mb
  have hqa : σa.q = σ.q + 1 := by rw [hσa]
  have oq := oa.q; have ob := oa.hb; have op := oa.p0
  have e5 : stQ (.loc 0) (.str "steps") (.int (σ.p - 1)) (stt { σ with n := n1, s := s1, q := σ.q + 1, h := σ.h ++ [σ.q] } (R ++ [W1, W2, W3])) = some (stt σa (R ++ [W1, W2, W3])) := by
    rw [pp, hσa]
  have e6 : getD (.loc 0) (.str "steps") (stt { σ with n := n1, s := s1, q := σ.q + 1, h := σ.h ++ [σ.q] } (R ++ [W1, W2, W3])) = .ok (.int σ.p) (stt { σ with n := n1, s := s1, q := σ.q + 1, h := σ.h ++ [σ.q] } (R ++ [W1, W2, W3])) := gp
  by_cases hw4 : w ∈ words4
  · have i1 := askW (σ := σa) (R := R) (w := w) (b := true) (by rw [List.any_eq_true]; exact ⟨w, hw4, by simp⟩)
    obtain ⟨s, l, a, b, X, σ', hto, l1, l2, l3, e7, h1, h2, h3, hs, hins, hops, hil, g1⟩ := wide_all hbd hw4 σa (R ++ [W1, W2, W3, W2]) σ.q place oa (by have : σa.B = σ.B := g0.b; simp only [List.length_append]; omega) (by omega) (by omega)
    have hm1 := g1.ub; have hm2 := g1.mb; have hp1 := g1.p0 oa.p0
    obtain ⟨f1, f2, f3, f4⟩ := finish (σ := σ') (R := R ++ [W1, W2, W3, W2] ++ X) h1 h2 (by omega) (by omega)
    have gE : EntOk (R ++ [W1, W2, W3, W2] ++ X) ⟨s, l, a, b⟩ := ⟨h1, h2, h3, ⟨hs.to, hs.op, hs.inn, hs.cl.mono (by omega)⟩, fun i hi => (hins i hi).2.mono (by omega), by show s.ops.length + s.ins.length ≤ 10; omega⟩
    have g2 := Gn.fin gE g1.s hops (by have b1 : σa.B = σ.B := g0.b; have b2 : σ'.B = σa.B := g1.b; simp only [List.length_append] at l1 l2 l3; exact ⟨by show σ'.B ≤ l; omega, by show σ'.B ≤ a; omega, by show σ'.B ≤ b; omega⟩)
    have gg := ((g0.old (X := [W1, W2, W3, W2])).trans g1).trans (X := []) (by rw [List.append_nil]; exact g2)
    rw [List.append_nil, List.append_assoc] at gg
    refine ⟨s, [W1, W2, W3, W2] ++ X, _, ?_, hs, fun i hi => (hins i hi).1, hops, gg.weak (by simp [gOf, hto]) (by simp only [mOf, List.nil_append]; exact List.perm_append_comm) (by omega) (by omega) (by omega)⟩
    rw [F_law_made_succ]
    unfold b_law_made
    rw [← List.append_assoc]
    generalize F_law_wide (n + 1) = G at *
    generalize F_law_made (n + 1) = G2 at *
    generalize F_law_body (n + 1) = G3 at *
    generalize ((k + 1 : Nat) : Int) = kk at *
    generalize R ++ [W1, W2, W3, W2] ++ X = R4 at *
    simp -implicitDefEqProofs [startE, addO, joinL, e1, e2, e3, e4, e5, e6, i1, e7, f1, f2, f3, f4, tyU, tyM, stt_app, gu, gm, -getD_loc, -stQ_loc, -appD_loc]
  · have i1 := askW (σ := σa) (R := R) (w := w) (b := false) (by rw [← Bool.not_eq_true, List.any_eq_true]; rintro ⟨x, hx, he⟩; exact hw4 (by rw [← beq_iff_eq.mp he]; exact hx))
    have hw13 : w ∈ words13 := (List.mem_append.mp hw).resolve_right hw4
    obtain ⟨d, ops, l0, a, n2, s2, X, e7, l1, h1, h2, hs, hops, hsd⟩ := flat_all σa (R ++ [W1, W2, W3, W2]) w σ.q place oa.s (by omega) (by omega) hw13
    obtain ⟨R4, hR4⟩ : ∃ R4, R4 = R ++ [W1, W2, W3, W2] ++ X := ⟨_, rfl⟩
    rw [← hR4] at e7 h1 h2
    obtain ⟨T, hT⟩ : ∃ T : Sto, T = [.lst [], .lst [.loc (R4.length + 4)], .lst [d, .loc (a + 4), .loc (R4.length + 4)]] := ⟨_, rfl⟩
    have g1 : Gn σa { σa with n := n2, s := s2 } (R4 ++ T) [] [] 0 0 0 := Gn.ns hsd
    have k1 : (R4 ++ T)[R4.length + 2]? = some (.lst [(⟨σ.q, d, ops, []⟩ : St).d, .loc (a + 4), .loc (R4.length + 4)]) := by rw [hT]; simp
    have k2 : (R4 ++ T)[a]? = some (aL (⟨σ.q, d, ops, []⟩ : St).ops) := get_old h2
    have k3 : (R4 ++ T)[R4.length]? = some (.lst ((⟨σ.q, d, ops, []⟩ : St).ins.map inD')) := by rw [hT]; simp
    obtain ⟨f1, f2, f3, f4⟩ := finish (σ := { σa with n := n2, s := s2 }) (R := R4 ++ T) (s := ⟨σ.q, d, ops, []⟩) k1 k2 (by show σa.u.length + ops.length ≤ 10000; omega) (by show σa.m.length ≤ 10000; omega)
    have gE : EntOk (R4 ++ T) ⟨⟨σ.q, d, ops, []⟩, R4.length + 2, a, R4.length⟩ := ⟨k1, k2, k3, ⟨hs.to, hs.op, hs.inn, hs.cl.mono (by omega)⟩, (fun i hi => by cases hi), by show ops.length + 0 ≤ 10; omega⟩
    have g2 := Gn.fin (σ := { σa with n := n2, s := s2 }) gE hsd hops (by have b1 : σa.B = σ.B := g0.b; have b3 := congrArg List.length hR4; simp only [List.length_append] at b3; simp only [List.length_append] at l1; exact ⟨by show σa.B ≤ R4.length + 2; omega, by show σa.B ≤ a; omega, by show σa.B ≤ R4.length; omega⟩)
    have gg := ((g0.old (X := [W1, W2, W3, W2] ++ X ++ T)).trans (X := []) (by rw [List.append_nil, show R ++ ([W1, W2, W3, W2] ++ X ++ T) = R4 ++ T by rw [hR4]; simp]; exact g1)).trans (X := []) (by rw [List.append_nil, List.append_nil, show R ++ ([W1, W2, W3, W2] ++ X ++ T) = R4 ++ T by rw [hR4]; simp]; exact g2)
    rw [List.append_nil, List.append_nil] at gg
    refine ⟨⟨σ.q, d, ops, []⟩, [W1, W2, W3, W2] ++ X ++ T, _, ?_, ⟨hs.to, hs.op, hs.inn, hs.cl.mono (by omega)⟩, (fun i hi => by cases hi), hops, gg.weak (by simp [gOf]) (by simp [mOf]) (by omega) (by omega) (by omega)⟩
    have hl0 : (R4 ++ [Ob.lst [], .lst [.loc (R4.length + 4)]])[l0]? = some (.lst [d, .loc (a + 4)]) := get_old h1
    have hadd : addD (.loc (l0 + 4)) (.loc (R4.length + 1 + 4)) (stt { σa with n := n2, s := s2 } (R4 ++ [Ob.lst [], .lst [.loc (R4.length + 4)]])) = .ok (.loc (R4.length + 2 + 4)) (stt { σa with n := n2, s := s2 } (R4 ++ T)) := by
      rw [addD_loc, stt_r, stt_r, hl0, hT]
      simp [addO, joinL, stt_app]
    have hadd0 : addD (.loc (R.length + 4)) (.loc (R.length + 1 + 4)) (stt σ (R ++ [W1, W2])) = .ok (.loc (R.length + 2 + 4)) (stt σ (R ++ [W1, W2, W3])) := by
      rw [addD_loc, stt_r, stt_r]
      simp [addO, joinL, stt_app]
    rw [F_law_made_succ, show R ++ ([W1, W2, W3, W2] ++ X ++ T) = R4 ++ T by rw [hR4]; simp]
    unfold b_law_made
    generalize F_law_wide (n + 1) = G at *
    generalize F_law_made (n + 1) = G2 at *
    generalize F_law_body (n + 1) = G3 at *
    generalize ((k + 1 : Nat) : Int) = kk at *
    simp -implicitDefEqProofs [startE, addO, joinL, e1, e2, e3, e4, e5, e6, i1, e7, hadd0, hadd, f1, f2, f3, f4, tyU, tyM, stt_app, gu, gm, -getD_loc, -stQ_loc, -appD_loc, -addD_loc]
end K21
end
section
namespace K21
open PySem PySem.Spec PyProof.Rows L2 Sm
def dL (ss : List St) : Ob := .lst (ss.map (·.d))
theorem Gn.rebase {σ σ' : Sg} {R : Sto} {g m : List Int} {c1 c2 c3 : Int} {c : Nat} (a : Gn { σ with B := c } σ' R g m c1 c2 c3) (h : σ.B ≤ c) : Gn σ { σ' with B := σ.B } R g m c1 c2 c3 :=
  ⟨a.h, a.u, a.m, a.hb, a.ub, a.mb, a.q, a.p0, a.s, fun e he => by
    obtain ⟨h1, h2, h3⟩ := a.nw e he
    have h1 : c ≤ e.l := h1
    have h2 : c ≤ e.a := h2
    have h3 : c ≤ e.b := h3
    exact ⟨by omega, by omega, by omega⟩, rfl⟩
theorem get_mut {R Z : Sto} {x y q : Ob} {l : Nat} (h : (R ++ x :: Z)[l]? = some q) (hl : R.length + 1 ≤ l) : (R ++ y :: Z)[l]? = some q := by
  rw [List.getElem?_append_right (by omega)] at h ⊢
  rw [show l - R.length = (l - R.length - 1) + 1 by omega] at h ⊢
  simpa using h
theorem Gn.mut {σ σ' : Sg} {R Z : Sto} {x : Ob} (y : Ob) {g m : List Int} {c1 c2 c3 : Int} (a : Gn σ σ' (R ++ x :: Z) g m c1 c2 c3) (h : R.length + 1 ≤ σ.B) : Gn σ σ' (R ++ y :: Z) g m c1 c2 c3 := by
  obtain ⟨ms, m1, m2⟩ := a.m
  have m3 : σ'.m.drop σ.m.length = ms := by rw [m1, List.drop_left]
  refine ⟨a.h, a.u, ⟨ms, m1, fun e he => ?_⟩, a.hb, a.ub, a.mb, a.q, a.p0, a.s, a.nw, a.b⟩
  obtain ⟨h1, h2, h3⟩ := a.nw e (by rw [m3]; exact he)
  obtain ⟨q1, q2, q3, q4⟩ := m2 e he
  exact ⟨get_mut q1 (by omega), get_mut q2 (by omega), get_mut q3 (by omega), q4⟩
/-- the steps made so far -/
structure Ss (k : Nat) (ss : List St) : Prop where
  ok : ∀ s ∈ ss, SOk s (3 * k + 3)
  bd : ∀ s ∈ ss, ∀ i ∈ s.ins, Bod (k + 1) i.d i.g i.m
  op : ∀ s ∈ ss, s.ops.length ≤ 5
theorem Ss.nil {k : Nat} : Ss k [] := ⟨(fun _ h => by cases h), (fun _ h => by cases h), (fun _ h => by cases h)⟩
theorem Ss.snoc {k : Nat} {ss : List St} {s : St} (h : Ss k ss) (h1 : SOk s (3 * k + 3)) (h2 : ∀ i ∈ s.ins, Bod (k + 1) i.d i.g i.m) (h3 : s.ops.length ≤ 5) : Ss k (ss ++ [s]) := by
  refine ⟨fun x hx => ?_, fun x hx => ?_, fun x hx => ?_⟩ <;> (rcases List.mem_append.mp hx with q | q)
  · exact h.ok x q
  · rw [List.mem_singleton.mp q]; exact h1
  · exact h.bd x q
  · rw [List.mem_singleton.mp q]; exact h2
  · exact h.op x q
  · rw [List.mem_singleton.mp q]; exact h3
theorem get_dL {R Z : Sto} {ss : List St} : (R ++ dL ss :: Z)[R.length]? = some (dL ss) := by simp
/-- steps.append(made(state, deep)) -/
theorem addStep {k n : Nat} (hm : MadeOk k (F_law_made n)) {σ : Sg} {R Z : Sto} {ss : List St} (o : Ok σ) (hp : 0 < σ.p) (hB : σ.B ≤ R.length + 1 + Z.length) (hl : ss.length ≤ 1000) :
    ∃ s X σ', F_law_made n [.loc 0, .int ((k + 1 : Nat) : Int)] (stt σ (R ++ dL ss :: Z)) = .ok s.d (stt σ' (R ++ dL ss :: (Z ++ X))) ∧
      appD (.loc (R.length + 4)) s.d (stt σ' (R ++ dL ss :: (Z ++ X))) = .ok .non (stt σ' (R ++ dL (ss ++ [s]) :: (Z ++ X))) ∧
      SOk s (3 * k + 3) ∧ (∀ i ∈ s.ins, Bod (k + 1) i.d i.g i.m) ∧ s.ops.length ≤ 5 ∧ Gn σ σ' (R ++ dL ss :: (Z ++ X)) (gOf s) (mOf s) 0 0 0 := by
  obtain ⟨s, X, σ', e, h1, h2, h3, g⟩ := hm σ (R ++ dL ss :: Z) o (by simp; omega) hp
  have er : R ++ dL ss :: Z ++ X = R ++ dL ss :: (Z ++ X) := by simp
  rw [er] at e g
  refine ⟨s, X, σ', e, ?_, h1, h2, h3, g⟩
  rw [appD_e (xs := ss.map (·.d)) (by rw [stt_r]; exact get_dL) (by simp; omega)]
  rw [set_r]
  simp [dL]
theorem bodyLoop {k n : Nat} (W : List D → Mo D) (Bo : List D → Mo D) (hm : MadeOk k (F_law_made n)) {σ : Sg} {R : Sto} (o : Ok σ) (hB : σ.B = R.length + 1) (z : Int) (hz : z ≤ 1000) (z1 : D) :
    ∃ ss Z σ' f, loopI (kName 4) (l_law_body_0 W (F_law_made n) Bo) (rgD 0 z.toNat) [some (.loc 0), some (.int ((k + 1 : Nat) : Int)), some (.loc (R.length + 4)), some z1, none, none] (stt σ (R ++ [dL []])) = .nx [some (.loc 0), some (.int ((k + 1 : Nat) : Int)), some (.loc (R.length + 4)), some z1, f, none] (stt σ' (R ++ dL ss :: Z)) ∧
      Ss k ss ∧ ss.length ≤ z.toNat ∧ Gn σ σ' (R ++ dL ss :: Z) (ss.flatMap gOf) (ss.flatMap mOf) 0 0 0 := by
  obtain ⟨ρ', S', e, ss, Z, σ', f, rfl, rfl, h1, h2, g⟩ := loopI_inv (k := kName 4) (s := l_law_body_0 W (F_law_made n) Bo) (ds := rgD 0 z.toNat) (ρ := [some (.loc 0), some (.int ((k + 1 : Nat) : Int)), some (.loc (R.length + 4)), some z1, none, none]) (S := stt σ (R ++ [dL []]))
    (fun i ρ S => ∃ ss Z σ' f, ρ = [some (.loc 0), some (.int ((k + 1 : Nat) : Int)), some (.loc (R.length + 4)), some z1, f, none] ∧ S = stt σ' (R ++ dL ss :: Z) ∧ Ss k ss ∧ ss.length ≤ i ∧ Gn σ σ' (R ++ dL ss :: Z) (ss.flatMap gOf) (ss.flatMap mOf) 0 0 0)
    (by
      rintro i d ρ S hd ⟨ss, Z, σ', f, rfl, rfl, h1, h2, g⟩
      obtain ⟨hi, rfl⟩ := rgD_get hd
      have o' : Ok σ' := o.gn g (by have := o.hb; omega) (by have := o.ub; omega) (by have := o.mb; omega)
      refine ⟨_, _, rfl, ?_⟩
      by_cases hp : 0 < σ'.p
      · obtain ⟨s, X, σ2, e1, e2, q1, q2, q3, g2⟩ := addStep hm (ss := ss) (Z := Z) (R := R) o' hp (by rw [g.b, hB]; omega) (by omega)
        have hpp : (decide (σ'.p > 0)) = true := by simpa using hp
        have ty : tyD "list" (.loc (R.length + 4)) (stt σ' (R ++ dL ss :: Z)) = true := tyD_lst (xs := ss.map (·.d)) (by rw [stt_r]; exact get_dL)
        refine ⟨[some (.loc 0), some (.int ((k + 1 : Nat) : Int)), some (.loc (R.length + 4)), some z1, some (.int (0 + (i : Nat))), none], stt σ2 (R ++ dL (ss ++ [s]) :: (Z ++ X)), .inl ?_, ss ++ [s], Z ++ X, σ2, _, rfl, rfl, h1.snoc q1 q2 q3, by simp; omega, ?_⟩
        · unfold l_law_body_0
          generalize F_law_made n = G at *
          generalize ((k + 1 : Nat) : Int) = kk at *
          simp -implicitDefEqProofs [gp, e1, e2, ty, hp, -getD_loc, -appD_loc]
        · have g3 := g.old (X := X)
          rw [show R ++ dL ss :: Z ++ X = R ++ dL ss :: (Z ++ X) by simp] at g3
          have g4 := g3.trans (X := []) (by rw [List.append_nil]; exact g2)
          rw [List.append_nil] at g4
          exact (g4.mut (dL (ss ++ [s])) (by omega)).weak (by simp) (by simp) (by omega) (by omega) (by omega)
      · have ty : tyD "list" (.loc (R.length + 4)) (stt σ' (R ++ dL ss :: Z)) = true := tyD_lst (xs := ss.map (·.d)) (by rw [stt_r]; exact get_dL)
        refine ⟨[some (.loc 0), some (.int ((k + 1 : Nat) : Int)), some (.loc (R.length + 4)), some z1, some (.int (0 + (i : Nat))), none], stt σ' (R ++ dL ss :: Z), .inl ?_, ss, Z, σ', _, rfl, rfl, h1, by omega, g⟩
        unfold l_law_body_0
        generalize F_law_made n = G at *
        generalize ((k + 1 : Nat) : Int) = kk at *
        simp -implicitDefEqProofs [gp, ty, hp, -getD_loc, -appD_loc])
    ⟨[], [], σ, none, rfl, rfl, .nil, Nat.le_refl _, Gn.refl o.s⟩
  rw [rgD_len] at h2
  exact ⟨ss, Z, σ', f, e, h1, h2, g⟩
theorem flat_len {α β : Type} (f : α → List β) (c : Nat) : ∀ {xs : List α}, (∀ x ∈ xs, (f x).length ≤ c) → (xs.flatMap f).length ≤ c * xs.length
  | [], _ => by simp
  | x :: xs, h => by
    have h1 := flat_len f c (xs := xs) fun y hy => h y (List.mem_cons_of_mem _ hy)
    have h2 := h x List.mem_cons_self
    rw [List.flatMap_cons, List.length_append, List.length_cons, Nat.mul_succ]
    omega
theorem nmA_len (a : At) : (nmA a).length ≤ 1 := by cases a <;> simp [nmA]
theorem useA {σ : Sg} {R : Sto} {a : At} (h : σ.u.length ≤ 10000) : appD (.loc 2) (atD a) (stt σ R) = .ok .non (stt { σ with u := σ.u ++ [a] } R) := by
  rw [appD_e (xs := σ.u.map atD) stt_2 (by simp; omega)]
  have : Ob.lst (σ.u.map atD ++ [atD a]) = aL (σ.u ++ [a]) := by simp [aL]
  rw [this, set_2]
/-- the text: its steps and the last atom -/
theorem bodyEnd {k : Nat} {σ σ' : Sg} {R Z : Sto} {ss : List St} (o : Ok σ) (hs : Ss k ss) (hl : ss.length ≤ 1000) (g : Gn σ σ' (R ++ Z) (ss.flatMap gOf) (ss.flatMap mOf) 0 0 0) (hub : (σ.u.length : Int) + 8 * σ.p + 1 ≤ 800) :
    ∃ a σ2 σ3, F_law_atom [.loc 0] (stt σ' (R ++ Z)) = .ok (atD a) (stt σ2 (R ++ Z)) ∧ appD (.loc 2) (atD a) (stt σ2 (R ++ Z)) = .ok .non (stt σ3 (R ++ Z)) ∧ Gn σ σ3 (R ++ Z) (ss.flatMap gOf) (nmA a ++ ss.flatMap mOf) 0 1 0 ∧
      Bod (k + 2) (.tup [.tup (ss.map (·.d)), atD a]) (ss.flatMap gOf) (nmA a ++ ss.flatMap mOf) ∧ Cl (.tup [.tup (ss.map (·.d)), atD a]) (3 * k + 5) ∧ σ3 = { σ2 with u := σ2.u ++ [a] } := by
  have o' : Ok σ' := o.gn g (by have := o.hb; omega) (by have := o.ub; omega) (by have := o.mb; omega)
  obtain ⟨a, n, s, e, h, g2⟩ := atomG σ' (R ++ Z) o'
  have hu : σ'.u.length ≤ 800 := by have := o'.ub; have := o'.p0; omega
  have hh : σ'.h.length ≤ 400 := by have := o'.hb; have := o'.p0; omega
  have g3 : Gn { σ' with n := n, s := s } { σ' with n := n, s := s, u := σ'.u ++ [a] } (R ++ Z) [] (nmA a) 0 1 0 :=
    ⟨⟨[], by simp, .refl _⟩, ⟨[a], rfl, by simp⟩, ⟨[], by simp, fun _ h => by cases h⟩, by simp, by simp; omega, by simp, by simp, id, h, by simp, rfl⟩
  have g4 := (g.trans (X := []) (by rw [List.append_nil]; exact g2)).trans (X := []) (by rw [List.append_nil, List.append_nil]; exact g3)
  rw [List.append_nil, List.append_nil] at g4
  refine ⟨a, _, { σ' with n := n, s := s, u := σ'.u ++ [a] }, e, ?_, g4.weak (by simp) (by simp only [List.append_nil]; exact List.perm_append_comm) (by omega) (by omega) (by omega), ?_, ?_, rfl⟩
  · exact useA (σ := { σ' with n := n, s := s }) (by show σ'.u.length ≤ _; omega)
  · have l1 : (ss.flatMap gOf).length ≤ 100000 := by
      obtain ⟨gs, p1, p2⟩ := g.h
      have := p2.length_eq
      have := congrArg List.length p1
      simp at this
      omega
    have l2 : (nmA a ++ ss.flatMap mOf).length ≤ 100000 := by
      obtain ⟨us, p1, p2⟩ := g.u
      have q1 := p2.length_eq
      have q2 := flat_len nmA 1 (xs := us) fun x _ => nmA_len x
      have q3 := congrArg List.length p1
      rw [List.length_append] at q3
      have := nmA_len a
      rw [List.length_append]
      omega
    have l3 := flat_len (·.ops) 5 (xs := ss) hs.op
    exact ⟨ss, a, rfl, rfl, rfl, l1, l2, by omega, fun s hx => ⟨(hs.ok s hx).to, (hs.ok s hx).op, (hs.ok s hx).inn, hs.bd s hx⟩⟩
  · refine (cl_two (c := 3 * k + 4) (cl_tup (c := 3 * k + 3) fun x hx => ?_) ((cl_at a).mono (by omega))).mono (by omega)
    obtain ⟨s, h1, rfl⟩ := List.mem_map.mp hx
    exact (hs.ok s h1).cl
theorem body_succ {k n : Nat} (hm : MadeOk k (F_law_made n)) : BodyOk (k + 1) (F_law_body (n + 1)) := by
  intro σ R o hB hu
  obtain ⟨z, n1, s1, e1, z0, z8, h1⟩ := take σ (R ++ [dL []]) 8 o.s (by omega) (by omega)
  have g1 : Gn σ { σ with n := n1, s := s1 } (R ++ [dL []]) [] [] 0 0 0 := Gn.ns h1
  have o1 : Ok { σ with n := n1, s := s1 } := o.gn g1 (by have := o.hb; omega) (by have := o.ub; omega) (by have := o.mb; omega)
  have o2 : Ok { σ with n := n1, s := s1, B := R.length + 1 } := ⟨o1.s, o1.q, o1.p0, o1.hb, o1.ub, o1.mb⟩
  obtain ⟨ss, Z, σ2, f, e2, hs, hl, g2⟩ := bodyLoop (F_law_wide n) (F_law_body n) hm (R := R) o2 rfl z (by omega) (.int z)
  change loopI (kName 4) (l_law_body_0 (F_law_wide n) (F_law_made n) (F_law_body n)) (rgD 0 z.toNat) _ (stt { σ with n := n1, s := s1 } (R ++ [dL []])) = _ at e2
  have g2' : Gn { σ with n := n1, s := s1 } { σ2 with B := σ.B } (R ++ dL ss :: Z) (ss.flatMap gOf) (ss.flatMap mOf) 0 0 0 := Gn.rebase (c := R.length + 1) g2 (by show σ.B ≤ _; omega)
  obtain ⟨a, σ3, σ4, e3, e4, g3, hb, hc, _⟩ := bodyEnd o1 hs (by omega) g2' hu
  have g4 : Gn σ σ4 (R ++ dL ss :: Z) (ss.flatMap gOf) (nmA a ++ ss.flatMap mOf) 0 1 0 := by
    have := (Gn.ns (σ := σ) (R := R ++ dL ss :: Z) h1).trans (X := []) (by rw [List.append_nil]; exact g3)
    rw [List.append_nil] at this
    exact this
  refine ⟨_, _, _, dL ss :: Z, σ4, ?_, hb, hc.mono (by omega), g4⟩
  have ht : tupleD (.loc (R.length + 4)) (stt σ4 (R ++ dL ss :: Z)) = .ok (.tup (ss.map (·.d))) (stt σ4 (R ++ dL ss :: Z)) := tupleD_loc (by rw [stt_r]; exact get_dL)
  have hn : (stt σ R) ++ [Ob.lst []] = stt σ (R ++ [dL []]) := rfl
  have e3 : F_law_atom [.loc 0] (stt σ2 (R ++ dL ss :: Z)) = .ok (atD a) (stt σ3 (R ++ dL ss :: Z)) := e3
  have hk : (0 : Int) < ((k + 1 : Nat) : Int) := by omega
  rw [F_law_body_succ]
  unfold b_law_body
  generalize F_law_made n = G at *
  generalize F_law_wide n = G2 at *
  generalize F_law_body n = G3 at *
  generalize ((k + 1 : Nat) : Int) = kk at *
  simp -implicitDefEqProofs [startE, hn, hk, cFor_e, e1, e2, e3, e4, gu, tyU, ht, rng1_e (show -4611686018427387904 ≤ z by omega) (show z < 4611686018427387904 by omega), -getD_loc, -appD_loc]
theorem body_zero {n : Nat} : BodyOk 0 (F_law_body (n + 1)) := by
  intro σ R o hB hu
  have g1 : Gn σ σ (R ++ [dL []]) [] [] 0 0 0 := Gn.refl o.s
  obtain ⟨a, n1, s1, e3, h1, g2⟩ := atomG σ (R ++ [dL []]) o
  have hul : σ.u.length ≤ 800 := by have := o.ub; have := o.p0; omega
  have e4 : appD (.loc 2) (atD a) (stt { σ with n := n1, s := s1 } (R ++ [dL []])) = .ok .non (stt { σ with n := n1, s := s1, u := σ.u ++ [a] } (R ++ [dL []])) := useA (σ := { σ with n := n1, s := s1 }) (by show σ.u.length ≤ _; omega)
  refine ⟨.tup [.tup [], atD a], [], nmA a, [dL []], { σ with n := n1, s := s1, u := σ.u ++ [a] }, ?_, ⟨[], a, rfl, rfl, by simp, by simp, by have := nmA_len a; omega, by simp, fun _ h => by cases h⟩, ?_, ⟨⟨[], by simp, .refl _⟩, ⟨[a], rfl, by simp⟩, ⟨[], by simp, fun _ h => by cases h⟩, by simp, by simp; omega, by simp, by simp, id, h1, by simp, rfl⟩⟩
  · have ht : tupleD (.loc (R.length + 4)) (stt { σ with n := n1, s := s1, u := σ.u ++ [a] } (R ++ [dL []])) = .ok (.tup []) (stt { σ with n := n1, s := s1, u := σ.u ++ [a] } (R ++ [dL []])) := tupleD_loc (by rw [stt_r]; simp [dL])
    have hn : (stt σ R) ++ [Ob.lst []] = stt σ (R ++ [dL []]) := rfl
    rw [F_law_body_succ]
    unfold b_law_body
    generalize F_law_made n = G at *
    generalize F_law_wide n = G2 at *
    generalize F_law_body n = G3 at *
    simp -implicitDefEqProofs [startE, hn, cFor_e, e3, e4, gu, tyU, ht, rng1_e, rgD, loopI, -getD_loc, -appD_loc]
  · exact (cl_two (c := 1) ((cl_ints []).mono (by omega)) (cl_at a)).mono (by omega)
/-- as the law asks it -/
theorem made2 : MadeOk 2 (F_law_made 40) := made (n := 38) (by omega) (body_succ (n := 37) (made (n := 35) (by omega) (body_succ (n := 34) (made (n := 32) (by omega) (body_zero (n := 31))))))
end K21
end
section
namespace K21
open PySem PySem.Spec PyProof.Rows L2 Sm
theorem Bod.up {n : Nat} : ∀ {d : D} {g m : List Int}, Bod n d g m → Bod (n + 1) d g m := by
  induction n with
  | zero => intro d g m h; exact h.elim
  | succ n ih =>
    rintro d g m ⟨ss, a, h1, h2, h3, h4, h5, h6, h7⟩
    exact ⟨ss, a, h1, h2, h3, h4, h5, h6, fun s hs => ⟨(h7 s hs).1, (h7 s hs).2.1, (h7 s hs).2.2.1, fun i hi => ih ((h7 s hs).2.2.2 i hi)⟩⟩
theorem Bod.ups {n : Nat} {d : D} {g m : List Int} (h : Bod n d g m) : ∀ k, Bod (n + k) d g m
  | 0 => h
  | k + 1 => (Bod.ups h k).up
theorem map_cl {S : Sto} {k : Nat} : ∀ {xs : List D}, (∀ x ∈ xs, Cl x k) → mapO (cont S k) xs = some xs := fun h => by
  refine mapO_id fun x hx => ?_
  exact h x hx S k (Nat.le_refl _)
theorem right {S : Sto} {l l' : Nat} {xs : List D} (h : S[l]? = some (.lst xs)) (h' : S[l']? = some (.lst xs)) (hc : ∀ x ∈ xs, Cl x 59) (ht : ∀ x ∈ xs, ∃ ys, x = .tup ys) (hl : xs.length ≤ 1000) :
    F_law_right [.loc l, .loc l'] S = .ok (.bl true) (S.set l (.lst (xs ++ [.int 0]))) := by
  have hne : neD (.loc l) (.loc l') S = .ok (.bl false) S := by
    refine ne_cont (r := .lsc xs) ?_ ?_ (by intro l h; cases h)
    · rw [cont_loc, h]; simp [map_cl hc]
    · rw [cont_loc, h']; simp [map_cl hc]
  have hloop : ∃ f, cFor (cIt (cVar 0)) (kName 2) l_law_right_0 [some (.loc l), some (.loc l'), none] S = .nx [some (.loc l), some (.loc l'), f] S := by
    obtain ⟨ρ', S', e, f, rfl, rfl⟩ := loopL_inv (k := kName 2) (s := l_law_right_0) (l := l) (ds := xs) (ρ := [some (.loc l), some (.loc l'), none]) (S := S)
      (fun i ρ S' => ∃ f, ρ = [some (.loc l), some (.loc l'), f] ∧ S' = S)
      (by rintro i ρ S' ⟨f, rfl, rfl⟩; exact h)
      (by
        rintro i d ρ S' hd ⟨f, rfl, rfl⟩
        obtain ⟨ys, rfl⟩ := ht d (List.mem_of_getElem? hd)
        refine ⟨_, _, rfl, [some (.loc l), some (.loc l'), some (.tup ys)], S', .inl ?_, _, rfl, rfl⟩
        unfold l_law_right_0
        simp -implicitDefEqProofs [isiQ])
      ⟨none, rfl, rfl⟩
    refine ⟨f, ?_⟩
    rw [cFor_e]
    simp -implicitDefEqProofs [h]
    exact e
  obtain ⟨f, hf⟩ := hloop
  have ha := appD_e (e := .int 0) h (by omega)
  have ty : tyD "list" (.loc l) S = true := tyD_lst h
  unfold F_law_right b_law_right
  simp -implicitDefEqProofs [startE, isiQ, hne, hf, ha, ty, h, -appD_loc]
end K21
end
section
namespace K21
open PySem PySem.Spec PyProof.Rows L2 Sm
theorem set_app {S X : Sto} {l : Nat} {o : Ob} (h : S.length ≤ l) : ∃ X', (S ++ X).set l o = S ++ X' := ⟨X.set (l - S.length) o, by rw [List.set_append_right _ _ h]⟩
theorem at_cl {ops : List At} : ∀ x ∈ ops.map atD, Cl x 59 := fun x hx => by
  obtain ⟨a, _, rfl⟩ := List.mem_map.mp hx
  exact (cl_at a).mono (by omega)
theorem at_tup {ops : List At} : ∀ x ∈ ops.map atD, ∃ ys, x = .tup ys := fun x hx => by
  obtain ⟨a, _, rfl⟩ := List.mem_map.mp hx
  cases a
  · exact ⟨_, rfl⟩
  · exact ⟨_, rfl⟩
theorem in_cl {ins : List In} (h : ∀ i ∈ ins, Cl i.d 12) : ∀ x ∈ ins.map inD', Cl x 59 := fun x hx => by
  obtain ⟨a, ha, rfl⟩ := List.mem_map.mp hx
  exact (cl_two (c := 12) ((cl_ints _).mono (by omega)) (h a ha)).mono (by omega)
theorem in_tup {ins : List In} : ∀ x ∈ ins.map inD', ∃ ys, x = .tup ys := fun x hx => by
  obtain ⟨a, _, rfl⟩ := List.mem_map.mp hx
  exact ⟨_, rfl⟩
/-- one step asked -/
theorem askStep {S : Sto} {e : En'} {a b : Nat} (hop : OpOk e.s) (hin : InOk e.s) (ha : S[a]? = some (aL e.s.ops)) (hb : S[b]? = some (.lst (e.s.ins.map inD'))) (hcl : ∀ i ∈ e.s.ins, Cl i.d 12) (hl : e.s.ops.length ≤ 10) (hl2 : e.s.ins.length ≤ 10)
    (p0 p1 p2 p3 p4 p5 p6 p7 p11 p12 : Option D) : ∃ X, l_law_3 [p0, p1, p2, p3, p4, p5, p6, p7, some e.s.d, some (.loc a), some (.loc b), p11, p12] S = .nx [p0, p1, p2, p3, p4, p5, p6, p7, some e.s.d, some (.loc a), some (.loc b), p11, p12] (S ++ X) := by
  obtain ⟨l, X, e1, l1, h1⟩ := hop S
  have e2 := right (S := S ++ X) (xs := e.s.ops.map atD) h1 (get_old ha) at_cl at_tup (by simp; omega)
  obtain ⟨X', h2⟩ := set_app (X := X) (o := .lst (e.s.ops.map atD ++ [.int 0])) l1
  rw [h2] at e2
  obtain ⟨l', Y, e3, l2, h3⟩ := hin (S ++ X')
  have e4 := right (S := S ++ X' ++ Y) (xs := e.s.ins.map inD') h3 (get_old (get_old hb)) (in_cl hcl) in_tup (by simp; omega)
  obtain ⟨Y', h4⟩ := set_app (X := Y) (o := .lst (e.s.ins.map inD' ++ [.int 0])) l2
  rw [h4] at e4
  refine ⟨X' ++ Y', ?_⟩
  rw [← List.append_assoc]
  unfold l_law_3
  generalize S ++ X' ++ Y' = S4 at *
  generalize S ++ X' ++ Y = S3 at *
  generalize S ++ X' = S2 at *
  generalize S ++ X = S1 at *
  simp -implicitDefEqProofs [e1, e2, e3, e4]
end K21
end
section
namespace K21
open PySem PySem.Spec PyProof.Rows L2 Sm
theorem askAll {σ : Sg} {R : Sto} (hE : ∀ e ∈ σ.m, EntOk R e) (p0 p2 p3 p4 p5 p6 p7 p8 p9 p10 p11 p12 : Option D) :
    ∃ X f g h, cFor (cIt (cOp getD (cVar 1) (cC (.str "made")))) (kTup (kCons (kName 8) (kCons (kName 9) (kCons (kName 10) kNil))) 3) l_law_3 [p0, some (.loc 0), p2, p3, p4, p5, p6, p7, p8, p9, p10, p11, p12] (stt σ R) = .nx [p0, some (.loc 0), p2, p3, p4, p5, p6, p7, f, g, h, p11, p12] (stt σ (R ++ X)) := by
  obtain ⟨ρ', S', e, X, f, g, h, rfl, rfl⟩ := loopL_inv (k := kTup (kCons (kName 8) (kCons (kName 9) (kCons (kName 10) kNil))) 3) (s := l_law_3) (l := 3) (ds := σ.m.map fun e => .loc (e.l + 4)) (ρ := [p0, some (.loc 0), p2, p3, p4, p5, p6, p7, p8, p9, p10, p11, p12]) (S := stt σ R)
    (fun i ρ S' => ∃ X f g h, ρ = [p0, some (.loc 0), p2, p3, p4, p5, p6, p7, f, g, h, p11, p12] ∧ S' = stt σ (R ++ X))
    (by rintro i ρ S' ⟨X, f, g, h, rfl, rfl⟩; exact stt_3)
    (by
      rintro i d ρ S' hd ⟨X, f, g, h, rfl, rfl⟩
      rw [List.getElem?_map] at hd
      obtain ⟨e, he, rfl⟩ := Option.map_eq_some_iff.mp hd
      obtain ⟨h1, h2, h3, h4, h5, h6⟩ := hE e (List.mem_of_getElem? he)
      obtain ⟨Y, e1⟩ := askStep (S := stt σ (R ++ X)) (e := e) (a := e.a + 4) (b := e.b + 4) h4.op h4.inn (by rw [stt_r]; exact get_old h2) (by rw [stt_r]; exact get_old h3) h5 (by omega) (by omega) p0 (some (.loc 0)) p2 p3 p4 p5 p6 p7 p11 p12
      rw [stt_app, List.append_assoc] at e1
      have hk : kTup (kCons (kName 8) (kCons (kName 9) (kCons (kName 10) kNil))) 3 (.loc (e.l + 4)) [p0, some (.loc 0), p2, p3, p4, p5, p6, p7, f, g, h, p11, p12] (stt σ (R ++ X)) = .nx [p0, some (.loc 0), p2, p3, p4, p5, p6, p7, some e.s.d, some (.loc (e.a + 4)), some (.loc (e.b + 4)), p11, p12] (stt σ (R ++ X)) := by
        rw [kTup_l (xs := [e.s.d, .loc (e.a + 4), .loc (e.b + 4)]) (by rw [stt_r]; exact get_old h1)]
        simp -implicitDefEqProofs
      exact ⟨_, _, hk, _, _, .inl e1, X ++ Y, _, _, _, rfl, rfl⟩)
    ⟨[], p8, p9, p10, rfl, by rw [List.append_nil]⟩
  refine ⟨X, f, g, h, ?_⟩
  rw [cFor_e]
  simp -implicitDefEqProofs [gm, -getD_loc]
  simpa using e
end K21
end
section
namespace K21
open PySem PySem.Spec PyProof.Rows L2 Sm
theorem ints_cl {xs : List Int} : ∀ x ∈ xs.map D.int, Cl x 59 := fun x hx => by
  obtain ⟨i, _, rfl⟩ := List.mem_map.mp hx
  exact (cl_int i).mono (by omega)
theorem ne_ints {S : Sto} {l l' : Nat} {xs : List Int} (h : S[l]? = some (iL xs)) (h' : S[l']? = some (iL xs)) : neD (.loc l) (.loc l') S = .ok (.bl false) S := by
  refine ne_cont (r := .lsc (xs.map .int)) ?_ ?_ (by intro l h; cases h)
  · rw [cont_loc, h]; simp [iL, map_cl ints_cl]
  · rw [cont_loc, h']; simp [iL, map_cl ints_cl]
/-- one turn of the law's asking -/
theorem turn {σ : Sg} {R : Sto} (hE : ∀ e ∈ σ.m, EntOk R e) {d : D} {g m ks : List Int} {ln : Nat} (hb : Bod 40 d g m) (hg : isort σ.h = isort g) (hn : R[ln]? = some (.dct (kd ks))) (hk : ks.Nodup) (hk2 : ∀ z, z ∈ ks ↔ z ∈ m) (hl : g.length ≤ 1000 ∧ m.length ≤ 1000) (p0 p2 p5 p6 p7 p8 p9 p10 p11 p12 : Option D) :
    ∃ X f g h i j, l_law_2 [p0, some (.loc 0), p2, some d, some (.loc (ln + 4)), p5, p6, p7, p8, p9, p10, p11, p12] (stt σ R) = .nx [p0, some (.loc 0), p2, some d, some (.loc (ln + 4)), p5, p6, p7, f, g, h, i, j] (stt σ (R ++ X)) := by
  obtain ⟨X, f, g1, h, e1⟩ := askAll hE p0 p2 (some d) (some (.loc (ln + 4))) p5 p6 p7 p8 p9 p10 p11 p12
  obtain ⟨l1, Y, e2, q1, h1⟩ := given_in 40 hb (stt σ (R ++ X))
  rw [stt_app] at e2 h1
  obtain ⟨l2, Z, ks2, e3, q2, h2, k1, k2, k3⟩ := mentioned 40 hb (stt σ (R ++ X ++ Y))
  rw [stt_app] at e3 h2
  simp only [stt_len, List.length_append] at q1 q2
  have e4 := sortD_loc (S := stt σ (R ++ X ++ Y ++ Z)) (l := 1) (ns := σ.h) stt_1
  have w1 : (stt σ (R ++ X ++ Y ++ Z))[l1]? = some (iL (isort g)) := by
    have := get_old (X := Z) h1; rw [stt_app] at this; exact this
  rw [hg, stt_len, stt_app] at e4
  change _ = Rz.ok _ (stt σ (R ++ X ++ Y ++ Z ++ [iL (isort g)])) at e4
  have w2 := get_old (X := [iL (isort g)]) w1
  rw [stt_app] at w2
  have e5 := ne_ints w2 (l' := (R ++ X ++ Y ++ Z).length + 4) (by rw [stt_r]; simp [iL])
  have hdn : (stt σ (R ++ X ++ Y ++ Z ++ [iL (isort g)]))[ln + 4]? = some (.dct (kd ks)) := by rw [stt_r]; exact get_old (get_old (get_old (get_old hn)))
  have e6 := sortD_dct hdn kd_keys
  have hks : isort ks = isort ks2 := nd_isort hk k1 fun z => by rw [hk2, k2]
  rw [hks, stt_len, stt_app] at e6
  change _ = Rz.ok _ (stt σ (R ++ X ++ Y ++ Z ++ [iL (isort g)] ++ [iL (isort ks2)])) at e6
  have w3 := get_old (X := [iL (isort g)] ++ [iL (isort ks2)]) h2
  rw [stt_app, ← List.append_assoc] at w3
  have e7 := ne_ints w3 (l' := (R ++ X ++ Y ++ Z ++ [iL (isort g)]).length + 4) (by rw [stt_r]; simp [iL])
  have w4 := get_old (X := [iL (isort ks2)]) w2
  rw [stt_app] at w4
  have e8 := appD_e (e := .int 0) (xs := (isort g).map .int) w4 (by rw [List.length_map, (isort_perm g).length_eq]; omega)
  have b1 : l1 < (stt σ (R ++ X ++ Y)).length := (List.getElem?_eq_some_iff.mp h1).1
  simp only [stt_len, List.length_append] at b1
  have w5 : ((stt σ (R ++ X ++ Y ++ Z ++ [iL (isort g)] ++ [iL (isort ks2)])).set l1 (.lst ((isort g).map .int ++ [.int 0])))[l2]? = some (iL (isort ks2)) := by
    rw [List.getElem?_set_ne (by omega)]
    exact w3
  have e9 := appD_e (e := .int 0) (xs := (isort ks2).map .int) w5 (by rw [List.length_map, (isort_perm ks2).length_eq]; omega)
  obtain ⟨a1, rfl⟩ : ∃ a, l1 = a + 4 := ⟨l1 - 4, by omega⟩
  obtain ⟨a2, rfl⟩ : ∃ a, l2 = a + 4 := ⟨l2 - 4, by omega⟩
  rw [set_r] at e8 e9
  rw [set_r] at e9
  have eS : ∃ V, ((R ++ X ++ Y ++ Z ++ [iL (isort g)] ++ [iL (isort ks2)]).set a1 (.lst ((isort g).map .int ++ [.int 0]))).set a2 (.lst ((isort ks2).map .int ++ [.int 0])) = R ++ V := by
    rw [show R ++ X ++ Y ++ Z ++ [iL (isort g)] ++ [iL (isort ks2)] = R ++ (X ++ Y ++ Z ++ [iL (isort g)] ++ [iL (isort ks2)]) by simp]
    rw [List.set_append_right _ _ (by omega), List.set_append_right _ _ (by omega)]
    exact ⟨_, rfl⟩
  obtain ⟨V, hV⟩ := eS
  rw [hV] at e9
  refine ⟨V, f, g1, h, some (.loc (a1 + 4)), some (.loc (a2 + 4)), ?_⟩
  have t1 : tyQ (.loc (a1 + 4)) (stt σ (R ++ X ++ Y ++ Z)) = some (.inl "list") := by show tyO _ = _; rw [w1]; rfl
  have t2 : tyQ (.loc (a2 + 4)) (stt σ (R ++ X ++ Y ++ Z ++ [iL (isort g)])) = some (.inl "list") := by show tyO _ = _; rw [show (stt σ (R ++ X ++ Y ++ Z ++ [iL (isort g)]))[a2 + 4]? = some (iL (isort ks2)) from get_old h2]; rfl
  have y1 : tyD "list" (.loc (a1 + 4)) (stt σ (R ++ X ++ Y ++ Z ++ [iL (isort g)] ++ [iL (isort ks2)])) = true := tyD_lst (xs := (isort g).map .int) w4
  have y2 : tyD "list" (.loc (a2 + 4)) (stt σ ((R ++ X ++ Y ++ Z ++ [iL (isort g)] ++ [iL (isort ks2)]).set a1 (.lst ((isort g).map .int ++ [.int 0])))) = true := tyD_lst (xs := (isort ks2).map .int) (by rw [← set_r]; exact w5)
  unfold l_law_2
  generalize F_given_in 40 = G1 at *
  generalize F_mentioned 40 = G2 at *
  generalize l_law_3 = l3 at *
  generalize (R ++ X ++ Y ++ Z ++ [iL (isort g)] ++ [iL (isort ks2)]).set a1 (.lst ((isort g).map .int ++ [.int 0])) = R7 at *
  generalize R ++ X ++ Y ++ Z ++ [iL (isort g)] ++ [iL (isort ks2)] = R6 at *
  generalize R ++ X ++ Y ++ Z ++ [iL (isort g)] = R5 at *
  generalize (R ++ X ++ Y ++ Z).length = n4 at *
  generalize R ++ X ++ Y ++ Z = R4 at *
  generalize R ++ X ++ Y = R3 at *
  generalize R ++ X = R2 at *
  simp -implicitDefEqProofs [e1, e2, e3, e4, e5, e6, e7, e8, e9, t1, t2, y1, y2, isiQ, gh, -getD_loc, -appD_loc]
end K21
end
section
namespace K21
open PySem PySem.Spec PyProof.Rows L2 Sm
/-- the names put in -/
theorem namesLoop {S0 T : Sto} {l : Nat} {A : List At} (hA : ∀ ks, (S0 ++ .dct (kd ks) :: T)[l]? = some (aL A)) (hl : A.length ≤ 10000) (p0 p1 p2 p3 p5 p6 p7 p8 p9 p10 p11 p12 : Option D) :
    ∃ f g, loopV (kTup (kCons (kName 5) (kCons (kName 6) kNil)) 2) l_law_1 (liveX l) (A.map atD).length 0 [p0, p1, p2, p3, some (.loc S0.length), p5, p6, p7, p8, p9, p10, p11, p12] (S0 ++ .dct (kd []) :: T) = .nx [p0, p1, p2, p3, some (.loc S0.length), f, g, p7, p8, p9, p10, p11, p12] (S0 ++ .dct (kd (insAll [] (A.flatMap nmA))) :: T) := by
  obtain ⟨ρ', S', e, f, g, rfl, rfl⟩ := loopL_inv (k := kTup (kCons (kName 5) (kCons (kName 6) kNil)) 2) (s := l_law_1) (l := l) (ds := A.map atD) (ρ := [p0, p1, p2, p3, some (.loc S0.length), p5, p6, p7, p8, p9, p10, p11, p12]) (S := S0 ++ .dct (kd []) :: T)
    (fun i ρ S' => ∃ f g, ρ = [p0, p1, p2, p3, some (.loc S0.length), f, g, p7, p8, p9, p10, p11, p12] ∧ S' = S0 ++ .dct (kd (insAll [] ((A.take i).flatMap nmA))) :: T)
    (by rintro i ρ S' ⟨f, g, rfl, rfl⟩; exact hA _)
    (by
      rintro i d ρ S' hd ⟨f, g, rfl, rfl⟩
      rw [List.getElem?_map] at hd
      obtain ⟨a, ha, rfl⟩ := Option.map_eq_some_iff.mp hd
      obtain ⟨q1, q2⟩ := flat_take nmA ha
      have q3 := flat_len nmA 1 (xs := A) fun x _ => nmA_len x
      rw [q1, insAll_app]
      generalize hks : insAll [] ((A.take i).flatMap nmA) = ks
      have hkl : ks.length ≤ 20000 := by
        rw [← hks]
        have := insAll_len (ks := []) (xs := (A.take i).flatMap nmA)
        simp only [List.length_nil] at this
        omega
      cases a with
      | num z =>
        refine ⟨_, _, by simp -implicitDefEqProofs [atD]; exact ⟨rfl, rfl⟩, [p0, p1, p2, p3, some (.loc S0.length), some (.str "number"), some (.int z), p7, p8, p9, p10, p11, p12], _, .inl ?_, _, _, rfl, rfl⟩
        unfold l_law_1
        simp -implicitDefEqProofs [nmA, insAll]
      | nam z =>
        refine ⟨_, _, by simp -implicitDefEqProofs [atD]; exact ⟨rfl, rfl⟩, [p0, p1, p2, p3, some (.loc S0.length), some (.str "name"), some (.int z), p7, p8, p9, p10, p11, p12], _, .inl ?_, _, _, rfl, rfl⟩
        have hst : stQ (.loc S0.length) (.int z) (.bl true) (S0 ++ .dct (kd ks) :: T) = some (S0 ++ .dct (kd (insK ks z)) :: T) := by
          rw [stQ_loc, show (S0 ++ Ob.dct (kd ks) :: T)[S0.length]? = some (.dct (kd ks)) by simp, stO_dctI, kd_len, if_pos (fit_of (by omega)), put_kd]
          simp
        unfold l_law_1
        simp -implicitDefEqProofs [nmA, insAll, hst, -stQ_loc])
    ⟨p5, p6, rfl, rfl⟩
  refine ⟨f, g, ?_⟩
  rw [e]
  simp
end K21
end
section
namespace K21
open PySem PySem.Spec PyProof.Rows L2 Sm
theorem cell {S : Sto} (ns : List Int) (i : Int) (h0 : 0 ≤ i) (h1 : i ≤ 1000) (hl : ns.length ≤ 63) : ∃ v, F_law_cell_at [.lsc (ns.map .int), .int i] S = .ok (.int v) S := by
  by_cases h : i < ns.length
  · refine ⟨ns[i.toNat]'(by omega), ?_⟩
    have hg : (ns.map D.int)[i.toNat]? = some (.int (ns[i.toNat]'(by omega))) := by rw [List.getElem?_map, List.getElem?_eq_getElem]; rfl
    unfold F_law_cell_at b_law_cell_at
    simp -implicitDefEqProofs [startE, h, atI_nn h0, hg]
  · refine ⟨0, ?_⟩
    unfold F_law_cell_at b_law_cell_at
    simp -implicitDefEqProofs [startE, h]
theorem disp (n s : Int) : dispF 0 [(.str "number", .int n), (.str "seed", .int s), (.str "steps", .int 40), (.str "name", .int 0), (.str "here", .loc 1), (.str "used", .loc 2), (.str "made", .loc 3)] [Ob.dct [], Ob.lst [], Ob.lst [], Ob.lst []] = .ok (.loc 0) (stt ⟨n, s, 40, 0, [], [], [], 1⟩ []) := by
  rw [dispF_e (kvs := dk n s 40 0) rfl rfl (by simp [dk])]
  simp -implicitDefEqProofs [dk, mergeD, putD, stt, iL, aL]
theorem state (ns : List Int) (hl : ns.length ≤ 63) : ∃ n s, sdOk s ∧ F_law_state [.lsc (ns.map .int)] [] = .ok (.loc 0) (stt ⟨n, s, 40, 0, [], [], [], 1⟩ []) := by
  obtain ⟨v1, e1⟩ := cell (S := []) ns 1 (by omega) (by omega) hl
  obtain ⟨v0, e0⟩ := cell (S := []) ns 0 (by omega) (by omega) hl
  have m2 : (1 : Int) + v0 % 2147483646 < 2147483648 := by omega
  have m1 : 0 ≤ (1 : Int) + v0 % 2147483646 := by omega
  by_cases hv : v0 % 2 = 1
  · refine ⟨if v1 < -1 - v1 then -1 - v1 else v1, 1 + v0 % 2147483646, ⟨m1, m2⟩, ?_⟩
    unfold F_law_state b_law_state
    simp -implicitDefEqProofs [startE, e0, e1, hv, disp]
  · refine ⟨if v1 < -1 - v1 then -1 - v1 else v1, 0, ⟨by omega, by omega⟩, ?_⟩
    unfold F_law_state b_law_state
    simp -implicitDefEqProofs [startE, e0, e1, hv, disp]
end K21
end
section
namespace K21
open PySem PySem.Spec PyProof.Rows L2 Sm
theorem lawLoop {σ : Sg} (o : Ok σ) (hB : σ.B = 1) (p0 p3 p4 p5 p6 p7 p8 p9 p10 p11 p12 : Option D) :
    ∃ ss Z σ', cWhile (cAndT (cTest (cOp gtI (cOp getD (cVar 1) (cC (.str "steps"))) (cC (.int 0)))) (cTest (cOp ltI (cCall (ar1 lenD) (cCons (cVar 2) cNil)) (cC (.int 20))))) l_law_0 wfuel [p0, some (.loc 0), some (.loc 4), p3, p4, p5, p6, p7, p8, p9, p10, p11, p12] (stt σ [dL []]) = .nx [p0, some (.loc 0), some (.loc 4), p3, p4, p5, p6, p7, p8, p9, p10, p11, p12] (stt σ' (dL ss :: Z)) ∧
      Ss 2 ss ∧ ss.length ≤ 20 ∧ Gn σ σ' (dL ss :: Z) (ss.flatMap gOf) (ss.flatMap mOf) 0 0 0 := by
  obtain ⟨ρ', S', e, ss, Z, σ', rfl, rfl, h1, h2, g⟩ := cWhile_inv (s := l_law_0) (c := cAndT (cTest (cOp gtI (cOp getD (cVar 1) (cC (.str "steps"))) (cC (.int 0)))) (cTest (cOp ltI (cCall (ar1 lenD) (cCons (cVar 2) cNil)) (cC (.int 20)))))
    (fun k ρ S => ∃ ss Z σ', ρ = [p0, some (.loc 0), some (.loc 4), p3, p4, p5, p6, p7, p8, p9, p10, p11, p12] ∧ S = stt σ' (dL ss :: Z) ∧ Ss 2 ss ∧ ss.length + k = 20 ∧ Gn σ σ' (dL ss :: Z) (ss.flatMap gOf) (ss.flatMap mOf) 0 0 0)
    (fun ρ S => ∃ ss Z σ', ρ = [p0, some (.loc 0), some (.loc 4), p3, p4, p5, p6, p7, p8, p9, p10, p11, p12] ∧ S = stt σ' (dL ss :: Z) ∧ Ss 2 ss ∧ ss.length ≤ 20 ∧ Gn σ σ' (dL ss :: Z) (ss.flatMap gOf) (ss.flatMap mOf) 0 0 0)
    (by
      rintro k ρ S ⟨ss, Z, σ', rfl, rfl, h1, h2, g⟩
      have o' : Ok σ' := o.gn g (by have := o.hb; omega) (by have := o.ub; omega) (by have := o.mb; omega)
      have hlen : lenD (.loc 4) (stt σ' (dL ss :: Z)) = .ok (.int ss.length) (stt σ' (dL ss :: Z)) := by
        rw [lenD_e, lenQ_loc, show (4 : Nat) = 0 + 4 from rfl, stt_r]; simp [dL]
      by_cases hp : 0 < σ'.p
      · by_cases hl : ss.length < 20
        · obtain ⟨s, X, σ2, e1, e2, q1, q2, q3, g2⟩ := addStep made2 (ss := ss) (Z := Z) (R := []) o' hp (by rw [g.b]; simp; omega) (by omega)
          have ty : tyD "list" (.loc 4) (stt σ' (dL ss :: Z)) = true := tyD_lst (xs := ss.map (·.d)) (by rw [show (4 : Nat) = 0 + 4 from rfl, stt_r]; rfl)
          simp only [List.nil_append, List.length_nil, Nat.zero_add] at e1 e2 g2
          have hl2 : (ss.length : Int) < 20 := by omega
          refine .inr ⟨stt σ' (dL ss :: Z), [p0, some (.loc 0), some (.loc 4), p3, p4, p5, p6, p7, p8, p9, p10, p11, p12], stt σ2 (dL (ss ++ [s]) :: (Z ++ X)), k - 1, ?_, .inl ?_, by omega, ss ++ [s], Z ++ X, σ2, rfl, rfl, h1.snoc q1 q2 q3, by simp; omega, ?_⟩
          · simp -implicitDefEqProofs [gp, hp, hlen, hl2, hl, -getD_loc, -lenD_e]
          · unfold l_law_0
            generalize F_law_made 40 = G at *
            have e1 : G [.loc 0, .int 3] (stt σ' (dL ss :: Z)) = _ := e1
            simp -implicitDefEqProofs [e1, e2, ty, -appD_loc]
          · have g3 := g.old (X := X)
            rw [show dL ss :: Z ++ X = dL ss :: (Z ++ X) by simp] at g3
            have g4 := g3.trans (X := []) (by rw [List.append_nil]; exact g2)
            rw [List.append_nil] at g4
            have g5 := Gn.mut (R := []) (Z := Z ++ X) (x := dL ss) (dL (ss ++ [s])) (by simpa using g4) (by simp; omega)
            exact Gn.weak (by simpa using g5) (by simp) (by simp) (by omega) (by omega) (by omega)
        · refine .inl ⟨stt σ' (dL ss :: Z), ?_, ss, Z, σ', rfl, rfl, h1, by omega, g⟩
          have hl2 : ¬ (ss.length : Int) < 20 := by omega
          simp -implicitDefEqProofs [gp, hp, hlen, hl2, hl, -getD_loc, -lenD_e]
      · refine .inl ⟨stt σ' (dL ss :: Z), ?_, ss, Z, σ', rfl, rfl, h1, by omega, g⟩
        simp -implicitDefEqProofs [gp, hp, hlen, -getD_loc, -lenD_e])
    20 wfuel [p0, some (.loc 0), some (.loc 4), p3, p4, p5, p6, p7, p8, p9, p10, p11, p12] (stt σ [dL []]) (by have := wfuel_big; omega) ⟨[], [], σ, rfl, rfl, .nil, by simp, Gn.refl o.s⟩
  exact ⟨ss, Z, σ', e, h1, h2, g⟩
end K21
end
section
namespace K21
open PySem PySem.Spec PyProof.Rows L2 Sm
theorem laws_after {σ : Sg} {R : Sto} (hE : ∀ e ∈ σ.m, EntOk R e) {d : D} {g m ks : List Int} {ln : Nat} (hb : Bod 40 d g m) (hg : isort σ.h = isort g) (hn : R[ln]? = some (.dct (kd ks))) (hk : ks.Nodup) (hk2 : ∀ z, z ∈ ks ↔ z ∈ m) (hl : g.length ≤ 1000 ∧ m.length ≤ 1000) (p0 p2 p5 p6 : Option D) :
    ∃ X r7 r8 r9 r10 r11 r12, loopI (kName 7) l_law_2 (rgD 0 2) [p0, some (.loc 0), p2, some d, some (.loc (ln + 4)), p5, p6, none, none, none, none, none, none] (stt σ R) = .nx [p0, some (.loc 0), p2, some d, some (.loc (ln + 4)), p5, p6, r7, r8, r9, r10, r11, r12] (stt σ (R ++ X)) := by
  obtain ⟨X, f, g1, h, i, j, e1⟩ := turn hE hb hg hn hk hk2 hl p0 p2 p5 p6 (some (.int 0)) none none none none none
  obtain ⟨Y, f2, g2, h2, i2, j2, e2⟩ := turn (R := R ++ X) (fun e he => (hE e he).old) hb hg (get_old hn) hk hk2 hl p0 p2 p5 p6 (some (.int 1)) f g1 h i j
  refine ⟨X ++ Y, some (.int 1), f2, g2, h2, i2, j2, ?_⟩
  rw [← List.append_assoc]
  have hr : rgD 0 2 = [.int 0, .int 1] := by rfl
  rw [hr, loopI_cons]
  simp only [kName_e]
  rw [show ∀ (a b : Option D), List.set [p0, some (D.loc 0), p2, some d, some (D.loc (ln + 4)), p5, p6, a, none, none, none, none, none] 7 b = [p0, some (D.loc 0), p2, some d, some (D.loc (ln + 4)), p5, p6, b, none, none, none, none, none] from fun _ _ => rfl, e1]
  simp only [tn_nx]
  rw [loopI_cons]
  simp only [kName_e]
  rw [show List.set [p0, some (D.loc 0), p2, some d, some (D.loc (ln + 4)), p5, p6, some (D.int 0), f, g1, h, i, j] 7 (some (D.int 1)) = [p0, some (D.loc 0), p2, some d, some (D.loc (ln + 4)), p5, p6, some (D.int 1), f, g1, h, i, j] from rfl, e2]
  simp only [tn_nx, loopI_nil]
theorem plain : ∀ ns : List Int, ns.length ≤ 63 → (∀ z ∈ ns, Builtin.Int.intBits z ≤ 1048576) → ∃ S', F_law [.lsc (ns.map .int)] [] = .ok (.bl true) S' := by
  intro ns hl _
  obtain ⟨n, s, hs, e0⟩ := state ns hl
  have o : Ok ⟨n, s, 40, 0, [], [], [], 1⟩ := ⟨hs, by simp, by simp, by simp, by simp, by simp⟩
  obtain ⟨ss, Z, σ1, e1, h1, h2, g1⟩ := lawLoop o rfl (some (.lsc (ns.map .int))) none none none none none none none none none none
  obtain ⟨a, σ2, σ3, e2, _, g2, hb, hc, hσ⟩ := bodyEnd (R := []) (Z := dL ss :: Z) o h1 (by omega) g1 (by simp)
  simp only [List.nil_append] at e2 g2
  have hd := hb.ups 36
  obtain ⟨us, hu1, hu2⟩ := g2.u
  obtain ⟨gs, hg1, hg2⟩ := g2.h
  obtain ⟨ms, hm1, hm2⟩ := g2.m
  subst hσ
  simp only [List.nil_append] at hu1 hg1 hm1
  have hub := g2.ub
  have hhb := g2.hb
  have hp3 := g2.p0 (by simp)
  have ul : us.length ≤ 500 := by
    have := congrArg List.length hu1
    simp at this hub hp3
    omega
  have gl : gs.length ≤ 500 := by
    have := congrArg List.length hg1
    simp at this hhb hp3
    omega
  have ml := flat_len nmA 1 (xs := us) fun x _ => nmA_len x
  -- the names
  have l0 : (stt σ2 (dL ss :: Z)).length = Z.length + 1 + 4 := by simp
  have ht : tupleD (.loc 4) (stt σ1 (dL ss :: Z)) = .ok (.tup (ss.map (·.d))) (stt σ1 (dL ss :: Z)) := tupleD_loc (by rw [show (4 : Nat) = 0 + 4 from rfl, stt_r]; rfl)
  obtain ⟨f, g, e3⟩ := namesLoop (S0 := stt σ2 (dL ss :: Z)) (T := [.lst [atD a], aL us]) (l := Z.length + 3 + 4) (A := us) (fun ks => by
    rw [List.getElem?_append_right (by simp)]
    simp) (by omega) (some (.lsc (ns.map .int))) (some (.loc 0)) (some (.loc 4)) (some (.tup [.tup (ss.map (·.d)), atD a])) none none none none none none none none
  obtain ⟨X, r7, r8, r9, r10, r11, r12, e4⟩ := laws_after (σ := σ2) (R := dL ss :: Z ++ [.dct (kd (insAll [] (us.flatMap nmA))), .lst [atD a], aL us]) (ln := Z.length + 1) (ks := insAll [] (us.flatMap nmA))
    (fun e he => (hm2 e (by rw [← hm1]; exact he)).old) hd (isort_uniq ((isort_perm _).trans (by show σ2.h.Perm _; rw [hg1]; exact hg2)) (isort_sorted _)) (by
      rw [show dL ss :: Z ++ [Ob.dct (kd (insAll [] (us.flatMap nmA))), .lst [atD a], aL us] = (dL ss :: Z) ++ Ob.dct (kd (insAll [] (us.flatMap nmA))) :: [.lst [atD a], aL us] from rfl]
      rw [List.getElem?_append_right (by simp)]
      simp) (insAll_nd List.nodup_nil) (fun z => by rw [insAll_mem, ← hu2.mem_iff]; simp) ⟨by have := hg2.length_eq; omega, by have := hu2.length_eq; omega⟩ (some (.lsc (ns.map .int))) (some (.loc 4)) f g
  have hS1 : stt σ2 (dL ss :: Z) ++ [.dct []] = stt σ2 (dL ss :: Z ++ [.dct (kd [])]) := rfl
  have hlst : ∀ xs, xs.length ≤ 1000 → newL xs (stt σ2 (dL ss :: Z ++ [.dct (kd [])])) = .ok (.loc (Z.length + 2 + 4)) (stt σ2 (dL ss :: Z ++ [.dct (kd []), .lst xs])) := fun xs h => by
    rw [newL_e (by omega), stt_len, stt_app]
    simp
  have hadd : addD (.loc 2) (.loc (Z.length + 2 + 4)) (stt σ2 (dL ss :: Z ++ [.dct (kd []), .lst [atD a]])) = .ok (.loc (Z.length + 3 + 4)) (stt σ2 (dL ss :: Z ++ [.dct (kd []), .lst [atD a], aL us])) := by
    rw [addD_loc, stt_2, stt_r]
    have : (dL ss :: Z ++ [Ob.dct (kd []), .lst [atD a]])[Z.length + 2]? = some (.lst [atD a]) := by
      rw [List.getElem?_append_right (by simp)]
      simp
    rw [this]
    show joinL _ _ _ = _
    unfold joinL
    have hf : fit ((σ2.u.map atD).length + [atD a].length) = true := fit_of (by
      have := congrArg List.length hu1
      simp at this ⊢
      omega)
    rw [if_pos hf, stt_len, stt_app, ← hu1]
    simp [aL]
  have hgu : getD (.loc 0) (.str "used") (stt σ2 (dL ss :: Z ++ [.dct (kd [])])) = .ok (.loc 2) _ := gu
  have hit : itD (.loc (Z.length + 3 + 4)) (stt σ2 (dL ss :: Z ++ [.dct (kd []), .lst [atD a], aL us])) = .ok (.view (liveX (Z.length + 3 + 4)) (us.map atD).length) (stt σ2 (dL ss :: Z ++ [.dct (kd []), .lst [atD a], aL us])) := by
    rw [itD_loc, stt_r]
    have : (dL ss :: Z ++ [Ob.dct (kd []), .lst [atD a], aL us])[Z.length + 3]? = some (aL us) := by
      rw [List.getElem?_append_right (by simp)]
      simp
    rw [this]
    rfl
  rw [l0] at e3
  change loopV _ _ _ _ _ _ (stt σ2 (dL ss :: Z ++ [.dct (kd []), .lst [atD a], aL us])) = .nx _ (stt σ2 (dL ss :: Z ++ [.dct (kd (insAll [] (us.flatMap nmA))), .lst [atD a], aL us])) at e3
  change loopI _ _ _ [_, _, _, _, some (.loc (Z.length + 1 + 4)), _, _, _, _, _, _, _, _] _ = _ at e4
  have hT2 : tupleD (.loc 4) (stt σ2 (dL ss :: Z ++ [.dct (kd (insAll [] (us.flatMap nmA))), .lst [atD a], aL us] ++ X)) = .ok (.tup (ss.map (·.d))) (stt σ2 (dL ss :: Z ++ [.dct (kd (insAll [] (us.flatMap nmA))), .lst [atD a], aL us] ++ X)) := tupleD_loc (by rw [show (4 : Nat) = 0 + 4 from rfl, stt_r]; rfl)
  have heq : ∀ S, eqD (.tup [.tup (ss.map (·.d)), atD a]) (.tup [.tup (ss.map (·.d)), atD a]) S = .ok (.bl true) S := fun S => eq_cont (hc S 60 (by omega)) (hc S 60 (by omega)) (by intro l h; cases h)
  refine ⟨stt σ2 (dL ss :: Z ++ [.dct (kd (insAll [] (us.flatMap nmA))), .lst [atD a], aL us] ++ X), ?_⟩
  have h0 : newL [] (stt ⟨n, s, 40, 0, [], [], [], 1⟩ []) = .ok (.loc 4) (stt ⟨n, s, 40, 0, [], [], [], 1⟩ [dL []]) := by rw [newL_e (by simp)]; rfl
  have hl1 := hlst [atD a] (by simp)
  unfold F_law b_law
  generalize F_law_state = G0 at *
  generalize F_law_atom = G1 at *
  generalize l_law_0 = q0 at *
  generalize l_law_1 = q1 at *
  generalize l_law_2 = q2 at *
  generalize stt σ2 (dL ss :: Z ++ [.dct (kd (insAll [] (us.flatMap nmA))), .lst [atD a], aL us] ++ X) = S9 at *
  generalize stt σ2 (dL ss :: Z ++ [.dct (kd (insAll [] (us.flatMap nmA))), .lst [atD a], aL us]) = S8 at *
  generalize stt σ2 (dL ss :: Z ++ [.dct (kd []), .lst [atD a], aL us]) = S7 at *
  generalize stt σ2 (dL ss :: Z ++ [.dct (kd []), .lst [atD a]]) = S6 at *
  generalize stt σ2 (dL ss :: Z ++ [.dct (kd [])]) = S5 at *
  generalize hS4 : stt σ2 (dL ss :: Z) = S4 at *
  have hl4 : S4.length = Z.length + 1 + 4 := by rw [← hS4]; simp
  rw [List.length_map] at e3 hit
  simp -implicitDefEqProofs [startE, e0, h0, e1, ht, e2, newDct, hS1, hl4, hgu, hl1, hadd, cFor_e, hit, e3, e4, hT2, heq, rng1_e, -getD_loc, -addD_loc, -itD_loc, -newL_e]
end K21
end
end
section
namespace K21
open PySem PySem.Spec PyProof.Rows L2 Sm
def top (i : Nat) : Stmt := PySem.Challenge.pw_spacewright_k21_what_steps_use.main.body.getD i (.Pass ⟨0, 0, 0, 0⟩)
abbrev st_operands : Stmt := top 1
theorem sc_operands : FnScope ["step", "word", "name"] ["step"] (defScope st_operands) := ⟨rfl, rfl, rfl, by decide +kernel, rfl, by decide +kernel, by decide +kernel⟩
abbrev st_inner : Stmt := top 2
theorem sc_inner : FnScope ["step", "word"] ["step"] (defScope st_inner) := ⟨rfl, rfl, rfl, by decide +kernel, rfl, by decide +kernel, by decide +kernel⟩
abbrev st_given_in : Stmt := top 3
theorem sc_given_in : FnScope ["body", "found", "step", "names", "within"] ["body"] (defScope st_given_in) := ⟨rfl, rfl, rfl, by decide +kernel, rfl, by decide +kernel, by decide +kernel⟩
abbrev st_mentioned : Stmt := top 4
theorem sc_mentioned : FnScope ["body", "atoms", "found", "step", "names", "within", "name", "word"] ["body"] (defScope st_mentioned) := ⟨rfl, rfl, rfl, by decide +kernel, rfl, by decide +kernel, by decide +kernel⟩
abbrev st_law_cell_at : Stmt := top 6
theorem sc_law_cell_at : FnScope ["_law_script", "_law_k"] ["_law_script", "_law_k"] (defScope st_law_cell_at) := ⟨rfl, rfl, rfl, by decide +kernel, rfl, by decide +kernel, by decide +kernel⟩
abbrev st_law_state : Stmt := top 7
theorem sc_law_state : FnScope ["_law_script", "_law_number", "_law_seed"] ["_law_script"] (defScope st_law_state) := ⟨rfl, rfl, rfl, by decide +kernel, rfl, by decide +kernel, by decide +kernel⟩
abbrev st_law_take : Stmt := top 8
theorem sc_law_take : FnScope ["_law_state_here", "_law_many", "_law_digit"] ["_law_state_here", "_law_many"] (defScope st_law_take) := ⟨rfl, rfl, rfl, by decide +kernel, rfl, by decide +kernel, by decide +kernel⟩
abbrev st_law_atom : Stmt := top 9
theorem sc_law_atom : FnScope ["_law_state_here"] ["_law_state_here"] (defScope st_law_atom) := ⟨rfl, rfl, rfl, by decide +kernel, rfl, by decide +kernel, by decide +kernel⟩
abbrev st_law_fresh : Stmt := top 10
theorem sc_law_fresh : FnScope ["_law_state_here"] ["_law_state_here"] (defScope st_law_fresh) := ⟨rfl, rfl, rfl, by decide +kernel, rfl, by decide +kernel, by decide +kernel⟩
abbrev st_law_some : Stmt := top 11
theorem sc_law_some : FnScope ["_law_state_here", "_law_many", "_law_k"] ["_law_state_here", "_law_many"] (defScope st_law_some) := ⟨rfl, rfl, rfl, by decide +kernel, rfl, by decide +kernel, by decide +kernel⟩
abbrev st_law_flat : Stmt := top 12
theorem sc_law_flat : FnScope ["_law_state_here", "_law_word", "_law_to", "_law_place", "_law_one", "_law_names", "_law_k", "_law_name", "_law_other", "_law_atoms"] ["_law_state_here", "_law_word", "_law_to", "_law_place"] (defScope st_law_flat) := ⟨rfl, rfl, rfl, by decide +kernel, rfl, by decide +kernel, by decide +kernel⟩
abbrev st_law_wide : Stmt := top 13
theorem sc_law_wide : FnScope ["_law_state_here", "_law_word", "_law_to", "_law_place", "_law_deep", "_law_atom_here", "_law_names", "_law_one", "_law_other", "_law_name"] ["_law_state_here", "_law_word", "_law_to", "_law_place", "_law_deep"] (defScope st_law_wide) := ⟨rfl, rfl, rfl, by decide +kernel, rfl, by decide +kernel, by decide +kernel⟩
abbrev st_law_made : Stmt := top 14
theorem sc_law_made : FnScope ["_law_state_here", "_law_deep", "_law_words", "_law_word", "_law_to", "_law_place", "_law_made_here"] ["_law_state_here", "_law_deep"] (defScope st_law_made) := ⟨rfl, rfl, rfl, by decide +kernel, rfl, by decide +kernel, by decide +kernel⟩
abbrev st_law_body : Stmt := top 15
theorem sc_law_body : FnScope ["_law_state_here", "_law_deep", "_law_steps", "_law_many", "_law_k", "_law_last"] ["_law_state_here", "_law_deep"] (defScope st_law_body) := ⟨rfl, rfl, rfl, by decide +kernel, rfl, by decide +kernel, by decide +kernel⟩
abbrev st_law_right : Stmt := top 16
theorem sc_law_right : FnScope ["_law_found", "_law_due", "_law_one"] ["_law_found", "_law_due"] (defScope st_law_right) := ⟨rfl, rfl, rfl, by decide +kernel, rfl, by decide +kernel, by decide +kernel⟩
abbrev st_law : Stmt := top 17
theorem sc_law : FnScope ["_law_script", "_law_state_here", "_law_steps", "_law_body_here", "_law_names", "_law_word", "_law_name", "_law_again", "_law_step", "_law_due", "_law_bodies", "_law_found", "_law_other"] ["_law_script"] (defScope st_law) := ⟨rfl, rfl, rfl, by decide +kernel, rfl, by decide +kernel, by decide +kernel⟩
abbrev gx (K : PySem.W.Frag)  : Gx := ⟨K, Sm.pick [], fun _ => 0⟩
structure Tx (K : PySem.W.Frag) (mg : Str → Option Value)  : Type where
  d_operands : FnT K mg "operands" st_operands ["step"]
  d_inner : FnT K mg "inner" st_inner ["step"]
  d_given_in : FnT K mg "given_in" st_given_in ["body"]
  d_mentioned : FnT K mg "mentioned" st_mentioned ["body"]
  d_law_cell_at : FnT K mg "_law_cell_at" st_law_cell_at ["_law_script", "_law_k"]
  d_law_state : FnT K mg "_law_state" st_law_state ["_law_script"]
  d_law_take : FnT K mg "_law_take" st_law_take ["_law_state_here", "_law_many"]
  d_law_atom : FnT K mg "_law_atom" st_law_atom ["_law_state_here"]
  d_law_fresh : FnT K mg "_law_fresh" st_law_fresh ["_law_state_here"]
  d_law_some : FnT K mg "_law_some" st_law_some ["_law_state_here", "_law_many"]
  d_law_flat : FnT K mg "_law_flat" st_law_flat ["_law_state_here", "_law_word", "_law_to", "_law_place"]
  d_law_wide : FnT K mg "_law_wide" st_law_wide ["_law_state_here", "_law_word", "_law_to", "_law_place", "_law_deep"]
  d_law_made : FnT K mg "_law_made" st_law_made ["_law_state_here", "_law_deep"]
  d_law_body : FnT K mg "_law_body" st_law_body ["_law_state_here", "_law_deep"]
  d_law_right : FnT K mg "_law_right" st_law_right ["_law_found", "_law_due"]
  d_law : FnT K mg "law" st_law ["_law_script"]
  z_isinstance : mg "isinstance" = none
  z_len : mg "len" = none
  z_list : mg "list" = none
  z_max : mg "max" = none
  z_range : mg "range" = none
  z_sorted : mg "sorted" = none
  z_tuple : mg "tuple" = none
  tb : TabOk (gx K) tab
  jt : IsTab (gx K) isT
section
variable {P : Program} {w : World} {K : PySem.W.Frag} {mg : Str → Option Value} {base : Heap}
theorem ok_operands (T : Tx K mg ) : FnOk P w K mg base (L2.CX P w) (1) T.d_operands.fn T.d_operands.fd ["step"] (spF (gx K) 1 F_operands) := by
  exact fn_do (k := 0) T.d_operands.F sc_operands rfl rfl fun cdv A outer s0 H E hr =>
    dss_cons (ds_set 1 sc_operands.nd (de_ix rfl hr (de_var 0) (de_int))) <|
    dss_cons (ds_if (dt_pw (dw_or (dt_cmp (op_eqA rfl hr) eq_ok (de_var 1) (de_str)) (dw_or1 (dt_cmp (op_eqA rfl hr) eq_ok (de_var 1) (de_str))))) (dss_one (ds_ret (de_lst (da_cons (de_tup (da_cons (de_str) (da_cons (de_ix rfl hr (de_var 0) (de_int)) da_nil))) da_nil)))) (dss_nil)) <|
    dss_cons (ds_if (dt_pw (dw_or (dt_cmp (op_eqA rfl hr) eq_ok (de_var 1) (de_str)) (dw_or1 (dt_cmp (op_eqA rfl hr) eq_ok (de_var 1) (de_str))))) (dss_one (ds_ret (de_lst (da_cons (de_tup (da_cons (de_str) (da_cons (de_ix rfl hr (de_var 0) (de_int)) da_nil))) (da_cons (de_ix rfl hr (de_var 0) (de_int)) da_nil))))) (dss_nil)) <|
    dss_cons (ds_if (dt_cmp (op_eqA rfl hr) eq_ok (de_var 1) (de_str)) (dss_one (ds_ret (de_lst (da_cons (de_ix rfl hr (de_var 0) (de_int)) (da_cons (de_ix rfl hr (de_var 0) (de_int)) da_nil))))) (dss_nil)) <|
    dss_cons (ds_if (dt_cmp (op_eqA rfl hr) eq_ok (de_var 1) (de_str)) (dss_one (ds_ret (de_callTy (call_listA rfl rfl) list_ok T.z_list PyProof.Rows.boot_list (da_cons (de_ix rfl hr (de_var 0) (de_int)) da_nil)))) (dss_nil)) <|
    dss_cons (ds_if (dt_cmp (op_eqA rfl hr) eq_ok (de_var 1) (de_str)) (dss_one (ds_ret (de_add rfl (de_lst (da_cons (de_ix rfl hr (de_var 0) (de_int)) da_nil)) (de_callTy (call_listA rfl rfl) list_ok T.z_list PyProof.Rows.boot_list (da_cons (de_ix rfl hr (de_var 0) (de_int)) da_nil))))) (dss_nil)) <|
    dss_cons (ds_if (dt_cmp (op_eqA rfl hr) eq_ok (de_var 1) (de_str)) (dss_one (ds_ret (de_lst (da_cons (de_ix rfl hr (de_var 0) (de_int)) da_nil)))) (dss_nil)) <|
    dss_cons (ds_if (dt_cmp (op_eqA rfl hr) eq_ok (de_var 1) (de_str)) (dss_one (ds_ret (de_lc rfl rfl sc_operands.nd (di_any rfl (de_ix rfl hr (de_var 0) (de_int))) (blkOk_by (N := ["step", "word", "name"]) (sc := defScope st_operands) (own := [("name", 2)]) (by decide +kernel)) rfl (fun s H C cl fp => pg_name (i := 2) sc_operands.nd rfl (Or.inl rfl) (Or.inr rfl)) (fun s H C cl fp => dts_nil) (fun s H C cl fp => de_tup (da_cons (de_str) (da_cons (de_var 2) da_nil)))))) (dss_nil)) <|
    dss_cons (ds_if (dt_cmp (op_inA hr) in_ok (de_var 1) (de_lst (da_cons (de_str) (da_cons (de_str) (da_cons (de_str) (da_cons (de_str) (da_cons (de_str) da_nil))))))) (dss_one (ds_ret (de_lst (da_cons (de_ix rfl hr (de_var 0) (de_int)) da_nil)))) (dss_nil)) <|
    dss_one (ds_ret (de_lst da_nil))
theorem ok_inner (T : Tx K mg ) : FnOk P w K mg base (L2.CX P w) (1) T.d_inner.fn T.d_inner.fd ["step"] (spF (gx K) 1 F_inner) := by
  exact fn_do (k := 0) T.d_inner.F sc_inner rfl rfl fun cdv A outer s0 H E hr =>
    dss_cons (ds_set 1 sc_inner.nd (de_ix rfl hr (de_var 0) (de_int))) <|
    dss_cons (ds_if (dt_cmp (op_eqA rfl hr) eq_ok (de_var 1) (de_str)) (dss_one (ds_ret (de_lst (da_cons (de_tup (da_cons (de_ix rfl hr (de_var 0) (de_int)) (da_cons (de_ix rfl hr (de_var 0) (de_int)) da_nil))) da_nil)))) (dss_nil)) <|
    dss_cons (ds_if (dt_cmp (op_eqA rfl hr) eq_ok (de_var 1) (de_str)) (dss_one (ds_ret (de_lst (da_cons (de_tup (da_cons (de_tup da_nil) (da_cons (de_ix rfl hr (de_var 0) (de_int)) da_nil))) (da_cons (de_tup (da_cons (de_tup da_nil) (da_cons (de_ix rfl hr (de_var 0) (de_int)) da_nil))) da_nil))))) (dss_nil)) <|
    dss_cons (ds_if (dt_cmp (op_eqA rfl hr) eq_ok (de_var 1) (de_str)) (dss_one (ds_ret (de_lst (da_cons (de_tup (da_cons (de_ix rfl hr (de_var 0) (de_int)) (da_cons (de_ix rfl hr (de_var 0) (de_int)) da_nil))) (da_cons (de_tup (da_cons (de_tup da_nil) (da_cons (de_ix rfl hr (de_var 0) (de_int)) da_nil))) da_nil))))) (dss_nil)) <|
    dss_cons (ds_if (dt_cmp (op_eqA rfl hr) eq_ok (de_var 1) (de_str)) (dss_one (ds_ret (de_lst (da_cons (de_tup (da_cons (de_tup da_nil) (da_cons (de_ix rfl hr (de_var 0) (de_int)) da_nil))) (da_cons (de_tup (da_cons (de_tup (da_cons (de_ix rfl hr (de_var 0) (de_int)) da_nil)) (da_cons (de_ix rfl hr (de_var 0) (de_int)) da_nil))) da_nil))))) (dss_nil)) <|
    dss_one (ds_ret (de_lst da_nil))
theorem bd_given_in (T : Tx K mg ) {n : Nat} {c_given_in : List D → Mo D} (G_given_in : FnOk P w K mg base (L2.CX P w) (1 + n) T.d_given_in.fn T.d_given_in.fd ["body"] (spF (gx K) 1 c_given_in)) : FnOk P w K mg base (L2.CX P w) (1 + n + 1) T.d_given_in.fn T.d_given_in.fd ["body"] (spF (gx K) 1 (cDef 5 (b_given_in c_given_in))) := by
  have G_inner := ok_inner (P := P) (w := w) (base := base) T
  exact fn_do (k := 1 + n) T.d_given_in.F sc_given_in rfl rfl fun cdv A outer s0 H E hr =>
    dss_cons (ds_set 1 sc_given_in.nd (de_lst da_nil)) <|
    dss_cons (ds_for (passes_of rfl) rfl (di_any rfl (de_ix rfl hr (de_var 0) (de_int))) (dg_name 2 sc_given_in.nd) (dss_cons (ds_expr (de_mt PySem.F.plainAttrs_list PySem.F.slot_list_append PySem.F.type_list_append mt_append app_ok rfl (de_var 1) (da_cons (de_ix rfl hr (de_var 2) (de_int)) da_nil))) <|
    dss_one (ds_for (passes_of rfl) rfl (di_any rfl (de_fn G_inner (hr.mono (by omega)) T.d_inner.m T.d_inner.k T.d_inner.b (takes_of rfl rfl rfl rfl) (da_cons (de_var 2) da_nil))) (dg_tup rfl rfl (dgs_cons (dg_name 3 sc_given_in.nd) (dgs_cons (dg_name 4 sc_given_in.nd) dgs_nil))) (dss_cons (ds_expr (de_mt PySem.F.plainAttrs_list PySem.F.slot_list_extend PySem.F.type_list_extend (mt_extA rfl) ext_ok rfl (de_var 1) (da_cons (de_var 3) da_nil))) <|
    dss_one (ds_expr (de_mt PySem.F.plainAttrs_list PySem.F.slot_list_extend PySem.F.type_list_extend (mt_extA rfl) ext_ok rfl (de_var 1) (da_cons (de_fn G_given_in (hr.mono (by omega)) T.d_given_in.m T.d_given_in.k T.d_given_in.b (takes_of rfl rfl rfl rfl) (da_cons (de_var 4) da_nil)) da_nil))))))) <|
    dss_one (ds_ret (de_callB (call_sortA rfl rfl) sort_ok T.z_sorted PyProof.Rows.boot_sorted (da_cons (de_var 1) da_nil)))
theorem okr_given_in (T : Tx K mg ) : ∀ n : Nat, FnOk P w K mg base (L2.CX P w) (1 + n) T.d_given_in.fn T.d_given_in.fd ["body"] (spF (gx K) 1 (F_given_in n))
  | 0 => fn_bad
  | n + 1 => by
    have i0 := okr_given_in T n
    exact bd_given_in T i0
theorem ok_given_in (T : Tx K mg ) : FnOk P w K mg base (L2.CX P w) (41) T.d_given_in.fn T.d_given_in.fd ["body"] (spF (gx K) 1 (F_given_in 40)) := okr_given_in T 40
theorem bd_mentioned (T : Tx K mg ) {n : Nat} {c_mentioned : List D → Mo D} (G_mentioned : FnOk P w K mg base (L2.CX P w) (1 + n) T.d_mentioned.fn T.d_mentioned.fd ["body"] (spF (gx K) 1 c_mentioned)) : FnOk P w K mg base (L2.CX P w) (1 + n + 1) T.d_mentioned.fn T.d_mentioned.fd ["body"] (spF (gx K) 1 (cDef 8 (b_mentioned c_mentioned))) := by
  have G_inner := ok_inner (P := P) (w := w) (base := base) T
  have G_operands := ok_operands (P := P) (w := w) (base := base) T
  exact fn_do (k := 1 + n) T.d_mentioned.F sc_mentioned rfl rfl fun cdv A outer s0 H E hr =>
    dss_cons (ds_set 1 sc_mentioned.nd (de_lst (da_cons (de_ix rfl hr (de_var 0) (de_int)) da_nil))) <|
    dss_cons (ds_set 2 sc_mentioned.nd (de_dict0)) <|
    dss_cons (ds_for (passes_of rfl) rfl (di_any rfl (de_ix rfl hr (de_var 0) (de_int))) (dg_name 3 sc_mentioned.nd) (dss_cons (ds_expr (de_mt PySem.F.plainAttrs_list PySem.F.slot_list_extend PySem.F.type_list_extend (mt_extA rfl) ext_ok rfl (de_var 1) (da_cons (de_fn G_operands (hr.mono (by omega)) T.d_operands.m T.d_operands.k T.d_operands.b (takes_of rfl rfl rfl rfl) (da_cons (de_var 3) da_nil)) da_nil))) <|
    dss_one (ds_for (passes_of rfl) rfl (di_any rfl (de_fn G_inner (hr.mono (by omega)) T.d_inner.m T.d_inner.k T.d_inner.b (takes_of rfl rfl rfl rfl) (da_cons (de_var 3) da_nil))) (dg_tup rfl rfl (dgs_cons (dg_name 4 sc_mentioned.nd) (dgs_cons (dg_name 5 sc_mentioned.nd) dgs_nil))) (dss_one (ds_for (passes_of rfl) rfl (di_any rfl (de_fn G_mentioned (hr.mono (by omega)) T.d_mentioned.m T.d_mentioned.k T.d_mentioned.b (takes_of rfl rfl rfl rfl) (da_cons (de_var 5) da_nil))) (dg_name 6 sc_mentioned.nd) (dss_one (ds_st hr (de_var 2) (de_var 6) (de_bl)))))))) <|
    dss_cons (ds_for (passes_of rfl) rfl (di_any rfl (de_var 1)) (dg_tup rfl rfl (dgs_cons (dg_name 7 sc_mentioned.nd) (dgs_cons (dg_name 6 sc_mentioned.nd) dgs_nil))) (dss_one (ds_if (dt_cmp (op_eqA rfl hr) eq_ok (de_var 7) (de_str)) (dss_one (ds_st hr (de_var 2) (de_var 6) (de_bl))) (dss_nil)))) <|
    dss_one (ds_ret (de_callB (call_sortA rfl rfl) sort_ok T.z_sorted PyProof.Rows.boot_sorted (da_cons (de_var 2) da_nil)))
theorem okr_mentioned (T : Tx K mg ) : ∀ n : Nat, FnOk P w K mg base (L2.CX P w) (1 + n) T.d_mentioned.fn T.d_mentioned.fd ["body"] (spF (gx K) 1 (F_mentioned n))
  | 0 => fn_bad
  | n + 1 => by
    have i0 := okr_mentioned T n
    exact bd_mentioned T i0
theorem ok_mentioned (T : Tx K mg ) : FnOk P w K mg base (L2.CX P w) (41) T.d_mentioned.fn T.d_mentioned.fd ["body"] (spF (gx K) 1 (F_mentioned 40)) := okr_mentioned T 40
theorem ok_law_cell_at (T : Tx K mg ) : FnOk P w K mg base (L2.CX P w) (1) T.d_law_cell_at.fn T.d_law_cell_at.fd ["_law_script", "_law_k"] (spF (gx K) 2 F_law_cell_at) := by
  exact fn_do (k := 0) T.d_law_cell_at.F sc_law_cell_at rfl rfl fun cdv A outer s0 H E hr =>
    dss_cons (ds_if (dt_cmp op_lt lt_ok (de_var 1) (de_len rfl T.z_len (da_cons (de_var 0) da_nil))) (dss_one (ds_ret (de_ix rfl hr (de_var 0) (de_var 1)))) (dss_nil)) <|
    dss_one (ds_ret (de_int))
theorem ok_law_state (T : Tx K mg ) : FnOk P w K mg base (L2.CX P w) (2) T.d_law_state.fn T.d_law_state.fd ["_law_script"] (spF (gx K) 1 F_law_state) := by
  have G_law_cell_at := ok_law_cell_at (P := P) (w := w) (base := base) T
  exact fn_do (k := 1) T.d_law_state.F sc_law_state rfl rfl fun cdv A outer s0 H E hr =>
    dss_cons (ds_set 1 sc_law_state.nd (de_callB (call_max2 rfl) max_ok T.z_max PyProof.Rows.boot_max (da_cons (de_fn G_law_cell_at (hr.mono (by omega)) T.d_law_cell_at.m T.d_law_cell_at.k T.d_law_cell_at.b (takes_of rfl rfl rfl rfl) (da_cons (de_var 0) (da_cons (de_int) da_nil))) (da_cons (de_sub (de_neg (de_int)) (de_fn G_law_cell_at (hr.mono (by omega)) T.d_law_cell_at.m T.d_law_cell_at.k T.d_law_cell_at.b (takes_of rfl rfl rfl rfl) (da_cons (de_var 0) (da_cons (de_int) da_nil)))) da_nil)))) <|
    dss_cons (ds_set 2 sc_law_state.nd (de_int)) <|
    dss_cons (ds_if (dt_cmp (op_eqA rfl hr) eq_ok (de_mod (de_fn G_law_cell_at (hr.mono (by omega)) T.d_law_cell_at.m T.d_law_cell_at.k T.d_law_cell_at.b (takes_of rfl rfl rfl rfl) (da_cons (de_var 0) (da_cons (de_int) da_nil))) (de_int)) (de_int)) (dss_one (ds_set 2 sc_law_state.nd (de_add rfl (de_int) (de_mod (de_fn G_law_cell_at (hr.mono (by omega)) T.d_law_cell_at.m T.d_law_cell_at.k T.d_law_cell_at.b (takes_of rfl rfl rfl rfl) (da_cons (de_var 0) (da_cons (de_int) da_nil))) (de_int))))) (dss_nil)) <|
    dss_one (ds_ret (de_dict (dps_cons (de_str) (de_var 1) (dps_cons (de_str) (de_var 2) (dps_cons (de_str) (de_int) (dps_cons (de_str) (de_int) (dps_cons (de_str) (de_lst da_nil) (dps_cons (de_str) (de_lst da_nil) (dps_cons (de_str) (de_lst da_nil) dps_nil)))))))))
theorem ok_law_take (T : Tx K mg ) : FnOk P w K mg base (L2.CX P w) (1) T.d_law_take.fn T.d_law_take.fd ["_law_state_here", "_law_many"] (spF (gx K) 2 F_law_take) := by
  exact fn_do (k := 0) T.d_law_take.F sc_law_take rfl rfl fun cdv A outer s0 H E hr =>
    dss_cons (ds_if (dt_pw (dw_and (dt_cmp (op_eqA rfl hr) eq_ok (de_ix rfl hr (de_var 0) (de_str)) (de_int)) (dw_and1 (dt_cmp op_gt gt_ok (de_ix rfl hr (de_var 0) (de_str)) (de_int))))) (dss_cons (ds_st hr (de_var 0) (de_str) (de_mod (de_mul (de_ix rfl hr (de_var 0) (de_str)) (de_int)) (de_int))) <|
    dss_one (ds_st hr (de_var 0) (de_str) (de_mod (de_mul (de_ix rfl hr (de_var 0) (de_str)) (de_ix rfl hr (de_var 0) (de_str))) (de_int)))) (dss_nil)) <|
    dss_cons (ds_set 2 sc_law_take.nd (de_mod (de_ix rfl hr (de_var 0) (de_str)) (de_var 1))) <|
    dss_cons (ds_st hr (de_var 0) (de_str) (de_fdiv (de_ix rfl hr (de_var 0) (de_str)) (de_var 1))) <|
    dss_one (ds_ret (de_var 2))
theorem ok_law_atom (T : Tx K mg ) : FnOk P w K mg base (L2.CX P w) (2) T.d_law_atom.fn T.d_law_atom.fd ["_law_state_here"] (spF (gx K) 1 F_law_atom) := by
  have G_law_take := ok_law_take (P := P) (w := w) (base := base) T
  exact fn_do (k := 1) T.d_law_atom.F sc_law_atom rfl rfl fun cdv A outer s0 H E hr =>
    dss_cons (ds_if (dt_cmp (op_eqA rfl hr) eq_ok (de_fn G_law_take (hr.mono (by omega)) T.d_law_take.m T.d_law_take.k T.d_law_take.b (takes_of rfl rfl rfl rfl) (da_cons (de_var 0) (da_cons (de_int) da_nil))) (de_int)) (dss_one (ds_ret (de_tup (da_cons (de_str) (da_cons (de_sub (de_fn G_law_take (hr.mono (by omega)) T.d_law_take.m T.d_law_take.k T.d_law_take.b (takes_of rfl rfl rfl rfl) (da_cons (de_var 0) (da_cons (de_pow (de_int) (de_int)) da_nil))) (de_fn G_law_take (hr.mono (by omega)) T.d_law_take.m T.d_law_take.k T.d_law_take.b (takes_of rfl rfl rfl rfl) (da_cons (de_var 0) (da_cons (de_pow (de_int) (de_int)) da_nil)))) da_nil))))) (dss_nil)) <|
    dss_one (ds_ret (de_tup (da_cons (de_str) (da_cons (de_fn G_law_take (hr.mono (by omega)) T.d_law_take.m T.d_law_take.k T.d_law_take.b (takes_of rfl rfl rfl rfl) (da_cons (de_var 0) (da_cons (de_add rfl (de_ix rfl hr (de_var 0) (de_str)) (de_int)) da_nil))) da_nil))))
theorem ok_law_fresh (T : Tx K mg ) : FnOk P w K mg base (L2.CX P w) (1) T.d_law_fresh.fn T.d_law_fresh.fd ["_law_state_here"] (spF (gx K) 1 F_law_fresh) := by
  exact fn_do (k := 0) T.d_law_fresh.F sc_law_fresh rfl rfl fun cdv A outer s0 H E hr =>
    dss_cons (ds_st hr (de_var 0) (de_str) (de_add rfl (de_ix rfl hr (de_var 0) (de_str)) (de_int))) <|
    dss_cons (ds_expr (de_mt PySem.F.plainAttrs_list PySem.F.slot_list_append PySem.F.type_list_append mt_append app_ok rfl (de_ix rfl hr (de_var 0) (de_str)) (da_cons (de_sub (de_ix rfl hr (de_var 0) (de_str)) (de_int)) da_nil))) <|
    dss_one (ds_ret (de_sub (de_ix rfl hr (de_var 0) (de_str)) (de_int)))
theorem ok_law_some (T : Tx K mg ) : FnOk P w K mg base (L2.CX P w) (2) T.d_law_some.fn T.d_law_some.fd ["_law_state_here", "_law_many"] (spF (gx K) 2 F_law_some) := by
  have G_law_fresh := ok_law_fresh (P := P) (w := w) (base := base) T
  have G_law_take := ok_law_take (P := P) (w := w) (base := base) T
  exact fn_do (k := 1) T.d_law_some.F sc_law_some rfl rfl fun cdv A outer s0 H E hr =>
    dss_one (ds_ret (de_callTy (call_tupA rfl) tuple_ok T.z_tuple PyProof.Rows.boot_tuple (da_cons (de_lc rfl rfl sc_law_some.nd (di_range1 T.z_range (da_cons (de_fn G_law_take (hr.mono (by omega)) T.d_law_take.m T.d_law_take.k T.d_law_take.b (takes_of rfl rfl rfl rfl) (da_cons (de_var 0) (da_cons (de_var 1) da_nil))) da_nil)) (blkOk_by (N := ["_law_state_here", "_law_many", "_law_k"]) (sc := defScope st_law_some) (own := [("_law_k", 2)]) (by decide +kernel)) rfl (fun s H C cl fp => pg_name (i := 2) sc_law_some.nd rfl (Or.inl rfl) (Or.inr rfl)) (fun s H C cl fp => dts_nil) (fun s H C cl fp => de_fn G_law_fresh (hr.mono (by omega)) T.d_law_fresh.m T.d_law_fresh.k T.d_law_fresh.b takes0 (da_cons (de_var 0) da_nil))) da_nil)))
theorem ok_law_flat (T : Tx K mg ) : FnOk P w K mg base (L2.CX P w) (3) T.d_law_flat.fn T.d_law_flat.fd ["_law_state_here", "_law_word", "_law_to", "_law_place"] (spF (gx K) 4 F_law_flat) := by
  have G_law_atom := ok_law_atom (P := P) (w := w) (base := base) T
  have G_law_take := ok_law_take (P := P) (w := w) (base := base) T
  exact fn_do (k := 2) T.d_law_flat.F sc_law_flat rfl rfl fun cdv A outer s0 H E hr =>
    dss_cons (ds_set 4 sc_law_flat.nd (de_fn G_law_atom (hr.mono (by omega)) T.d_law_atom.m T.d_law_atom.k T.d_law_atom.b (takes_of rfl rfl rfl rfl) (da_cons (de_var 0) da_nil))) <|
    dss_cons (ds_if (dt_cmp (op_inA hr) in_ok (de_var 1) (de_lst (da_cons (de_str) (da_cons (de_str) (da_cons (de_str) da_nil))))) (dss_one (ds_ret (de_lst (da_cons (de_tup (da_cons (de_var 1) (da_cons (de_var 2) (da_cons (de_var 4) (da_cons (de_var 3) da_nil))))) (da_cons (de_lst (da_cons (de_var 4) da_nil)) da_nil))))) (dss_nil)) <|
    dss_cons (ds_if (dt_cmp (op_inA hr) in_ok (de_var 1) (de_lst (da_cons (de_str) (da_cons (de_str) da_nil)))) (dss_one (ds_ret (de_lst (da_cons (de_tup (da_cons (de_var 1) (da_cons (de_var 2) (da_cons (de_add rfl (de_var 2) (de_int)) da_nil)))) (da_cons (de_lst (da_cons (de_tup (da_cons (de_str) (da_cons (de_add rfl (de_var 2) (de_int)) da_nil))) da_nil)) da_nil))))) (dss_nil)) <|
    dss_cons (ds_if (dt_cmp (op_inA hr) in_ok (de_var 1) (de_lst (da_cons (de_str) (da_cons (de_str) da_nil)))) (dss_one (ds_ret (de_lst (da_cons (de_tup (da_cons (de_var 1) (da_cons (de_var 2) (da_cons (de_int) (da_cons (de_var 4) (da_cons (de_var 3) da_nil)))))) (da_cons (de_lst (da_cons (de_tup (da_cons (de_str) (da_cons (de_int) da_nil))) (da_cons (de_var 4) da_nil))) da_nil))))) (dss_nil)) <|
    dss_cons (ds_if (dt_cmp (op_eqA rfl hr) eq_ok (de_var 1) (de_str)) (dss_one (ds_ret (de_lst (da_cons (de_tup (da_cons (de_var 1) (da_cons (de_var 2) (da_cons (de_str) (da_cons (de_var 4) (da_cons (de_var 3) da_nil)))))) (da_cons (de_lst (da_cons (de_var 4) da_nil)) da_nil))))) (dss_nil)) <|
    dss_cons (ds_if (dt_cmp (op_eqA rfl hr) eq_ok (de_var 1) (de_str)) (dss_one (ds_ret (de_lst (da_cons (de_tup (da_cons (de_var 1) (da_cons (de_var 2) (da_cons (de_var 3) da_nil)))) (da_cons (de_lst da_nil) da_nil))))) (dss_nil)) <|
    dss_cons (ds_if (dt_cmp (op_eqA rfl hr) eq_ok (de_var 1) (de_str)) (dss_cons (ds_set 5 sc_law_flat.nd (de_callTy (call_tupA rfl) tuple_ok T.z_tuple PyProof.Rows.boot_tuple (da_cons (de_lc rfl rfl sc_law_flat.nd (di_range1 T.z_range (da_cons (de_fn G_law_take (hr.mono (by omega)) T.d_law_take.m T.d_law_take.k T.d_law_take.b (takes_of rfl rfl rfl rfl) (da_cons (de_var 0) (da_cons (de_int) da_nil))) da_nil)) (blkOk_by (N := ["_law_state_here", "_law_word", "_law_to", "_law_place", "_law_one", "_law_names", "_law_k", "_law_name", "_law_other", "_law_atoms"]) (sc := defScope st_law_flat) (own := [("_law_k", 6)]) (by decide +kernel)) rfl (fun s H C cl fp => pg_name (i := 6) sc_law_flat.nd rfl (Or.inl rfl) (Or.inr rfl)) (fun s H C cl fp => dts_nil) (fun s H C cl fp => de_add rfl (de_mod (de_var 3) (de_int)) (de_mul (de_int) (de_var 6)))) da_nil))) <|
    dss_one (ds_ret (de_lst (da_cons (de_tup (da_cons (de_var 1) (da_cons (de_var 2) (da_cons (de_int) (da_cons (de_var 5) (da_cons (de_var 3) da_nil)))))) (da_cons (de_lc rfl rfl sc_law_flat.nd (di_any rfl (de_var 5)) (blkOk_by (N := ["_law_state_here", "_law_word", "_law_to", "_law_place", "_law_one", "_law_names", "_law_k", "_law_name", "_law_other", "_law_atoms"]) (sc := defScope st_law_flat) (own := [("_law_name", 7)]) (by decide +kernel)) rfl (fun s H C cl fp => pg_name (i := 7) sc_law_flat.nd rfl (Or.inl rfl) (Or.inr rfl)) (fun s H C cl fp => dts_nil) (fun s H C cl fp => de_tup (da_cons (de_str) (da_cons (de_var 7) da_nil)))) da_nil))))) (dss_nil)) <|
    dss_cons (ds_set 8 sc_law_flat.nd (de_fn G_law_atom (hr.mono (by omega)) T.d_law_atom.m T.d_law_atom.k T.d_law_atom.b (takes_of rfl rfl rfl rfl) (da_cons (de_var 0) da_nil))) <|
    dss_cons (ds_if (dt_cmp (op_eqA rfl hr) eq_ok (de_var 1) (de_str)) (dss_one (ds_ret (de_lst (da_cons (de_tup (da_cons (de_var 1) (da_cons (de_var 2) (da_cons (de_str) (da_cons (de_var 4) (da_cons (de_var 8) (da_cons (de_var 3) da_nil))))))) (da_cons (de_lst (da_cons (de_var 4) (da_cons (de_var 8) da_nil))) da_nil))))) (dss_nil)) <|
    dss_cons (ds_set 9 sc_law_flat.nd (de_callTy (call_tupA rfl) tuple_ok T.z_tuple PyProof.Rows.boot_tuple (da_cons (de_slice rfl (de_lst (da_cons (de_var 8) (da_cons (de_var 4) (da_cons (de_var 8) (da_cons (de_tup (da_cons (de_str) (da_cons (de_var 2) da_nil))) da_nil))))) dp_none (dp_some (de_fn G_law_take (hr.mono (by omega)) T.d_law_take.m T.d_law_take.k T.d_law_take.b (takes_of rfl rfl rfl rfl) (da_cons (de_var 0) (da_cons (de_int) da_nil))))) da_nil))) <|
    dss_cons (ds_if (dt_cmp (op_eqA rfl hr) eq_ok (de_var 1) (de_str)) (dss_one (ds_ret (de_lst (da_cons (de_tup (da_cons (de_var 1) (da_cons (de_var 2) (da_cons (de_str) (da_cons (de_var 9) (da_cons (de_var 3) da_nil)))))) (da_cons (de_callTy (call_listA rfl rfl) list_ok T.z_list PyProof.Rows.boot_list (da_cons (de_var 9) da_nil)) da_nil))))) (dss_nil)) <|
    dss_one (ds_ret (de_lst (da_cons (de_tup (da_cons (de_str) (da_cons (de_var 2) (da_cons (de_var 4) (da_cons (de_var 9) (da_cons (de_var 3) (da_cons (de_cmp (op_eqA rfl hr) eq_ok (de_mod (de_var 3) (de_int)) (de_int)) da_nil))))))) (da_cons (de_add rfl (de_lst (da_cons (de_var 4) da_nil)) (de_callTy (call_listA rfl rfl) list_ok T.z_list PyProof.Rows.boot_list (da_cons (de_var 9) da_nil))) da_nil))))
theorem bd_law_wide (T : Tx K mg ) {n : Nat} {c_law_wide c_law_made c_law_body : List D → Mo D} (G_law_wide : FnOk P w K mg base (L2.CX P w) (3 + n) T.d_law_wide.fn T.d_law_wide.fd ["_law_state_here", "_law_word", "_law_to", "_law_place", "_law_deep"] (spF (gx K) 5 c_law_wide)) (G_law_made : FnOk P w K mg base (L2.CX P w) (3 + n) T.d_law_made.fn T.d_law_made.fd ["_law_state_here", "_law_deep"] (spF (gx K) 2 c_law_made)) (G_law_body : FnOk P w K mg base (L2.CX P w) (3 + n) T.d_law_body.fn T.d_law_body.fd ["_law_state_here", "_law_deep"] (spF (gx K) 2 c_law_body)) : FnOk P w K mg base (L2.CX P w) (3 + n + 1) T.d_law_wide.fn T.d_law_wide.fd ["_law_state_here", "_law_word", "_law_to", "_law_place", "_law_deep"] (spF (gx K) 5 (cDef 10 (b_law_wide c_law_wide c_law_made c_law_body))) := by
  have G_law_atom := ok_law_atom (P := P) (w := w) (base := base) T
  have G_law_fresh := ok_law_fresh (P := P) (w := w) (base := base) T
  have G_law_some := ok_law_some (P := P) (w := w) (base := base) T
  exact fn_do (k := 3 + n) T.d_law_wide.F sc_law_wide rfl rfl fun cdv A outer s0 H E hr =>
    dss_cons (ds_set 5 sc_law_wide.nd (de_fn G_law_atom (hr.mono (by omega)) T.d_law_atom.m T.d_law_atom.k T.d_law_atom.b (takes_of rfl rfl rfl rfl) (da_cons (de_var 0) da_nil))) <|
    dss_cons (ds_set 6 sc_law_wide.nd (de_tup da_nil)) <|
    dss_cons (ds_if (dt_cmp (op_inA hr) in_ok (de_var 1) (de_lst (da_cons (de_str) (da_cons (de_str) da_nil)))) (dss_one (ds_set 6 sc_law_wide.nd (de_fn G_law_some (hr.mono (by omega)) T.d_law_some.m T.d_law_some.k T.d_law_some.b (takes_of rfl rfl rfl rfl) (da_cons (de_var 0) (da_cons (de_int) da_nil))))) (dss_nil)) <|
    dss_cons (ds_set 7 sc_law_wide.nd (de_fn G_law_body (hr.mono (by omega)) T.d_law_body.m T.d_law_body.k T.d_law_body.b (takes_of rfl rfl rfl rfl) (da_cons (de_var 0) (da_cons (de_sub (de_var 4) (de_int)) da_nil)))) <|
    dss_cons (ds_if (dt_cmp (op_eqA rfl hr) eq_ok (de_var 1) (de_str)) (dss_one (ds_ret (de_lst (da_cons (de_tup (da_cons (de_var 1) (da_cons (de_var 2) (da_cons (de_var 6) (da_cons (de_var 7) (da_cons (de_var 3) da_nil)))))) (da_cons (de_lst da_nil) (da_cons (de_lst (da_cons (de_tup (da_cons (de_var 6) (da_cons (de_var 7) da_nil))) da_nil)) da_nil)))))) (dss_nil)) <|
    dss_cons (ds_set 8 sc_law_wide.nd (de_fn G_law_body (hr.mono (by omega)) T.d_law_body.m T.d_law_body.k T.d_law_body.b (takes_of rfl rfl rfl rfl) (da_cons (de_var 0) (da_cons (de_sub (de_var 4) (de_int)) da_nil)))) <|
    dss_cons (ds_if (dt_cmp (op_eqA rfl hr) eq_ok (de_var 1) (de_str)) (dss_one (ds_ret (de_lst (da_cons (de_tup (da_cons (de_var 1) (da_cons (de_var 2) (da_cons (de_var 5) (da_cons (de_var 7) (da_cons (de_var 8) (da_cons (de_var 3) da_nil))))))) (da_cons (de_lst (da_cons (de_var 5) da_nil)) (da_cons (de_lst (da_cons (de_tup (da_cons (de_tup da_nil) (da_cons (de_var 7) da_nil))) (da_cons (de_tup (da_cons (de_tup da_nil) (da_cons (de_var 8) da_nil))) da_nil))) da_nil)))))) (dss_nil)) <|
    dss_cons (ds_if (dt_cmp (op_eqA rfl hr) eq_ok (de_var 1) (de_str)) (dss_one (ds_ret (de_lst (da_cons (de_tup (da_cons (de_var 1) (da_cons (de_var 2) (da_cons (de_var 5) (da_cons (de_str) (da_cons (de_var 6) (da_cons (de_var 7) (da_cons (de_var 8) (da_cons (de_var 3) da_nil))))))))) (da_cons (de_lst (da_cons (de_var 5) da_nil)) (da_cons (de_lst (da_cons (de_tup (da_cons (de_var 6) (da_cons (de_var 7) da_nil))) (da_cons (de_tup (da_cons (de_tup da_nil) (da_cons (de_var 8) da_nil))) da_nil))) da_nil)))))) (dss_nil)) <|
    dss_cons (ds_set 9 sc_law_wide.nd (de_fn G_law_fresh (hr.mono (by omega)) T.d_law_fresh.m T.d_law_fresh.k T.d_law_fresh.b (takes_of rfl rfl rfl rfl) (da_cons (de_var 0) da_nil))) <|
    dss_one (ds_ret (de_lst (da_cons (de_tup (da_cons (de_var 1) (da_cons (de_var 2) (da_cons (de_var 7) (da_cons (de_str) (da_cons (de_var 9) (da_cons (de_var 8) (da_cons (de_var 3) da_nil)))))))) (da_cons (de_lst da_nil) (da_cons (de_lst (da_cons (de_tup (da_cons (de_tup da_nil) (da_cons (de_var 7) da_nil))) (da_cons (de_tup (da_cons (de_tup (da_cons (de_var 9) da_nil)) (da_cons (de_var 8) da_nil))) da_nil))) da_nil)))))
theorem bd_law_made (T : Tx K mg ) {n : Nat} {c_law_wide c_law_made c_law_body : List D → Mo D} (G_law_wide : FnOk P w K mg base (L2.CX P w) (3 + n) T.d_law_wide.fn T.d_law_wide.fd ["_law_state_here", "_law_word", "_law_to", "_law_place", "_law_deep"] (spF (gx K) 5 c_law_wide)) (G_law_made : FnOk P w K mg base (L2.CX P w) (3 + n) T.d_law_made.fn T.d_law_made.fd ["_law_state_here", "_law_deep"] (spF (gx K) 2 c_law_made)) (G_law_body : FnOk P w K mg base (L2.CX P w) (3 + n) T.d_law_body.fn T.d_law_body.fd ["_law_state_here", "_law_deep"] (spF (gx K) 2 c_law_body)) : FnOk P w K mg base (L2.CX P w) (3 + n + 1) T.d_law_made.fn T.d_law_made.fd ["_law_state_here", "_law_deep"] (spF (gx K) 2 (cDef 7 (b_law_made c_law_wide c_law_made c_law_body))) := by
  have G_law_flat := ok_law_flat (P := P) (w := w) (base := base) T
  have G_law_fresh := ok_law_fresh (P := P) (w := w) (base := base) T
  have G_law_take := ok_law_take (P := P) (w := w) (base := base) T
  exact fn_do (k := 3 + n) T.d_law_made.F sc_law_made rfl rfl fun cdv A outer s0 H E hr =>
    dss_cons (ds_set 2 sc_law_made.nd (de_lst (da_cons (de_str) (da_cons (de_str) (da_cons (de_str) (da_cons (de_str) (da_cons (de_str) (da_cons (de_str) (da_cons (de_str) (da_cons (de_str) (da_cons (de_str) (da_cons (de_str) (da_cons (de_str) (da_cons (de_str) (da_cons (de_str) da_nil))))))))))))))) <|
    dss_cons (ds_set 2 sc_law_made.nd (de_add rfl (de_var 2) (de_lst (da_cons (de_str) (da_cons (de_str) (da_cons (de_str) (da_cons (de_str) da_nil))))))) <|
    dss_cons (ds_set 3 sc_law_made.nd (de_ix rfl hr (de_var 2) (de_fn G_law_take (hr.mono (by omega)) T.d_law_take.m T.d_law_take.k T.d_law_take.b (takes_of rfl rfl rfl rfl) (da_cons (de_var 0) (da_cons (de_int) da_nil))))) <|
    dss_cons (ds_set 4 sc_law_made.nd (de_fn G_law_fresh (hr.mono (by omega)) T.d_law_fresh.m T.d_law_fresh.k T.d_law_fresh.b (takes_of rfl rfl rfl rfl) (da_cons (de_var 0) da_nil))) <|
    dss_cons (ds_set 5 sc_law_made.nd (de_fn G_law_take (hr.mono (by omega)) T.d_law_take.m T.d_law_take.k T.d_law_take.b (takes_of rfl rfl rfl rfl) (da_cons (de_var 0) (da_cons (de_int) da_nil)))) <|
    dss_cons (ds_st hr (de_var 0) (de_str) (de_sub (de_ix rfl hr (de_var 0) (de_str)) (de_int))) <|
    dss_cons (ds_if (dt_cmp (op_inA hr) in_ok (de_var 3) (de_lst (da_cons (de_str) (da_cons (de_str) (da_cons (de_str) (da_cons (de_str) da_nil)))))) (dss_one (ds_set 6 sc_law_made.nd (de_fn G_law_wide (hr.mono (by omega)) T.d_law_wide.m T.d_law_wide.k T.d_law_wide.b (takes_of rfl rfl rfl rfl) (da_cons (de_var 0) (da_cons (de_var 3) (da_cons (de_var 4) (da_cons (de_var 5) (da_cons (de_var 1) da_nil)))))))) (dss_one (ds_set 6 sc_law_made.nd (de_add rfl (de_fn G_law_flat (hr.mono (by omega)) T.d_law_flat.m T.d_law_flat.k T.d_law_flat.b (takes_of rfl rfl rfl rfl) (da_cons (de_var 0) (da_cons (de_var 3) (da_cons (de_var 4) (da_cons (de_var 5) da_nil))))) (de_lst (da_cons (de_lst da_nil) da_nil)))))) <|
    dss_cons (ds_expr (de_mt PySem.F.plainAttrs_list PySem.F.slot_list_extend PySem.F.type_list_extend (mt_extA rfl) ext_ok rfl (de_ix rfl hr (de_var 0) (de_str)) (da_cons (de_ix rfl hr (de_var 6) (de_int)) da_nil))) <|
    dss_cons (ds_expr (de_mt PySem.F.plainAttrs_list PySem.F.slot_list_append PySem.F.type_list_append mt_append app_ok rfl (de_ix rfl hr (de_var 0) (de_str)) (da_cons (de_var 6) da_nil))) <|
    dss_one (ds_ret (de_ix rfl hr (de_var 6) (de_int)))
theorem bd_law_body (T : Tx K mg ) {n : Nat} {c_law_wide c_law_made c_law_body : List D → Mo D} (G_law_wide : FnOk P w K mg base (L2.CX P w) (3 + n) T.d_law_wide.fn T.d_law_wide.fd ["_law_state_here", "_law_word", "_law_to", "_law_place", "_law_deep"] (spF (gx K) 5 c_law_wide)) (G_law_made : FnOk P w K mg base (L2.CX P w) (3 + n) T.d_law_made.fn T.d_law_made.fd ["_law_state_here", "_law_deep"] (spF (gx K) 2 c_law_made)) (G_law_body : FnOk P w K mg base (L2.CX P w) (3 + n) T.d_law_body.fn T.d_law_body.fd ["_law_state_here", "_law_deep"] (spF (gx K) 2 c_law_body)) : FnOk P w K mg base (L2.CX P w) (3 + n + 1) T.d_law_body.fn T.d_law_body.fd ["_law_state_here", "_law_deep"] (spF (gx K) 2 (cDef 6 (b_law_body c_law_wide c_law_made c_law_body))) := by
  have G_law_atom := ok_law_atom (P := P) (w := w) (base := base) T
  have G_law_take := ok_law_take (P := P) (w := w) (base := base) T
  exact fn_do (k := 3 + n) T.d_law_body.F sc_law_body rfl rfl fun cdv A outer s0 H E hr =>
    dss_cons (ds_set 2 sc_law_body.nd (de_lst da_nil)) <|
    dss_cons (ds_set 3 sc_law_body.nd (de_int)) <|
    dss_cons (ds_if (dt_cmp op_gt gt_ok (de_var 1) (de_int)) (dss_one (ds_set 3 sc_law_body.nd (de_fn G_law_take (hr.mono (by omega)) T.d_law_take.m T.d_law_take.k T.d_law_take.b (takes_of rfl rfl rfl rfl) (da_cons (de_var 0) (da_cons (de_int) da_nil))))) (dss_nil)) <|
    dss_cons (ds_for (passes_of rfl) rfl (di_range1 T.z_range (da_cons (de_var 3) da_nil)) (dg_name 4 sc_law_body.nd) (dss_one (ds_if (dt_cmp op_gt gt_ok (de_ix rfl hr (de_var 0) (de_str)) (de_int)) (dss_one (ds_expr (de_mt PySem.F.plainAttrs_list PySem.F.slot_list_append PySem.F.type_list_append mt_append app_ok rfl (de_var 2) (da_cons (de_fn G_law_made (hr.mono (by omega)) T.d_law_made.m T.d_law_made.k T.d_law_made.b (takes_of rfl rfl rfl rfl) (da_cons (de_var 0) (da_cons (de_var 1) da_nil))) da_nil)))) (dss_nil)))) <|
    dss_cons (ds_set 5 sc_law_body.nd (de_fn G_law_atom (hr.mono (by omega)) T.d_law_atom.m T.d_law_atom.k T.d_law_atom.b (takes_of rfl rfl rfl rfl) (da_cons (de_var 0) da_nil))) <|
    dss_cons (ds_expr (de_mt PySem.F.plainAttrs_list PySem.F.slot_list_append PySem.F.type_list_append mt_append app_ok rfl (de_ix rfl hr (de_var 0) (de_str)) (da_cons (de_var 5) da_nil))) <|
    dss_one (ds_ret (de_tup (da_cons (de_callTy (call_tupA rfl) tuple_ok T.z_tuple PyProof.Rows.boot_tuple (da_cons (de_var 2) da_nil)) (da_cons (de_var 5) da_nil))))
theorem okr_law_wide (T : Tx K mg ) : ∀ n : Nat, FnOk P w K mg base (L2.CX P w) (3 + n) T.d_law_wide.fn T.d_law_wide.fd ["_law_state_here", "_law_word", "_law_to", "_law_place", "_law_deep"] (spF (gx K) 5 (F_law_wide n)) ∧ FnOk P w K mg base (L2.CX P w) (3 + n) T.d_law_made.fn T.d_law_made.fd ["_law_state_here", "_law_deep"] (spF (gx K) 2 (F_law_made n)) ∧ FnOk P w K mg base (L2.CX P w) (3 + n) T.d_law_body.fn T.d_law_body.fd ["_law_state_here", "_law_deep"] (spF (gx K) 2 (F_law_body n))
  | 0 => ⟨fn_bad, fn_bad, fn_bad⟩
  | n + 1 => by
    obtain ⟨i0, i1, i2⟩ := okr_law_wide T n
    exact ⟨bd_law_wide T i0 i1 i2, bd_law_made T i0 i1 i2, bd_law_body T i0 i1 i2⟩
theorem ok_law_wide (T : Tx K mg ) : FnOk P w K mg base (L2.CX P w) (43) T.d_law_wide.fn T.d_law_wide.fd ["_law_state_here", "_law_word", "_law_to", "_law_place", "_law_deep"] (spF (gx K) 5 (F_law_wide 40)) := (okr_law_wide T 40).1
theorem ok_law_made (T : Tx K mg ) : FnOk P w K mg base (L2.CX P w) (43) T.d_law_made.fn T.d_law_made.fd ["_law_state_here", "_law_deep"] (spF (gx K) 2 (F_law_made 40)) := (okr_law_wide T 40).2.1
theorem ok_law_body (T : Tx K mg ) : FnOk P w K mg base (L2.CX P w) (43) T.d_law_body.fn T.d_law_body.fd ["_law_state_here", "_law_deep"] (spF (gx K) 2 (F_law_body 40)) := (okr_law_wide T 40).2.2
theorem ok_law_right (T : Tx K mg ) : FnOk P w K mg base (L2.CX P w) (1) T.d_law_right.fn T.d_law_right.fd ["_law_found", "_law_due"] (spF (gx K) 2 F_law_right) := by
  exact fn_do (k := 0) T.d_law_right.F sc_law_right rfl rfl fun cdv A outer s0 H E hr =>
    dss_cons (ds_if (dt_pw (dw_or (dt_not (dt_tru (de_isi T.jt rfl T.z_isinstance PyProof.Rows.boot_isinstance (da_cons (de_var 0) (da_cons (de_bltn T.z_list PyProof.Rows.boot_list) da_nil))) rfl)) (dw_or1 (dt_cmp (op_neA rfl hr) ne_ok (de_var 0) (de_var 1))))) (dss_one (ds_ret (de_bl))) (dss_nil)) <|
    dss_cons (ds_for (passes_of rfl) rfl (di_any rfl (de_var 0)) (dg_name 2 sc_law_right.nd) (dss_one (ds_if (dt_not (dt_tru (de_isi T.jt rfl T.z_isinstance PyProof.Rows.boot_isinstance (da_cons (de_var 2) (da_cons (de_bltn T.z_tuple PyProof.Rows.boot_tuple) da_nil))) rfl)) (dss_one (ds_ret (de_bl))) (dss_nil)))) <|
    dss_cons (ds_expr (de_mt PySem.F.plainAttrs_list PySem.F.slot_list_append PySem.F.type_list_append mt_append app_ok rfl (de_var 0) (da_cons (de_int) da_nil))) <|
    dss_one (ds_ret (de_bl))
theorem ok_law (T : Tx K mg ) : FnOk P w K mg base (L2.CX P w) (44) T.d_law.fn T.d_law.fd ["_law_script"] (spF (gx K) 1 F_law) := by
  have G_given_in := ok_given_in (P := P) (w := w) (base := base) T
  have G_inner := ok_inner (P := P) (w := w) (base := base) T
  have G_law_atom := ok_law_atom (P := P) (w := w) (base := base) T
  have G_law_made := ok_law_made (P := P) (w := w) (base := base) T
  have G_law_right := ok_law_right (P := P) (w := w) (base := base) T
  have G_law_state := ok_law_state (P := P) (w := w) (base := base) T
  have G_mentioned := ok_mentioned (P := P) (w := w) (base := base) T
  have G_operands := ok_operands (P := P) (w := w) (base := base) T
  exact fn_do (k := 43) T.d_law.F sc_law rfl rfl fun cdv A outer s0 H E hr =>
    dss_cons (ds_set 1 sc_law.nd (de_fn G_law_state (hr.mono (by omega)) T.d_law_state.m T.d_law_state.k T.d_law_state.b (takes_of rfl rfl rfl rfl) (da_cons (de_var 0) da_nil))) <|
    dss_cons (ds_set 2 sc_law.nd (de_lst da_nil)) <|
    dss_cons (ds_while wfuel (passes_of rfl) (dt_pw (dw_and (dt_cmp op_gt gt_ok (de_ix rfl hr (de_var 1) (de_str)) (de_int)) (dw_and1 (dt_cmp op_lt lt_ok (de_len rfl T.z_len (da_cons (de_var 2) da_nil)) (de_int))))) (dss_one (ds_expr (de_mt PySem.F.plainAttrs_list PySem.F.slot_list_append PySem.F.type_list_append mt_append app_ok rfl (de_var 2) (da_cons (de_fn G_law_made (hr.mono (by omega)) T.d_law_made.m T.d_law_made.k T.d_law_made.b (takes_of rfl rfl rfl rfl) (da_cons (de_var 1) (da_cons (de_int) da_nil))) da_nil))))) <|
    dss_cons (ds_set 3 sc_law.nd (de_tup (da_cons (de_callTy (call_tupA rfl) tuple_ok T.z_tuple PyProof.Rows.boot_tuple (da_cons (de_var 2) da_nil)) (da_cons (de_fn G_law_atom (hr.mono (by omega)) T.d_law_atom.m T.d_law_atom.k T.d_law_atom.b (takes_of rfl rfl rfl rfl) (da_cons (de_var 1) da_nil)) da_nil)))) <|
    dss_cons (ds_set 4 sc_law.nd (de_dict0)) <|
    dss_cons (ds_for (passes_of rfl) rfl (di_any rfl (de_add rfl (de_ix rfl hr (de_var 1) (de_str)) (de_lst (da_cons (de_ix rfl hr (de_var 3) (de_int)) da_nil)))) (dg_tup rfl rfl (dgs_cons (dg_name 5 sc_law.nd) (dgs_cons (dg_name 6 sc_law.nd) dgs_nil))) (dss_one (ds_if (dt_cmp (op_eqA rfl hr) eq_ok (de_var 5) (de_str)) (dss_one (ds_st hr (de_var 4) (de_var 6) (de_bl))) (dss_nil)))) <|
    dss_cons (ds_for (passes_of rfl) rfl (di_range1 T.z_range (da_cons (de_int) da_nil)) (dg_name 7 sc_law.nd) (dss_cons (ds_for (passes_of rfl) rfl (di_any rfl (de_ix rfl hr (de_var 1) (de_str))) (dg_tup rfl rfl (dgs_cons (dg_name 8 sc_law.nd) (dgs_cons (dg_name 9 sc_law.nd) (dgs_cons (dg_name 10 sc_law.nd) dgs_nil)))) (dss_one (ds_if (dt_pw (dw_or (dt_not (dt_tru (de_fn G_law_right (hr.mono (by omega)) T.d_law_right.m T.d_law_right.k T.d_law_right.b (takes_of rfl rfl rfl rfl) (da_cons (de_fn G_operands (hr.mono (by omega)) T.d_operands.m T.d_operands.k T.d_operands.b (takes_of rfl rfl rfl rfl) (da_cons (de_var 8) da_nil)) (da_cons (de_var 9) da_nil))) rfl)) (dw_or1 (dt_not (dt_tru (de_fn G_law_right (hr.mono (by omega)) T.d_law_right.m T.d_law_right.k T.d_law_right.b (takes_of rfl rfl rfl rfl) (da_cons (de_fn G_inner (hr.mono (by omega)) T.d_inner.m T.d_inner.k T.d_inner.b (takes_of rfl rfl rfl rfl) (da_cons (de_var 8) da_nil)) (da_cons (de_var 10) da_nil))) rfl))))) (dss_one (ds_ret (de_bl))) (dss_nil)))) <|
    dss_cons (ds_set 11 sc_law.nd (de_fn G_given_in (hr.mono (by omega)) T.d_given_in.m T.d_given_in.k T.d_given_in.b (takes_of rfl rfl rfl rfl) (da_cons (de_var 3) da_nil))) <|
    dss_cons (ds_set 12 sc_law.nd (de_fn G_mentioned (hr.mono (by omega)) T.d_mentioned.m T.d_mentioned.k T.d_mentioned.b (takes_of rfl rfl rfl rfl) (da_cons (de_var 3) da_nil))) <|
    dss_cons (ds_if (dt_pw (dw_or (dt_not (dt_tru (de_isi T.jt rfl T.z_isinstance PyProof.Rows.boot_isinstance (da_cons (de_var 11) (da_cons (de_bltn T.z_list PyProof.Rows.boot_list) da_nil))) rfl)) (dw_or1 (dt_cmp (op_neA rfl hr) ne_ok (de_var 11) (de_callB (call_sortA rfl rfl) sort_ok T.z_sorted PyProof.Rows.boot_sorted (da_cons (de_ix rfl hr (de_var 1) (de_str)) da_nil)))))) (dss_one (ds_ret (de_bl))) (dss_nil)) <|
    dss_cons (ds_if (dt_pw (dw_or (dt_not (dt_tru (de_isi T.jt rfl T.z_isinstance PyProof.Rows.boot_isinstance (da_cons (de_var 12) (da_cons (de_bltn T.z_list PyProof.Rows.boot_list) da_nil))) rfl)) (dw_or1 (dt_cmp (op_neA rfl hr) ne_ok (de_var 12) (de_callB (call_sortA rfl rfl) sort_ok T.z_sorted PyProof.Rows.boot_sorted (da_cons (de_var 4) da_nil)))))) (dss_one (ds_ret (de_bl))) (dss_nil)) <|
    dss_cons (ds_expr (de_mt PySem.F.plainAttrs_list PySem.F.slot_list_append PySem.F.type_list_append mt_append app_ok rfl (de_var 11) (da_cons (de_int) da_nil))) <|
    dss_one (ds_expr (de_mt PySem.F.plainAttrs_list PySem.F.slot_list_append PySem.F.type_list_append mt_append app_ok rfl (de_var 12) (da_cons (de_int) da_nil))))) <|
    dss_one (ds_ret (de_cmp (op_eqA rfl hr) eq_ok (de_var 3) (de_tup (da_cons (de_callTy (call_tupA rfl) tuple_ok T.z_tuple PyProof.Rows.boot_tuple (da_cons (de_var 2) da_nil)) (da_cons (de_ix rfl hr (de_var 3) (de_int)) da_nil)))))
theorem all_mk {h : Heap} {fa : Addr} (X : K.In h) (G : h.Ns mainGlobals mg) (hfa : mg "law" = some (.ref fa))
    {f_operands : Addr} {od_operands an_operands : Option Addr} {sl_operands : Array (Option Value)} {oc_operands kV_operands dc_operands pm_operands cd_operands ct_operands : Value}
    {f_inner : Addr} {od_inner an_inner : Option Addr} {sl_inner : Array (Option Value)} {oc_inner kV_inner dc_inner pm_inner cd_inner ct_inner : Value}
    {f_given_in : Addr} {od_given_in an_given_in : Option Addr} {sl_given_in : Array (Option Value)} {oc_given_in kV_given_in dc_given_in pm_given_in cd_given_in ct_given_in : Value}
    {f_mentioned : Addr} {od_mentioned an_mentioned : Option Addr} {sl_mentioned : Array (Option Value)} {oc_mentioned kV_mentioned dc_mentioned pm_mentioned cd_mentioned ct_mentioned : Value}
    {f_law_cell_at : Addr} {od_law_cell_at an_law_cell_at : Option Addr} {sl_law_cell_at : Array (Option Value)} {oc_law_cell_at kV_law_cell_at dc_law_cell_at pm_law_cell_at cd_law_cell_at ct_law_cell_at : Value}
    {f_law_state : Addr} {od_law_state an_law_state : Option Addr} {sl_law_state : Array (Option Value)} {oc_law_state kV_law_state dc_law_state pm_law_state cd_law_state ct_law_state : Value}
    {f_law_take : Addr} {od_law_take an_law_take : Option Addr} {sl_law_take : Array (Option Value)} {oc_law_take kV_law_take dc_law_take pm_law_take cd_law_take ct_law_take : Value}
    {f_law_atom : Addr} {od_law_atom an_law_atom : Option Addr} {sl_law_atom : Array (Option Value)} {oc_law_atom kV_law_atom dc_law_atom pm_law_atom cd_law_atom ct_law_atom : Value}
    {f_law_fresh : Addr} {od_law_fresh an_law_fresh : Option Addr} {sl_law_fresh : Array (Option Value)} {oc_law_fresh kV_law_fresh dc_law_fresh pm_law_fresh cd_law_fresh ct_law_fresh : Value}
    {f_law_some : Addr} {od_law_some an_law_some : Option Addr} {sl_law_some : Array (Option Value)} {oc_law_some kV_law_some dc_law_some pm_law_some cd_law_some ct_law_some : Value}
    {f_law_flat : Addr} {od_law_flat an_law_flat : Option Addr} {sl_law_flat : Array (Option Value)} {oc_law_flat kV_law_flat dc_law_flat pm_law_flat cd_law_flat ct_law_flat : Value}
    {f_law_wide : Addr} {od_law_wide an_law_wide : Option Addr} {sl_law_wide : Array (Option Value)} {oc_law_wide kV_law_wide dc_law_wide pm_law_wide cd_law_wide ct_law_wide : Value}
    {f_law_made : Addr} {od_law_made an_law_made : Option Addr} {sl_law_made : Array (Option Value)} {oc_law_made kV_law_made dc_law_made pm_law_made cd_law_made ct_law_made : Value}
    {f_law_body : Addr} {od_law_body an_law_body : Option Addr} {sl_law_body : Array (Option Value)} {oc_law_body kV_law_body dc_law_body pm_law_body cd_law_body ct_law_body : Value}
    {f_law_right : Addr} {od_law_right an_law_right : Option Addr} {sl_law_right : Array (Option Value)} {oc_law_right kV_law_right dc_law_right pm_law_right cd_law_right ct_law_right : Value}
    {f_law : Addr} {od_law an_law : Option Addr} {sl_law : Array (Option Value)} {oc_law kV_law dc_law pm_law cd_law ct_law : Value}
    (sg : PySem.W.specialIn K (.builtin "object.__class__") "__get__" = some (some (.builtin "getset_descriptor.__get__")))
    (tk : PySem.W.takesIn K (.builtin "object.__class__") = some true)
    (a_operands : PySem.W.nsIn K mainGlobals "operands" = some (some (.ref f_operands)))
    (l_operands : K.lookup f_operands = some ⟨oc_operands, od_operands, .func (PySem.W.fnOf "operands" "operands" (defArgs st_operands) (defBody st_operands) (defScope st_operands) .none kV_operands dc_operands pm_operands an_operands cd_operands ct_operands), sl_operands⟩)
    (c_operands : PySem.W.codeIn K cd_operands "operands" = true)
    (k_operands : PySem.W.keepIn K (.ref f_operands) = true)
    (a_inner : PySem.W.nsIn K mainGlobals "inner" = some (some (.ref f_inner)))
    (l_inner : K.lookup f_inner = some ⟨oc_inner, od_inner, .func (PySem.W.fnOf "inner" "inner" (defArgs st_inner) (defBody st_inner) (defScope st_inner) .none kV_inner dc_inner pm_inner an_inner cd_inner ct_inner), sl_inner⟩)
    (c_inner : PySem.W.codeIn K cd_inner "inner" = true)
    (k_inner : PySem.W.keepIn K (.ref f_inner) = true)
    (a_given_in : PySem.W.nsIn K mainGlobals "given_in" = some (some (.ref f_given_in)))
    (l_given_in : K.lookup f_given_in = some ⟨oc_given_in, od_given_in, .func (PySem.W.fnOf "given_in" "given_in" (defArgs st_given_in) (defBody st_given_in) (defScope st_given_in) .none kV_given_in dc_given_in pm_given_in an_given_in cd_given_in ct_given_in), sl_given_in⟩)
    (c_given_in : PySem.W.codeIn K cd_given_in "given_in" = true)
    (k_given_in : PySem.W.keepIn K (.ref f_given_in) = true)
    (a_mentioned : PySem.W.nsIn K mainGlobals "mentioned" = some (some (.ref f_mentioned)))
    (l_mentioned : K.lookup f_mentioned = some ⟨oc_mentioned, od_mentioned, .func (PySem.W.fnOf "mentioned" "mentioned" (defArgs st_mentioned) (defBody st_mentioned) (defScope st_mentioned) .none kV_mentioned dc_mentioned pm_mentioned an_mentioned cd_mentioned ct_mentioned), sl_mentioned⟩)
    (c_mentioned : PySem.W.codeIn K cd_mentioned "mentioned" = true)
    (k_mentioned : PySem.W.keepIn K (.ref f_mentioned) = true)
    (a_law_cell_at : PySem.W.nsIn K mainGlobals "_law_cell_at" = some (some (.ref f_law_cell_at)))
    (l_law_cell_at : K.lookup f_law_cell_at = some ⟨oc_law_cell_at, od_law_cell_at, .func (PySem.W.fnOf "_law_cell_at" "_law_cell_at" (defArgs st_law_cell_at) (defBody st_law_cell_at) (defScope st_law_cell_at) .none kV_law_cell_at dc_law_cell_at pm_law_cell_at an_law_cell_at cd_law_cell_at ct_law_cell_at), sl_law_cell_at⟩)
    (c_law_cell_at : PySem.W.codeIn K cd_law_cell_at "_law_cell_at" = true)
    (k_law_cell_at : PySem.W.keepIn K (.ref f_law_cell_at) = true)
    (a_law_state : PySem.W.nsIn K mainGlobals "_law_state" = some (some (.ref f_law_state)))
    (l_law_state : K.lookup f_law_state = some ⟨oc_law_state, od_law_state, .func (PySem.W.fnOf "_law_state" "_law_state" (defArgs st_law_state) (defBody st_law_state) (defScope st_law_state) .none kV_law_state dc_law_state pm_law_state an_law_state cd_law_state ct_law_state), sl_law_state⟩)
    (c_law_state : PySem.W.codeIn K cd_law_state "_law_state" = true)
    (k_law_state : PySem.W.keepIn K (.ref f_law_state) = true)
    (a_law_take : PySem.W.nsIn K mainGlobals "_law_take" = some (some (.ref f_law_take)))
    (l_law_take : K.lookup f_law_take = some ⟨oc_law_take, od_law_take, .func (PySem.W.fnOf "_law_take" "_law_take" (defArgs st_law_take) (defBody st_law_take) (defScope st_law_take) .none kV_law_take dc_law_take pm_law_take an_law_take cd_law_take ct_law_take), sl_law_take⟩)
    (c_law_take : PySem.W.codeIn K cd_law_take "_law_take" = true)
    (k_law_take : PySem.W.keepIn K (.ref f_law_take) = true)
    (a_law_atom : PySem.W.nsIn K mainGlobals "_law_atom" = some (some (.ref f_law_atom)))
    (l_law_atom : K.lookup f_law_atom = some ⟨oc_law_atom, od_law_atom, .func (PySem.W.fnOf "_law_atom" "_law_atom" (defArgs st_law_atom) (defBody st_law_atom) (defScope st_law_atom) .none kV_law_atom dc_law_atom pm_law_atom an_law_atom cd_law_atom ct_law_atom), sl_law_atom⟩)
    (c_law_atom : PySem.W.codeIn K cd_law_atom "_law_atom" = true)
    (k_law_atom : PySem.W.keepIn K (.ref f_law_atom) = true)
    (a_law_fresh : PySem.W.nsIn K mainGlobals "_law_fresh" = some (some (.ref f_law_fresh)))
    (l_law_fresh : K.lookup f_law_fresh = some ⟨oc_law_fresh, od_law_fresh, .func (PySem.W.fnOf "_law_fresh" "_law_fresh" (defArgs st_law_fresh) (defBody st_law_fresh) (defScope st_law_fresh) .none kV_law_fresh dc_law_fresh pm_law_fresh an_law_fresh cd_law_fresh ct_law_fresh), sl_law_fresh⟩)
    (c_law_fresh : PySem.W.codeIn K cd_law_fresh "_law_fresh" = true)
    (k_law_fresh : PySem.W.keepIn K (.ref f_law_fresh) = true)
    (a_law_some : PySem.W.nsIn K mainGlobals "_law_some" = some (some (.ref f_law_some)))
    (l_law_some : K.lookup f_law_some = some ⟨oc_law_some, od_law_some, .func (PySem.W.fnOf "_law_some" "_law_some" (defArgs st_law_some) (defBody st_law_some) (defScope st_law_some) .none kV_law_some dc_law_some pm_law_some an_law_some cd_law_some ct_law_some), sl_law_some⟩)
    (c_law_some : PySem.W.codeIn K cd_law_some "_law_some" = true)
    (k_law_some : PySem.W.keepIn K (.ref f_law_some) = true)
    (a_law_flat : PySem.W.nsIn K mainGlobals "_law_flat" = some (some (.ref f_law_flat)))
    (l_law_flat : K.lookup f_law_flat = some ⟨oc_law_flat, od_law_flat, .func (PySem.W.fnOf "_law_flat" "_law_flat" (defArgs st_law_flat) (defBody st_law_flat) (defScope st_law_flat) .none kV_law_flat dc_law_flat pm_law_flat an_law_flat cd_law_flat ct_law_flat), sl_law_flat⟩)
    (c_law_flat : PySem.W.codeIn K cd_law_flat "_law_flat" = true)
    (k_law_flat : PySem.W.keepIn K (.ref f_law_flat) = true)
    (a_law_wide : PySem.W.nsIn K mainGlobals "_law_wide" = some (some (.ref f_law_wide)))
    (l_law_wide : K.lookup f_law_wide = some ⟨oc_law_wide, od_law_wide, .func (PySem.W.fnOf "_law_wide" "_law_wide" (defArgs st_law_wide) (defBody st_law_wide) (defScope st_law_wide) .none kV_law_wide dc_law_wide pm_law_wide an_law_wide cd_law_wide ct_law_wide), sl_law_wide⟩)
    (c_law_wide : PySem.W.codeIn K cd_law_wide "_law_wide" = true)
    (k_law_wide : PySem.W.keepIn K (.ref f_law_wide) = true)
    (a_law_made : PySem.W.nsIn K mainGlobals "_law_made" = some (some (.ref f_law_made)))
    (l_law_made : K.lookup f_law_made = some ⟨oc_law_made, od_law_made, .func (PySem.W.fnOf "_law_made" "_law_made" (defArgs st_law_made) (defBody st_law_made) (defScope st_law_made) .none kV_law_made dc_law_made pm_law_made an_law_made cd_law_made ct_law_made), sl_law_made⟩)
    (c_law_made : PySem.W.codeIn K cd_law_made "_law_made" = true)
    (k_law_made : PySem.W.keepIn K (.ref f_law_made) = true)
    (a_law_body : PySem.W.nsIn K mainGlobals "_law_body" = some (some (.ref f_law_body)))
    (l_law_body : K.lookup f_law_body = some ⟨oc_law_body, od_law_body, .func (PySem.W.fnOf "_law_body" "_law_body" (defArgs st_law_body) (defBody st_law_body) (defScope st_law_body) .none kV_law_body dc_law_body pm_law_body an_law_body cd_law_body ct_law_body), sl_law_body⟩)
    (c_law_body : PySem.W.codeIn K cd_law_body "_law_body" = true)
    (k_law_body : PySem.W.keepIn K (.ref f_law_body) = true)
    (a_law_right : PySem.W.nsIn K mainGlobals "_law_right" = some (some (.ref f_law_right)))
    (l_law_right : K.lookup f_law_right = some ⟨oc_law_right, od_law_right, .func (PySem.W.fnOf "_law_right" "_law_right" (defArgs st_law_right) (defBody st_law_right) (defScope st_law_right) .none kV_law_right dc_law_right pm_law_right an_law_right cd_law_right ct_law_right), sl_law_right⟩)
    (c_law_right : PySem.W.codeIn K cd_law_right "_law_right" = true)
    (k_law_right : PySem.W.keepIn K (.ref f_law_right) = true)
    (a_law : PySem.W.nsIn K mainGlobals "law" = some (some (.ref f_law)))
    (l_law : K.lookup f_law = some ⟨oc_law, od_law, .func (PySem.W.fnOf "law" "law" (defArgs st_law) (defBody st_law) (defScope st_law) .none kV_law dc_law pm_law an_law cd_law ct_law), sl_law⟩)
    (c_law : PySem.W.codeIn K cd_law "law" = true)
    (k_law : PySem.W.keepIn K (.ref f_law) = true)
    (z_isinstance : PySem.W.nsIn K mainGlobals "isinstance" = some none)
    (z_len : PySem.W.nsIn K mainGlobals "len" = some none)
    (z_list : PySem.W.nsIn K mainGlobals "list" = some none)
    (z_max : PySem.W.nsIn K mainGlobals "max" = some none)
    (z_range : PySem.W.nsIn K mainGlobals "range" = some none)
    (z_sorted : PySem.W.nsIn K mainGlobals "sorted" = some none)
    (z_tuple : PySem.W.nsIn K mainGlobals "tuple" = some none) :
    ∃ fd : FuncData, (∀ (s : Shared) (v : Value), BindsTo s fd ⟨[v], []⟩ [("_law_script", v)]) ∧ ∀ base : Heap, K.In base → base.Ns mainGlobals mg → FnOk P w K mg base (L2.CX P w) 44 fa fd ["_law_script"] (spL 63 K) := by
  have e : fa = f_law := by injection (Option.some.inj (hfa.symm.trans (PySem.W.mg_of X G a_law)))
  rw [e]
  let T : Tx K mg  := {
    d_operands := ⟨f_operands, _, (fun_mk (st := st_operands) l_operands c_operands k_operands), ((fun_mk (st := st_operands) l_operands c_operands k_operands).binds (ps := ["step"]) fun _ _ _ _ _ _ us hl => match us, hl with | [_], _ => rfl), PySem.W.mg_of X G a_operands, k_operands⟩,
    d_inner := ⟨f_inner, _, (fun_mk (st := st_inner) l_inner c_inner k_inner), ((fun_mk (st := st_inner) l_inner c_inner k_inner).binds (ps := ["step"]) fun _ _ _ _ _ _ us hl => match us, hl with | [_], _ => rfl), PySem.W.mg_of X G a_inner, k_inner⟩,
    d_given_in := ⟨f_given_in, _, (fun_mk (st := st_given_in) l_given_in c_given_in k_given_in), ((fun_mk (st := st_given_in) l_given_in c_given_in k_given_in).binds (ps := ["body"]) fun _ _ _ _ _ _ us hl => match us, hl with | [_], _ => rfl), PySem.W.mg_of X G a_given_in, k_given_in⟩,
    d_mentioned := ⟨f_mentioned, _, (fun_mk (st := st_mentioned) l_mentioned c_mentioned k_mentioned), ((fun_mk (st := st_mentioned) l_mentioned c_mentioned k_mentioned).binds (ps := ["body"]) fun _ _ _ _ _ _ us hl => match us, hl with | [_], _ => rfl), PySem.W.mg_of X G a_mentioned, k_mentioned⟩,
    d_law_cell_at := ⟨f_law_cell_at, _, (fun_mk (st := st_law_cell_at) l_law_cell_at c_law_cell_at k_law_cell_at), ((fun_mk (st := st_law_cell_at) l_law_cell_at c_law_cell_at k_law_cell_at).binds (ps := ["_law_script", "_law_k"]) fun _ _ _ _ _ _ us hl => match us, hl with | [_, _], _ => rfl), PySem.W.mg_of X G a_law_cell_at, k_law_cell_at⟩,
    d_law_state := ⟨f_law_state, _, (fun_mk (st := st_law_state) l_law_state c_law_state k_law_state), ((fun_mk (st := st_law_state) l_law_state c_law_state k_law_state).binds (ps := ["_law_script"]) fun _ _ _ _ _ _ us hl => match us, hl with | [_], _ => rfl), PySem.W.mg_of X G a_law_state, k_law_state⟩,
    d_law_take := ⟨f_law_take, _, (fun_mk (st := st_law_take) l_law_take c_law_take k_law_take), ((fun_mk (st := st_law_take) l_law_take c_law_take k_law_take).binds (ps := ["_law_state_here", "_law_many"]) fun _ _ _ _ _ _ us hl => match us, hl with | [_, _], _ => rfl), PySem.W.mg_of X G a_law_take, k_law_take⟩,
    d_law_atom := ⟨f_law_atom, _, (fun_mk (st := st_law_atom) l_law_atom c_law_atom k_law_atom), ((fun_mk (st := st_law_atom) l_law_atom c_law_atom k_law_atom).binds (ps := ["_law_state_here"]) fun _ _ _ _ _ _ us hl => match us, hl with | [_], _ => rfl), PySem.W.mg_of X G a_law_atom, k_law_atom⟩,
    d_law_fresh := ⟨f_law_fresh, _, (fun_mk (st := st_law_fresh) l_law_fresh c_law_fresh k_law_fresh), ((fun_mk (st := st_law_fresh) l_law_fresh c_law_fresh k_law_fresh).binds (ps := ["_law_state_here"]) fun _ _ _ _ _ _ us hl => match us, hl with | [_], _ => rfl), PySem.W.mg_of X G a_law_fresh, k_law_fresh⟩,
    d_law_some := ⟨f_law_some, _, (fun_mk (st := st_law_some) l_law_some c_law_some k_law_some), ((fun_mk (st := st_law_some) l_law_some c_law_some k_law_some).binds (ps := ["_law_state_here", "_law_many"]) fun _ _ _ _ _ _ us hl => match us, hl with | [_, _], _ => rfl), PySem.W.mg_of X G a_law_some, k_law_some⟩,
    d_law_flat := ⟨f_law_flat, _, (fun_mk (st := st_law_flat) l_law_flat c_law_flat k_law_flat), ((fun_mk (st := st_law_flat) l_law_flat c_law_flat k_law_flat).binds (ps := ["_law_state_here", "_law_word", "_law_to", "_law_place"]) fun _ _ _ _ _ _ us hl => match us, hl with | [_, _, _, _], _ => rfl), PySem.W.mg_of X G a_law_flat, k_law_flat⟩,
    d_law_wide := ⟨f_law_wide, _, (fun_mk (st := st_law_wide) l_law_wide c_law_wide k_law_wide), ((fun_mk (st := st_law_wide) l_law_wide c_law_wide k_law_wide).binds (ps := ["_law_state_here", "_law_word", "_law_to", "_law_place", "_law_deep"]) fun _ _ _ _ _ _ us hl => match us, hl with | [_, _, _, _, _], _ => rfl), PySem.W.mg_of X G a_law_wide, k_law_wide⟩,
    d_law_made := ⟨f_law_made, _, (fun_mk (st := st_law_made) l_law_made c_law_made k_law_made), ((fun_mk (st := st_law_made) l_law_made c_law_made k_law_made).binds (ps := ["_law_state_here", "_law_deep"]) fun _ _ _ _ _ _ us hl => match us, hl with | [_, _], _ => rfl), PySem.W.mg_of X G a_law_made, k_law_made⟩,
    d_law_body := ⟨f_law_body, _, (fun_mk (st := st_law_body) l_law_body c_law_body k_law_body), ((fun_mk (st := st_law_body) l_law_body c_law_body k_law_body).binds (ps := ["_law_state_here", "_law_deep"]) fun _ _ _ _ _ _ us hl => match us, hl with | [_, _], _ => rfl), PySem.W.mg_of X G a_law_body, k_law_body⟩,
    d_law_right := ⟨f_law_right, _, (fun_mk (st := st_law_right) l_law_right c_law_right k_law_right), ((fun_mk (st := st_law_right) l_law_right c_law_right k_law_right).binds (ps := ["_law_found", "_law_due"]) fun _ _ _ _ _ _ us hl => match us, hl with | [_, _], _ => rfl), PySem.W.mg_of X G a_law_right, k_law_right⟩,
    d_law := ⟨f_law, _, (fun_mk (st := st_law) l_law c_law k_law), ((fun_mk (st := st_law) l_law c_law k_law).binds (ps := ["_law_script"]) fun _ _ _ _ _ _ us hl => match us, hl with | [_], _ => rfl), PySem.W.mg_of X G a_law, k_law⟩,
    z_isinstance := PySem.W.mg_none_of X G z_isinstance,
    z_len := PySem.W.mg_none_of X G z_len,
    z_list := PySem.W.mg_none_of X G z_list,
    z_max := PySem.W.mg_none_of X G z_max,
    z_range := PySem.W.mg_none_of X G z_range,
    z_sorted := PySem.W.mg_none_of X G z_sorted,
    z_tuple := PySem.W.mg_none_of X G z_tuple,
    tb := tabOk_of fa_nil,
    jt := isTab_of (fa_cons (kit_tt (by decide +kernel)) (fa_cons (kit_tt (by decide +kernel)) (fa_cons (kit_tt (by decide +kernel)) (fa_cons (kit_tt (by decide +kernel)) (fa_cons (kit_tt (by decide +kernel)) (fa_cons (kit_tt (by decide +kernel)) (fa_cons (kit_tt (by decide +kernel)) (fa_cons (kit_tt (by decide +kernel)) (fa_cons (kit_tt (by decide +kernel)) (fa_cons (kit_tt (by decide +kernel)) (fa_cons (kit_tt (by decide +kernel)) (fa_cons (kit_tt (by decide +kernel)) (fa_cons (kit_tt (by decide +kernel)) (fa_cons (kit_tt (by decide +kernel)) fa_nil)))))))))))))) (fa_cons (fun c e => by cases e) (fa_cons (fun c e => by cases e) (fa_cons (fun c e => by cases e) (fa_cons (fun c e => by cases e) (fa_cons (fun c e => by cases e) (fa_cons (fun c e => by cases e) (fa_cons (fun c e => by cases e) (fa_cons (fun c e => by cases e) (fa_cons (fun c e => by cases e) (fa_cons (fun c e => by cases e) (fa_cons (fun c e => by cases e) (fa_cons (fun c e => by cases e) (fa_cons (fun c e => by cases e) (fa_cons (fun c e => by cases e) fa_nil)))))))))))))) }
  exact ⟨_, fun s v => .of_eq rfl, fun base _ _ => law_end (g := (gx K)) rfl (ok_law (P := P) (w := w) (base := base) T) plain⟩
end
end K21
open PySem PySem.W PyProof.Rows
set_option maxRecDepth 100000 in
set_option maxHeartbeats 0 in
theorem PySem.Challenge.cw_spacewright_k21_what_steps_use_holds : PySem.Challenge.rw_spacewright_k21_what_steps_use.Holds := by
  w_on; o_law; k_head; (case hw => w_witness2)
  k_fill
  refine Sm.walk_sm (l := PySem.Challenge.rw_spacewright_k21_what_steps_use) (n := 63) (k := 44) (x := "_law_script") rfl (by decide) rfl ⟨rfl, by decide, by decide⟩ (fun w h Y => PySem.W.kIn_of Y) ?F
  case F =>
    intro w mg fa h KX G hmg
    refine' K21.all_mk KX G hmg ?sg ?tk ?a_operands ?l_operands ?c_operands ?k_operands ?a_inner ?l_inner ?c_inner ?k_inner ?a_given_in ?l_given_in ?c_given_in ?k_given_in ?a_mentioned ?l_mentioned ?c_mentioned ?k_mentioned ?a_law_cell_at ?l_law_cell_at ?c_law_cell_at ?k_law_cell_at ?a_law_state ?l_law_state ?c_law_state ?k_law_state ?a_law_take ?l_law_take ?c_law_take ?k_law_take ?a_law_atom ?l_law_atom ?c_law_atom ?k_law_atom ?a_law_fresh ?l_law_fresh ?c_law_fresh ?k_law_fresh ?a_law_some ?l_law_some ?c_law_some ?k_law_some ?a_law_flat ?l_law_flat ?c_law_flat ?k_law_flat ?a_law_wide ?l_law_wide ?c_law_wide ?k_law_wide ?a_law_made ?l_law_made ?c_law_made ?k_law_made ?a_law_body ?l_law_body ?c_law_body ?k_law_body ?a_law_right ?l_law_right ?c_law_right ?k_law_right ?a_law ?l_law ?c_law ?k_law ?z_isinstance ?z_len ?z_list ?z_max ?z_range ?z_sorted ?z_tuple
    (case sg => k_is)
    (case tk => k_is)
    (case a_operands => k_is)
    (case l_operands => k_is)
    (case c_operands => k_is)
    (case k_operands => k_is)
    (case a_inner => k_is)
    (case l_inner => k_is)
    (case c_inner => k_is)
    (case k_inner => k_is)
    (case a_given_in => k_is)
    (case l_given_in => k_is)
    (case c_given_in => k_is)
    (case k_given_in => k_is)
    (case a_mentioned => k_is)
    (case l_mentioned => k_is)
    (case c_mentioned => k_is)
    (case k_mentioned => k_is)
    (case a_law_cell_at => k_is)
    (case l_law_cell_at => k_is)
    (case c_law_cell_at => k_is)
    (case k_law_cell_at => k_is)
    (case a_law_state => k_is)
    (case l_law_state => k_is)
    (case c_law_state => k_is)
    (case k_law_state => k_is)
    (case a_law_take => k_is)
    (case l_law_take => k_is)
    (case c_law_take => k_is)
    (case k_law_take => k_is)
    (case a_law_atom => k_is)
    (case l_law_atom => k_is)
    (case c_law_atom => k_is)
    (case k_law_atom => k_is)
    (case a_law_fresh => k_is)
    (case l_law_fresh => k_is)
    (case c_law_fresh => k_is)
    (case k_law_fresh => k_is)
    (case a_law_some => k_is)
    (case l_law_some => k_is)
    (case c_law_some => k_is)
    (case k_law_some => k_is)
    (case a_law_flat => k_is)
    (case l_law_flat => k_is)
    (case c_law_flat => k_is)
    (case k_law_flat => k_is)
    (case a_law_wide => k_is)
    (case l_law_wide => k_is)
    (case c_law_wide => k_is)
    (case k_law_wide => k_is)
    (case a_law_made => k_is)
    (case l_law_made => k_is)
    (case c_law_made => k_is)
    (case k_law_made => k_is)
    (case a_law_body => k_is)
    (case l_law_body => k_is)
    (case c_law_body => k_is)
    (case k_law_body => k_is)
    (case a_law_right => k_is)
    (case l_law_right => k_is)
    (case c_law_right => k_is)
    (case k_law_right => k_is)
    (case a_law => k_is)
    (case l_law => k_is)
    (case c_law => k_is)
    (case k_law => k_is)
    (case z_isinstance => k_is)
    (case z_len => k_is)
    (case z_list => k_is)
    (case z_max => k_is)
    (case z_range => k_is)
    (case z_sorted => k_is)
    (case z_tuple => k_is)
#print axioms PySem.Challenge.cw_spacewright_k21_what_steps_use_holds
end
