import PyProof.Rows.All
import Wide.All
import OpenK.AllK
import Wide.FinOn
import HandS.ForMost
import HandS.ForExc
import HandS.CallSlots
import HandS.Flow
import HandS.Wide
import HandS.Nested
import HandS.ExcInit
import HandS.TupAny
import HandS.TryOnly
import HandS.Walk
import HandS.IsInst
import HandS.SortInts
import HandS.EndBits
import HandS.More
import HandS.Conv
import HandS.Zip
import HandS.Finally
import HandS.Iter
import HandS.ListItems
import HandS.DeepEq
import HandS.DictComp
import KE.KDictList
import HandS.Deep
import HandS.Text
import HandS.RaiseMore
import HandS.WrittenGet
import KE.GoesMore
import KE.GoesEnum
import KE.GoesZip
import HandS.Strs
import HandS.SetFor
import PyProof.StrBlock2
import PyProof.Draws
import HandS.ExcField
import HandS.ExcIs
import HandS.Defaults
import KE.KLam
import KE.SortKeyHeap
import HandS.SortKw
import HandS.EndTab
import KE.GoesEnumKw
import OpenK.KMore
import HandS.ExcValue
import PySem.Challenge.RW_spacewright_k04_refusals_apart
set_option Elab.async false
set_option linter.all false
set_option maxRecDepth 100000
set_option maxHeartbeats 4000000
set_option autoImplicit false
section
/-! Sm, part A: data, the store, results; how they stand for values and the abstract heap of the hand layer. -/
namespace Sm
open PySem PySem.Spec PyProof.Rows L2

/-- data: what never changes is told by value; `loc` names a thing of the store -/
inductive D where
  | non | bl (b : Bool) | int (i : Int) | str (x : Str) | ty (n : String) | cls (c : Nat) | fnc (i : Nat) | loc (l : Nat)
  | tup (xs : List D) | lsc (xs : List D)
  | exn (c : Nat) (ks : List Str) (ds : List D)
/-- things that may change -/
inductive Ob where
  | lst (xs : List D) | dct (kvs : List (Key × D)) | ins (c : Nat) (fs : List (Str × D)) | lck (kvs : List (Key × D))
abbrev Sto := List Ob
/-- an exception: its class, its fields -/
abbrev Exn := Nat × List (Str × D)
inductive Rz (α : Type) where
  | ok (a : α) (S : Sto) | ex (e : Exn) (S : Sto) | no
def Rz.andThen {α β : Type} (r : Rz α) (f : α → Sto → Rz β) : Rz β :=
  match r with
  | .ok a S => f a S
  | .ex e S => .ex e S
  | .no => .no
def Mo (α : Type) := Sto → Rz α
instance : Monad Mo where
  pure a := fun S => .ok a S
  bind x f := fun S => (x S).andThen f
abbrev En := List (Option D)
abbrev DE := En → Mo D

section
variable {α β : Type}
@[simp] theorem pure_ap (a : α) (S : Sto) : (pure a : Mo α) S = .ok a S := rfl
@[simp] theorem bind_ap (x : Mo α) (f : α → Mo β) (S : Sto) : (x >>= f) S = (x S).andThen f := rfl
@[simp] theorem andThen_ok (a : α) (S : Sto) (f : α → Sto → Rz β) : (Rz.ok a S).andThen f = f a S := rfl
@[simp] theorem andThen_ex (e : Exn) (S : Sto) (f : α → Sto → Rz β) : (Rz.ex e S : Rz α).andThen f = .ex e S := rfl
@[simp] theorem andThen_no (f : α → Sto → Rz β) : (Rz.no : Rz α).andThen f = .no := rfl
end
def bad {α : Type} : Mo α := fun _ => .no
@[simp] theorem bad_ap {α : Type} (S : Sto) : (bad : Mo α) S = .no := rfl

/-- a length that the model can hold -/
@[irreducible] def fit (n : Nat) : Bool := decide (n ≤ sizeLine)
theorem fit_iff {n : Nat} : fit n = true ↔ n ≤ sizeLine := by
  unfold fit
  exact decide_eq_true_iff
theorem fit_of {n : Nat} (h : n ≤ 16777216) : fit n = true := fit_iff.mpr (by rw [sizeLine_eq]; exact h)
/-! ### the relation -/
structure Gx where
  K : PySem.W.Frag
  ct : Nat → Addr
  fa : Nat → Addr
  tb : List NdefX.NTab := []
/-- a list that nobody changes: locked, or of the written part -/
def Lsc (K : PySem.W.Frag) (H : Hp) (a : Addr) (xs : List V) : Prop :=
  (∃ o, H a = some (.frz o (.lst xs))) ∨
    ∃ (o : Obj) (its : Array Value) (n : Nat), K.lookup a = some o ∧ o.cls = .type "list" ∧ o.dict = none ∧ o.data = .seq its n ∧ its.size ≤ sizeLine ∧ Vals xs its.toList
theorem Lsc.sq {K : PySem.W.Frag} {H : Hp} {a : Addr} {xs : List V} (h : Lsc K H a xs) : SqL K H a xs := by
  rcases h with h | h
  · exact .inl (.inr h)
  · exact .inr h

mutual
inductive VR (g : Gx) (m : Nat → Addr) (n : Nat) (H : Hp) : V → D → Prop
  | non : VR g m n H .non .non
  | bl (b : Bool) : VR g m n H (.bl b) (.bl b)
  | int (i : Int) : VR g m n H (.int i) (.int i)
  | str (x : Str) : VR g m n H (.str x) (.str x)
  | ty (t : String) : VR g m n H (.ty t) (.ty t)
  | cls (c : Nat) : VR g m n H (.ref (g.ct c)) (.cls c)
  | fnc (i : Nat) : VR g m n H (.ref (g.fa i)) (.fnc i)
  | loc (l : Nat) : l < n → VR g m n H (.ref (m l)) (.loc l)
  | tup (a : Addr) (xs : List V) (ds : List D) : SqT g.K H a xs → VRs g m n H xs ds → VR g m n H (.ref a) (.tup ds)
  | lsc (a : Addr) (xs : List V) (ds : List D) : Lsc g.K H a xs → VRs g m n H xs ds → VR g m n H (.ref a) (.lsc ds)
  | exn0 (a : Addr) (c : Nat) : H a = some (exo a (g.ct c) none) → VR g m n H (.ref a) (.exn c [] [])
  | exn (a dx : Addr) (c : Nat) (ks : List Str) (kvs : List (Str × V)) (ds : List D) : H a = some (exo a (g.ct c) (some dx)) → H dx = some (exd dx kvs) → kvs.map (·.1) = ks → VRs g m n H (kvs.map (·.2)) ds → VR g m n H (.ref a) (.exn c ks ds)
inductive VRs (g : Gx) (m : Nat → Addr) (n : Nat) (H : Hp) : List V → List D → Prop
  | nil : VRs g m n H [] []
  | cons (x : V) (d : D) (xs : List V) (ds : List D) : VR g m n H x d → VRs g m n H xs ds → VRs g m n H (x :: xs) (d :: ds)
end

/-- from one heap to a later one -/
structure Ev (g : Gx) (m : Nat → Addr) (n : Nat) (H : Hp) (m' : Nat → Addr) (n' : Nat) (H' : Hp) : Prop where
  le : n ≤ n'
  ag : ∀ l, l < n → m' l = m l
  tup : ∀ a xs, SqT g.K H a xs → SqT g.K H' a xs
  lsc : ∀ a xs, Lsc g.K H a xs → Lsc g.K H' a xs
  frz : ∀ a o u, H a = some (.frz o u) → H' a = some (.frz o u)
  exts : ∀ a φ, H a = some (.ext φ) → H' a = some (.ext φ)
  tbs : NdefX.TabsN g.tb H → NdefX.TabsN g.tb H'
section
variable {g : Gx} {m m' m'' : Nat → Addr} {n n' n'' : Nat} {H H' H'' : Hp}
theorem Ev.refl : Ev g m n H m n H := ⟨Nat.le_refl _, fun _ _ => rfl, fun _ _ h => h, fun _ _ h => h, fun _ _ _ h => h, fun _ _ h => h, id⟩
theorem Ev.trans (a : Ev g m n H m' n' H') (b : Ev g m' n' H' m'' n'' H'') : Ev g m n H m'' n'' H'' :=
  ⟨Nat.le_trans a.le b.le, fun l h => (b.ag l (Nat.lt_of_lt_of_le h a.le)).trans (a.ag l h), fun x xs h => b.tup x xs (a.tup x xs h), fun x xs h => b.lsc x xs (a.lsc x xs h), fun x o u h => b.frz x o u (a.frz x o u h), fun x φ h => b.exts x φ (a.exts x φ h), fun h => b.tbs (a.tbs h)⟩
mutual
theorem VR.ev (e : Ev g m n H m' n' H') : ∀ {v : V} {d : D}, VR g m n H v d → VR g m' n' H' v d
  | _, _, .non => .non
  | _, _, .bl b => .bl b
  | _, _, .int i => .int i
  | _, _, .str x => .str x
  | _, _, .ty t => .ty t
  | _, _, .cls c => .cls c
  | _, _, .fnc i => .fnc i
  | _, _, .loc l h => by rw [← e.ag l h]; exact .loc l (Nat.lt_of_lt_of_le h e.le)
  | _, _, .tup a xs ds h r => .tup a xs ds (e.tup a xs h) (VRs.ev e r)
  | _, _, .lsc a xs ds h r => .lsc a xs ds (e.lsc a xs h) (VRs.ev e r)
  | _, _, .exn0 a c h => .exn0 a c (e.exts _ _ h)
  | _, _, .exn a dx c ks kvs ds h1 h2 h3 r => .exn a dx c ks kvs ds (e.exts _ _ h1) (e.exts _ _ h2) h3 (VRs.ev e r)
theorem VRs.ev (e : Ev g m n H m' n' H') : ∀ {v : List V} {d : List D}, VRs g m n H v d → VRs g m' n' H' v d
  | _, _, .nil => .nil
  | _, _, .cons x d xs ds r t => .cons x d xs ds (VR.ev e r) (VRs.ev e t)
end
theorem VRs.length : ∀ {v : List V} {d : List D}, VRs g m n H v d → v.length = d.length
  | _, _, .nil => rfl
  | _, _, .cons _ _ _ _ _ t => congrArg (· + 1) (VRs.length t)
theorem VRs.append : ∀ {v v' : List V} {d d' : List D}, VRs g m n H v d → VRs g m n H v' d' → VRs g m n H (v ++ v') (d ++ d')
  | _, _, _, _, .nil, s => s
  | _, _, _, _, .cons x d xs ds r t, s => .cons x d _ _ r (VRs.append t s)
theorem VRs.get : ∀ {v : List V} {d : List D} {i : Nat} {x : D}, VRs g m n H v d → d[i]? = some x → ∃ u, v[i]? = some u ∧ VR g m n H u x
  | _, _, _, _, .nil, e => by simp at e
  | _, _, 0, _, .cons x d xs ds r t, e => by simp at e; subst e; exact ⟨x, rfl, r⟩
  | _, _, i + 1, y, .cons x d xs ds r t, e => by
    obtain ⟨u, h1, h2⟩ := VRs.get (i := i) (x := y) t (by simpa using e)
    exact ⟨u, by simpa using h1, h2⟩
theorem VRs.set : ∀ {v : List V} {d : List D} (i : Nat) {u : V} {x : D}, VRs g m n H v d → VR g m n H u x → VRs g m n H (v.set i u) (d.set i x)
  | _, _, _, _, _, .nil, _ => .nil
  | _, _, 0, u, y, .cons x d xs ds r t, q => .cons u y xs ds q t
  | _, _, i + 1, u, y, .cons x d xs ds r t, q => .cons x d _ _ r (VRs.set i t q)
theorem VRs.take : ∀ {v : List V} {d : List D} (i : Nat), VRs g m n H v d → VRs g m n H (v.take i) (d.take i)
  | _, _, 0, _ => .nil
  | _, _, i + 1, .nil => .nil
  | _, _, i + 1, .cons x d xs ds r t => .cons x d _ _ r (VRs.take i t)
theorem VRs.drop : ∀ {v : List V} {d : List D} (i : Nat), VRs g m n H v d → VRs g m n H (v.drop i) (d.drop i)
  | _, _, 0, r => r
  | _, _, i + 1, .nil => .nil
  | _, _, i + 1, .cons x d xs ds r t => VRs.drop i t
theorem VRs.of_ints : ∀ (ns : List Int), VRs g m n H (ns.map V.int) (ns.map D.int)
  | [] => .nil
  | k :: ns => .cons _ _ _ _ (.int k) (VRs.of_ints ns)
end

/-- a thing of the store stands at a -/
def OR (g : Gx) (m : Nat → Addr) (n : Nat) (H : Hp) (a : Addr) : Ob → Prop
  | .lst ds => ∃ vs, H a = some (.lst vs) ∧ VRs g m n H vs ds
  | .dct kvs => ∃ kvs', H a = some (.dK kvs') ∧ kvs'.map (·.1) = kvs.map (·.1) ∧ VRs g m n H (kvs'.map (·.2)) (kvs.map (·.2))
  | .ins c fs => ∃ dx fs', H a = some (.ins (g.ct c) dx fs') ∧ fs'.map (·.1) = fs.map (·.1) ∧ VRs g m n H (fs'.map (·.2)) (fs.map (·.2))
  | .lck kvs => ∃ o kvs', H a = some (.frz o (.dK kvs')) ∧ kvs'.map (·.1) = kvs.map (·.1) ∧ VRs g m n H (kvs'.map (·.2)) (kvs.map (·.2))
structure SR (g : Gx) (m : Nat → Addr) (H : Hp) (S : Sto) : Prop where
  ob : ∀ (l : Nat) (o : Ob), S[l]? = some o → OR g m S.length H (m l) o
  inj : ∀ l l', l < S.length → l' < S.length → m l = m l' → l = l'
  tb : NdefX.TabsN g.tb H
structure ER (g : Gx) (m : Nat → Addr) (n : Nat) (H : Hp) (σ : L2.St) (ρ : En) : Prop where
  len : σ.length = ρ.length
  at_ : ∀ (i : Nat) (d : D), ρ[i]? = some (some d) → ∃ v, σ[i]? = some (some v) ∧ VR g m n H v d
def XR (g : Gx) (m : Nat → Addr) (n : Nat) (H : Hp) (e : Exn) (c : Value) (d : Option Addr) : Prop :=
  c = .ref (g.ct e.1) ∧ (e.2 = [] ∨ ∃ dd fs', d = some dd ∧ H dd = some (.xd fs') ∧ fs'.map (·.1) = e.2.map (·.1) ∧ VRs g m n H (fs'.map (·.2)) (e.2.map (·.2)))

section
variable {g : Gx} {m m' m'' : Nat → Addr} {n n' n'' : Nat} {H H' H'' : Hp} {S S' : Sto} {σ : L2.St} {ρ : En}
theorem ER.ev (e : Ev g m n H m' n' H') (h : ER g m n H σ ρ) : ER g m' n' H' σ ρ := ⟨h.len, fun i d q => by
  obtain ⟨v, a, b⟩ := h.at_ i d q
  exact ⟨v, a, b.ev e⟩⟩
theorem ER.set (h : ER g m n H σ ρ) {i : Nat} {v : V} {d : D} (r : VR g m n H v d) : ER g m n H (σ.set i (some v)) (ρ.set i (some d)) := by
  refine ⟨by simp [h.len], fun j e q => ?_⟩
  by_cases hj : i = j
  · subst hj
    by_cases hl : i < ρ.length
    · rw [List.getElem?_set_self hl] at q
      cases q
      exact ⟨v, List.getElem?_set_self (by rw [h.len]; exact hl), r⟩
    · rw [List.getElem?_eq_none (by simpa using hl)] at q; cases q
  · rw [List.getElem?_set_ne hj] at q
    obtain ⟨u, a, b⟩ := h.at_ j e q
    exact ⟨u, by rw [List.getElem?_set_ne hj]; exact a, b⟩
theorem ER.unset (h : ER g m n H σ ρ) {i : Nat} {o : Option V} : ER g m n H (σ.set i o) (ρ.set i none) := by
  refine ⟨by simp [h.len], fun j e q => ?_⟩
  by_cases hj : i = j
  · subst hj
    by_cases hl : i < ρ.length
    · rw [List.getElem?_set_self hl] at q; cases q
    · rw [List.getElem?_eq_none (by simpa using hl)] at q; cases q
  · rw [List.getElem?_set_ne hj] at q
    obtain ⟨u, a, b⟩ := h.at_ j e q
    exact ⟨u, by rw [List.getElem?_set_ne hj]; exact a, b⟩

/-- a store's address is tracked -/
theorem SR.has (h : SR g m H S) {l : Nat} (hl : l < S.length) : ∃ o, H (m l) = some o := by
  have q := h.ob l S[l] (List.getElem?_eq_getElem hl)
  cases e : S[l] with
  | lst ds => rw [e] at q; obtain ⟨_, z, _⟩ := q; exact ⟨_, z⟩
  | dct kvs => rw [e] at q; obtain ⟨_, z, _⟩ := q; exact ⟨_, z⟩
  | ins c fs => rw [e] at q; obtain ⟨_, _, z, _⟩ := q; exact ⟨_, z⟩
  | lck kvs => rw [e] at q; obtain ⟨_, _, z, _⟩ := q; exact ⟨_, z⟩
/-- a list, a dict, an instance -/
def Mu : Option HO → Prop
  | some (.lst _) => True
  | some (.dK _) => True
  | some (.ins _ _ _) => True
  | _ => False
/-- it is no tuple, no locked thing, no own dict -/
theorem SR.canw (h : SR g m H S) {l : Nat} (hl : l < S.length) (hn : ∀ kvs, S[l]? ≠ some (.lck kvs) := by intro _ z; simp_all) : Mu (H (m l)) := by
  have q := h.ob l S[l] (List.getElem?_eq_getElem hl)
  cases e : S[l] with
  | lst ds => rw [e] at q; obtain ⟨_, z, _⟩ := q; rw [z]; trivial
  | dct kvs => rw [e] at q; obtain ⟨_, z, _⟩ := q; rw [z]; trivial
  | ins c fs => rw [e] at q; obtain ⟨_, _, z, _⟩ := q; rw [z]; trivial
  | lck kvs => exact absurd (by rw [List.getElem?_eq_getElem hl, e]) (hn kvs)
theorem SqT.keep {K : PySem.W.Frag} {a : Addr} {xs : List V} (k : ∀ o, H a = some o → (∃ ys, o = .tup ys) ∨ (∃ ob u, o = .frz ob u) → H' a = some o) (h : SqT K H a xs) : SqT K H' a xs := by
  rcases h with (h | ⟨o, h⟩) | h
  · exact .inl (.inl (k _ h (.inl ⟨_, rfl⟩)))
  · exact .inl (.inr ⟨o, k _ h (.inr ⟨_, _, rfl⟩)⟩)
  · exact .inr h
theorem Lsc.keep {K : PySem.W.Frag} {a : Addr} {xs : List V} (k : ∀ o, H a = some o → (∃ ys, o = .tup ys) ∨ (∃ ob u, o = .frz ob u) → H' a = some o) (h : Lsc K H a xs) : Lsc K H' a xs := by
  rcases h with ⟨o, h⟩ | h
  · exact .inl ⟨o, k _ h (.inr ⟨_, _, rfl⟩)⟩
  · exact .inr h
theorem TabsN.upd {T : List NdefX.NTab} {p : Addr} {o : HO} (hp : ∀ u, H p = some u → (∀ ps, u ≠ .tbl ps) ∧ ∀ φ, u ≠ .ext φ) (h : NdefX.TabsN T H) : NdefX.TabsN T (upd H p o) := fun q hq => by
  obtain ⟨ps, h1, h2, h3⟩ := h q hq
  refine ⟨ps, ?_, h2, fun pos cv hc => ?_⟩
  · rw [upd_ne (fun z => (hp _ (by rw [← z]; exact h1)).1 ps rfl)]; exact h1
  · obtain ⟨c, e1, e2⟩ := h3 pos cv hc
    exact ⟨c, e1, by rw [upd_ne (fun z => (hp _ (by rw [← z]; exact e2)).2 _ rfl)]; exact e2⟩
theorem Ev.new {p : Addr} {o : HO} (hp : H p = none) : Ev g m n H m n (upd H p o) := by
  refine ⟨Nat.le_refl _, fun _ _ => rfl, fun a xs h => SqT.keep (fun u e _ => ?_) h, fun a xs h => Lsc.keep (fun u e _ => ?_) h, fun a o u e => ?_, fun a φ e => ?_, fun h => TabsN.upd (fun u e => by rw [hp] at e; cases e) h⟩ <;>
    (rw [upd_ne (ne_of_none e hp)]; exact e)
theorem Ev.wr {p : Addr} {o : HO} (hp : Mu (H p)) : Ev g m n H m n (upd H p o) := by
  have ne : ∀ {a : Addr} {u : HO}, H a = some u → (∃ ys, u = .tup ys) ∨ (∃ ob u', u = .frz ob u') ∨ (∃ φ, u = .ext φ) → a ≠ p := fun {a u} e q z => by
    subst z
    rw [e] at hp
    rcases q with ⟨_, rfl⟩ | ⟨_, _, rfl⟩ | ⟨_, rfl⟩ <;> exact hp
  have ne' : ∀ {a : Addr} {u : HO}, H a = some u → (∃ ys, u = .tup ys) ∨ (∃ ob u', u = .frz ob u') → a ≠ p := fun e q => ne e (q.imp id .inl)
  refine ⟨Nat.le_refl _, fun _ _ => rfl, fun a xs h => SqT.keep (fun u e q => ?_) h, fun a xs h => Lsc.keep (fun u e q => ?_) h, fun a o u e => ?_, fun a φ e => ?_, fun h => TabsN.upd (fun u e => ?_) h⟩
  · rw [upd_ne (ne' e q)]; exact e
  · rw [upd_ne (ne' e q)]; exact e
  · rw [upd_ne (ne' e (.inr ⟨_, _, rfl⟩))]; exact e
  · rw [upd_ne (ne e (.inr (.inr ⟨_, rfl⟩)))]; exact e
  · rw [e] at hp
    exact ⟨fun ps z => by subst z; exact hp, fun φ z => by subst z; exact hp⟩
/-- m with one more place -/
def ext (m : Nat → Addr) (n : Nat) (p : Addr) : Nat → Addr := fun l => if l = n then p else m l
theorem ext_old {p : Addr} {l : Nat} (h : l < n) : ext m n p l = m l := if_neg (Nat.ne_of_lt h)
theorem ext_new {p : Addr} : ext m n p n = p := if_pos rfl
theorem Ev.ext {p : Addr} (e : Ev g m n H m n H') : Ev g m n H (ext m n p) (n + 1) H' := ⟨Nat.le_succ _, fun l h => ext_old h, e.tup, e.lsc, e.frz, e.exts, e.tbs⟩
/-- an object's description through a change elsewhere -/
theorem OR.keep {a : Addr} {o : Ob} (e : Ev g m n H m' n' H') (k : ∀ u, H a = some u → Mut (some u) → H' a = some u) (h : OR g m n H a o) : OR g m' n' H' a o := by
  cases o with
  | lst ds => obtain ⟨vs, a1, a2⟩ := h; exact ⟨vs, k _ a1 trivial, a2.ev e⟩
  | dct kvs => obtain ⟨vs, a1, a2, a3⟩ := h; exact ⟨vs, k _ a1 trivial, a2, a3.ev e⟩
  | ins c fs => obtain ⟨dx, vs, a1, a2, a3⟩ := h; exact ⟨dx, vs, k _ a1 trivial, a2, a3.ev e⟩
  | lck kvs => obtain ⟨o, vs, a1, a2, a3⟩ := h; exact ⟨o, vs, e.frz _ _ _ a1, a2, a3.ev e⟩
/-- something new that the store does not name -/
theorem SR.aside (h : SR g m H S) {p : Addr} {o : HO} (hp : H p = none) : SR g m (upd H p o) S :=
  ⟨fun l u e => (h.ob l u e).keep (Ev.new hp) fun v q _ => by rw [upd_ne (ne_of_none q hp)]; exact q, h.inj, (Ev.new (g := g) (m := m) (n := 0) hp).tbs h.tb⟩
/-- .. or whatever else changed, but the store's things -/
theorem SR.keep (h : SR g m H S) (e : Ev g m S.length H m S.length H') (k : ∀ l u, l < S.length → H (m l) = some u → H' (m l) = some u) : SR g m H' S :=
  ⟨fun l u q => (h.ob l u q).keep e fun v z _ => k l v (List.getElem?_eq_some_iff.mp q).1 z, h.inj, e.tbs h.tb⟩
/-- a new thing of the store -/
theorem SR.alloc (h : SR g m H S) {p : Addr} {u : HO} {o : Ob} (hp : H p = none) (ho : OR g (ext m S.length p) (S.length + 1) (upd H p u) p o) : SR g (ext m S.length p) (upd H p u) (S ++ [o]) := by
  have e : Ev g m S.length H (ext m S.length p) (S.length + 1) (upd H p u) := Ev.ext (Ev.new hp)
  have nm : ∀ l, l < S.length → m l ≠ p := fun l hl => by
    obtain ⟨v, q⟩ := h.has hl
    exact ne_of_none q hp
  refine ⟨fun l o' q => ?_, fun l l' h1 h2 q => ?_, e.tbs h.tb⟩
  · rw [List.length_append, List.length_singleton]
    by_cases hl : l < S.length
    · rw [List.getElem?_append_left hl] at q
      rw [ext_old hl]
      exact (h.ob l o' q).keep e fun v z _ => by rw [upd_ne (nm l hl)]; exact z
    · have hl' : l = S.length := by
        have := (List.getElem?_eq_some_iff.mp q).1
        rw [List.length_append, List.length_singleton] at this
        omega
      subst hl'
      rw [List.getElem?_concat_length] at q
      cases q
      rw [ext_new]
      exact ho
  · rw [List.length_append, List.length_singleton] at h1 h2
    by_cases a : l < S.length
    · by_cases b : l' < S.length
      · rw [ext_old a, ext_old b] at q
        exact h.inj l l' a b q
      · have : l' = S.length := by omega
        subst this
        rw [ext_old a, ext_new] at q
        exact absurd q (nm l a)
    · have : l = S.length := by omega
      subst this
      by_cases b : l' < S.length
      · rw [ext_old b, ext_new] at q
        exact absurd q.symm (nm l' b)
      · omega
/-- a thing of the store is written -/
theorem SR.wr (h : SR g m H S) {l : Nat} {u : HO} {o : Ob} (hl : l < S.length) (ho : OR g m S.length (upd H (m l) u) (m l) o) (hn : ∀ kvs, S[l]? ≠ some (.lck kvs) := by intro _ z; simp_all) : SR g m (upd H (m l) u) (S.set l o) := by
  have e : Ev g m S.length H m S.length (upd H (m l) u) := Ev.wr (h.canw hl hn)
  refine ⟨fun k o' q => ?_, fun a b h1 h2 q => ?_, e.tbs h.tb⟩
  · rw [List.length_set]
    by_cases hk : l = k
    · subst hk
      rw [List.getElem?_set_self hl] at q
      cases q
      exact ho
    · rw [List.getElem?_set_ne hk] at q
      have hkl := (List.getElem?_eq_some_iff.mp q).1
      exact (h.ob k o' q).keep e fun v z _ => by rw [upd_ne (fun z => hk (h.inj _ _ hkl hl z).symm)]; exact z
  · rw [List.length_set] at h1 h2
    exact h.inj a b h1 h2 q
theorem SR.atL (h : SR g m H S) {l : Nat} {ds : List D} (q : S[l]? = some (.lst ds)) : l < S.length ∧ ∃ vs, H (m l) = some (.lst vs) ∧ VRs g m S.length H vs ds :=
  ⟨(List.getElem?_eq_some_iff.mp q).1, h.ob l _ q⟩
theorem SR.atD (h : SR g m H S) {l : Nat} {kvs : List (Key × D)} (q : S[l]? = some (.dct kvs)) : l < S.length ∧ ∃ kvs', H (m l) = some (.dK kvs') ∧ kvs'.map (·.1) = kvs.map (·.1) ∧ VRs g m S.length H (kvs'.map (·.2)) (kvs.map (·.2)) :=
  ⟨(List.getElem?_eq_some_iff.mp q).1, h.ob l _ q⟩
theorem SR.atK (h : SR g m H S) {l : Nat} {kvs : List (Key × D)} (q : S[l]? = some (.lck kvs)) : l < S.length ∧ ∃ o kvs', H (m l) = some (.frz o (.dK kvs')) ∧ kvs'.map (·.1) = kvs.map (·.1) ∧ VRs g m S.length H (kvs'.map (·.2)) (kvs.map (·.2)) :=
  ⟨(List.getElem?_eq_some_iff.mp q).1, h.ob l _ q⟩
theorem SR.atI (h : SR g m H S) {l : Nat} {c : Nat} {fs : List (Str × D)} (q : S[l]? = some (.ins c fs)) : l < S.length ∧ ∃ dx fs', H (m l) = some (.ins (g.ct c) dx fs') ∧ fs'.map (·.1) = fs.map (·.1) ∧ VRs g m S.length H (fs'.map (·.2)) (fs.map (·.2)) :=
  ⟨(List.getElem?_eq_some_iff.mp q).1, h.ob l _ q⟩
end

/-! ### what is wanted of a result -/
section
variable {α β : Type}
def PRx (g : Gx) (m : Nat → Addr) (S : Sto) (H : Hp) (W : XK) (K : α → (Nat → Addr) → Sto → Hp → Prop) : Rz α → Prop
  | .ok a S' => ∀ m' H', Ev g m S.length H m' S'.length H' → SR g m' H' S' → K a m' S' H'
  | .ex e S' => ∀ c d m' H', Ev g m S.length H m' S'.length H' → SR g m' H' S' → XR g m' S'.length H' e c d → W c d H'
  | .no => False
variable {g : Gx} {m m' : Nat → Addr} {S S' : Sto} {H H' : Hp} {W : XK} {K K' : α → (Nat → Addr) → Sto → Hp → Prop} {r : Rz α}
theorem PRx.ev (e : Ev g m S.length H m' S'.length H') (h : PRx g m S H W K r) : PRx g m' S' H' W K r := by
  cases r with
  | ok a S1 => exact fun m1 H1 e1 s1 => h m1 H1 (e.trans e1) s1
  | ex x S1 => exact fun c d m1 H1 e1 s1 => h c d m1 H1 (e.trans e1) s1
  | no => exact h
theorem PRx.mono (h : PRx g m S H W K r) (k : ∀ a m' S' H', Ev g m S.length H m' S'.length H' → SR g m' H' S' → K a m' S' H' → K' a m' S' H') : PRx g m S H W K' r := by
  cases r with
  | ok a S1 => exact fun m1 H1 e1 s1 => k a m1 S1 H1 e1 s1 (h m1 H1 e1 s1)
  | ex x S1 => exact h
  | no => exact h
theorem PRx.bind {f : α → Sto → Rz β} {K2 : β → (Nat → Addr) → Sto → Hp → Prop} (h : PRx g m S H W K2 (r.andThen f)) :
    PRx g m S H W (fun a m1 S1 H1 => PRx g m1 S1 H1 W K2 (f a S1)) r := by
  cases r with
  | ok a S1 => exact fun m1 H1 e1 _ => PRx.ev e1 h
  | ex x S1 => exact h
  | no => exact h
end
/-- the ends: a value, values, a truth -/
abbrev KD (g : Gx) (Q : VK) : D → (Nat → Addr) → Sto → Hp → Prop := fun d m' S' H' => ∀ v, VR g m' S'.length H' v d → Q v H'
abbrev KA (g : Gx) (Q : List V → Hp → Prop) : List D → (Nat → Addr) → Sto → Hp → Prop := fun d m' S' H' => ∀ v, VRs g m' S'.length H' v d → Q v H'
abbrev KT (Q : Bool → Hp → Prop) : Bool → (Nat → Addr) → Sto → Hp → Prop := fun b _ _ H' => Q b H'
def tD (g : Gx) (W : WX) (f : DE) : TE := fun σ H Q => ∃ m S ρ, SR g m H S ∧ ER g m S.length H σ ρ ∧ PRx g m S H (fun c d H' => W c d σ H') (KD g Q) (f ρ S)
def tDs (g : Gx) (W : WX) (f : En → Mo (List D)) : TA := fun σ H Q => ∃ m S ρ, SR g m H S ∧ ER g m S.length H σ ρ ∧ PRx g m S H (fun c d H' => W c d σ H') (KA g Q) (f ρ S)
def tDb (g : Gx) (W : WX) (f : En → Mo Bool) : TT := fun σ H Q => ∃ m S ρ, SR g m H S ∧ ER g m S.length H σ ρ ∧ PRx g m S H (fun c d H' => W c d σ H') (KT Q) (f ρ S)

theorem PE.imp {X : Cx} {e : Expr} {t t' : TE} (h : PE X e t) (i : ∀ σ H Q, t' σ H Q → t σ H Q) : PE X e t' := ⟨fun pins s σ H Q I q => h.run pins s σ H Q I (i σ H Q q)⟩
theorem PT.imp {X : Cx} {e : Expr} {t t' : TT} (h : PT X e t) (i : ∀ σ H Q, t' σ H Q → t σ H Q) : PT X e t' := ⟨fun pins s σ H Q I q => h.run pins s σ H Q I (i σ H Q q)⟩
theorem PW.imp {X : Cx} {e : Expr} {t t' : TT} (h : PW X e t) (i : ∀ σ H Q, t' σ H Q → t σ H Q) : PW X e t' := ⟨fun w pins s σ H Q I q => h.run w pins s σ H Q I (i σ H Q q)⟩
theorem PA.imp {X : Cx} {e : List Expr} {t t' : TA} (h : PA X e t) (i : ∀ σ H Q, t' σ H Q → t σ H Q) : PA X e t' := ⟨fun pos pins s σ H Q I q => h.run pos pins s σ H Q I (i σ H Q q)⟩
theorem PS.imp {X : Cx} {e : Stmt} {t t' : TS} (h : PS X e t) (i : ∀ D σ H, t' D σ H → t D σ H) : PS X e t' := ⟨fun pins s σ H D I q => h.run pins s σ H D I (i D σ H q)⟩
theorem PSs.imp {X : Cx} {e : List Stmt} {t t' : TS} (h : PSs X e t) (i : ∀ D σ H, t' D σ H → t D σ H) : PSs X e t' := ⟨fun pins s σ H D I q => h.run pins s σ H D I (i D σ H q)⟩
theorem PI.imp {X : Cx} {tg e : Expr} {t t' : TI} (h : PI X tg e t) (i : ∀ σ H R, t' σ H R → t σ H R) : PI X tg e t' := ⟨fun pins s σ H Q I q => h.run pins s σ H Q I (i σ H Q q)⟩
theorem PI.or {X : Cx} {tg e : Expr} {t t' : TI} (h : PI X tg e t) (h' : PI X tg e t') : PI X tg e (fun σ H R => t σ H R ∨ t' σ H R) :=
  ⟨fun pins s σ H Q I q => q.elim (h.run pins s σ H Q I) (h'.run pins s σ H Q I)⟩
end Sm
end
section
/-! Sm, part B: expressions. -/
namespace Sm
open PySem PySem.Spec PyProof.Rows L2

section
variable {X : Cx} {g : Gx} {W : WX} {e a b c : Expr} {es rest : List Expr} {f fa fb fc : DE} {fs : En → Mo (List D)} {ft fu : En → Mo Bool} {pos : Pos}

/-! ### from a part to the rest -/
theorem tD.sub {H : Hp} {σ : L2.St} {m : Nat → Addr} {S : Sto} {ρ : En} {β : Type} {k : D → Sto → Rz β} {K : β → (Nat → Addr) → Sto → Hp → Prop} {Q : VK}
    (sr : SR g m H S) (er : ER g m S.length H σ ρ) (h : PRx g m S H (fun c d H' => W c d σ H') K ((f ρ S).andThen k))
    (q : ∀ d m1 S1 H1 v, SR g m1 H1 S1 → ER g m1 S1.length H1 σ ρ → Ev g m S.length H m1 S1.length H1 → VR g m1 S1.length H1 v d → PRx g m1 S1 H1 (fun c d H' => W c d σ H') K (k d S1) → Q v H1) : tD g W f σ H Q :=
  ⟨m, S, ρ, sr, er, h.bind.mono fun d m1 S1 H1 e1 s1 p v r => q d m1 S1 H1 v s1 (er.ev e1) e1 r p⟩
theorem tDs.sub {H : Hp} {σ : L2.St} {m : Nat → Addr} {S : Sto} {ρ : En} {β : Type} {k : List D → Sto → Rz β} {K : β → (Nat → Addr) → Sto → Hp → Prop} {Q : List V → Hp → Prop}
    (sr : SR g m H S) (er : ER g m S.length H σ ρ) (h : PRx g m S H (fun c d H' => W c d σ H') K ((fs ρ S).andThen k))
    (q : ∀ d m1 S1 H1 v, SR g m1 H1 S1 → ER g m1 S1.length H1 σ ρ → Ev g m S.length H m1 S1.length H1 → VRs g m1 S1.length H1 v d → PRx g m1 S1 H1 (fun c d H' => W c d σ H') K (k d S1) → Q v H1) : tDs g W fs σ H Q :=
  ⟨m, S, ρ, sr, er, h.bind.mono fun d m1 S1 H1 e1 s1 p v r => q d m1 S1 H1 v s1 (er.ev e1) e1 r p⟩
theorem tDb.sub {H : Hp} {σ : L2.St} {m : Nat → Addr} {S : Sto} {ρ : En} {β : Type} {k : Bool → Sto → Rz β} {K : β → (Nat → Addr) → Sto → Hp → Prop} {Q : Bool → Hp → Prop}
    (sr : SR g m H S) (er : ER g m S.length H σ ρ) (h : PRx g m S H (fun c d H' => W c d σ H') K ((ft ρ S).andThen k))
    (q : ∀ d m1 S1 H1, SR g m1 H1 S1 → ER g m1 S1.length H1 σ ρ → Ev g m S.length H m1 S1.length H1 → PRx g m1 S1 H1 (fun c d H' => W c d σ H') K (k d S1) → Q d H1) : tDb g W ft σ H Q :=
  ⟨m, S, ρ, sr, er, h.bind.mono fun d m1 S1 H1 e1 s1 p => q d m1 S1 H1 s1 (er.ev e1) e1 p⟩
theorem PRx.here {α : Type} {m : Nat → Addr} {S : Sto} {H : Hp} {W : XK} {K : α → (Nat → Addr) → Sto → Hp → Prop} {a : α} (h : PRx g m S H W K (.ok a S)) (sr : SR g m H S) : K a m S H := h m H Ev.refl sr

/-! ### names, constants -/
def cVar (i : Nat) : DE := fun ρ S => match ρ[i]? with
  | some (some d) => .ok d S
  | _ => .no
def cC (d : D) : DE := fun _ S => .ok d S
theorem de_var (i : Nat) {x : Str} (hN : X.N[i]? = some x := by rfl) (hv : Vis X.env.scope x := by first | exact Or.inl rfl | exact Or.inr (Or.inl rfl) | exact Or.inr (Or.inr rfl)) (hd : (x == ("__debug__" : Str)) = false := by decide)
    (hcd : (x == ("__classdict__" : Str)) = false := by decide) : PE X (.Name x pos) (tD g W (cVar i)) := by
  refine PE.imp (pe_var hN hv hd hcd) fun σ H Q ⟨m, S, ρ, sr, er, h⟩ => ?_
  unfold cVar at h
  cases q : ρ[i]? with
  | none => rw [q] at h; exact h.elim
  | some o =>
    cases o with
    | none => rw [q] at h; exact h.elim
    | some d =>
      rw [q] at h
      obtain ⟨v, hs, r⟩ := er.at_ i d q
      exact ⟨v, hs, h m H Ev.refl sr v r⟩
theorem de_int {i j} : PE X (.Constant (.int i) j pos) (tD g W (cC (.int i))) := PE.imp pe_int fun _ H _ ⟨m, _, _, sr, _, h⟩ => h m H Ev.refl sr _ (.int i)
theorem de_bl {i j} : PE X (.Constant (.bool i) j pos) (tD g W (cC (.bl i))) := PE.imp pe_bl fun _ H _ ⟨m, _, _, sr, _, h⟩ => h m H Ev.refl sr _ (.bl i)
theorem de_str {i j} : PE X (.Constant (.str i) j pos) (tD g W (cC (.str i))) := PE.imp pe_str fun _ H _ ⟨m, _, _, sr, _, h⟩ => h m H Ev.refl sr _ (.str i)
/-- a module's own name that stands for data -/
structure Cst (g : Gx) (u : Value) (d : D) : Prop where
  ex : ∃ v, RelV v u ∧ ∀ m n H, VR g m n H v d
theorem de_glob {x : Str} {u : Value} {d : D} (hm : X.mg x = some u) (hc : Cst g u d) (hg : Gl X x := by rfl) (hd : (x == ("__debug__" : Str)) = false := by decide) : PE X (.Name x pos) (tD g W (cC d)) := by
  obtain ⟨v, r, hv⟩ := hc.ex
  exact PE.imp (pe_glob hg hm r hd) fun _ H _ ⟨m, S, _, sr, _, h⟩ => h m H Ev.refl sr _ (hv m S.length H)
theorem de_bltn {x : Str} {t : String} (hm : X.mg x = none) (hv : bootBuiltins x = some (.type t)) (hg : Gl X x := by rfl) (hn : x ≠ "__name__" := by decide) (hd : (x == ("__debug__" : Str)) = false := by decide) : PE X (.Name x pos) (tD g W (cC (.ty t))) :=
  PE.imp (pe_bltn (v := .ty t) hg hm hv rfl hn hd) fun _ H _ ⟨m, _, _, sr, _, h⟩ => h m H Ev.refl sr _ (.ty t)

/-! ### arguments, displays -/
def cNil : En → Mo (List D) := fun _ S => .ok [] S
def cCons (f : DE) (fs : En → Mo (List D)) : En → Mo (List D) := fun ρ => do let x ← f ρ; let xs ← fs ρ; pure (x :: xs)
theorem da_nil : PA X [] (tDs g W cNil) := PA.imp pa_nil fun _ H _ ⟨m, _, _, sr, _, h⟩ => h m H Ev.refl sr _ .nil
theorem da_cons (ha : PE X e (tD g W f)) (hr : PA X es (tDs g W fs)) (hs : starEach (e :: es) X.env = (false, eval e X.env) :: starEach es X.env := by rfl) : PA X (e :: es) (tDs g W (cCons f fs)) :=
  PA.imp (pa_cons ha hr hs) fun _ _ _ ⟨_, _, _, sr, er, h⟩ => tD.sub sr er h fun _ _ _ _ _ s1 er1 _ r1 h1 => tDs.sub s1 er1 h1 fun _ m2 _ H2 _ s2 _ e2 r2 h2 =>
    h2 m2 H2 Ev.refl s2 _ (.cons _ _ _ _ (r1.ev e2) r2)
def cTup (fs : En → Mo (List D)) : DE := fun ρ => do let xs ← fs ρ; fun S => if fit xs.length = true then .ok (.tup xs) S else .no
def newL (xs : List D) : Mo D := fun S => if fit xs.length = true then .ok (.loc S.length) (S ++ [.lst xs]) else .no
def cLst (fs : En → Mo (List D)) : DE := fun ρ => fs ρ >>= newL
theorem tup_new {m : Nat → Addr} {S : Sto} {H : Hp} {ds : List D} {vs : List V} {Q : VK} {W : XK} (sr : SR g m H S) (r : VRs g m S.length H vs ds) (h : PRx g m S H W (KD g Q) (.ok (.tup ds) S)) : ∀ p, H p = none → Q (.ref p) (upd H p (.tup vs)) := fun p hp =>
  h m _ (Ev.new hp) (sr.aside hp) _ (.tup p vs ds (.inl (.inl upd_same)) (r.ev (Ev.new hp)))
theorem lst_new {m : Nat → Addr} {S : Sto} {H : Hp} {ds : List D} {vs : List V} {Q : VK} {W : XK} (sr : SR g m H S) (r : VRs g m S.length H vs ds) (h : PRx g m S H W (KD g Q) (.ok (.loc S.length) (S ++ [.lst ds]))) : ∀ p, H p = none → Q (.ref p) (upd H p (.lst vs)) := fun p hp => by
  have e : Ev g m S.length H (ext m S.length p) (S.length + 1) (upd H p (.lst vs)) := Ev.ext (Ev.new hp)
  have q := h (ext m S.length p) _ (by rw [List.length_append, List.length_singleton]; exact e) (sr.alloc hp ⟨vs, upd_same, r.ev e⟩) (.ref (ext m S.length p S.length)) (.loc _ (by rw [List.length_append, List.length_singleton]; exact Nat.lt_succ_self _))
  rw [ext_new] at q
  exact q
theorem de_tup {x1} (ha : PA X es (tDs g W fs)) : PE X (.Tuple es x1 pos) (tD g W (cTup fs)) :=
  PE.imp (pe_tup ha) fun _ _ _ ⟨_, _, _, sr, er, h⟩ => tDs.sub sr er h fun ds m1 S1 H1 vs s1 er1 _ r1 h1 => by
    by_cases hz : fit ds.length = true
    · have h2 : PRx g m1 S1 H1 _ _ (if fit ds.length = true then (Rz.ok (D.tup ds) S1 : Rz D) else .no) := h1
      rw [if_pos hz] at h2
      exact ⟨by rw [r1.length]; exact fit_iff.mp hz, tup_new s1 r1 h2⟩
    · have h2 : PRx g m1 S1 H1 _ _ (if fit ds.length = true then (Rz.ok (D.tup ds) S1 : Rz D) else .no) := h1
      rw [if_neg hz] at h2
      exact h2.elim
theorem de_lst (ha : PA X es (tDs g W fs)) : PE X (.List es pos) (tD g W (cLst fs)) :=
  PE.imp (pe_lst ha) fun _ _ _ ⟨_, _, _, sr, er, h⟩ => tDs.sub sr er h fun ds m1 S1 H1 vs s1 er1 _ r1 h1 => by
    have h2 : PRx g m1 S1 H1 _ _ (if fit ds.length = true then (Rz.ok (D.loc S1.length) (S1 ++ [.lst ds]) : Rz D) else .no) := h1
    by_cases hz : fit ds.length = true
    · rw [if_pos hz] at h2
      exact ⟨by rw [r1.length]; exact fit_iff.mp hz, lst_new s1 r1 h2⟩
    · rw [if_neg hz] at h2
      exact h2.elim

/-! ### operations by values -/
/-- h is sound for the hand layer's r -/
def S2 (g : Gx) (r : R2) (h : D → D → Mo D) : Prop := ∀ (m : Nat → Addr) (S : Sto) (H : Hp) (x y : V) (d e : D) (Q : VK) (W : XK), SR g m H S → VR g m S.length H x d → VR g m S.length H y e → PRx g m S H W (KD g Q) (h d e S) → r x y H Q
def S1 (g : Gx) (r : V → Hp → VK → Prop) (h : D → Mo D) : Prop := ∀ (m : Nat → Addr) (S : Sto) (H : Hp) (x : V) (d : D) (Q : VK) (W : XK), SR g m H S → VR g m S.length H x d → PRx g m S H W (KD g Q) (h d S) → r x H Q
def SC (g : Gx) (r : List V → Hp → VK → Prop) (h : List D → Mo D) : Prop := ∀ (m : Nat → Addr) (S : Sto) (H : Hp) (xs : List V) (ds : List D) (Q : VK) (W : XK), SR g m H S → VRs g m S.length H xs ds → PRx g m S H W (KD g Q) (h ds S) → r xs H Q
def SM (g : Gx) (r : V → List V → Hp → VK → Prop) (h : D → List D → Mo D) : Prop := ∀ (m : Nat → Addr) (S : Sto) (H : Hp) (x : V) (xs : List V) (d : D) (ds : List D) (Q : VK) (W : XK), SR g m H S → VR g m S.length H x d → VRs g m S.length H xs ds → PRx g m S H W (KD g Q) (h d ds S) → r x xs H Q
def cOp (h : D → D → Mo D) (fa fb : DE) : DE := fun ρ => do let x ← fa ρ; let y ← fb ρ; h x y
def cUn (h : D → Mo D) (fa : DE) : DE := fun ρ => do let x ← fa ρ; h x
theorem op_sub2 {r : R2} {h : D → D → Mo D} (hs : S2 g r h) : ∀ σ H Q, tD g W (cOp h fa fb) σ H Q → tOp r (tD g W fa) (tD g W fb) σ H Q := fun _ _ _ ⟨_, _, _, sr, er, k⟩ =>
  tD.sub sr er k fun _ _ _ _ _ s1 er1 _ r1 h1 => tD.sub s1 er1 h1 fun _ m2 S2 H2 _ s2 _ e2 r2 h2 => hs m2 S2 H2 _ _ _ _ _ _ s2 (r1.ev e2) r2 h2
theorem de_op {op : Operator} {r : R2} {h : D → D → Mo D} (ho : OpR X (binaryOp op) r) (hs : S2 g r h) (ha : PE X a (tD g W fa)) (hb : PE X b (tD g W fb)) : PE X (.BinOp a op b pos) (tD g W (cOp h fa fb)) := PE.imp (pe_op ho ha hb) (op_sub2 hs)
theorem de_cmp {op : CmpOp} {r : R2} {h : D → D → Mo D} (ho : OpR X (compareOp op) r) (hs : S2 g r h) (ha : PE X a (tD g W fa)) (hb : PE X b (tD g W fb)) (hm : behindInMarks op b = false := by first | exact nomark _ | rfl | with_unfolding_all rfl) :
    PE X (.Compare a [op] [b] pos) (tD g W (cOp h fa fb)) := PE.imp (pe_cmpR ho ha hb hm) (op_sub2 hs)
/-- a truth out of a value that is a bool -/
def asB : D → Mo Bool
  | .bl b => pure b
  | _ => bad
def cTest (f : DE) : En → Mo Bool := fun ρ => f ρ >>= asB
theorem asB_ok {m : Nat → Addr} {S : Sto} {H : Hp} {W : XK} {K : Bool → (Nat → Addr) → Sto → Hp → Prop} {d : D} {v : V} (sr : SR g m H S) (r : VR g m S.length H v d) (h : PRx g m S H W K (asB d S)) : ∃ k, v = .bl k ∧ K k m S H := by
  cases d with
  | bl k => cases r; exact ⟨k, rfl, h m H Ev.refl sr⟩
  | _ => exact h.elim
theorem dt_cmp {op : CmpOp} {r : R2} {h : D → D → Mo D} (ho : OpR X (compareOp op) r) (hs : S2 g r h) (ha : PE X a (tD g W fa)) (hb : PE X b (tD g W fb)) (hm : behindInMarks op b = false := by first | exact nomark _ | rfl | with_unfolding_all rfl) :
    PT X (.Compare a [op] [b] pos) (tDb g W (cTest (cOp h fa fb))) := by
  refine PT.imp (pt_cmpR ho ha hb hm) fun σ H Q ⟨m, S, ρ, sr, er, k⟩ => ?_
  refine op_sub2 hs _ _ _ ⟨m, S, ρ, sr, er, k.bind.mono fun d m1 S1 H1 e1 s1 p v rv => ?_⟩
  exact asB_ok s1 rv p
def cChain (h h' : D → D → Mo D) (fa fb fc : DE) : DE := fun ρ => do
  let x ← fa ρ; let y ← fb ρ; let z ← h x y; let k ← asB z
  match k with
  | true => do let u ← fc ρ; h' y u
  | false => pure (.bl false)
/-! ### truth -/
def trO (S : Sto) : Option Ob → Rz Bool
  | some (.lst xs) => .ok (!xs.isEmpty) S
  | some (.dct kvs) => .ok (!kvs.isEmpty) S
  | _ => .no
def trD : D → Mo Bool
  | .non => pure false
  | .bl b => pure b
  | .int i => pure (i != 0)
  | .str y => fun S => if fit y.length = true then .ok ((y.length : Int) != 0) S else .no
  | .tup xs => pure (!xs.isEmpty)
  | .lsc xs => pure (!xs.isEmpty)
  | .loc l => fun S => trO S S[l]?
  | .ty _ => bad
  | .cls _ => bad
  | .fnc _ => bad
  | .exn _ _ _ => bad
theorem VRs.empty {m : Nat → Addr} {n : Nat} {H : Hp} {vs : List V} {ds : List D} (r : VRs g m n H vs ds) : vs.isEmpty = ds.isEmpty := by cases r <;> rfl
def cTru (f : DE) : En → Mo Bool := fun ρ => f ρ >>= trD
def cNotT (f : En → Mo Bool) : En → Mo Bool := fun ρ => do let k ← f ρ; pure (!k)
def cAndT (f h : En → Mo Bool) : En → Mo Bool := fun ρ => do
  let k ← f ρ
  match k with
  | true => h ρ
  | false => pure false
def cOrT (f h : En → Mo Bool) : En → Mo Bool := fun ρ => do
  let k ← f ρ
  match k with
  | true => pure true
  | false => h ρ
/-- .. as values, by truth -/
def cOr (fa fb : DE) : DE := fun ρ => do
  let x ← fa ρ; let k ← trD x
  match k with
  | true => pure x
  | false => fb ρ
def cAnd (fa fb : DE) : DE := fun ρ => do
  let x ← fa ρ; let k ← trD x
  match k with
  | true => fb ρ
  | false => pure x
def cNot (fa : DE) : DE := fun ρ => do let x ← fa ρ; let k ← trD x; pure (.bl (!k))
def cIf (ft : En → Mo Bool) (fa fb : DE) : DE := fun ρ => do
  let k ← ft ρ
  match k with
  | true => fa ρ
  | false => fb ρ
/-! ### calls of built-ins; subscripts; methods of built-in types -/
def cCall (h : List D → Mo D) (fs : En → Mo (List D)) : DE := fun ρ => do let xs ← fs ρ; h xs
theorem call_sub {r : List V → Hp → VK → Prop} {h : List D → Mo D} (hs : SC g r h) : ∀ σ H Q, tD g W (cCall h fs) σ H Q → tCB r (tDs g W fs) σ H Q := fun _ _ _ ⟨_, _, _, sr, er, k⟩ =>
  tDs.sub sr er k fun _ m1 S1 H1 _ s1 _ _ r1 h1 => hs m1 S1 H1 _ _ _ _ s1 r1 h1
theorem de_callB {x : Str} {id : String} {p : Pos} {r : List V → Hp → VK → Prop} {h : List D → Mo D} (hc : CallR X (.builtin id) r) (hs : SC g r h) (hm : X.mg x = none) (hv : bootBuiltins x = some (.builtin id)) (ha : PA X (e :: es) (tDs g W fs)) (hg : Gl X x := by rfl)
    (he : starEach (e :: es) X.env = (false, eval e X.env) :: starEach es X.env := by rfl) (hpl : (backTo pos (starEach es X.env)).any (·.1) = false := by rfl) (hn : x ≠ "__name__" := by decide) (hd : (x == ("__debug__" : Str)) = false := by decide) :
    PE X (.Call (.Name x p) (e :: es) [] pos) (tD g W (cCall h fs)) := PE.imp (pe_callB hc hg hm hv ha hn hd he hpl) (call_sub hs)
/-- a method of a built-in type: the type looked at ahead of the arguments -/
def tyD (T : String) : D → Sto → Bool
  | .str _, _ => T == "str"
  | .lsc _, _ => T == "list"
  | .loc l, S => match S[l]? with
    | some (.lst _) => T == "list"
    | some (.dct _) => T == "dict"
    | _ => false
  | _, _ => false
def chk (T : String) (d : D) : Mo Unit := fun S => if tyD T d S = true then .ok () S else .no
def cMt (T : String) (h : D → List D → Mo D) (fa : DE) (fs : En → Mo (List D)) : DE := fun ρ => do
  let x ← fa ρ; chk T x; let xs ← fs ρ; h x xs
def cMt0 (T : String) (h : D → List D → Mo D) (fa : DE) : DE := fun ρ => do
  let x ← fa ρ; chk T x; h x []
variable {o : Expr} {fo : DE} {name : Str} {apos cpos : Pos} {T id : String} {r : V → List V → Hp → VK → Prop} {h : D → List D → Mo D}
end
end Sm
end
section
/-! Sm, part C: statements, loops, comprehensions. -/
namespace Sm
open PySem PySem.Spec PyProof.Rows L2

/-- how a statement ends -/
inductive Fz where
  | nx (ρ : En) (S : Sto) | brk (ρ : En) (S : Sto) | cnt (ρ : En) (S : Sto) | ret (d : D) (S : Sto) | ex (e : Exn) (ρ : En) (S : Sto) | no
abbrev DS := En → Sto → Fz
def Rz.toF {α : Type} (r : Rz α) (ρ : En) (k : α → Sto → Fz) : Fz :=
  match r with
  | .ok a S => k a S
  | .ex e S => .ex e ρ S
  | .no => .no
section
variable {α : Type}
@[simp] theorem toF_ok (a : α) (S : Sto) (ρ : En) (k : α → Sto → Fz) : (Rz.ok a S).toF ρ k = k a S := rfl
@[simp] theorem toF_ex (e : Exn) (S : Sto) (ρ : En) (k : α → Sto → Fz) : (Rz.ex e S : Rz α).toF ρ k = .ex e ρ S := rfl
@[simp] theorem toF_no (ρ : En) (k : α → Sto → Fz) : (Rz.no : Rz α).toF ρ k = .no := rfl
end
def PF (g : Gx) (m : Nat → Addr) (S : Sto) (H : Hp) (W : WX) (E : Ends) : Fz → Prop
  | .nx ρ' S' => ∀ σ' m' H', Ev g m S.length H m' S'.length H' → SR g m' H' S' → ER g m' S'.length H' σ' ρ' → E.nx σ' H'
  | .brk ρ' S' => ∀ σ' m' H', Ev g m S.length H m' S'.length H' → SR g m' H' S' → ER g m' S'.length H' σ' ρ' → E.bk σ' H'
  | .cnt ρ' S' => ∀ σ' m' H', Ev g m S.length H m' S'.length H' → SR g m' H' S' → ER g m' S'.length H' σ' ρ' → E.ct σ' H'
  | .ret d S' => ∀ v m' H', Ev g m S.length H m' S'.length H' → SR g m' H' S' → VR g m' S'.length H' v d → E.rt v H'
  | .ex e ρ' S' => ∀ c d σ' m' H', Ev g m S.length H m' S'.length H' → SR g m' H' S' → ER g m' S'.length H' σ' ρ' → XR g m' S'.length H' e c d → W c d σ' H'
  | .no => False
def tS (g : Gx) (W : WX) (f : DS) : TS := fun E σ H => ∃ m S ρ, SR g m H S ∧ ER g m S.length H σ ρ ∧ PF g m S H W E (f ρ S)

section
variable {g : Gx} {m m' : Nat → Addr} {S S' : Sto} {H H' : Hp} {W : WX} {E : Ends} {r : Fz} {σ : L2.St} {ρ : En}
theorem PF.ev (e : Ev g m S.length H m' S'.length H') (h : PF g m S H W E r) : PF g m' S' H' W E r := by
  cases r with
  | nx ρ1 S1 => exact fun s1 m1 H1 e1 => h s1 m1 H1 (e.trans e1)
  | brk ρ1 S1 => exact fun s1 m1 H1 e1 => h s1 m1 H1 (e.trans e1)
  | cnt ρ1 S1 => exact fun s1 m1 H1 e1 => h s1 m1 H1 (e.trans e1)
  | ret d S1 => exact fun s1 m1 H1 e1 => h s1 m1 H1 (e.trans e1)
  | ex x ρ1 S1 => exact fun c d s1 m1 H1 e1 => h c d s1 m1 H1 (e.trans e1)
  | no => exact h
/-- an expression ahead of the rest of a statement -/
theorem PF.bind {α : Type} {x : Rz α} {k : α → Sto → Fz} (er : ER g m S.length H σ ρ) (h : PF g m S H W E (x.toF ρ k)) :
    PRx g m S H (fun c d H' => W c d σ H') (fun a m1 S1 H1 => PF g m1 S1 H1 W E (k a S1)) x := by
  cases x with
  | ok a S1 => exact fun m1 H1 e1 _ => PF.ev e1 h
  | ex e S1 => exact fun c d m1 H1 e1 s1 x1 => h c d σ m1 H1 e1 s1 (er.ev e1) x1
  | no => exact h
theorem PF.here (h : PF g m S H W E (.nx ρ S)) (sr : SR g m H S) (er : ER g m S.length H σ ρ) : E.nx σ H := h σ m H Ev.refl sr er
end

section
variable {X : Cx} {g : Gx} {W : WX} {e a b c : Expr} {st : Stmt} {sts rest : List Stmt} {f fa fb : DE} {fs : En → Mo (List D)} {ft : En → Mo Bool} {s t u : DS} {pos : Pos}

theorem tD.subF {H : Hp} {σ : L2.St} {m : Nat → Addr} {S : Sto} {ρ : En} {k : D → Sto → Fz} {E : Ends} {Q : VK}
    (sr : SR g m H S) (er : ER g m S.length H σ ρ) (h : PF g m S H W E ((f ρ S).toF ρ k))
    (q : ∀ d m1 S1 H1 v, SR g m1 H1 S1 → ER g m1 S1.length H1 σ ρ → Ev g m S.length H m1 S1.length H1 → VR g m1 S1.length H1 v d → PF g m1 S1 H1 W E (k d S1) → Q v H1) : tD g W f σ H Q :=
  ⟨m, S, ρ, sr, er, (h.bind er).mono fun d m1 S1 H1 e1 s1 p v r => q d m1 S1 H1 v s1 (er.ev e1) e1 r p⟩
theorem tDb.subF {H : Hp} {σ : L2.St} {m : Nat → Addr} {S : Sto} {ρ : En} {k : Bool → Sto → Fz} {E : Ends} {Q : Bool → Hp → Prop}
    (sr : SR g m H S) (er : ER g m S.length H σ ρ) (h : PF g m S H W E ((ft ρ S).toF ρ k))
    (q : ∀ d m1 S1 H1, SR g m1 H1 S1 → ER g m1 S1.length H1 σ ρ → Ev g m S.length H m1 S1.length H1 → PF g m1 S1 H1 W E (k d S1) → Q d H1) : tDb g W ft σ H Q :=
  ⟨m, S, ρ, sr, er, (h.bind er).mono fun d m1 S1 H1 e1 s1 p => q d m1 S1 H1 s1 (er.ev e1) e1 p⟩

/-! ### blocks -/
def cNext : DS := fun ρ S => .nx ρ S
def cSeq (s t : DS) : DS := fun ρ S => match s ρ S with
  | .nx ρ' S' => t ρ' S'
  | o => o
theorem dss_nil : PSs X [] (tS g W cNext) := PSs.imp pss_nil fun _ _ _ ⟨_, _, _, sr, er, h⟩ => h.here sr er
theorem seq_sub : ∀ E σ H, tS g W (cSeq s t) E σ H → tSeq (tS g W s) (tS g W t) E σ H := fun E σ H ⟨m, S, ρ, sr, er, h⟩ => by
  refine ⟨m, S, ρ, sr, er, ?_⟩
  unfold cSeq at h
  cases q : s ρ S with
  | nx ρ1 S1 => rw [q] at h; exact fun s1 m1 H1 e1 sr1 er1 => ⟨m1, S1, ρ1, sr1, er1, PF.ev e1 h⟩
  | brk ρ1 S1 => rw [q] at h; exact h
  | cnt ρ1 S1 => rw [q] at h; exact h
  | ret d S1 => rw [q] at h; exact h
  | ex x ρ1 S1 => rw [q] at h; exact h
  | no => rw [q] at h; exact h
theorem dss_cons (h1 : PS X st (tS g W s)) (h2 : PSs X rest (tS g W t)) : PSs X (st :: rest) (tS g W (cSeq s t)) := PSs.imp (pss_cons h1 h2) seq_sub
theorem dss_one (h1 : PS X st (tS g W s)) : PSs X [st] (tS g W s) := pss_one h1
def cBrk : DS := fun ρ S => .brk ρ S
def cCnt : DS := fun ρ S => .cnt ρ S
def cExpr (f : DE) : DS := fun ρ S => (f ρ S).toF ρ fun _ S' => .nx ρ S'
def cRet (f : DE) : DS := fun ρ S => (f ρ S).toF ρ fun d S' => .ret d S'
theorem ds_ret (he : PE X e (tD g W f)) : PS X (.Return (some e) pos) (tS g W (cRet f)) :=
  PS.imp (ps_ret he) fun _ _ _ ⟨_, _, _, sr, er, h⟩ => tD.subF sr er h fun _ m1 _ H1 v s1 er1 _ r1 h1 => h1 v m1 H1 Ev.refl s1 r1
def cRetN : DS := fun _ S => .ret .non S
def cIfS (c : En → Mo Bool) (s t : DS) : DS := fun ρ S => (c ρ S).toF ρ fun k S' => match k with
  | true => s ρ S'
  | false => t ρ S'
theorem ds_if {p q : List Stmt} (hc : PT X c (tDb g W ft)) (ha : PSs X p (tS g W s)) (hb : PSs X q (tS g W t)) : PS X (.If c p q pos) (tS g W (cIfS ft s t)) :=
  PS.imp (ps_if hc ha hb) fun _ _ _ ⟨_, _, _, sr, er, h⟩ => tDb.subF sr er h fun k m1 S1 H1 s1 er1 _ h1 => by
    cases k with
    | true => rw [if_pos rfl]; exact ⟨m1, S1, _, s1, er1, h1⟩
    | false => rw [if_neg Bool.false_ne_true]; exact ⟨m1, S1, _, s1, er1, h1⟩

/-! ### targets -/
/-- what a target makes of a value -/
abbrev DG := D → En → Sto → Fz
def tG (g : Gx) (W : WX) (f : DG) : TG := fun v σ H Q => ∃ m S ρ d, SR g m H S ∧ ER g m S.length H σ ρ ∧ VR g m S.length H v d ∧ PF g m S H W { nx := Q, rt := fun _ _ => False } (f d ρ S)
theorem PG.imp {tg : Expr} {t t' : TG} (h : PG X tg t) (i : ∀ v σ H Q, t' v σ H Q → t v σ H Q) : PG X tg t' := ⟨fun pins s σ H v u Q I r q => h.run pins s σ H v u Q I r (i v σ H Q q)⟩
theorem PGs.imp {tg : List Expr} {t t' : TGs} (h : PGs X tg t) (i : ∀ v σ H Q, t' v σ H Q → t v σ H Q) : PGs X tg t' := ⟨fun pins s σ H v u Q I r q => h.run pins s σ H v u Q I r (i v σ H Q q)⟩
def kName (i : Nat) : DG := fun d ρ S => .nx (ρ.set i (some d)) S
theorem dg_name (i : Nat) {x : Str} (hN : X.N.Nodup) (hi : X.N[i]? = some x := by rfl) (hx : Loc X.env.scope x := by first | exact Or.inl rfl | exact Or.inr rfl) (hf : X.fn x = true ∨ X.env.scope.names.lookup x = some .local := by first | exact .inl rfl | exact .inr rfl) :
    PG X (.Name x pos) (tG g W (kName i)) := PG.imp (pg_name hN hi hx hf) fun _ _ H _ ⟨m, _, _, _, sr, er, r, h⟩ => h _ m H Ev.refl sr (er.set r)
abbrev DGs := List D → En → Sto → Fz
def kNil : DGs := fun ds ρ S => match ds with
  | [] => .nx ρ S
  | _ :: _ => .no
def kCons (f : DG) (fs : DGs) : DGs := fun ds ρ S => match ds with
  | [] => .no
  | d :: r => match f d ρ S with
    | .nx ρ' S' => fs r ρ' S'
    | _ => .no
def unO : Option Ob → Option (List D)
  | some (.lst xs) => some xs
  | _ => none
/-- what is unpacked: a tuple, a list -/
def unS (S : Sto) : D → Option (List D)
  | .tup xs => some xs
  | .lsc xs => some xs
  | .loc l => unO S[l]?
  | _ => none
/-- unpacking -/
def kTup (ks : DGs) (n : Nat) : DG := fun d ρ S => match unS S d with
  | some xs => if xs.length = n then ks xs ρ S else .no
  | none => .no
theorem PG.or {tg : Expr} {t t' : TG} (h : PG X tg t) (h' : PG X tg t') : PG X tg (fun v σ H Q => t v σ H Q ∨ t' v σ H Q) := ⟨fun pins s σ H v u Q I r q => q.elim (h.run pins s σ H v u Q I r) (h'.run pins s σ H v u Q I r)⟩
/-- target = e -/
def cAsg (f : DE) (k : DG) : DS := fun ρ S => (f ρ S).toF ρ fun d S' => match k d ρ S' with
  | .nx ρ' S'' => .nx ρ' S''
  | _ => .no
theorem ds_set (i : Nat) {x : Str} {pos' : Pos} (hN : X.N.Nodup) (he : PE X e (tD g W f)) (hi : X.N[i]? = some x := by rfl) (hx : Loc X.env.scope x := by first | exact Or.inl rfl | exact Or.inr rfl) (hs : swapsWith e (some (.Name x pos')) pos.line X.env = pure false := by rfl)
    (hf : X.fn x = true ∨ X.env.scope.names.lookup x = some .local := by first | exact .inl rfl | exact .inr rfl) : PS X (.Assign [.Name x pos'] e pos) (tS g W (cAsg f (kName i))) :=
  PS.imp (ps_set hN hi hx he hs hf) fun _ _ _ ⟨_, _, _, sr, er, h⟩ => tD.subF sr er h fun _ m1 _ H1 v s1 er1 _ r1 h1 => h1 _ m1 H1 Ev.refl s1 (er1.set r1)
/-- a, b = e1, e2 (two plain locals): stored from the right -/
def cPar (i j : Nat) (fs : En → Mo (List D)) : DS := fun ρ S => (fs ρ S).toF ρ fun ds S' => match ds with
  | [d, e] => .nx ((ρ.set i (some d)).set j (some e)) S'
  | _ => .no
theorem tDs.subF {H : Hp} {σ : L2.St} {m : Nat → Addr} {S : Sto} {ρ : En} {k : List D → Sto → Fz} {E : Ends} {Q : List V → Hp → Prop}
    (sr : SR g m H S) (er : ER g m S.length H σ ρ) (h : PF g m S H W E ((fs ρ S).toF ρ k))
    (q : ∀ d m1 S1 H1 v, SR g m1 H1 S1 → ER g m1 S1.length H1 σ ρ → Ev g m S.length H m1 S1.length H1 → VRs g m1 S1.length H1 v d → PF g m1 S1 H1 W E (k d S1) → Q v H1) : tDs g W fs σ H Q :=
  ⟨m, S, ρ, sr, er, (h.bind er).mono fun d m1 S1 H1 e1 s1 p v r => q d m1 S1 H1 v s1 (er.ev e1) e1 r p⟩
/-- x op= e at a local -/
def cAug (i : Nat) (h : D → D → Mo D) (f : DE) : DS := fun ρ S => match ρ[i]? with
  | some (some x) => (f ρ S).toF ρ fun y S' => (h x y S').toF ρ fun z S'' => .nx (ρ.set i (some z)) S''
  | _ => .no
/-! ### while -/
/-! ### what is walked -/
/-- what a walk over things of the store gives at turn i: none where it fails, some none at its end -/
abbrev Nx := Nat → Sto → Option (Option D)
/-- items that stand fast, or things of the store as they are at each turn (n turns at most) -/
inductive Wk where
  | items (ds : List D) | view (nx : Nx) (n : Nat)
def liveO (i : Nat) : Option Ob → Option (Option D)
  | some (.lst xs) => some xs[i]?
  | _ => none
/-- a list of the store -/
def liveX (l : Nat) : Nx := fun i S => liveO i S[l]?
/-- J walks the items -/
def ItmOk (g : Gx) (J : It) (m : Nat → Addr) (n : Nat) (H : Hp) (ds : List D) : Prop :=
  ∀ i m' n' H', Ev g m n H m' n' H' → (ds.length ≤ i → J.stop i H') ∧ (∀ d, ds[i]? = some d → J.go i H' ∧ ∀ x H'', J.yld i H' x H'' → Ev g m' n' H' m' n' H'' ∧ (∀ S, n' = S.length → SR g m' H' S → SR g m' H'' S) ∧ VR g m' n' H'' x d)
def VwOk (g : Gx) (J : It) (m : Nat → Addr) (n : Nat) (H : Hp) (nx : Nx) : Prop :=
  ∀ i m' H' (S' : Sto), Ev g m n H m' S'.length H' → SR g m' H' S' → (nx i S' = some none → J.stop i H') ∧
    (∀ d, nx i S' = some (some d) → J.go i H' ∧ ∀ x H'', J.yld i H' x H'' → Ev g m' S'.length H' m' S'.length H'' ∧ SR g m' H'' S' ∧ VR g m' S'.length H'' x d)
def ItOk (g : Gx) (J : It) (m : Nat → Addr) (n : Nat) (H : Hp) : Wk → Prop
  | .items ds => ItmOk g J m n H ds
  | .view nx _ => VwOk g J m n H nx
def tIt (g : Gx) (W : WX) (f : En → Mo Wk) : TI := fun σ H R => ∃ m S ρ, SR g m H S ∧ ER g m S.length H σ ρ ∧
  PRx g m S H (fun c d H' => W c d σ H') (fun w m1 S1 H1 => ∀ J, ItOk g J m1 S1.length H1 w → R J H1) (f ρ S)
/-- the turns over items -/
def loopI (k : DG) (s : DS) : List D → DS
  | [] => fun ρ S => .nx ρ S
  | d :: r => fun ρ S => match k d ρ S with
    | .nx ρ1 S1 => match s ρ1 S1 with
      | .nx ρ' S' => loopI k s r ρ' S'
      | .cnt ρ' S' => loopI k s r ρ' S'
      | .brk ρ' S' => .nx ρ' S'
      | o => o
    | _ => .no
/-- the turns over things of the store: i turns done, n at most to come -/
def loopV (k : DG) (s : DS) (nx : Nx) : Nat → Nat → DS
  | 0, i => fun ρ S => match nx i S with
    | some none => .nx ρ S
    | _ => .no
  | n + 1, i => fun ρ S => match nx i S with
    | some (some d) => match k d ρ S with
      | .nx ρ1 S1 => match s ρ1 S1 with
        | .nx ρ' S' => loopV k s nx n (i + 1) ρ' S'
        | .cnt ρ' S' => loopV k s nx n (i + 1) ρ' S'
        | .brk ρ' S' => .nx ρ' S'
        | o => o
      | _ => .no
    | some none => .nx ρ S
    | none => .no
def cFor (it : En → Mo Wk) (k : DG) (s : DS) : DS := fun ρ S => (it ρ S).toF ρ fun w S' => match w with
  | .items ds => loopI k s ds ρ S'
  | .view nx n => loopV k s nx n 0 ρ S'
theorem turn_sub {k : DG} {rest' : DS} {E : Ends} {σ : L2.St} {H : Hp} {m : Nat → Addr} {S : Sto} {ρ : En} {d : D} {v : V} (sr : SR g m H S) (er : ER g m S.length H σ ρ) (r : VR g m S.length H v d)
    (h : PF g m S H W E (match k d ρ S with
      | .nx ρ1 S1 => match s ρ1 S1 with
        | .nx ρ' S' => rest' ρ' S'
        | .cnt ρ' S' => rest' ρ' S'
        | .brk ρ' S' => .nx ρ' S'
        | o => o
      | _ => .no)) :
    tG g W k v σ H fun σ2 H2 => tS g W s { E with nx := tS g W rest' E, ct := tS g W rest' E, bk := E.nx } σ2 H2 := by
  refine ⟨m, S, ρ, d, sr, er, r, ?_⟩
  cases q : k d ρ S with
  | nx ρ1 S1 =>
    rw [q] at h
    intro s1 m1 H1 e1 sr1 er1
    refine ⟨m1, S1, ρ1, sr1, er1, ?_⟩
    have h2 := PF.ev e1 h
    dsimp only at h2
    cases z : s ρ1 S1 with
    | nx ρ2 S2 => rw [z] at h2; exact fun s3 m3 H3 e3 sr3 er3 => ⟨m3, S2, ρ2, sr3, er3, PF.ev e3 h2⟩
    | cnt ρ2 S2 => rw [z] at h2; exact fun s3 m3 H3 e3 sr3 er3 => ⟨m3, S2, ρ2, sr3, er3, PF.ev e3 h2⟩
    | brk ρ2 S2 => rw [z] at h2; exact h2
    | ret d S2 => rw [z] at h2; exact h2
    | ex x ρ2 S2 => rw [z] at h2; exact h2
    | no => rw [z] at h2; exact h2
  | _ => rw [q] at h; exact h.elim
theorem ds_for {tg iter : Expr} {body : List Stmt} {it : En → Mo Wk} {k : DG} (hp : PassesOwn (model X.prog X.w) X.A X.env X.xe) (hc : X.calm = true) (hi : PI X tg iter (tIt g W it)) (hg : PG X tg (tG g W k)) (hb : PSs X body (tS g W s))
    (hs : ∀ x, foldedSetIterable iter X.env x = pure x := by intro _; rfl) : PS X (.For tg iter body [] pos) (tS g W (cFor it k s)) :=
  PS.imp (ps_for hp hc hi hg hb hs) fun E σ H ⟨m, S, ρ, sr, er, h⟩ => by
    refine ⟨m, S, ρ, sr, er, (h.bind er).mono fun w m1 S1 H1 e1 s1 q J ok => ?_⟩
    have er1 := er.ev e1
    cases w with
    | items ds =>
      have ok : ItmOk g J m1 S1.length H1 ds := ok
      refine ⟨fun i μ σ' H' => ∃ m' S' ρ', μ = ds.length - i ∧ i ≤ ds.length ∧ Ev g m1 S1.length H1 m' S'.length H' ∧ SR g m' H' S' ∧ ER g m' S'.length H' σ' ρ' ∧ PF g m' S' H' W E (loopI k s (ds.drop i) ρ' S'),
        ⟨ds.length, m1, S1, ρ, by simp, Nat.zero_le _, Ev.refl, s1, er1, by simpa using q⟩, ?_⟩
      rintro i μ σ' H' ⟨m', S', ρ', rfl, hil, e', sr', er', q'⟩
      obtain ⟨st, gos⟩ := ok i m' S'.length H' e'
      by_cases hlt : i < ds.length
      · have hd : ds[i]? = some ds[i] := List.getElem?_eq_getElem hlt
        obtain ⟨go, yl⟩ := gos _ hd
        refine .inr ⟨go, fun σ2 H2 => ∃ m2 S2 ρ2, Ev g m1 S1.length H1 m2 S2.length H2 ∧ SR g m2 H2 S2 ∧ ER g m2 S2.length H2 σ2 ρ2 ∧ PF g m2 S2 H2 W E (loopI k s (ds.drop (i + 1)) ρ2 S2), fun σ2 H2 ⟨m2, S2, ρ2, a1, a2, a3, a4⟩ => ⟨ds.length - (i + 1), by omega, m2, S2, ρ2, rfl, hlt, a1, a2, a3, a4⟩, fun x H'' y => ?_⟩
        obtain ⟨e2, keepS, rx⟩ := yl x H'' y
        have sr2 := keepS S' rfl sr'
        have er2 := er'.ev e2
        rw [List.drop_eq_getElem_cons hlt] at q'
        have q2 := PF.ev e2 q'
        have e12 := e'.trans e2
        -- the turn, remembering how the heap came to be
        obtain ⟨m3, S3, ρ3, d3, b1, b2, b3, b4⟩ := turn_sub (rest' := loopI k s (ds.drop (i + 1))) sr2 er2 rx q2
        refine ⟨m', S', ρ', ds[i], sr2, er2, rx, ?_⟩
        clear b1 b2 b3 b4
        have q3 : PF g m' S' H'' W E (match k ds[i] ρ' S' with
          | .nx ρ1 S1 => match s ρ1 S1 with
            | .nx ρ' S' => loopI k s (ds.drop (i + 1)) ρ' S'
            | .cnt ρ' S' => loopI k s (ds.drop (i + 1)) ρ' S'
            | .brk ρ' S' => .nx ρ' S'
            | o => o
          | _ => .no) := q2
        cases z : k ds[i] ρ' S' with
        | nx ρ5 S5 =>
          rw [z] at q3
          intro s6 m6 H6 e6 sr6 er6
          refine ⟨m6, S5, ρ5, sr6, er6, ?_⟩
          have h2 := PF.ev e6 q3
          dsimp only at h2
          have e16 := e12.trans e6
          cases z2 : s ρ5 S5 with
          | nx ρ7 S7 => rw [z2] at h2; exact fun s8 m8 H8 e8 sr8 er8 => ⟨m8, S7, ρ7, e16.trans e8, sr8, er8, PF.ev e8 h2⟩
          | cnt ρ7 S7 => rw [z2] at h2; exact fun s8 m8 H8 e8 sr8 er8 => ⟨m8, S7, ρ7, e16.trans e8, sr8, er8, PF.ev e8 h2⟩
          | brk ρ7 S7 => rw [z2] at h2; exact h2
          | ret d S7 => rw [z2] at h2; exact h2
          | ex x ρ7 S7 => rw [z2] at h2; exact h2
          | no => rw [z2] at h2; exact h2
        | _ => rw [z] at q3; exact q3.elim
      · have e0 : i = ds.length := by omega
        subst e0
        rw [List.drop_length] at q'
        exact .inl ⟨st (Nat.le_refl _), q'.here sr' er'⟩
    | view nx n =>
      have ok : VwOk g J m1 S1.length H1 nx := ok
      refine ⟨fun i μ σ' H' => ∃ m' S' ρ', Ev g m1 S1.length H1 m' S'.length H' ∧ SR g m' H' S' ∧ ER g m' S'.length H' σ' ρ' ∧ PF g m' S' H' W E (loopV k s nx μ i ρ' S'),
        ⟨n, m1, S1, ρ, Ev.refl, s1, er1, q⟩, ?_⟩
      rintro i μ σ' H' ⟨m', S', ρ', e', sr', er', q'⟩
      obtain ⟨st, gos⟩ := ok i m' H' S' e' sr'
      cases μ with
      | zero =>
        unfold loopV at q'
        cases z : nx i S' with
        | none => rw [z] at q'; exact q'.elim
        | some o =>
          rw [z] at q'
          cases o with
          | none => exact .inl ⟨st z, q'.here sr' er'⟩
          | some _ => exact q'.elim
      | succ μ =>
        unfold loopV at q'
        cases z : nx i S' with
        | none => rw [z] at q'; exact q'.elim
        | some o =>
          rw [z] at q'
          cases o with
          | none => exact .inl ⟨st z, q'.here sr' er'⟩
          | some d =>
            dsimp only at q'
            obtain ⟨go, yl⟩ := gos d z
            refine .inr ⟨go, fun σ2 H2 => ∃ m2 S2 ρ2, Ev g m1 S1.length H1 m2 S2.length H2 ∧ SR g m2 H2 S2 ∧ ER g m2 S2.length H2 σ2 ρ2 ∧ PF g m2 S2 H2 W E (loopV k s nx μ (i + 1) ρ2 S2),
              fun σ2 H2 a => ⟨μ, Nat.lt_succ_self _, a⟩, fun x H'' y => ?_⟩
            obtain ⟨e2, sr2, rx⟩ := yl x H'' y
            have er2 := er'.ev e2
            have q3 := PF.ev e2 q'
            have e12 := e'.trans e2
            refine ⟨m', S', ρ', d, sr2, er2, rx, ?_⟩
            cases z3 : k d ρ' S' with
            | nx ρ5 S5 =>
              rw [z3] at q3
              intro s6 m6 H6 e6 sr6 er6
              refine ⟨m6, S5, ρ5, sr6, er6, ?_⟩
              have h2 := PF.ev e6 q3
              dsimp only at h2
              have e16 := e12.trans e6
              cases z2 : s ρ5 S5 with
              | nx ρ7 S7 => rw [z2] at h2; exact fun s8 m8 H8 e8 sr8 er8 => ⟨m8, S7, ρ7, e16.trans e8, sr8, er8, PF.ev e8 h2⟩
              | cnt ρ7 S7 => rw [z2] at h2; exact fun s8 m8 H8 e8 sr8 er8 => ⟨m8, S7, ρ7, e16.trans e8, sr8, er8, PF.ev e8 h2⟩
              | brk ρ7 S7 => rw [z2] at h2; exact h2
              | ret d S7 => rw [z2] at h2; exact h2
              | ex x ρ7 S7 => rw [z2] at h2; exact h2
              | no => rw [z2] at h2; exact h2
            | _ => rw [z3] at q3; exact q3.elim
/-- iterating data -/
def itD : D → Mo Wk
  | .tup ds => pure (.items ds)
  | .lsc ds => pure (.items ds)
  | .str x => pure (.items (x.cps.toList.map fun c => .str ⟨#[c]⟩))
  | .loc l => fun S => match S[l]? with
    | some (.lst xs) => .ok (.view (liveX l) xs.length) S
    | _ => .no
  | _ => bad
def cIt (f : DE) : En → Mo Wk := fun ρ => f ρ >>= itD
end
end Sm
end
section
/-! Sm, part D: what is walked, comprehensions, fields, own classes, calls, the entry of a def. -/
namespace Sm
open PySem PySem.Spec PyProof.Rows L2

section
variable {X : Cx} {g : Gx} {W : WX} {e a b c : Expr} {es rest : List Expr} {f fa fb : DE} {fs : En → Mo (List D)} {ft : En → Mo Bool} {s t u : DS} {pos : Pos}

/-! ### iterators -/
/-- range(a, b), range(n) -/
def rgD (lo : Int) (n : Nat) : List D := (List.range n).map fun i => D.int (lo + (i : Nat))
theorem itr_ok {m : Nat → Addr} {n : Nat} {H : Hp} (lo : Int) (k : Nat) : ItmOk g (Itr lo k) m n H (rgD lo k) := fun i m' n' H' e =>
  ⟨fun h => by
    unfold rgD at h
    rw [List.length_map, List.length_range] at h
    exact h, fun d hd => by
    have hi : i < k := by
      have := (List.getElem?_eq_some_iff.mp hd).1
      simpa [rgD] using this
    refine ⟨hi, fun v H'' ⟨eq, ev⟩ => ?_⟩
    subst eq
    subst ev
    unfold rgD at hd
    rw [List.getElem?_map, List.getElem?_range hi] at hd
    cases hd
    exact ⟨Ev.refl, fun _ _ h => h, .int _⟩⟩
@[irreducible] def okR (j : Int) : Bool := decide (-(2 ^ 62) ≤ j ∧ j < 2 ^ 62)
theorem okR_iff {j : Int} : okR j = true ↔ (-(2 ^ 62) ≤ j ∧ j < 2 ^ 62) := by
  unfold okR
  exact decide_eq_true_iff
def rng1 : List D → Mo Wk
  | [.int j] => fun S => if okR j = true then .ok (.items (rgD 0 j.toNat)) S else .no
  | _ => bad
def cRng (h : List D → Mo Wk) (fs : En → Mo (List D)) : En → Mo Wk := fun ρ => fs ρ >>= h
theorem di_range1 {tg : Expr} {p : Pos} (hm : X.mg "range" = none) (ha : PA X [a] (tDs g W fs)) (hg : Gl X "range" := by rfl) (hs : starEach [a] X.env = [(false, eval a X.env)] := by rfl) : PI X tg (.Call (.Name "range" p) [a] [] pos) (tIt g W (cRng rng1 fs)) :=
  PI.imp (pi_range1 hg hm ha hs) fun σ H R ⟨m, S, ρ, sr, er, h⟩ => tDs.sub sr er h fun ds m1 S1 H1 vs s1 _ _ r1 h1 => by
    cases r1 with
    | nil => exact h1.elim
    | cons x d xs ds rx rs =>
      cases rs with
      | cons _ _ _ _ _ _ => cases rx <;> exact h1.elim
      | nil =>
        cases rx with
        | int j =>
          have h2 : PRx g m1 S1 H1 _ _ (if okR j = true then (Rz.ok (Wk.items (rgD 0 j.toNat)) S1 : Rz Wk) else .no) := h1
          by_cases q : okR j = true
          · rw [if_pos q] at h2
            obtain ⟨q1, q2⟩ := okR_iff.mp q
            exact ⟨j, rfl, q1, q2, h2 m1 H1 Ev.refl s1 _ (itr_ok 0 j.toNat)⟩
          · rw [if_neg q] at h2; exact h2.elim
        | _ => exact h1.elim
/-! ### comprehensions -/
/-- the names' slots set, one after another -/
def setAll (ρ : En) : List Nat → List D → En
  | i :: is, d :: ds => setAll (ρ.set i (some d)) is ds
  | _, _ => ρ
def setV (σ : L2.St) : List Nat → List V → L2.St
  | i :: is, d :: ds => setV (σ.set i (some d)) is ds
  | _, _ => σ
def gNames : List Nat → TGs
  | [] => gNil
  | i :: is => gCons (gName i) (gNames is)
theorem gNames_of : ∀ {is : List Nat} {xs : List V} {σ : L2.St} {H : Hp} {Q : L2.St → Hp → Prop}, xs.length = is.length → Q (setV σ is xs) H → gNames is xs σ H Q
  | [], [], _, _, _, _, h => ⟨rfl, h⟩
  | i :: is, x :: xs, σ, H, Q, hl, h => ⟨x, xs, rfl, gNames_of (is := is) (xs := xs) (σ := σ.set i (some x)) (by simpa using hl) h⟩
theorem wipe_at (σ : L2.St) (i : Nat) : ∀ vs : List Nat, (wipe σ vs)[i]? = if i ∈ vs then (if i < σ.length then some none else none) else σ[i]?
  | [] => by simp [wipe]
  | v :: vs => by
    unfold wipe
    by_cases hv : v = i
    · subst hv
      by_cases hl : v < σ.length
      · rw [List.getElem?_set_self (by rw [wipe_length]; exact hl)]
        simp [hl]
      · rw [List.getElem?_eq_none (by rw [List.length_set, wipe_length]; omega)]
        simp [hl]
    · rw [List.getElem?_set_ne hv, wipe_at σ i vs]
      simp [Ne.symm hv]
theorem wipe_set (σ : L2.St) {i : Nat} {vs : List Nat} (hi : i ∈ vs) (o : Option V) : wipe (σ.set i o) vs = wipe σ vs := by
  apply List.ext_getElem?
  intro j
  rw [wipe_at, wipe_at]
  by_cases hj : j ∈ vs
  · rw [if_pos hj, if_pos hj, List.length_set]
  · rw [if_neg hj, if_neg hj, List.getElem?_set_ne (fun z => hj (by rw [← z]; exact hi))]
theorem wipe_wipe (σ : L2.St) (vs : List Nat) : wipe (wipe σ vs) vs = wipe σ vs := by
  apply List.ext_getElem?
  intro j
  rw [wipe_at, wipe_at, wipe_length]
  by_cases hj : j ∈ vs
  · simp [hj]
  · simp [hj]
theorem wipe_setV {vs : List Nat} : ∀ {is : List Nat} {xs : List V} (σ : L2.St), (∀ i ∈ is, i ∈ vs) → wipe (setV σ is xs) vs = wipe σ vs
  | [], _, _, _ => by simp [setV]
  | i :: is, [], _, _ => by simp [setV]
  | i :: is, x :: xs, σ, h => by
    unfold setV
    rw [wipe_setV (is := is) (xs := xs) _ fun j hj => h j (List.mem_cons_of_mem _ hj), wipe_set σ (h i List.mem_cons_self)]
def wipeE (ρ : En) : List Nat → En
  | [] => ρ
  | v :: vs => (wipeE ρ vs).set v none
theorem ER.wipe {m : Nat → Addr} {n : Nat} {H : Hp} {σ : L2.St} {ρ : En} (h : ER g m n H σ ρ) : ∀ vs : List Nat, ER g m n H (L2.wipe σ vs) (wipeE ρ vs)
  | [] => h
  | v :: vs => (ER.wipe h vs).unset
theorem ER.setAll : ∀ {is : List Nat} {xs : List V} {ds : List D} {m : Nat → Addr} {n : Nat} {H : Hp} {σ : L2.St} {ρ : En}, ER g m n H σ ρ → VRs g m n H xs ds → ER g m n H (setV σ is xs) (setAll ρ is ds)
  | [], _, _, _, _, _, _, _, h, _ => by simpa [setV, Sm.setAll] using h
  | i :: is, _, _, _, _, _, _, _, h, .nil => by simpa [setV, Sm.setAll] using h
  | i :: is, _, _, _, _, _, _, _, h, .cons x d xs ds r t => ER.setAll (is := is) (h.set r) t
/-- the comprehension's names: one, or a tuple of them -/
inductive CT where
  | one (i : Nat) | many (is : List Nat)
def CT.vs : CT → List Nat
  | .one i => [i]
  | .many is => is
def CT.tg (K : PySem.W.Frag) : CT → TG
  | .one i => gName i
  | .many is => gTup K is.length (gNames is)
def CT.put (ρ : En) : CT → D → Option En
  | .one i, d => some (ρ.set i (some d))
  | .many is, .tup ds => if ds.length = is.length then some (setAll ρ is ds) else none
  | .many _, _ => none
theorem CT.ok {K : PySem.W.Frag} {t : CT} {m : Nat → Addr} {n : Nat} {H : Hp} {σ : L2.St} {ρ ρ' : En} {v : V} {d : D} {Q : L2.St → Hp → Prop} (hK : K = g.K) (er : ER g m n H σ ρ) (r : VR g m n H v d) (h : t.put ρ d = some ρ')
    (q : ∀ σ', ER g m n H σ' ρ' → (∀ ws, (∀ i ∈ t.vs, i ∈ ws) → L2.wipe σ' ws = L2.wipe σ ws) → Q σ' H) : t.tg K v σ H Q := by
  cases t with
  | one i =>
    cases h
    exact q _ (er.set r) fun ws hw => wipe_set σ (hw i (by simp [CT.vs])) _
  | many is =>
    cases r with
    | tup a xs ds hq rs =>
      have h2 : (if ds.length = is.length then some (setAll ρ is ds) else none) = some ρ' := h
      by_cases hl : ds.length = is.length
      · rw [if_pos hl] at h2
        cases h2
        subst hK
        exact ⟨a, xs, rfl, hq, by rw [rs.length]; exact hl, gNames_of (by rw [rs.length]; exact hl) (q _ (er.setAll rs) fun ws hw => wipe_setV σ hw)⟩
      · rw [if_neg hl] at h2; cases h2
    | _ => cases h
/-- the end of one turn: the new item at the list n -/
def pushL (n : Nat) (y : D) (S : Sto) : Option Sto := match S[n]? with
  | some (.lst acc) => if fit (acc.length + 1) = true then some (S.set n (.lst (acc ++ [y]))) else none
  | _ => none
/-- one turn of a comprehension -/
def lcTurn (t : CT) (tst : En → Mo Bool) (elt : DE) (ρ : En) (n : Nat) (d : D) (S : Sto) : Option Sto := match t.put ρ d with
  | some ρ' => match tst ρ' S with
    | .ok true S1 => match elt ρ' S1 with
      | .ok y S2 => pushL n y S2
      | _ => none
    | .ok false S1 => some S1
    | _ => none
  | none => none
def lcI (t : CT) (tst : En → Mo Bool) (elt : DE) (ρ : En) (n : Nat) : List D → Sto → Rz D
  | [], S => .ok (.loc n) S
  | d :: r, S => match lcTurn t tst elt ρ n d S with
    | some S' => lcI t tst elt ρ n r S'
    | none => .no
def lcV (t : CT) (tst : En → Mo Bool) (elt : DE) (ρ : En) (n : Nat) (nx : Nx) : Nat → Nat → Sto → Rz D
  | 0, i, S => match nx i S with
    | some none => .ok (.loc n) S
    | _ => .no
  | k + 1, i, S => match nx i S with
    | some (some d) => match lcTurn t tst elt ρ n d S with
      | some S' => lcV t tst elt ρ n nx k (i + 1) S'
      | none => .no
    | some none => .ok (.loc n) S
    | none => .no
def cLc (it : En → Mo Wk) (t : CT) (tst : En → Mo Bool) (elt : DE) : DE := fun ρ => do
  let w ← it ρ
  fun S => match w with
    | .items ds => lcI t tst elt (wipeE ρ t.vs) S.length ds (S ++ [.lst []])
    | .view nx k => lcV t tst elt (wipeE ρ t.vs) S.length nx k 0 (S ++ [.lst []])
/-- a turn, over the hand layer's reading; what is known of the rest (Nx) is said of every later heap -/
theorem lcTurn_ok {K : PySem.W.Frag} {t : CT} {tst : En → Mo Bool} {elt : DE} {m : Nat → Addr} {S S' : Sto} {H : Hp} {σ : L2.St} {ρ : En} {n : Nat} {d : D} {x : V} {Nx : Hp → Prop} (hK : K = g.K)
    (sr : SR g m H S) (er : ER g m S.length H (L2.wipe σ t.vs) ρ) (r : VR g m S.length H x d) (hn : n < S.length) (h : lcTurn t tst elt ρ n d S = some S')
    (q : ∀ m' H', Ev g m S.length H m' S'.length H' → SR g m' H' S' → Nx H') :
    t.tg K x (L2.wipe σ t.vs) H fun σ2 H2 => L2.wipe σ2 t.vs = L2.wipe σ t.vs ∧ tDb g (fun _ _ _ _ => False) tst σ2 H2 fun b H3 =>
      if b = true then tD g (fun _ _ _ _ => False) elt σ2 H3 fun y H4 => ∃ acc, H4 (m n) = some (.lst acc) ∧ acc.length < sizeLine ∧ Nx (upd H4 (m n) (.lst (acc ++ [y]))) else Nx H3 := by
  unfold lcTurn at h
  cases q1 : t.put ρ d with
  | none => rw [q1] at h; cases h
  | some ρ' =>
    rw [q1] at h
    dsimp only at h
    refine CT.ok hK er r q1 fun σ' er' hw => ?_
    refine ⟨(hw t.vs fun _ z => z).trans (wipe_wipe σ t.vs), m, S, ρ', sr, er', ?_⟩
    cases q2 : tst ρ' S with
    | no => rw [q2] at h; cases h
    | ex e S1 => rw [q2] at h; cases h
    | ok b S1 =>
      rw [q2] at h
      intro m1 H1 e1 s1
      cases b with
      | false =>
        cases h
        exact iteF (q m1 H1 e1 s1)
      | true =>
        refine iteT ?_
        dsimp only at h
        refine ⟨m1, S1, ρ', s1, er'.ev e1, ?_⟩
        cases q3 : elt ρ' S1 with
        | no => rw [q3] at h; cases h
        | ex e S2 => rw [q3] at h; cases h
        | ok y S2 =>
          rw [q3] at h
          dsimp only at h
          intro m2 H2 e2 s2 v rv
          have e12 := e1.trans e2
          have en : m2 n = m n := e12.ag n hn
          unfold pushL at h
          cases q4 : S2[n]? with
          | none => rw [q4] at h; cases h
          | some o =>
            rw [q4] at h
            cases o with
            | lst acc =>
              dsimp only at h
              by_cases hf : fit (acc.length + 1) = true
              · rw [if_pos hf] at h
                cases h
                obtain ⟨hl, vs, hv, rs⟩ := s2.atL q4
                have z := fit_iff.mp hf
                refine ⟨vs, by rw [← en]; exact hv, by rw [rs.length]; omega, ?_⟩
                rw [← en]
                have ew : Ev g m2 S2.length H2 m2 S2.length (upd H2 (m2 n) (.lst (vs ++ [v]))) := Ev.wr (s2.canw hl)
                refine q m2 _ (by rw [List.length_set]; exact e12.trans ew) (s2.wr hl ⟨_, upd_same, ?_⟩)
                exact (rs.append (.cons _ _ _ _ rv .nil)).ev ew
              · rw [if_neg hf] at h; cases h
            | _ => cases h
theorem lc_sub {K : PySem.W.Frag} {it : En → Mo Wk} {t : CT} {tst : En → Mo Bool} {elt : DE} (hK : K = g.K) : ∀ σ H Q, tD g W (cLc it t tst elt) σ H Q →
    tLc (tIt g W it) (t.tg K) (tDb g (fun _ _ _ _ => False) tst) (tD g (fun _ _ _ _ => False) elt) t.vs σ H Q := fun σ H Q ⟨m, S, ρ, sr, er, h⟩ => by
  refine ⟨m, S, ρ, sr, er, h.bind.mono fun w m1 S1 H1 e1 s1 q J ok D hD => ?_⟩
  have er1 := er.ev e1
  have eA : Ev g m1 S1.length H1 (ext m1 S1.length D) (S1.length + 1) (upd H1 D (.lst [])) := Ev.ext (Ev.new hD)
  have sA : SR g (ext m1 S1.length D) (upd H1 D (.lst [])) (S1 ++ [.lst []]) := s1.alloc hD ⟨[], upd_same, .nil⟩
  have lA : (S1 ++ [Ob.lst []]).length = S1.length + 1 := by rw [List.length_append, List.length_singleton]
  have fin : ∀ {m' : Nat → Addr} {S' : Sto} {H' : Hp}, m' S1.length = D → S1.length < S'.length → SR g m' H' S' → PRx g m' S' H' (fun c d H' => W c d σ H') (KD g Q) (.ok (.loc S1.length) S') → Q (.ref D) H' := fun {m' S' H'} ed hl s' p => by
    have := p m' H' Ev.refl s' (.ref (m' S1.length)) (.loc _ hl)
    rw [ed] at this
    exact this
  cases w with
  | items ds =>
    have ok : ItmOk g J m1 S1.length H1 ds := ok
    have q : PRx g m1 S1 H1 (fun c d H' => W c d σ H') (KD g Q) (lcI t tst elt (wipeE ρ t.vs) S1.length ds (S1 ++ [.lst []])) := q
    have q0 := PRx.ev (S' := S1 ++ [Ob.lst []]) (by rw [lA]; exact eA) q
    refine ⟨fun i μ H' => ∃ m' S', μ = ds.length - i ∧ i ≤ ds.length ∧ m' S1.length = D ∧ S1.length < S'.length ∧ Ev g m1 S1.length H1 m' S'.length H' ∧ SR g m' H' S' ∧ PRx g m' S' H' (fun c d H' => W c d σ H') (KD g Q) (lcI t tst elt (wipeE ρ t.vs) S1.length (ds.drop i) S'),
      ⟨ds.length, _, _, by simp, Nat.zero_le _, ext_new, by rw [lA]; exact Nat.lt_succ_self _, by rw [lA]; exact eA, sA, by simpa using q0⟩, ?_⟩
    rintro i μ H' ⟨m', S', rfl, hil, ed, hl, e', s', q'⟩
    obtain ⟨st, gos⟩ := ok i m' S'.length H' e'
    by_cases hlt : i < ds.length
    · have hd : ds[i]? = some ds[i] := List.getElem?_eq_getElem hlt
      obtain ⟨go, yl⟩ := gos _ hd
      rw [List.drop_eq_getElem_cons hlt] at q'
      refine .inr ⟨go, fun H2 => ∃ m2 S2, m2 S1.length = D ∧ S1.length < S2.length ∧ Ev g m1 S1.length H1 m2 S2.length H2 ∧ SR g m2 H2 S2 ∧ PRx g m2 S2 H2 (fun c d H' => W c d σ H') (KD g Q) (lcI t tst elt (wipeE ρ t.vs) S1.length (ds.drop (i + 1)) S2),
        fun H2 ⟨m2, S2, a1, a2, a3, a4, a5⟩ => ⟨ds.length - (i + 1), by omega, m2, S2, rfl, hlt, a1, a2, a3, a4, a5⟩, fun x H'' y => ?_⟩
      obtain ⟨e2, keepS, rx⟩ := yl x H'' y
      have s2 := keepS S' rfl s'
      have q2 := PRx.ev e2 q'
      unfold lcI at q2
      cases z : lcTurn t tst elt (wipeE ρ t.vs) S1.length ds[i] S' with
      | none => rw [z] at q2; exact q2.elim
      | some S5 =>
        rw [z] at q2
        dsimp only at q2
        have erw := (er1.ev (e'.trans e2)).wipe t.vs
        have tk := lcTurn_ok (Nx := fun H2 => ∃ m2 S2, m2 S1.length = D ∧ S1.length < S2.length ∧ Ev g m1 S1.length H1 m2 S2.length H2 ∧ SR g m2 H2 S2 ∧ PRx g m2 S2 H2 (fun c d H' => W c d σ H') (KD g Q) (lcI t tst elt (wipeE ρ t.vs) S1.length (ds.drop (i + 1)) S2))
          hK s2 erw rx hl z fun m6 H6 e6 s6 => ⟨m6, S5, (e6.ag _ hl).trans ed, Nat.lt_of_lt_of_le hl e6.le, (e'.trans e2).trans e6, s6, PRx.ev e6 q2⟩
        rw [ed] at tk
        exact tk
    · have e0 : i = ds.length := by omega
      subst e0
      rw [List.drop_length] at q'
      exact .inl ⟨st (Nat.le_refl _), fin ed hl s' q'⟩
  | view nx k =>
    have ok : VwOk g J m1 S1.length H1 nx := ok
    have q : PRx g m1 S1 H1 (fun c d H' => W c d σ H') (KD g Q) (lcV t tst elt (wipeE ρ t.vs) S1.length nx k 0 (S1 ++ [.lst []])) := q
    have q0 := PRx.ev (S' := S1 ++ [Ob.lst []]) (by rw [lA]; exact eA) q
    refine ⟨fun i μ H' => ∃ m' S', m' S1.length = D ∧ S1.length < S'.length ∧ Ev g m1 S1.length H1 m' S'.length H' ∧ SR g m' H' S' ∧ PRx g m' S' H' (fun c d H' => W c d σ H') (KD g Q) (lcV t tst elt (wipeE ρ t.vs) S1.length nx μ i S'),
      ⟨_, _, _, ext_new, by rw [lA]; exact Nat.lt_succ_self _, by rw [lA]; exact eA, sA, q0⟩, ?_⟩
    rintro i μ H' ⟨m', S', ed, hl, e', s', q'⟩
    obtain ⟨st, gos⟩ := ok i m' H' S' e' s'
    cases μ with
    | zero =>
      unfold lcV at q'
      cases z : nx i S' with
      | none => rw [z] at q'; exact q'.elim
      | some o =>
        rw [z] at q'
        cases o with
        | none => exact .inl ⟨st z, fin ed hl s' q'⟩
        | some _ => exact q'.elim
    | succ μ =>
      unfold lcV at q'
      cases z : nx i S' with
      | none => rw [z] at q'; exact q'.elim
      | some o =>
        rw [z] at q'
        cases o with
        | none => exact .inl ⟨st z, fin ed hl s' q'⟩
        | some d =>
          dsimp only at q'
          obtain ⟨go, yl⟩ := gos d z
          refine .inr ⟨go, fun H2 => ∃ m2 S2, m2 S1.length = D ∧ S1.length < S2.length ∧ Ev g m1 S1.length H1 m2 S2.length H2 ∧ SR g m2 H2 S2 ∧ PRx g m2 S2 H2 (fun c d H' => W c d σ H') (KD g Q) (lcV t tst elt (wipeE ρ t.vs) S1.length nx μ (i + 1) S2),
            fun H2 a => ⟨μ, Nat.lt_succ_self _, a⟩, fun x H'' y => ?_⟩
          obtain ⟨e2, s2, rx⟩ := yl x H'' y
          have q2 := PRx.ev e2 q'
          have erw := (er1.ev (e'.trans e2)).wipe t.vs
          cases z2 : lcTurn t tst elt (wipeE ρ t.vs) S1.length d S' with
          | none => rw [z2] at q2; exact q2.elim
          | some S5 =>
            rw [z2] at q2
            dsimp only at q2
            have tk := lcTurn_ok (Nx := fun H2 => ∃ m2 S2, m2 S1.length = D ∧ S1.length < S2.length ∧ Ev g m1 S1.length H1 m2 S2.length H2 ∧ SR g m2 H2 S2 ∧ PRx g m2 S2 H2 (fun c d H' => W c d σ H') (KD g Q) (lcV t tst elt (wipeE ρ t.vs) S1.length nx μ (i + 1) S2))
              hK s2 erw rx hl z2 fun m6 H6 e6 s6 => ⟨m6, S5, (e6.ag _ hl).trans ed, Nat.lt_of_lt_of_le hl e6.le, (e'.trans e2).trans e6, s6, PRx.ev e6 q2⟩
            rw [ed] at tk
            exact tk
theorem de_lc {elt tg iter : Expr} {ifs : List Expr} {scope : Scope} {own : List (Str × Nat)} {it : En → Mo Wk} {t : CT} {tst : En → Mo Bool} {fe : DE} (hc : X.calm = true) (hK : X.K = g.K) (hN : X.N.Nodup) (hi : PI X tg iter (tIt g W it)) (ok : BlkOk X.N X.env.scope scope own) (hv : own.map (·.2) = t.vs)
    (hg : ∀ (s : Shared) (H : Hp) (C : Addr) (cl : List (Str × Addr)) (fp : List Addr), PG (X.blk s H scope (compEnvC scope cl C X.env) fp) tg (t.tg X.K)) (ht : ∀ (s : Shared) (H : Hp) (C : Addr) (cl : List (Str × Addr)) (fp : List Addr), PTs (X.blk s H scope (compEnvC scope cl C X.env) fp) ifs (tDb g (fun _ _ _ _ => False) tst))
    (he : ∀ (s : Shared) (H : Hp) (C : Addr) (cl : List (Str × Addr)) (fp : List Addr), PE (X.blk s H scope (compEnvC scope cl C X.env) fp) elt (tD g (fun _ _ _ _ => False) fe)) (hs : ∀ x, foldedSetIterable iter X.env x = pure x := by intro _; rfl) :
    PE X (.ListComp elt [⟨tg, iter, ifs, 0⟩] scope pos) (tD g W (cLc it t tst fe)) := by
  have h := pe_lc (pos := pos) hc hN hi ok hg ht he hs
  rw [hv] at h
  exact PE.imp h (lc_sub hK)
/-- no test -/
def cTrue : En → Mo Bool := fun _ S => .ok true S
theorem dts_nil : PTs X [] (tDb g W cTrue) := by
  have h := pts_nil (X := X)
  exact ⟨fun pins s σ H Q I ⟨m, S, ρ, sr, er, q⟩ => h.run pins s σ H Q I (q m H Ev.refl sr)⟩
end
end Sm
end
section
/-! Sm, part E: fields, own classes, calls of defs, the entry of a def. -/
namespace Sm
open PySem PySem.Spec PyProof.Rows L2

/-! ### fields -/
@[irreducible] def few (n : Nat) : Bool := decide (n < 1000)
theorem few_iff {n : Nat} : few n = true ↔ n < 1000 := by
  unfold few
  exact decide_eq_true_iff
/-- which class has which fields -/
abbrev FTab := Nat → Str → Bool
structure TabOk (g : Gx) (T : FTab) : Prop where
  ok : ∀ c f, T c f = true → Cls g.K (g.ct c) ∧ NoAttr g.K (g.ct c) f
def putFD (f : Str) (v : D) : List (Str × D) → List (Str × D)
  | [] => [(f, v)]
  | (h, x) :: r => if h = f then (h, v) :: r else (h, x) :: putFD f v r
def fldO (T : FTab) (f : Str) : Option Ob → Option D
  | some (.ins c fs) => if T c f = true then fs.lookup f else none
  | _ => none
def fldG (T : FTab) (f : Str) : D → Sto → Option D
  | .loc l, S => fldO T f S[l]?
  | _, _ => none
def setO (T : FTab) (f : Str) (v : D) (l : Nat) (S : Sto) : Option Ob → Option Sto
  | some (.ins c fs) => if (T c f && few fs.length) = true then some (S.set l (.ins c (putFD f v fs))) else none
  | _ => none
def setG (T : FTab) (f : Str) (v : D) : D → Sto → Option Sto
  | .loc l, S => setO T f v l S S[l]?
  | _, _ => none
def optD {α : Type} (o : Option α) : Mo α := fun S => match o with
  | some a => .ok a S
  | none => .no
def fldD (T : FTab) (f : Str) (d : D) : Mo D := fun S => optD (fldG T f d S) S
section
variable {X : Cx} {g : Gx} {W : WX} {T : FTab} {e o a b c : Expr} {es rest : List Expr} {f fa fb fo : DE} {fs : En → Mo (List D)} {ft : En → Mo Bool} {s t u : DS} {pos apos : Pos} {x nm : Str}
def cFld (T : FTab) (nm : Str) (fo : DE) : DE := fun ρ => fo ρ >>= fldD T nm
def cSetF (T : FTab) (nm : Str) (fo fv : DE) : DS := fun ρ S => (fv ρ S).toF ρ fun v S1 => (fo ρ S1).toF ρ fun o S2 => match setG T nm v o S2 with
  | some S3 => .nx ρ S3
  | none => .no
def clsD : D → Sto → Option Nat
  | .loc l, S => match S[l]? with
    | some (.ins c _) => some c
    | _ => none
  | _, _ => none
def cAugF (T : FTab) (nm : Str) (h : D → D → Mo D) (fo fv : DE) : DS := fun ρ S => (fo ρ S).toF ρ fun o S1 => match fldG T nm o S1 with
  | some x => (fv ρ S1).toF ρ fun y S3 => (h x y S3).toF ρ fun z S4 => if clsD o S1 = clsD o S4 then match setG T nm z o S4 with
    | some S5 => .nx ρ S5
    | none => .no else .no
  | none => .no
/-! ### calls of defs -/
/-- what a def of np parameters promises: it does what F does -/
def spF (g : Gx) (np : Nat) (F : List D → Mo D) : Sp := fun vs H Q E => vs.length = np ∧ ∃ m S ds, SR g m H S ∧ VRs g m S.length H vs ds ∧ PRx g m S H E (KD g Q) (F ds S)
/-- a call with np arguments -/
def apF (np : Nat) (F : List D → Mo D) : List D → Mo D := fun ds => if ds.length = np then F ds else bad
theorem apF_ok {np : Nat} {F : List D → Mo D} {m : Nat → Addr} {S : Sto} {H : Hp} {Q : VK} {E : XK} {vs : List V} {ds : List D} (sr : SR g m H S) (r : VRs g m S.length H vs ds) (h : PRx g m S H E (KD g Q) (apF np F ds S)) : spF g np F vs H Q E := by
  unfold apF at h
  by_cases q : ds.length = np
  · rw [if_pos q] at h
    exact ⟨by rw [r.length]; exact q, m, S, ds, sr, r, h⟩
  · rw [if_neg q] at h; exact h.elim
variable {fd : FuncData} {fn : Addr} {k np : Nat} {ps : List Str} {F : List D → Mo D} {p : Pos}
theorem de_fn (G : FnOk X.prog X.w X.K X.mg X.base (L2.CX X.prog X.w) k fn fd ps (spF g np F)) (hr : Room k X.A) (hm : X.mg x = some (.ref fn)) (hk : PySem.W.keepIn X.K (.ref fn) = true) (hb : Binds X.K fd ps []) (tk : Takes X W) (ha : PA X (e :: es) (tDs g W fs))
    (hg : Gl X x := by rfl) (hdb : (x == ("__debug__" : Str)) = false := by decide) (he : starEach (e :: es) X.env = (false, eval e X.env) :: starEach es X.env := by rfl) (hpl : (backTo pos (starEach es X.env)).any (·.1) = false := by rfl) :
    PE X (.Call (.Name x p) (e :: es) [] pos) (tD g W (cCall (apF np F) fs)) :=
  PE.imp (pe_callS G hr hg hm hk hb (fun σ => passAt tk σ) ha hdb he hpl) fun σ H Q ⟨m, S, ρ, sr, er, h⟩ => tDs.sub sr er h fun ds m1 S1 H1 vs s1 _ _ r1 h1 => apF_ok s1 r1 h1
/-! ### methods of own classes -/
/-- the receiver is an instance of class c without a field of that name -/
def insG (c : Nat) (nm : Str) : D → Sto → Bool
  | .loc l, S => match S[l]? with
    | some (.ins c' fs) => decide (c' = c) && (fs.lookup nm).isNone
    | _ => false
  | _, _ => false
def chkI (c : Nat) (nm : Str) (d : D) : Mo Unit := fun S => if insG c nm d S = true then .ok () S else .no
def cMeth (c : Nat) (nm : Str) (np : Nat) (F : List D → Mo D) (fo : DE) (fs : En → Mo (List D)) : DE := fun ρ => do
  let x ← fo ρ; chkI c nm x; let xs ← fs ρ; apF np F (x :: xs)
/-! ### own classes made -/
def newI (c np : Nat) (F : List D → Mo D) : List D → Mo D := fun ds S => (apF np F (.loc S.length :: ds) (S ++ [.ins c []])).andThen fun r S' => match r with
  | .non => .ok (.loc S.length) S'
  | _ => .no
/-! ### the entry of a def -/
def startE (n : Nat) (ds : List D) : En := ds.map some ++ List.replicate (n - ds.length) none
def Fz.toR : Fz → Rz D
  | .nx _ S => .ok .non S
  | .ret d S => .ok d S
  | .ex e _ S => .ex e S
  | _ => .no
def cDef (n : Nat) (s : DS) : List D → Mo D := fun ds S => (s (startE n ds) S).toR
theorem start_er {m : Nat → Addr} {n : Nat} {H : Hp} {N : List Str} {vs : List V} {ds : List D} (r : VRs g m n H vs ds) : ER g m n H (L2.start N vs) (startE N.length ds) := by
  have hl := r.length
  refine ⟨by simp [L2.start, startE, hl], fun i d q => ?_⟩
  unfold startE at q
  by_cases hi : i < ds.length
  · rw [List.getElem?_append_left (by simpa using hi), List.getElem?_map] at q
    cases z : ds[i]? with
    | none => rw [z] at q; cases q
    | some d' =>
      rw [z] at q
      cases q
      obtain ⟨v, hv, rv⟩ := r.get z
      refine ⟨v, ?_, rv⟩
      unfold L2.start
      rw [List.getElem?_append_left (by rw [List.length_map, hl]; exact hi), List.getElem?_map, hv]
      rfl
  · rw [List.getElem?_append_right (by simpa using hi), List.getElem?_replicate] at q
    split at q <;> cases q
theorem fn_sm {P : Program} {w : World} {K : PySem.W.Frag} {mg : Str → Option Value} {base : Heap} {nm qual : Str} {st : Stmt} {fn : Addr} {fd : FuncData} {N ps : List Str} {k : Nat} {s : DS} (F : L2.Fun K nm qual st fn fd) (S : FnScope N ps (defScope st))
    (hbody : ∀ (cdv : Value) (A : Around) (outer : List Env) (s0 : Shared) (H : Hp) (E : XK), Room k (A.deeper (envOfC qual (defScope st) s0.heap.objs.size fn cdv)) →
      PSs (cxOf (L2.CX P w) P w K mg base N qual (defScope st) fn cdv A outer s0 H E) (defBody st) (tS g (fun cls d _ H => E cls d H) s)) :
    FnOk P w K mg base (L2.CX P w) (k + 1) fn fd ps (spF g ps.length (cDef N.length s)) := by
  refine F.okX S (fun vs H Q E h => h.1) fun cdv A outer s0 H vs Q E hr h => ⟨_, hbody cdv A outer s0 H E hr, ?_⟩
  obtain ⟨_, m, S0, ds, sr, r, q⟩ := h
  refine ⟨m, S0, startE N.length ds, sr, start_er r, ?_⟩
  unfold cDef at q
  cases z : s (startE N.length ds) S0 with
  | nx ρ1 S1 => rw [z] at q; exact fun _ m1 H1 e1 s1 _ => q m1 H1 e1 s1 .non .non
  | ret d S1 => rw [z] at q; exact fun v m1 H1 e1 s1 r1 => q m1 H1 e1 s1 v r1
  | ex e ρ1 S1 => rw [z] at q; exact fun c d _ m1 H1 e1 s1 _ x1 => q c d m1 H1 e1 s1 x1
  | brk ρ1 S1 => rw [z] at q; exact q.elim
  | cnt ρ1 S1 => rw [z] at q; exact q.elim
  | no => rw [z] at q; exact q.elim
end
end Sm
end
section
/-! Sm, part F: what the operations do with data. -/
namespace Sm
open PySem PySem.Spec PyProof.Rows L2

section
variable {X : Cx} {g : Gx}
theorem OpR.imp {f : Value → Value → Sem Value} {r r' : R2} (h : OpR X f r) (i : ∀ x y H Q, r' x y H Q → r x y H Q) : OpR X f r' := fun pins s σ H x y v u Q I rx ry q => h pins s σ H x y v u Q I rx ry (i _ _ _ _ q)

/-! ### + -/
def joinL (xs ys : List D) (S : Sto) : Rz D := if fit (xs.length + ys.length) = true then .ok (.loc S.length) (S ++ [.lst (xs ++ ys)]) else .no
def addO (S : Sto) : Option Ob → Option Ob → Rz D
  | some (.lst xs), some (.lst ys) => joinL xs ys S
  | _, _ => .no
def addD : D → D → Mo D
  | .int i, .int j => pure (.int (i + j))
  | .str x, .str y => fun S => if fit (x.length + y.length) = true then .ok (.str (x ++ y)) S else .no
  | .tup xs, .tup ys => fun S => if fit (xs.length + ys.length) = true then .ok (.tup (xs ++ ys)) S else .no
  | .loc l, .loc l' => fun S => addO S S[l]? S[l']?
  | _, _ => bad
def rAddA (K : PySem.W.Frag) : R2 := fun x y H Q => (∃ i j, x = .int i ∧ y = .int j ∧ Q (.int (i + j)) H) ∨ (∃ i j, x = .str i ∧ y = .str j ∧ i.length + j.length ≤ sizeLine ∧ Q (.str (i ++ j)) H) ∨ rCatA K x y H Q ∨ rCat x y H Q
theorem op_addA : OpR X (binaryOp .Add) (rAddA X.K) := op_add.or (op_add_str.or (op_catA.or op_cat))
theorem add_ok : S2 g (rAddA g.K) addD := fun m S H x y d e Q W sr rx ry h => by
  cases rx with
  | int i => cases ry with
    | int j => exact .inl ⟨i, j, rfl, rfl, h.here sr _ (.int _)⟩
    | _ => exact h.elim
  | str a => cases ry with
    | str b =>
      have h2 : PRx g m S H W (KD g Q) (if fit (a.length + b.length) = true then (Rz.ok (D.str (a ++ b)) S : Rz D) else .no) := h
      by_cases q : fit (a.length + b.length) = true
      · rw [if_pos q] at h2
        exact .inr (.inl ⟨a, b, rfl, rfl, fit_iff.mp q, h2.here sr _ (.str _)⟩)
      · rw [if_neg q] at h2; exact h2.elim
    | _ => exact h.elim
  | tup a xs ds hq rs => cases ry with
    | tup b ys es hq' rs' =>
      have h2 : PRx g m S H W (KD g Q) (if fit (ds.length + es.length) = true then (Rz.ok (D.tup (ds ++ es)) S : Rz D) else .no) := h
      by_cases q : fit (ds.length + es.length) = true
      · rw [if_pos q] at h2
        refine .inr (.inr (.inl ⟨a, b, xs, ys, rfl, rfl, hq, hq', by rw [rs.length, rs'.length]; exact fit_iff.mp q, fun e => ?_, fun _ e => ?_, fun _ _ => tup_new sr (rs.append rs') h2⟩))
        · subst e
          cases rs
          exact h2.here sr _ (.tup b ys es hq' rs')
        · subst e
          cases rs'
          rw [List.append_nil] at h2
          exact h2.here sr _ (.tup a xs ds hq rs)
      · rw [if_neg q] at h2; exact h2.elim
    | _ => exact h.elim
  | loc l hl => cases ry with
    | loc l' hl' =>
      have h2 : PRx g m S H W (KD g Q) (addO S S[l]? S[l']?) := h
      cases q : S[l]? with
      | none => rw [q] at h2; exact h2.elim
      | some ob =>
        rw [q] at h2
        cases ob with
        | lst ds =>
          cases q' : S[l']? with
          | none => rw [q'] at h2; exact h2.elim
          | some ob' =>
            rw [q'] at h2
            cases ob' with
            | lst es =>
              obtain ⟨_, xs, hx, rs⟩ := sr.atL q
              obtain ⟨_, ys, hy, rs'⟩ := sr.atL q'
              have h3 : PRx g m S H W (KD g Q) (if fit (ds.length + es.length) = true then (Rz.ok (D.loc S.length) (S ++ [.lst (ds ++ es)]) : Rz D) else .no) := h2
              by_cases qf : fit (ds.length + es.length) = true
              · rw [if_pos qf] at h3
                exact .inr (.inr (.inr ⟨m l, m l', xs, ys, rfl, rfl, hx, hy, by rw [rs.length, rs'.length]; exact fit_iff.mp qf, lst_new sr (rs.append rs') h3⟩))
              · rw [if_neg qf] at h3; exact h3.elim
            | _ => exact h2.elim
        | _ => exact h2.elim
    | _ => exact h.elim
  | _ => exact h.elim
theorem de_add {a b : Expr} {fa fb : DE} {W : WX} {pos : Pos} (hK : X.K = g.K) (ha : PE X a (tD g W fa)) (hb : PE X b (tD g W fb)) : PE X (.BinOp a .Add b pos) (tD g W (cOp addD fa fb)) := de_op op_addA (by rw [hK]; exact add_ok) ha hb

/-! ### other arithmetic -/
def intOp (C : Int → Int → Bool) (f : Int → Int → D) : D → D → Mo D
  | .int i, .int j => fun S => if C i j = true then .ok (f i j) S else .no
  | _, _ => bad
theorem intOp_ok {C : Int → Int → Bool} {P : Int → Int → Prop} {f : Int → Int → D} {fv : Int → Int → V} (hC : ∀ i j, C i j = true → P i j) (hf : ∀ i j m n H, VR g m n H (fv i j) (f i j)) : S2 g (rI P fv) (intOp C f) := fun m S H x y d e Q W sr rx ry h => by
  cases rx with
  | int i => cases ry with
    | int j =>
      have h2 : PRx g m S H W (KD g Q) (if C i j = true then (Rz.ok (f i j) S : Rz D) else .no) := h
      by_cases q : C i j = true
      · rw [if_pos q] at h2
        exact ⟨i, j, rfl, rfl, hC i j q, h2.here sr _ (hf i j _ _ _)⟩
      · rw [if_neg q] at h2; exact h2.elim
    | _ => exact h.elim
  | _ => exact h.elim
def intOp0 (f : Int → Int → D) : D → D → Mo D
  | .int i, .int j => pure (f i j)
  | _, _ => bad
theorem intOp0_ok {f : Int → Int → D} {fv : Int → Int → V} (hf : ∀ i j m n H, VR g m n H (fv i j) (f i j)) : S2 g (rI0 fv) (intOp0 f) := fun m S H x y d e Q W sr rx ry h => by
  cases rx with
  | int i => cases ry with
    | int j => exact ⟨i, j, rfl, rfl, h.here sr _ (hf i j _ _ _)⟩
    | _ => exact h.elim
  | _ => exact h.elim
abbrev subD : D → D → Mo D := intOp0 fun i j => .int (i - j)
instance decCMul (i j : Int) : Decidable (CMul i j) := inferInstanceAs (Decidable ((-(2 ^ 64) < i ∧ i < 2 ^ 64) ∨ (-(2 ^ 64) < j ∧ j < 2 ^ 64)))
instance decCMulW (i j : Int) : Decidable (CMulW i j) := inferInstanceAs (Decidable (i.natAbs.log2 + j.natAbs.log2 < 1000000))
/-- a product that the model can hold -/
@[irreducible] def okMul (i j : Int) : Bool := decide (CMul i j) || decide (CMulW i j)
@[irreducible] def okDiv (_ j : Int) : Bool := decide (j ≠ 0) && decide (j.natAbs.log2 < 9000)
@[irreducible] def okMod (_ j : Int) : Bool := decide (0 < j)
@[irreducible] def okPow (i j : Int) : Bool := decide (0 ≤ j) && (decide (j ≤ 1000000) && decide (i.natAbs < 2 ^ 64))
@[irreducible] def okShr (_ j : Int) : Bool := decide (0 ≤ j)
theorem okMul_iff {i j : Int} : okMul i j = true ↔ (CMul i j ∨ CMulW i j) := by unfold okMul; simp
theorem okDiv_iff {i j : Int} : okDiv i j = true ↔ (j ≠ 0 ∧ j.natAbs.log2 < 9000) := by unfold okDiv; simp
theorem okMod_iff {i j : Int} : okMod i j = true ↔ 0 < j := by unfold okMod; simp
theorem okPow_iff {i j : Int} : okPow i j = true ↔ (0 ≤ j ∧ j ≤ 1000000 ∧ i.natAbs < 2 ^ 64) := by unfold okPow; simp only [Bool.and_eq_true, decide_eq_true_eq]
theorem okShr_iff {i j : Int} : okShr i j = true ↔ 0 ≤ j := by unfold okShr; simp
abbrev mulD : D → D → Mo D := intOp okMul fun i j => .int (i * j)
abbrev fdivD : D → D → Mo D := intOp okDiv fun i j => .int (i.fdiv j)
abbrev modD : D → D → Mo D := intOp okMod fun i j => .int (i % j)
abbrev powD : D → D → Mo D := intOp okPow fun i j => .int (i ^ j.toNat)
abbrev shrD : D → D → Mo D := intOp okShr fun i j => .int (i / 2 ^ j.toNat)
abbrev andD : D → D → Mo D := intOp0 fun i j => .int (Builtin.bitAnd i j)
theorem op_fdivA : OpR X (binaryOp .FloorDiv) (rI (fun _ j => j ≠ 0 ∧ j.natAbs.log2 < 9000) fun i j => .int (i.fdiv j)) := opI fun _ _ _ _ _ _ _ hc q => floordiv_int hc.1 q (.inl (PyProof.noPylong_of_log2 hc.2))
theorem op_mulA : OpR X (binaryOp .Mult) (rI (fun i j => CMul i j ∨ CMulW i j) fun i j => .int (i * j)) := opI fun _ _ _ _ _ _ _ hc q => mul_int q (hc.elim CMul.ok CMulW.ok)
variable {a b : Expr} {fa fb : DE} {W : WX} {pos : Pos}
theorem de_sub (ha : PE X a (tD g W fa)) (hb : PE X b (tD g W fb)) : PE X (.BinOp a .Sub b pos) (tD g W (cOp subD fa fb)) := de_op op_sub (intOp0_ok fun _ _ _ _ _ => .int _) ha hb
theorem de_mul (ha : PE X a (tD g W fa)) (hb : PE X b (tD g W fb)) : PE X (.BinOp a .Mult b pos) (tD g W (cOp mulD fa fb)) := de_op op_mulA (intOp_ok (fun _ _ => okMul_iff.mp) fun _ _ _ _ _ => .int _) ha hb
theorem de_fdiv (ha : PE X a (tD g W fa)) (hb : PE X b (tD g W fb)) : PE X (.BinOp a .FloorDiv b pos) (tD g W (cOp fdivD fa fb)) := de_op op_fdivA (intOp_ok (fun _ _ => okDiv_iff.mp) fun _ _ _ _ _ => .int _) ha hb
theorem de_mod (ha : PE X a (tD g W fa)) (hb : PE X b (tD g W fb)) : PE X (.BinOp a .Mod b pos) (tD g W (cOp modD fa fb)) := de_op op_mod (intOp_ok (fun _ _ => okMod_iff.mp) fun _ _ _ _ _ => .int _) ha hb
theorem de_pow (ha : PE X a (tD g W fa)) (hb : PE X b (tD g W fb)) : PE X (.BinOp a .Pow b pos) (tD g W (cOp powD fa fb)) := de_op op_pow (intOp_ok (fun _ _ => okPow_iff.mp) fun _ _ _ _ _ => .int _) ha hb
def negD : D → Mo D
  | .int i => pure (.int (-i))
  | _ => bad
/-! ### comparisons -/
abbrev ltI : D → D → Mo D := intOp0 fun i j => .bl (decide (i < j))
abbrev leI : D → D → Mo D := intOp0 fun i j => .bl (decide (i ≤ j))
abbrev gtI : D → D → Mo D := intOp0 fun i j => .bl (decide (j < i))
abbrev geI : D → D → Mo D := intOp0 fun i j => .bl (decide (j ≤ i))
def isNone : D → D → Mo D
  | .non, .non => pure (.bl true)
  | .bl _, .non => pure (.bl false)
  | .int _, .non => pure (.bl false)
  | .str _, .non => pure (.bl false)
  | .tup _, .non => pure (.bl false)
  | .lsc _, .non => pure (.bl false)
  | .loc _, .non => pure (.bl false)
  | .cls _, .non => pure (.bl false)
  | .fnc _, .non => pure (.bl false)
  | .ty _, .non => pure (.bl false)
  | .exn _ _ _, .non => pure (.bl false)
  | _, _ => bad
def notB : D → Mo D
  | .bl b => pure (.bl (!b))
  | _ => bad
def notNone (d e : D) : Mo D := isNone d e >>= notB
/-! ### == of data -/
def flatD : D → Bool
  | .non => true
  | .bl _ => true
  | .int _ => true
  | .str _ => true
  | _ => false
def eqF : D → D → Bool
  | .non, .non => true
  | .bl a, .bl b => a == b
  | .bl a, .int b => (if a then 1 else 0) == b
  | .int a, .bl b => a == (if b then 1 else 0)
  | .int a, .int b => a == b
  | .str a, .str b => a == b
  | _, _ => false
theorem flat_rel {m : Nat → Addr} {n : Nat} {H : Hp} {x : V} {d : D} (r : VR g m n H x d) (h : flatD d = true) : flatV x = true := by
  cases r <;> first | rfl | cases h
theorem eqF_rel {m : Nat → Addr} {n : Nat} {H : Hp} {x y : V} {d e : D} (rx : VR g m n H x d) (ry : VR g m n H y e) (hx : flatD d = true) (hy : flatD e = true) : eqV x y = eqF d e := by
  cases rx <;> first | (cases hx; done) | skip
  all_goals (cases ry <;> first | rfl | (cases hy; done))

/-! ### == -/
def lstO : Option Ob → Option (List D)
  | some (.lst xs) => some xs
  | _ => none
/-- the items of a list -/
def lstS (S : Sto) : D → Option (List D)
  | .lsc xs => some xs
  | .loc l => lstO S[l]?
  | _ => none
def scalF (d e : D) : Option Bool := if (flatD d && flatD e) = true then some (eqF d e) else none
def eqAll (f : D → D → Option Bool) : List D → List D → Option Bool
  | x :: xs, y :: ys => match f x y, eqAll f xs ys with
    | some a, some b => some (a && b)
    | _, _ => none
  | _, _ => some true
def sameI : D → D → Option Bool
  | .loc l, .loc l' => if l = l' then some true else none
  | _, _ => none
def eqL (f : D → D → Option Bool) (S : Sto) (d e : D) : Option Bool := match lstS S d, lstS S e with
  | some xs, some ys => if xs.length = ys.length then eqAll f xs ys else some false
  | some _, none => if flatD e = true then some false else none
  | none, some _ => if flatD d = true then some false else none
  | none, none => sameI d e
def eqC (f : D → D → Option Bool) (S : Sto) : D → D → Option Bool
  | .tup xs, .tup ys => (eqAll f xs ys).map fun b => b && decide (xs.length = ys.length)
  | .tup _, e => if (flatD e || (lstS S e).isSome) = true then some false else none
  | d, .tup _ => if (flatD d || (lstS S d).isSome) = true then some false else none
  | d, e => eqL f S d e
def eqN (S : Sto) : Nat → D → D → Option Bool
  | 0, d, e => scalF d e
  | n + 1, d, e => match scalF d e with
    | some b => some b
    | none => eqC (eqN S n) S d e
def okTop (S : Sto) : D → Bool
  | .tup _ => true
  | d => flatD d || (lstS S d).isSome
def eqQ (d e : D) (S : Sto) : Option Bool := if (okTop S d && okTop S e) = true then eqN S 60 d e else none
def eqD (d e : D) : Mo D := fun S => match eqQ d e S with
  | some b => .ok (.bl b) S
  | none => .no
def neD (d e : D) : Mo D := fun S => match eqQ d e S with
  | some b => .ok (.bl (!b)) S
  | none => .no
theorem scalF_some {d e : D} {b : Bool} (h : scalF d e = some b) : flatD d = true ∧ flatD e = true ∧ b = eqF d e := by
  unfold scalF at h
  split at h
  · rename_i q
    rw [Bool.and_eq_true] at q
    cases h
    exact ⟨q.1, q.2, rfl⟩
  · cases h
theorem eqAll_get {f : D → D → Option Bool} : ∀ {xs ys : List D} {b : Bool}, eqAll f xs ys = some b → ∃ e : Nat → Bool, (∀ j x y, xs[j]? = some x → ys[j]? = some y → f x y = some (e j)) ∧ b = (List.range (min xs.length ys.length)).all e
  | [], ys, b, h => by
    have : b = true := by cases ys <;> (cases h; rfl)
    subst this
    exact ⟨fun _ => true, fun j x y h => by simp at h, by simp⟩
  | _ :: _, [], b, h => by
    cases h
    exact ⟨fun _ => true, fun j x y _ h => by simp at h, by simp⟩
  | x :: xs, y :: ys, b, h => by
    unfold eqAll at h
    cases q : f x y with
    | none => simp only [q] at h; cases h
    | some a =>
      cases q2 : eqAll f xs ys with
      | none => simp only [q, q2] at h; cases h
      | some c =>
        simp only [q, q2] at h
        cases h
        obtain ⟨e, h1, h2⟩ := eqAll_get q2
        refine ⟨fun j => match j with | 0 => a | j + 1 => e j, fun j x' y' hx hy => ?_, ?_⟩
        · cases j with
          | zero => simp at hx hy; subst hx; subst hy; exact q
          | succ j => exact h1 j x' y' (by simpa using hx) (by simpa using hy)
        · rw [h2]
          show (a && (List.range (min xs.length ys.length)).all e) = _
          rw [List.length_cons, List.length_cons, Nat.succ_min_succ, List.range_succ_eq_map, List.all_cons, List.all_map]
          rfl
section
variable {pins : List (Addr × Obj)} {σ : L2.St} {m : Nat → Addr} {S : Sto} {H : Hp} {s : Shared}
theorem lstS_ok {d : D} {v : V} {xs : List D} (sr : SR g m H S) (r : VR g m S.length H v d) (h : lstS S d = some xs) : ∃ a vs, v = .ref a ∧ SqL g.K H a vs ∧ VRs g m S.length H vs xs := by
  cases r with
  | lsc a vs ds hq rs => cases h; exact ⟨a, vs, rfl, hq.sq, rs⟩
  | loc l hl =>
    have h2 : lstO S[l]? = some xs := h
    cases q : S[l]? with
    | none => rw [q] at h2; cases h2
    | some o =>
      rw [q] at h2
      cases o with
      | lst ys =>
        cases h2
        obtain ⟨_, vs, hv, rs⟩ := sr.atL q
        exact ⟨m l, vs, rfl, SqL.of hv, rs⟩
      | _ => cases h2
  | _ => cases h
theorem eq_same (I : Inv X pins σ H s) (sr : SR g m H S) (hK : X.K = g.K) : ∀ (n : Nat) {d e : D} {b : Bool} {v v' : V}, eqN S n d e = some b → VR g m S.length H v d → VR g m S.length H v' e → v = v' → b = true := by
  have flat : ∀ {d e : D} {b : Bool} {v v' : V}, scalF d e = some b → VR g m S.length H v d → VR g m S.length H v' e → v = v' → b = true := by
    intro d e b v v' h r r' ev
    obtain ⟨h1, h2, rfl⟩ := scalF_some h
    cases r <;> first | (cases h1; done) | (cases r' <;> first | (cases h2; done) | (cases ev; done) | (cases ev; simp [eqF]))
  have all : ∀ (f : D → D → Option Bool), (∀ {d e : D} {b : Bool} {v v' : V}, f d e = some b → VR g m S.length H v d → VR g m S.length H v' e → v = v' → b = true) → ∀ {vs vs' : List V} {xs ys : List D} {b : Bool}, VRs g m S.length H vs xs → VRs g m S.length H vs' ys → vs = vs' → eqAll f xs ys = some b → b = true := by
    intro f hf vs
    induction vs with
    | nil => intro vs' xs ys b r r' ev h; subst ev; cases r; cases r'; cases h; rfl
    | cons v vs ih =>
      intro vs' xs ys b r r' ev h
      subst ev
      cases r with
      | cons _ d _ ds r1 rs =>
        cases r' with
        | cons _ e _ es r1' rs' =>
          unfold eqAll at h
          cases q : f d e with
          | none => simp only [q] at h; cases h
          | some a =>
            cases q2 : eqAll f ds es with
            | none => simp only [q, q2] at h; cases h
            | some c =>
              simp only [q, q2] at h
              cases h
              rw [hf q r1 r1' rfl, ih rs rs' rfl q2]
              rfl
  intro n
  induction n with
  | zero => intro d e b v v' h r r' ev; exact flat h r r' ev
  | succ n ih =>
    intro d e b v v' h r r' ev
    unfold eqN at h
    cases q : scalF d e with
    | some c => rw [q] at h; cases h; exact flat q r r' ev
    | none =>
      rw [q] at h
      dsimp only at h
      have nf : ∀ {d : D} {a : Addr} {v : V}, v = .ref a → VR g m S.length H v d → flatD d = false := by
        intro d a v ev r
        cases r <;> first | rfl | cases ev
      have lists : ∀ {a : Addr} {d e : D}, v = .ref a → VR g m S.length H v d → VR g m S.length H v' e → eqL (eqN S n) S d e = some b → b = true := by
        intro a d e hv r r' h
        unfold eqL at h
        cases q1 : lstS S d with
        | some xs =>
          cases q2 : lstS S e with
          | some ys =>
            simp only [q1, q2] at h
            obtain ⟨a, vs, e1, s1, r1⟩ := lstS_ok sr r q1
            obtain ⟨a', vs', e2, s2, r2⟩ := lstS_ok sr r' q2
            rw [e1, e2] at ev; cases ev
            have := I.list_inj (hK ▸ s1) (hK ▸ s2)
            subst this
            rw [if_pos (by rw [← r1.length, ← r2.length])] at h
            exact all _ ih r1 r2 rfl h
          | none =>
            simp only [q1, q2, nf (ev ▸ hv) r'] at h
            cases h
        | none =>
          cases q2 : lstS S e with
          | some ys =>
            simp only [q1, q2, nf hv r] at h
            cases h
          | none =>
            simp only [q1, q2] at h
            cases d with
            | loc l =>
              cases e with
              | loc l' =>
                have h' : (if l = l' then some true else none) = some b := h
                split at h'
                · cases h'; rfl
                · cases h'
              | _ => cases h
            | _ => cases e <;> cases h
      have tup : ∀ {a : Addr} {vs : List V} {w : V} {e : D}, SqT g.K H a vs → VR g m S.length H w e → w = .ref a → ∀ {ys : List D}, lstS S e = some ys → False := by
        intro a vs w e ht r ew ys hy
        obtain ⟨a', vs', e1, s1, _⟩ := lstS_ok sr r hy
        rw [e1] at ew; cases ew
        obtain ⟨its, _, p, _⟩ := I.tuple (hK ▸ ht)
        obtain ⟨its', _, p', _⟩ := I.list (hK ▸ s1)
        obtain ⟨o, e1, c1, _⟩ := p
        obtain ⟨o', n', e2, c2, _⟩ := p'
        rw [e1] at e2; cases e2
        rw [c1] at c2
        exact absurd c2 (by simp)
      have tup' : ∀ {a : Addr} {vs : List V} {w : V} {e : D}, SqT g.K H a vs → VR g m S.length H w e → w = .ref a → (if (flatD e || (lstS S e).isSome) = true then some false else none) = some b → b = true := by
        intro a vs w e ht r ew h
        rw [nf ew r] at h
        cases q1 : lstS S e with
        | none => rw [q1] at h; cases h
        | some ys => exact (tup ht r ew q1).elim
      have key : ∀ {d e : D}, (∀ xs, d ≠ .tup xs) → (∀ xs, e ≠ .tup xs) → eqC (eqN S n) S d e = eqL (eqN S n) S d e := by
        intro d e h1 h2
        cases d <;> cases e <;> first | rfl | exact absurd rfl (h1 _) | exact absurd rfl (h2 _)
      cases r with
      | tup a vs xs ht rs =>
        cases r' with
        | tup a' vs' ys ht' rs' =>
          cases ev
          have := I.tuple_inj (hK ▸ ht) (hK ▸ ht')
          subst this
          obtain ⟨c, q1, rfl⟩ := Option.map_eq_some_iff.mp (show (eqAll (eqN S n) xs ys).map (fun b => b && decide (xs.length = ys.length)) = some b from h)
          rw [all _ ih rs rs' rfl q1, ← rs.length, ← rs'.length]
          simp
        | loc l hl => exact tup' ht (.loc l hl) ev.symm h
        | lsc a' vs' ys hq rs' => exact tup' ht (.lsc _ _ _ hq rs') ev.symm h
        | cls c => exact tup' ht (.cls c) ev.symm h
        | fnc c => exact tup' ht (.fnc c) ev.symm h
        | exn0 a0 c z1 => exact tup' ht (.exn0 a0 c z1) ev.symm h
        | exn a0 dx c ks kvs ds z1 z2 z3 rs0 => exact tup' ht (.exn a0 dx c ks kvs ds z1 z2 z3 rs0) ev.symm h
        | _ => cases ev
      | loc l hl =>
        cases r' with
        | tup a' vs' ys ht' rs' => exact tup' ht' (.loc l hl) ev h
        | _ => first | (cases ev; done) | (rw [key (by intro _ z; cases z) (by intro _ z; cases z)] at h; exact lists rfl (.loc l hl) (by first | exact .loc _ (by assumption) | exact .lsc _ _ _ (by assumption) (by assumption) | exact .cls _ | exact .fnc _ | exact .exn0 _ _ (by assumption) | exact .exn _ _ _ _ _ _ (by assumption) (by assumption) (by assumption) (by assumption)) h)
      | lsc a vs xs hq rs =>
        cases r' with
        | tup a' vs' ys ht' rs' => exact tup' ht' (.lsc _ _ _ hq rs) ev h
        | _ => first | (cases ev; done) | (rw [key (by intro _ z; cases z) (by intro _ z; cases z)] at h; exact lists rfl (.lsc _ _ _ hq rs) (by first | exact .loc _ (by assumption) | exact .lsc _ _ _ (by assumption) (by assumption) | exact .cls _ | exact .fnc _ | exact .exn0 _ _ (by assumption) | exact .exn _ _ _ _ _ _ (by assumption) (by assumption) (by assumption) (by assumption)) h)
      | cls c =>
        cases r' with
        | tup a' vs' ys ht' rs' => exact tup' ht' (.cls c) ev h
        | _ => first | (cases ev; done) | (rw [key (by intro _ z; cases z) (by intro _ z; cases z)] at h; exact lists rfl (.cls c) (by first | exact .loc _ (by assumption) | exact .lsc _ _ _ (by assumption) (by assumption) | exact .cls _ | exact .fnc _ | exact .exn0 _ _ (by assumption) | exact .exn _ _ _ _ _ _ (by assumption) (by assumption) (by assumption) (by assumption)) h)
      | fnc c =>
        cases r' with
        | tup a' vs' ys ht' rs' => exact tup' ht' (.fnc c) ev h
        | _ => first | (cases ev; done) | (rw [key (by intro _ z; cases z) (by intro _ z; cases z)] at h; exact lists rfl (.fnc c) (by first | exact .loc _ (by assumption) | exact .lsc _ _ _ (by assumption) (by assumption) | exact .cls _ | exact .fnc _ | exact .exn0 _ _ (by assumption) | exact .exn _ _ _ _ _ _ (by assumption) (by assumption) (by assumption) (by assumption)) h)
      | exn0 a0 c0 z1 =>
        cases r' with
        | tup a' vs' ys ht' rs' => exact tup' ht' (.exn0 a0 c0 z1) ev h
        | _ => first | (cases ev; done) | (rw [key (by intro _ z; cases z) (by intro _ z; cases z)] at h; exact lists rfl (.exn0 a0 c0 z1) (by first | exact .loc _ (by assumption) | exact .lsc _ _ _ (by assumption) (by assumption) | exact .cls _ | exact .fnc _ | exact .exn0 _ _ (by assumption) | exact .exn _ _ _ _ _ _ (by assumption) (by assumption) (by assumption) (by assumption)) h)
      | exn a0 dx c0 ks kvs ds z1 z2 z3 rs0 =>
        cases r' with
        | tup a' vs' ys ht' rs' => exact tup' ht' (.exn a0 dx c0 ks kvs ds z1 z2 z3 rs0) ev h
        | _ => first | (cases ev; done) | (rw [key (by intro _ z; cases z) (by intro _ z; cases z)] at h; exact lists rfl (.exn a0 dx c0 ks kvs ds z1 z2 z3 rs0) (by first | exact .loc _ (by assumption) | exact .lsc _ _ _ (by assumption) (by assumption) | exact .cls _ | exact .fnc _ | exact .exn0 _ _ (by assumption) | exact .exn _ _ _ _ _ _ (by assumption) (by assumption) (by assumption) (by assumption)) h)
      | _ => cases r' <;> first | (cases ev; done) | (cases q; done) | (rw [key (by intro _ z; cases z) (by intro _ z; cases z)] at h; cases h)

theorem flat_ne {d : D} {v : V} {n : Nat} {A : Around} {a : Addr} {its : Array Value} {v' : Value} (r : VR g m n H v d) (h : flatD d = true) (rv : RelV v v') (hu : A.units < cLine) :
    (s.heap.IsTuple a its → SeqAt.EqAt A s (.ref a) v' false ∧ SeqAt.EqAt A s v' (.ref a) false ∧ SeqAt.RcAt A s (.ref a) v' false ∧ SeqAt.RcAt A s v' (.ref a) false ∧ SeqAt.RcNeAt A s (.ref a) v' true ∧ SeqAt.RcNeAt A s v' (.ref a) true) ∧
    (s.heap.IsList a its → SeqAt.EqAt A s (.ref a) v' false ∧ SeqAt.EqAt A s v' (.ref a) false ∧ SeqAt.RcAt A s (.ref a) v' false ∧ SeqAt.RcAt A s v' (.ref a) false ∧ SeqAt.RcNeAt A s (.ref a) v' true ∧ SeqAt.RcNeAt A s v' (.ref a) true) := by
  cases r with
  | non => cases rv; exact ⟨fun p => ⟨.tuple_none p hu, .none_tuple p hu, .tuple_none p hu, .none_tuple p hu, .tuple_none p hu, .none_tuple p hu⟩, fun p => ⟨.list_none p hu, .none_list p hu, .list_none p hu, .none_list p hu, .list_none p hu, .none_list p hu⟩⟩
  | bl b => cases rv; exact ⟨fun p => ⟨.tuple_bool _ p hu, .bool_tuple _ p hu, .tuple_bool _ p hu, .bool_tuple _ p hu, .tuple_bool _ p hu, .bool_tuple _ p hu⟩, fun p => ⟨.list_bool _ p hu, .bool_list _ p hu, .list_bool _ p hu, .bool_list _ p hu, .list_bool _ p hu, .bool_list _ p hu⟩⟩
  | int i => obtain ⟨t, rfl⟩ := rv; exact ⟨fun p => ⟨.tuple_int _ _ p hu, .int_tuple _ _ p hu, .tuple_int _ _ p hu, .int_tuple _ _ p hu, .tuple_int _ _ p hu, .int_tuple _ _ p hu⟩, fun p => ⟨.list_int _ _ p hu, .int_list _ _ p hu, .list_int _ _ p hu, .int_list _ _ p hu, .list_int _ _ p hu, .int_list _ _ p hu⟩⟩
  | str i => obtain ⟨t, rfl⟩ := rv; exact ⟨fun p => ⟨.tuple_str _ _ p hu, .str_tuple _ _ p hu, .tuple_str _ _ p hu, .str_tuple _ _ p hu, .tuple_str _ _ p hu, .str_tuple _ _ p hu⟩, fun p => ⟨.list_str _ _ p hu, .str_list _ _ p hu, .list_str _ _ p hu, .str_list _ _ p hu, .list_str _ _ p hu, .str_list _ _ p hu⟩⟩
  | _ => cases h
/-- what two values' equality is, at the place of an item and at the top -/
structure Three (A : Around) (s : Shared) (v w : Value) (b : Bool) : Prop where
  rc : SeqAt.RcAt A s v w b
  ne : SeqAt.RcNeAt A s v w (!b)
theorem flat_eq {d e : D} {b : Bool} {n : Nat} {v w : V} {v' w' : Value} {A : Around} (h : scalF d e = some b) (r : VR g m n H v d) (r' : VR g m n H w e) (rv : RelV v v') (rw' : RelV w w') : SeqAt.EqAt A s v' w' b ∧ Three A s v' w' b := by
  obtain ⟨h1, h2, rfl⟩ := scalF_some h
  refine ⟨?_, ?_, ?_⟩
  · rw [← eqF_rel r r' h1 h2]
    exact eqAt_V rv rw' (flat_rel r h1) (flat_rel r' h2)
  · cases r <;> first | (cases h1; done) | (cases r' <;> first | (cases h2; done) | skip)
    all_goals (try (obtain ⟨t, rfl⟩ := rv)); (try (obtain ⟨t', rfl⟩ := rw')); (try cases rv); (try cases rw')
    · exact .none_none
    · exact .none_bool _
    · exact .none_int _ _
    · exact .none_str _ _
    · exact .bool_none _
    · exact .bool_bool _ _
    · exact .bool_int _ _ _
    · exact .bool_str _ _ _
    · exact .int_none _ _
    · exact .int_bool _ _ _
    · exact .int_int _ _ _ _
    · exact .int_str _ _ _ _
    · exact .str_none _ _
    · exact .str_bool _ _ _
    · exact .str_int _ _ _ _
    · exact .str_str _ _ _ _
  · cases r <;> first | (cases h1; done) | (cases r' <;> first | (cases h2; done) | skip)
    all_goals (try (obtain ⟨t, rfl⟩ := rv)); (try (obtain ⟨t', rfl⟩ := rw')); (try cases rv); (try cases rw')
    · exact .none_none
    · exact .none_bool _
    · exact .none_int _ _
    · exact .none_str _ _
    · exact .bool_none _
    · exact .bool_bool _ _
    · exact .bool_int _ _ _
    · exact .bool_str _ _ _
    · exact .int_none _ _
    · exact .int_bool _ _ _
    · exact .int_int _ _ _ _
    · exact .int_str _ _ _ _
    · exact .str_none _ _
    · exact .str_bool _ _ _
    · exact .str_int _ _ _ _
    · exact .str_str _ _ _ _

theorem items_at {f : D → D → Option Bool} {A : Around} {xs ys : List D} {vs ws : List V} {its its' : List Value} {b : Bool} (hf : ∀ {d e : D} {b : Bool} {v w : V} {v' w' : Value}, f d e = some b → VR g m S.length H v d → VR g m S.length H w e → RelV v v' → RelV w w' → SeqAt.EqAt A s v' w' b)
    (h : eqAll f xs ys = some b) (r1 : VRs g m S.length H vs xs) (r2 : VRs g m S.length H ws ys) (v1 : Vals vs its) (v2 : Vals ws its') :
    ∃ e : Nat → Bool, (∀ j (h1 : j < its.toArray.size) (h2 : j < its'.toArray.size), SeqAt.EqAt A s its.toArray[j] its'.toArray[j] (e j)) ∧ b = (List.range (min its.toArray.size its'.toArray.size)).all e := by
  obtain ⟨e, h1, h2⟩ := eqAll_get h
  have l1 : its.toArray.size = xs.length := by rw [List.size_toArray, ← v1.length, r1.length]
  have l2 : its'.toArray.size = ys.length := by rw [List.size_toArray, ← v2.length, r2.length]
  refine ⟨e, fun j j1 j2 => ?_, by rw [l1, l2]; exact h2⟩
  have j1' : j < xs.length := l1 ▸ j1
  have j2' : j < ys.length := l2 ▸ j2
  obtain ⟨x, hx, rx⟩ := r1.get (List.getElem?_eq_getElem j1')
  obtain ⟨y, hy, ry⟩ := r2.get (List.getElem?_eq_getElem j2')
  obtain ⟨u, hu, ru⟩ := v1.get hx
  obtain ⟨w, hw, rw'⟩ := v2.get hy
  have e1 : its.toArray[j] = u := by
    have : its[j]? = some u := hu
    rw [List.getElem?_eq_some_iff] at this
    obtain ⟨_, this⟩ := this
    simpa using this
  have e2 : its'.toArray[j] = w := by
    have : its'[j]? = some w := hw
    rw [List.getElem?_eq_some_iff] at this
    obtain ⟨_, this⟩ := this
    simpa using this
  rw [e1, e2]
  exact hf (h1 j _ _ (List.getElem?_eq_getElem j1') (List.getElem?_eq_getElem j2')) rx ry ru rw'
/-- the tops of two lists, two tuples -/
theorem lists_at {f : D → D → Option Bool} {A : Around} {xs ys : List D} {vs ws : List V} {a a' : Addr} {b : Bool} (I : Inv X pins σ H s) (hK : X.K = g.K) (hu : A.units < cLine) (hf : ∀ {d e : D} {b : Bool} {v w : V} {v' w' : Value}, f d e = some b → VR g m S.length H v d → VR g m S.length H w e → RelV v v' → RelV w w' → SeqAt.EqAt A.in1 s v' w' b)
    (h : (if xs.length = ys.length then eqAll f xs ys else some false) = some b) (s1 : SqL g.K H a vs) (s2 : SqL g.K H a' ws) (r1 : VRs g m S.length H vs xs) (r2 : VRs g m S.length H ws ys) : Three A s (.ref a) (.ref a') b := by
  obtain ⟨its, v1, p1, _⟩ := I.list (hK ▸ s1)
  obtain ⟨its', v2, p2, _⟩ := I.list (hK ▸ s2)
  have l1 : its.toArray.size = xs.length := by rw [List.size_toArray, ← v1.length, r1.length]
  have l2 : its'.toArray.size = ys.length := by rw [List.size_toArray, ← v2.length, r2.length]
  by_cases hl : xs.length = ys.length
  · rw [if_pos hl] at h
    obtain ⟨e, h1, h2⟩ := items_at hf h r1 r2 v1 v2
    have hm : min its.toArray.size its'.toArray.size = its.toArray.size := by rw [l1, l2, hl]; exact Nat.min_self _
    rw [hm] at h2
    rw [h2]
    exact ⟨.lists p1.isList p2.isList (by rw [l1, l2, hl]) hu h1, .lists p1.isList p2.isList (by rw [l1, l2, hl]) hu h1⟩
  · rw [if_neg hl] at h
    cases h
    have hne : (its.toArray.size != its'.toArray.size) = true := by rw [l1, l2]; simpa using hl
    exact ⟨.lists_lengths p1.isList p2.isList hne hu, .lists_lengths p1.isList p2.isList hne hu⟩
theorem tups_at {f : D → D → Option Bool} {A : Around} {xs ys : List D} {vs ws : List V} {a a' : Addr} {b : Bool} (I : Inv X pins σ H s) (hK : X.K = g.K) (hu : A.units < cLine) (hf : ∀ {d e : D} {b : Bool} {v w : V} {v' w' : Value}, f d e = some b → VR g m S.length H v d → VR g m S.length H w e → RelV v v' → RelV w w' → SeqAt.EqAt A.in1 s v' w' b)
    (h : (eqAll f xs ys).map (fun b => b && decide (xs.length = ys.length)) = some b) (s1 : SqT g.K H a vs) (s2 : SqT g.K H a' ws) (r1 : VRs g m S.length H vs xs) (r2 : VRs g m S.length H ws ys) : Three A s (.ref a) (.ref a') b := by
  obtain ⟨its, v1, p1, _⟩ := I.tuple (hK ▸ s1)
  obtain ⟨its', v2, p2, _⟩ := I.tuple (hK ▸ s2)
  have l1 : its.toArray.size = xs.length := by rw [List.size_toArray, ← v1.length, r1.length]
  have l2 : its'.toArray.size = ys.length := by rw [List.size_toArray, ← v2.length, r2.length]
  obtain ⟨c, hc, rfl⟩ := Option.map_eq_some_iff.mp h
  obtain ⟨e, h1, h2⟩ := items_at hf hc r1 r2 v1 v2
  have eb : (c && decide (xs.length = ys.length)) = ((List.range (min its.toArray.size its'.toArray.size)).all e && its.toArray.size == its'.toArray.size) := by
    rw [h2, l1, l2]
    rfl
  rw [eb]
  exact ⟨.tuples (show s.heap.IsTuple a its.toArray from p1) (show s.heap.IsTuple a' its'.toArray from p2) hu h1, .tuples (show s.heap.IsTuple a its.toArray from p1) (show s.heap.IsTuple a' its'.toArray from p2) hu h1⟩
/-- one level: what is asked of the items, and got -/
theorem eqC_at {n : Nat} {A : Around} {d e : D} {b : Bool} {v w : V} {v' w' : Value} (I : Inv X pins σ H s) (sr : SR g m H S) (hK : X.K = g.K) (hu : A.units < cLine)
    (hf : ∀ {d e : D} {b : Bool} {v w : V} {v' w' : Value}, eqN S n d e = some b → VR g m S.length H v d → VR g m S.length H w e → RelV v v' → RelV w w' → SeqAt.EqAt A.in1 s v' w' b)
    (h : eqC (eqN S n) S d e = some b) (r : VR g m S.length H v d) (r' : VR g m S.length H w e) (rv : RelV v v') (rw' : RelV w w') : (Three A s v' w' b ∧ (v' ≠ w' → SeqAt.EqAt A s v' w' b)) ∨ (b = true ∧ v' = w' ∧ ∃ l, d = .loc l ∧ lstS S d = none) := by
  have three : ∀ {a a' : Addr} {b : Bool}, Three A s (.ref a) (.ref a') b → Three A s (.ref a) (.ref a') b ∧ (Value.ref a ≠ Value.ref a' → SeqAt.EqAt A s (.ref a) (.ref a') b) := fun t => ⟨t, fun ne => .of_refs (fun z => ne (by rw [z])) t.rc⟩
  have lists : eqL (eqN S n) S d e = some b → (Three A s v' w' b ∧ (v' ≠ w' → SeqAt.EqAt A s v' w' b)) ∨ (b = true ∧ v' = w' ∧ ∃ l, d = .loc l ∧ lstS S d = none) := by
    intro h
    unfold eqL at h
    cases q1 : lstS S d with
    | some xs =>
      obtain ⟨a, vs, e1, s1, r1⟩ := lstS_ok sr r q1
      subst e1
      obtain rfl : v' = Value.ref a := rv
      obtain ⟨its, v1, p1, _⟩ := I.list (hK ▸ s1)
      cases q2 : lstS S e with
      | some ys =>
        obtain ⟨a', ws, e2, s2, r2⟩ := lstS_ok sr r' q2
        subst e2
        obtain rfl : w' = Value.ref a' := rw'
        simp only [q1, q2] at h
        exact .inl (three (lists_at I hK hu hf h s1 s2 r1 r2))
      | none =>
        simp only [q1, q2] at h
        by_cases q3 : flatD e = true
        · rw [if_pos q3] at h
          cases h
          obtain ⟨k1, k2, k3, k4, k5, k6⟩ := (flat_ne (s := s) (A := A) r' q3 rw' hu).2 p1.isList
          exact .inl ⟨⟨k3, k5⟩, fun _ => k1⟩
        · rw [if_neg q3] at h; cases h
    | none =>
      cases q2 : lstS S e with
      | some ys =>
        obtain ⟨a', ws, e2, s2, r2⟩ := lstS_ok sr r' q2
        subst e2
        obtain rfl : w' = Value.ref a' := rw'
        obtain ⟨its, v1, p1, _⟩ := I.list (hK ▸ s2)
        simp only [q1, q2] at h
        by_cases q3 : flatD d = true
        · rw [if_pos q3] at h
          cases h
          obtain ⟨k1, k2, k3, k4, k5, k6⟩ := (flat_ne (s := s) (A := A) r q3 rv hu).2 p1.isList
          exact .inl ⟨⟨k4, k6⟩, fun _ => k2⟩
        · rw [if_neg q3] at h; cases h
      | none =>
        simp only [q1, q2] at h
        cases r with
        | loc l hl =>
          cases r' with
          | loc l' hl' =>
            have h' : (if l = l' then some true else none) = some b := h
            split at h'
            · rename_i el
              cases h'
              subst el
              obtain rfl : v' = Value.ref (m l) := rv
              obtain rfl : w' = Value.ref (m l) := rw'
              exact .inr ⟨rfl, rfl, l, rfl, rfl⟩
            · cases h'
          | _ => cases h
        | _ => cases r' <;> cases h
  have tupL : ∀ {a : Addr} {vs : List V} {d : D} {w : V} {w' : Value}, SqT g.K H a vs → VR g m S.length H w d → RelV w w' → (if (flatD d || (lstS S d).isSome) = true then some false else none) = some b → b = false ∧ SeqAt.EqAt A s (.ref a) w' false ∧ SeqAt.EqAt A s w' (.ref a) false ∧ Three A s (.ref a) w' false ∧ Three A s w' (.ref a) false := by
    intro a vs d w w' ht r rr h
    obtain ⟨its, v1, p1, _⟩ := I.tuple (hK ▸ ht)
    have p1' : s.heap.IsTuple a its.toArray := p1
    by_cases q : (flatD d || (lstS S d).isSome) = true
    · rw [if_pos q] at h
      cases h
      by_cases q3 : flatD d = true
      · obtain ⟨k1, k2, k3, k4, k5, k6⟩ := (flat_ne (s := s) (A := A) r q3 rr hu).1 p1'
        exact ⟨rfl, k1, k2, ⟨k3, k5⟩, ⟨k4, k6⟩⟩
      · cases q1 : lstS S d with
        | none => rw [q1] at q; simp [q3] at q
        | some xs =>
          obtain ⟨a', ws, e2, s2, r2⟩ := lstS_ok sr r q1
          subst e2
          obtain rfl : w' = Value.ref a' := rr
          obtain ⟨its', v2, p2, _⟩ := I.list (hK ▸ s2)
          exact ⟨rfl, .tuple_list p1' p2.isList hu, .list_tuple p2.isList p1' hu, ⟨.tuple_list p1' p2.isList hu, .tuple_list p1' p2.isList hu⟩, ⟨.list_tuple p2.isList p1' hu, .list_tuple p2.isList p1' hu⟩⟩
    · rw [if_neg q] at h; cases h
  have key : ∀ {d e : D}, (∀ xs, d ≠ .tup xs) → (∀ xs, e ≠ .tup xs) → eqC (eqN S n) S d e = eqL (eqN S n) S d e := by
    intro d e h1 h2
    cases d <;> cases e <;> first | rfl | exact absurd rfl (h1 _) | exact absurd rfl (h2 _)
  by_cases hd : ∃ xs, d = .tup xs
  · obtain ⟨xs, rfl⟩ := hd
    cases r with
    | tup a vs _ ht rs =>
      obtain rfl : v' = Value.ref a := rv
      by_cases he : ∃ ys, e = .tup ys
      · obtain ⟨ys, rfl⟩ := he
        cases r' with
        | tup a' ws _ ht' rs' =>
          obtain rfl : w' = Value.ref a' := rw'
          exact .inl (three (tups_at I hK hu hf h ht ht' rs rs'))
      · have h' : (if (flatD e || (lstS S e).isSome) = true then some false else none) = some b := by
          cases e <;> first | exact h | exact absurd ⟨_, rfl⟩ he
        obtain ⟨rfl, k1, k2, k3, k4⟩ := tupL ht r' rw' h'
        exact .inl ⟨k3, fun _ => k1⟩
  · by_cases he : ∃ ys, e = .tup ys
    · obtain ⟨ys, rfl⟩ := he
      cases r' with
      | tup a' ws _ ht' rs' =>
        obtain rfl : w' = Value.ref a' := rw'
        have h' : (if (flatD d || (lstS S d).isSome) = true then some false else none) = some b := by
          cases d <;> first | exact h | exact absurd ⟨_, rfl⟩ hd
        obtain ⟨rfl, k1, k2, k3, k4⟩ := tupL ht' r rv h'
        exact .inl ⟨k4, fun _ => k2⟩
    · rw [key (fun xs z => hd ⟨xs, z⟩) (fun xs z => he ⟨xs, z⟩)] at h
      exact lists h
theorem eqN_at (I : Inv X pins σ H s) (sr : SR g m H S) (hK : X.K = g.K) : ∀ (n : Nat) {A : Around} {d e : D} {b : Bool} {v w : V} {v' w' : Value}, A.units + n < cLine → eqN S n d e = some b → VR g m S.length H v d → VR g m S.length H w e → RelV v v' → RelV w w' → SeqAt.EqAt A s v' w' b := by
  intro n
  induction n with
  | zero => intro A d e b v w v' w' hu h r r' rv rw'; exact (flat_eq h r r' rv rw').1
  | succ n ih =>
    intro A d e b v w v' w' hu h r r' rv rw'
    have h0 := h
    unfold eqN at h
    cases q : scalF d e with
    | some c => rw [q] at h; cases h; exact (flat_eq q r r' rv rw').1
    | none =>
      rw [q] at h
      dsimp only at h
      have hu2 : A.in1.units + n < cLine := by
        show A.units + 1 + n < cLine
        omega
      rcases eqC_at (A := A) I sr hK (by omega) (fun h r r' rv rw' => ih hu2 h r r' rv rw') h r r' rv rw' with ⟨_, k⟩ | ⟨rfl, rfl, _⟩
      · by_cases ev : v' = w'
        · have evw : v = w := by
            have a1 := rv.abs
            have a2 := rw'.abs
            rw [ev, a2] at a1
            exact (Option.some.inj a1).symm
          rw [eq_same I sr hK (n + 1) h0 r r' evw, ev]
          exact .same _
        · exact k ev
      · exact .same _
/-- the relation of two values by the store's data -/
def rEqS (g : Gx) : R2 := fun x y H Q => ∃ m S d e b, SR g m H S ∧ VR g m S.length H x d ∧ VR g m S.length H y e ∧ eqQ d e S = some b ∧ Q (.bl b) H
def rNeS (g : Gx) : R2 := fun x y H Q => ∃ m S d e b, SR g m H S ∧ VR g m S.length H x d ∧ VR g m S.length H y e ∧ eqQ d e S = some b ∧ Q (.bl (!b)) H
theorem eqQ_at (I : Inv X pins σ H s) (sr : SR g m H S) (hK : X.K = g.K) {A : Around} {d e : D} {b : Bool} {v w : V} {v' w' : Value} (hu : A.units + 64 < cLine) (h : eqQ d e S = some b) (r : VR g m S.length H v d) (r' : VR g m S.length H w e) (rv : RelV v v') (rw' : RelV w w') : Three A s v' w' b := by
  unfold eqQ at h
  by_cases ht : (okTop S d && okTop S e) = true
  · rw [if_pos ht, show (60 : Nat) = 59 + 1 from rfl] at h
    unfold eqN at h
    cases q : scalF d e with
    | some c => rw [q] at h; cases h; exact (flat_eq q r r' rv rw').2
    | none =>
      rw [q] at h
      dsimp only at h
      have hu2 : A.in1.units + 59 < cLine := by
        show A.units + 1 + 59 < cLine
        omega
      rcases eqC_at (A := A) I sr hK (by omega) (fun h r r' rv rw' => eqN_at I sr hK 59 hu2 h r r' rv rw') h r r' rv rw' with ⟨k, _⟩ | ⟨_, _, l, rfl, hn⟩
      · exact k
      · rw [Bool.and_eq_true] at ht
        have t1 : (false || (lstS S (.loc l)).isSome) = true := ht.1
        rw [hn] at t1
        cases t1
  · rw [if_neg ht] at h; cases h
end
theorem op_eqA {k : Nat} (hK : X.K = g.K) (hr : Room k X.A) : OpR X (compareOp .Eq) (rEqS g) := fun pins s σ H x y v u Q I rx ry h => by
  obtain ⟨m, S, d, e, b, sr, r1, r2, hq, q⟩ := h
  exact (eqQ_at I sr hK hr.units hq r1 r2 rx ry).rc X.prog X.w _ _ ⟨.bl b, H, I, rfl, q⟩
theorem op_neA {k : Nat} (hK : X.K = g.K) (hr : Room k X.A) : OpR X (compareOp .NotEq) (rNeS g) := fun pins s σ H x y v u Q I rx ry h => by
  obtain ⟨m, S, d, e, b, sr, r1, r2, hq, q⟩ := h
  exact (eqQ_at I sr hK hr.units hq r1 r2 rx ry).ne X.prog X.w _ _ ⟨.bl (!b), H, I, rfl, q⟩
theorem eq_ok : S2 g (rEqS g) eqD := fun m S H x y d e Q W sr rx ry h => by
  unfold eqD at h
  cases z : eqQ d e S with
  | none => rw [z] at h; exact h.elim
  | some b => rw [z] at h; exact ⟨m, S, d, e, b, sr, rx, ry, z, h.here sr _ (.bl _)⟩
theorem ne_ok : S2 g (rNeS g) neD := fun m S H x y d e Q W sr rx ry h => by
  unfold neD at h
  cases z : eqQ d e S with
  | none => rw [z] at h; exact h.elim
  | some b => rw [z] at h; exact ⟨m, S, d, e, b, sr, rx, ry, z, h.here sr _ (.bl _)⟩
end
end Sm
end
section
/-! Sm, part G: subscripts, slices, membership, dicts, built-in functions, methods of lists. -/
namespace Sm
open PySem PySem.Spec PyProof.Rows L2

section
variable {X : Cx} {g : Gx} {W : WX} {a b c e o : Expr} {es : List Expr} {fa fb fc fo : DE} {fs : En → Mo (List D)} {pos : Pos}
def ar1 (h : D → Mo D) : List D → Mo D
  | [d] => h d
  | _ => bad
def ar2 (h : D → D → Mo D) : List D → Mo D
  | [d, e] => h d e
  | _ => bad
theorem SC.one {r : List V → Hp → VK → Prop} {h : D → Mo D} (k : ∀ (m : Nat → Addr) (S : Sto) (H : Hp) (x : V) (d : D) (Q : VK) (W : XK), SR g m H S → VR g m S.length H x d → PRx g m S H W (KD g Q) (h d S) → r [x] H Q) : SC g r (ar1 h) := fun m S H xs ds Q W sr rs p => by
  cases rs with
  | nil => exact p.elim
  | cons x d xs ds rx rs =>
    cases rs with
    | nil => exact k m S H x d Q W sr rx p
    | cons _ _ _ _ _ _ => exact p.elim
theorem SC.two {r : List V → Hp → VK → Prop} {h : D → D → Mo D} (k : ∀ (m : Nat → Addr) (S : Sto) (H : Hp) (x y : V) (d e : D) (Q : VK) (W : XK), SR g m H S → VR g m S.length H x d → VR g m S.length H y e → PRx g m S H W (KD g Q) (h d e S) → r [x, y] H Q) : SC g r (ar2 h) := fun m S H xs ds Q W sr rs p => by
  cases rs with
  | nil => exact p.elim
  | cons x d xs ds rx rs =>
    cases rs with
    | nil => exact p.elim
    | cons y e xs ds ry rs =>
      cases rs with
      | nil => exact k m S H x y d e Q W sr rx ry p
      | cons _ _ _ _ _ _ => exact p.elim
theorem SM.none {r : V → List V → Hp → VK → Prop} {h : D → List D → Mo D} (k : ∀ (m : Nat → Addr) (S : Sto) (H : Hp) (x : V) (d : D) (Q : VK) (W : XK), SR g m H S → VR g m S.length H x d → PRx g m S H W (KD g Q) (h d [] S) → r x [] H Q) (hb : ∀ d e es S, h d (e :: es) S = .no) : SM g r h := fun m S H x xs d ds Q W sr rx rs p => by
  cases rs with
  | nil => exact k m S H x d Q W sr rx p
  | cons _ _ _ _ _ _ => rw [hb] at p; exact p.elim
def am0 (h : D → Mo D) : D → List D → Mo D := fun d ds => match ds with
  | [] => h d
  | _ :: _ => bad
def am1 (h : D → D → Mo D) : D → List D → Mo D := fun d ds => ar1 (h d) ds
theorem SM.zero {r : V → List V → Hp → VK → Prop} {h : D → Mo D} (k : ∀ (m : Nat → Addr) (S : Sto) (H : Hp) (x : V) (d : D) (Q : VK) (W : XK), SR g m H S → VR g m S.length H x d → PRx g m S H W (KD g Q) (h d S) → r x [] H Q) : SM g r (am0 h) := SM.none k fun _ _ _ _ => rfl
theorem SM.one {r : V → List V → Hp → VK → Prop} {h : D → D → Mo D} (k : ∀ (m : Nat → Addr) (S : Sto) (H : Hp) (x y : V) (d e : D) (Q : VK) (W : XK), SR g m H S → VR g m S.length H x d → VR g m S.length H y e → PRx g m S H W (KD g Q) (h d e S) → r x [y] H Q) : SM g r (am1 h) := fun m S H x xs d ds Q W sr rx rs p => by
  cases rs with
  | nil => exact p.elim
  | cons y e xs ds ry rs =>
    cases rs with
    | nil => exact k m S H x y d e Q W sr rx ry p
    | cons _ _ _ _ _ _ => exact p.elim

/-! ### subscripts -/
def keyD : D → Option Key
  | .int i => some (.inl i)
  | .str x => some (.inr x)
  | _ => none
theorem keyD_ok {m : Nat → Addr} {n : Nat} {H : Hp} {x : V} {d : D} {k : Key} (r : VR g m n H x d) (h : keyD d = some k) : x = kV k := by
  cases r <;> first | (cases h; rfl) | cases h
def valD (kvs : List (Key × D)) (k : Key) : Option D := (kvs.find? fun kv => decide (kv.1 = k)).map (·.2)
theorem valD_rel {m : Nat → Addr} {n : Nat} {H : Hp} {k : Key} : ∀ {ks' : List (Key × V)} {ks : List (Key × D)}, ks'.map (·.1) = ks.map (·.1) → VRs g m n H (ks'.map (·.2)) (ks.map (·.2)) →
    (∀ d, valD ks k = some d → ∃ v, valV ks' k = some v ∧ VR g m n H v d) ∧ (valD ks k = none → valV ks' k = none)
  | [], [], _, _ => ⟨fun _ h => by simp [valD] at h, fun _ => rfl⟩
  | (a, x) :: r', (b, y) :: r, hk, hv => by
    have hk' : a = b ∧ r'.map (·.1) = r.map (·.1) := by simpa using hk
    obtain ⟨rfl, hk2⟩ := hk'
    cases hv with
    | cons _ _ _ _ r1 rs =>
      obtain ⟨i1, i2⟩ := valD_rel (k := k) hk2 rs
      by_cases q : a = k
      · subst q
        have e1 : valD ((a, y) :: r) a = some y := by simp [valD]
        have e2 : valV ((a, x) :: r') a = some x := valV_pos rfl
        rw [e1, e2]
        exact ⟨fun d h => by cases h; exact ⟨x, rfl, r1⟩, fun h => by cases h⟩
      · have e1 : valD ((a, y) :: r) k = valD r k := by simp [valD, q]
        have e2 : valV ((a, x) :: r') k = valV r' k := valV_neg q
        rw [e1, e2]
        exact ⟨i1, i2⟩
  | [], _ :: _, hk, _ => by simp at hk
  | _ :: _, [], hk, _ => by simp at hk
def atD (xs : List D) : D → Option D
  | .int i => atI xs i
  | _ => none
def getO (y : D) : Option Ob → Option D
  | some (.lst xs) => atD xs y
  | some (.dct kvs) => match keyD y with
    | some k => valD kvs k
    | none => none
  | some (.lck kvs) => match keyD y with
    | some k => valD kvs k
    | none => none
  | _ => none
def getS (z : Str) : D → Option D
  | .int i => if fit z.length = true then (atI z.cps.toList i).map fun c => .str ⟨#[c]⟩ else none
  | _ => none
def getQ : D → D → Sto → Option D
  | .tup xs, y, _ => atD xs y
  | .lsc xs, y, _ => atD xs y
  | .str z, y, _ => getS z y
  | .loc l, y, S => getO y S[l]?
  | _, _, _ => none
def getD (x y : D) : Mo D := fun S => optD (getQ x y S) S
def rIxA (K : PySem.W.Frag) : R2 := fun x y H Q => rIx K x y H Q ∨ ∃ a v, x = .ref a ∧ DGet H a y (some v) ∧ Q v H
theorem ix_dict (hu : X.A.units + 1 < cLine) : IxR X (fun x y H Q => ∃ a v, x = .ref a ∧ DGet H a y (some v) ∧ Q v H) := by
  intro value slice pins s σ H x y v u Q I rx ry h hs
  obtain ⟨a, w, rfl, dg, q⟩ := h
  obtain rfl : v = Value.ref a := rx
  exact tail_any (dict_typeIs I dg) PySem.F.slot_dict_getitem.lookup (d_getItem hu I dg ry fun w' s' I' rw' => ⟨w, H, I', rw', q⟩) hs
theorem atD_int {xs : List D} {y d : D} (h : atD xs y = some d) : ∃ i, y = .int i ∧ atI xs i = some d := by
  cases y with
  | int i => exact ⟨i, rfl, h⟩
  | _ => cases h
theorem atI_rel {m : Nat → Addr} {n : Nat} {H : Hp} {vs : List V} {xs : List D} {i : Int} {d : D} (r : VRs g m n H vs xs) (h : atI xs i = some d) : ∃ v, atI vs i = some v ∧ VR g m n H v d := by
  unfold atI at h ⊢
  rw [r.length]
  cases q : ixN xs.length i with
  | none => rw [q] at h; cases h
  | some j =>
    rw [q] at h
    exact r.get h
theorem getQ_ok {m : Nat → Addr} {S : Sto} {H : Hp} {x y : V} {d e w : D} {Q : VK} (sr : SR g m H S) (rx : VR g m S.length H x d) (ry : VR g m S.length H y e) (h : getQ d e S = some w) (q : ∀ v, VR g m S.length H v w → Q v H) : rIxA g.K x y H Q := by
  cases rx with
  | tup a xs ds hq rs =>
    obtain ⟨i, rfl, hi⟩ := atD_int h
    cases ry
    obtain ⟨v, hv, rv⟩ := atI_rel rs hi
    exact .inl (.inr (.inl ⟨a, xs, i, v, rfl, rfl, hq, hv, q v rv⟩))
  | lsc a xs ds hq rs =>
    obtain ⟨i, rfl, hi⟩ := atD_int h
    cases ry
    obtain ⟨v, hv, rv⟩ := atI_rel rs hi
    exact .inl (.inl ⟨a, xs, i, v, rfl, rfl, hq.sq, hv, q v rv⟩)
  | str z =>
    have h2 : getS z e = some w := h
    cases ry with
    | int i =>
      have h3 : (if fit z.length = true then (atI z.cps.toList i).map fun c => D.str ⟨#[c]⟩ else none) = some w := h2
      by_cases qf : fit z.length = true
      · rw [if_pos qf] at h3
        cases qc : atI z.cps.toList i with
        | none => rw [qc] at h3; cases h3
        | some c =>
          rw [qc] at h3
          cases h3
          exact .inl (.inr (.inr ⟨z, i, c, rfl, rfl, fit_iff.mp qf, qc, q _ (.str _)⟩))
      · rw [if_neg qf] at h3; cases h3
    | _ => cases h2
  | loc l hl =>
    have h2 : getO e S[l]? = some w := h
    cases q0 : S[l]? with
    | none => rw [q0] at h2; cases h2
    | some ob =>
      rw [q0] at h2
      cases ob with
      | lst ds =>
        obtain ⟨_, xs, hx, rs⟩ := sr.atL q0
        obtain ⟨i, rfl, hi⟩ := atD_int h2
        cases ry
        obtain ⟨v, hv, rv⟩ := atI_rel rs hi
        exact .inl (.inl ⟨m l, xs, i, v, rfl, rfl, SqL.of hx, hv, q v rv⟩)
      | dct kvs =>
        obtain ⟨_, ks', hx, hk, rs⟩ := sr.atD q0
        have h3 : (match keyD e with
          | some k => valD kvs k
          | none => none) = some w := h2
        cases qk : keyD e with
        | none => rw [qk] at h3; cases h3
        | some k =>
          rw [qk] at h3
          obtain rfl := keyD_ok ry qk
          obtain ⟨v, hv, rv⟩ := (valD_rel (k := k) hk rs).1 w h3
          refine .inr ⟨m l, v, rfl, ?_, q v rv⟩
          rw [← hv]
          exact DGet.k hx
      | lck kvs =>
        obtain ⟨_, o0, ks', hx, hk, rs⟩ := sr.atK q0
        have h3 : (match keyD e with
          | some k => valD kvs k
          | none => none) = some w := h2
        cases qk : keyD e with
        | none => rw [qk] at h3; cases h3
        | some k =>
          rw [qk] at h3
          obtain rfl := keyD_ok ry qk
          obtain ⟨v, hv, rv⟩ := (valD_rel (k := k) hk rs).1 w h3
          refine .inr ⟨m l, v, rfl, ?_, q v rv⟩
          rw [← hv]
          exact (.inl ⟨_, k, .inr ⟨_, hx⟩, rfl, rfl⟩)
      | _ => cases h2
  | _ => cases h
theorem get_ok : S2 g (rIxA g.K) getD := fun m S H x y d e Q W sr rx ry h => by
  have h2 : PRx g m S H W (KD g Q) (optD (getQ d e S) S) := h
  cases z : getQ d e S with
  | none => rw [z] at h2; exact h2.elim
  | some w =>
    rw [z] at h2
    exact getQ_ok sr rx ry z fun v rv => h2.here sr v rv
theorem de_ix {k : Nat} (hK : X.K = g.K) (hr : Room k X.A) (ha : PE X a (tD g W fa)) (hb : PE X b (tD g W fb)) (hs : PlainIx b := by exact fun _ _ => rfl) : PE X (.Subscript a b pos) (tD g W (cOp getD fa fb)) := by
  refine PE.imp (pe_ix (r := rIxA g.K) ?_ ha hb hs) (op_sub2 get_ok)
  rw [← hK]
  exact ix_seq.or (ix_dict (hu_of hr))

/-! ### slices -/
def cPart (f : Option DE) : En → Mo (Option Int) := fun ρ => match f with
  | none => pure none
  | some f => do
    let x ← f ρ
    match x with
    | .int i => pure (some i)
    | _ => bad
theorem PO.imp {e : Option Expr} {t t' : TO} (h : PO X e t) (i : ∀ σ H Q, t' σ H Q → t σ H Q) : PO X e t' := ⟨fun pins s σ H Q I q => h.run pins s σ H Q I (i σ H Q q)⟩
def cutD (xs : List D) (lo hi : Option Int) : List D := (xs.drop (HT.sIx xs.length 0 lo)).take (HT.sIx xs.length xs.length hi - HT.sIx xs.length 0 lo)
def slO (lo hi : Option Int) (S : Sto) : Option Ob → Rz D
  | some (.lst xs) => .ok (.loc S.length) (S ++ [.lst (cutD xs lo hi)])
  | _ => .no
def slD (lo hi : Option Int) : D → Mo D
  | .tup xs => pure (.tup (cutD xs lo hi))
  | .lsc xs => fun S => .ok (.loc S.length) (S ++ [.lst (cutD xs lo hi)])
  | .str z => fun S => if fit z.length = true then .ok (.str (cutS z lo hi)) S else .no
  | .loc l => fun S => slO lo hi S S[l]?
  | _ => bad
def cSl (f : DE) (lo hi : En → Mo (Option Int)) : DE := fun ρ => do
  let x ← f ρ; let l ← lo ρ; let h ← hi ρ; slD l h x
/-! ### membership -/
/-- one text in another: by its signs where it is one sign -/
def inS (x z : Str) : Bool := match x.cps.toList with
  | [c] => decide (c ∈ z.cps.toList)
  | _ => !(Builtin.Str.occurrences z x 0 z.length 1).isEmpty
end
end Sm
end
section
/-! Sm, part H: dicts made and written, built-in functions, methods of lists. -/
namespace Sm
open PySem PySem.Spec PyProof.Rows L2

section
variable {X : Cx} {g : Gx} {W : WX} {a b c e o : Expr} {es : List Expr} {fa fb fc fo fv : DE} {fs : En → Mo (List D)} {pos : Pos}
/-! ### writing into a dict, a list -/
def putD (kvs : List (Key × D)) (k : Key) (v : D) : List (Key × D) :=
  if (kvs.any fun kv => decide (kv.1 = k)) = true then kvs.map (fun kv => if kv.1 = k then (kv.1, v) else kv) else kvs ++ [(k, v)]
/-- o[i] = v -/
def stO (i v : D) (l : Nat) (S : Sto) : Option Ob → Option Sto
  | some (.dct kvs) => match keyD i with
    | some k => if fit (kvs.length + 1) = true then some (S.set l (.dct (putD kvs k v))) else none
    | none => none
  | some (.lst xs) => match i with
    | .int j => (ixN xs.length j).map fun j => S.set l (.lst (xs.set j v))
    | _ => none
  | _ => none
def stQ : D → D → D → Sto → Option Sto
  | .loc l, i, v, S => stO i v l S S[l]?
  | _, _, _, _ => none
def cSt (fo fi fv : DE) : DS := fun ρ S => (fv ρ S).toF ρ fun v S1 => (fo ρ S1).toF ρ fun o S2 => (fi ρ S2).toF ρ fun i S3 => match stQ o i v S3 with
  | some S4 => .nx ρ S4
  | none => .no
/-! ### displays of dicts -/
def cPairs : List (DE × DE) → En → Mo (List (D × D))
  | [] => fun _ => pure []
  | (fk, fv) :: r => fun ρ => do
    let k ← fk ρ; let v ← fv ρ; let ps ← cPairs r ρ; pure ((k, v) :: ps)
/-- keys and values as the display wants them -/
def asKvs : List (D × D) → Option (List (Key × D))
  | [] => some []
  | (k, v) :: r => match keyD k, asKvs r with
    | some k, some r => some ((k, v) :: r)
    | _, _ => none
def mergeD (kvs more : List (Key × D)) : List (Key × D) := more.foldl (fun acc kv => putD acc kv.1 kv.2) kvs
@[irreducible] def few15 (n : Nat) : Bool := decide (n ≤ 15)
theorem few15_iff {n : Nat} : few15 n = true ↔ n ≤ 15 := by unfold few15; exact decide_eq_true_iff
def dispF (n : Nat) (ps : List (D × D)) (S : Sto) : Rz D := match asKvs ps, S[n]? with
  | some kvs, some (.dct []) => if few15 kvs.length = true then .ok (.loc n) (S.set n (.dct (mergeD [] kvs))) else .no
  | _, _ => .no
def cDict (fs : List (DE × DE)) : DE := fun ρ S => (cPairs fs ρ (S ++ [.dct []])).andThen fun ps S' => dispF S.length ps S'
inductive VPs (g : Gx) (m : Nat → Addr) (n : Nat) (H : Hp) : List (V × V) → List (D × D) → Prop
  | nil : VPs g m n H [] []
  | cons (x y : V) (d e : D) (r : List (V × V)) (q : List (D × D)) : VR g m n H x d → VR g m n H y e → VPs g m n H r q → VPs g m n H ((x, y) :: r) ((d, e) :: q)
/-! ### built-in functions -/
theorem CallR.or {f : Value} {r r' : List V → Hp → VK → Prop} (h : CallR X f r) (h' : CallR X f r') : CallR X f (fun xs H Q => r xs H Q ∨ r' xs H Q) := by
  intro pins s σ H xs us Q I rx q
  rcases q with q | q
  · exact h pins s σ H xs us Q I rx q
  · exact h' pins s σ H xs us Q I rx q
def lenO : Option Ob → Option D
  | some (.lst xs) => some (.int xs.length)
  | some (.dct kvs) => some (.int kvs.length)
  | _ => none
def lenQ : D → Sto → Option D
  | .tup xs, _ => some (.int xs.length)
  | .lsc xs, _ => some (.int xs.length)
  | .str z, _ => if fit z.length = true then some (.int z.length) else none
  | .loc l, S => lenO S[l]?
  | _, _ => none
def lenD (d : D) : Mo D := fun S => optD (lenQ d S) S
def intD : D → Mo D
  | .int i => pure (.int i)
  | .bl b => pure (.int (if b then 1 else 0))
  | _ => bad
def absD : D → Mo D
  | .int i => pure (.int (if i < 0 then -i else i))
  | _ => bad
def maxD : D → D → Mo D
  | .int i, .int j => pure (.int (if j > i then j else i))
  | _, _ => bad
def minD : D → D → Mo D
  | .int i, .int j => pure (.int (if j < i then j else i))
  | _, _ => bad
/-! ### isinstance -/
/-- a type: a built-in one by its name, an own class by its number -/
abbrev TK := Sum String Nat
def tv (g : Gx) : TK → Value
  | .inl n => .type n
  | .inr c => .ref (g.ct c)
def tyO : Option Ob → Option TK
  | some (.lst _) => some (.inl "list")
  | some (.dct _) => some (.inl "dict")
  | some (.ins c _) => some (.inr c)
  | _ => none
def tyQ : D → Sto → Option TK
  | .non, _ => some (.inl "NoneType")
  | .bl _, _ => some (.inl "bool")
  | .int _, _ => some (.inl "int")
  | .str _, _ => some (.inl "str")
  | .tup _, _ => some (.inl "tuple")
  | .loc l, S => tyO S[l]?
  | _, _ => none
/-- a class as an argument -/
def clQ : D → Option TK
  | .ty n => some (.inl n)
  | .cls c => some (.inr c)
  | _ => none
structure IsTab (g : Gx) (J : TK → TK → Option Bool) : Prop where
  kit : ∀ t c b, J t c = some b → PySem.W.kitOne g.K (tv g t) (tv g c) = some b
  own : ∀ c t b, J (.inr c) t = some b → Cls g.K (g.ct c) ∧ PySem.W.findIn g.K (.ref (g.ct c)) "__class__" = some (some (.builtin "object.__class__")) ∧ PySem.W.specialIn g.K (.builtin "object.__class__") "__get__" = some (some (.builtin "getset_descriptor.__get__")) ∧
    PySem.W.takesIn g.K (.builtin "object.__class__") = some true ∧ PySem.W.mroIn g.K (g.ct c) (.type "object") = some true
def isiQ (J : TK → TK → Option Bool) (x c : D) (S : Sto) : Option Bool := match tyQ x S, clQ c with
  | some t, some k => J t k
  | _, _ => none
def isiD (J : TK → TK → Option Bool) (x c : D) : Mo D := fun S => optD ((isiQ J x c S).map D.bl) S
/-- an own class's name -/
theorem de_cls {x : Str} (c : Nat) (hm : X.mg x = some (.ref (g.ct c))) (hg : Gl X x := by rfl) (hd : (x == ("__debug__" : Str)) = false := by decide) : PE X (.Name x pos) (tD g W (cC (.cls c))) := de_glob hm ⟨.ref (g.ct c), rfl, fun _ _ _ => .cls c⟩ hg hd

/-! ### methods of lists -/
def appO (y : D) (l : Nat) (S : Sto) : Option Ob → Option Sto
  | some (.lst xs) => if fit (xs.length + 1) = true then some (S.set l (.lst (xs ++ [y]))) else none
  | _ => none
def appQ : D → D → Sto → Option Sto
  | .loc l, y, S => appO y l S S[l]?
  | _, _, _ => none
/-- a method that changes the store and gives None -/
def unitQ (o : Option Sto) : Rz D := match o with
  | some S' => .ok .non S'
  | none => .no
def appD (x y : D) : Mo D := fun S => unitQ (appQ x y S)
end
end Sm
end
section
/-! Sm, part I: the glue: what the top has made, the end of a law. -/
namespace Sm
open PySem PySem.Spec PyProof.Rows L2

/-- addresses by number -/
def pick (l : List Addr) : Nat → Addr := fun i => l.getD i 0
/-- a def of the module -/
structure FnT (K : PySem.W.Frag) (mg : Str → Option Value) (nm : Str) (st : Stmt) (ps : List Str) : Type where
  fn : Addr
  fd : FuncData
  F : L2.Fun K nm nm st fn fd
  b : Binds K fd ps []
  m : mg nm = some (.ref fn)
  k : PySem.W.keepIn K (.ref fn) = true
/-- a method of a class -/
structure MeT (K : PySem.W.Frag) (C : Addr) (nm qual : Str) (st : Stmt) (ps : List Str) : Type where
  fn : Addr
  fd : FuncData
  F : L2.Fun K nm qual st fn fd
  b : Binds K fd ps []
  m : Meth K C nm fn
/-- a class with its own __init__ -/
structure InT (K : PySem.W.Frag) (mg : Str → Option Value) (C : Addr) (nm qual : Str) (st : Stmt) (ps : List Str) : Type where
  fn : Addr
  fd : FuncData
  F : L2.Fun K "__init__" qual st fn fd
  b : Binds K fd ps []
  M : Mk K C fn
  cl : Cls K C
  m : mg nm = some (.ref C)
/-- the table of isinstance as a list -/
def look {α β : Type} [DecidableEq α] (a : α) : List (α × β) → Option β
  | [] => none
  | (x, y) :: r => if a = x then some y else look a r
def tabJ (l : List ((TK × TK) × Bool)) (t c : TK) : Option Bool := look (t, c) l
theorem look_mem {α β : Type} [DecidableEq α] {a : α} {b : β} : ∀ {l : List (α × β)}, look a l = some b → (a, b) ∈ l
  | [], h => by cases h
  | (x, y) :: r, h => by
    unfold look at h
    by_cases q : a = x
    · rw [if_pos q] at h; cases h; rw [q]; exact List.mem_cons_self
    · rw [if_neg q] at h; exact List.mem_cons_of_mem _ (look_mem h)
section
variable {P : Program} {w : World} {K : PySem.W.Frag} {mg : Str → Option Value} {base : Heap} {g : Gx}
theorem isTab_of {l : List ((TK × TK) × Bool)} (h1 : ∀ e ∈ l, PySem.W.kitOne g.K (tv g e.1.1) (tv g e.1.2) = some e.2)
    (h2 : ∀ e ∈ l, ∀ c, e.1.1 = .inr c → Cls g.K (g.ct c) ∧ PySem.W.findIn g.K (.ref (g.ct c)) "__class__" = some (some (.builtin "object.__class__")) ∧ PySem.W.specialIn g.K (.builtin "object.__class__") "__get__" = some (some (.builtin "getset_descriptor.__get__")) ∧
      PySem.W.takesIn g.K (.builtin "object.__class__") = some true ∧ PySem.W.mroIn g.K (g.ct c) (.type "object") = some true) : IsTab g (tabJ l) :=
  ⟨fun t c b h => h1 _ (look_mem h), fun c t b h => h2 _ (look_mem h) c rfl⟩
/-- the table of fields as a list -/
def tabF (l : List (Nat × Str)) : FTab := fun c f => decide ((c, f) ∈ l)
theorem tabOk_of {l : List (Nat × Str)} (h : ∀ e ∈ l, Cls g.K (g.ct e.1) ∧ NoAttr g.K (g.ct e.1) e.2) : TabOk g (tabF l) := ⟨fun c f q => h (c, f) (of_decide_eq_true q)⟩

theorem kit_self {t : Value} : PySem.W.kitOne K t t = some true := if_pos (beq_self_eq_true _)
theorem kit_rt {C : Addr} {T : String} {b : Bool} (h : PySem.W.kitMeta T = true) (s : PySem.W.subIn K (.ref C) (.type T) = some b) : PySem.W.kitOne K (.ref C) (.type T) = some b := by
  unfold PySem.W.kitOne
  rw [if_neg (by intro z; exact absurd (beq_iff_eq.mp z) (by intro q; cases q))]
  show (if PySem.W.kitMeta T = true then _ else _) = _
  rw [if_pos h]
  exact s
theorem kit_xr {C D : Addr} {b : Bool} (ne : (D == C) = false) (i : PySem.W.isClsIn K C = true) (ty : PySem.W.typeIn K (.ref C) = some (.type "type")) (s : PySem.W.subIn K (.ref D) (.ref C) = some b) : PySem.W.kitOne K (.ref D) (.ref C) = some b := by
  unfold PySem.W.kitOne
  rw [if_neg (by intro z; have := beq_iff_eq.mp z; cases this; simp at ne)]
  have e2 : ((PySem.W.clsIn K C).isSome && PySem.W.typeIn K (.ref C) == some (.type "type")) = true := by
    have i' : (PySem.W.clsIn K C).isSome = true := i
    rw [i', ty] <;> rfl
  show (if ((PySem.W.clsIn K C).isSome && PySem.W.typeIn K (.ref C) == some (.type "type")) = true then _ else _) = _
  rw [if_pos e2]
  exact s
theorem fa_nil {α : Type} {P : α → Prop} : ∀ e ∈ ([] : List α), P e := fun _ h => by cases h
theorem fa_cons {α : Type} {P : α → Prop} {a : α} {l : List α} (h : P a) (r : ∀ e ∈ l, P e) : ∀ e ∈ a :: l, P e := fun e q => by
  rcases List.mem_cons.mp q with z | z
  · rw [z]; exact h
  · exact r e z
theorem fn_do {nm qual : Str} {st : Stmt} {fn : Addr} {fd : FuncData} {N ps : List Str} {k np n : Nat} {s : DS} (F : L2.Fun K nm qual st fn fd) (S : FnScope N ps (defScope st)) (hp : ps.length = np := by rfl) (hn : N.length = n := by rfl)
    (hbody : ∀ (cdv : Value) (A : Around) (outer : List Env) (s0 : Shared) (H : Hp) (E : XK), Room k (A.deeper (envOfC qual (defScope st) s0.heap.objs.size fn cdv)) →
      PSs (cxOf (L2.CX P w) P w K mg base N qual (defScope st) fn cdv A outer s0 H E) (defBody st) (tS g (fun cls d _ H => E cls d H) s)) :
    FnOk P w K mg base (L2.CX P w) (k + 1) fn fd ps (spF g np (cDef n s)) := by
  subst hp
  subst hn
  exact fn_sm F S hbody
/-- a level's denotation: below 2 nothing -/
def lev (F : Nat → List D → Mo D) : Nat → List D → Mo D
  | 0 => fun _ => bad
  | 1 => fun _ => bad
  | k + 2 => F k
@[simp] theorem lev_succ {F : Nat → List D → Mo D} {k : Nat} : lev F (k + 2) = F k := rfl
/-! ### the end of a law -/
def spL (n : Nat) (K : PySem.W.Frag) : Sp := fun vs H Q _ => ∃ (a : Addr) (ns : List Int), vs = [.ref a] ∧ ns.length ≤ n ∧ (∀ z ∈ ns, Builtin.Int.intBits z ≤ 1048576) ∧ Only H ∧ SqL K H a (ns.map V.int) ∧ ∀ H', Q (.bl true) H'
theorem lsc_of {H : Hp} {a : Addr} {xs : List V} (hO : Only H) (h : SqL K H a xs) : Lsc K H a xs := by
  rcases h with h | h
  · refine .inl ?_
    rcases h with h | ⟨o, h⟩
    · rcases hO a with z | ⟨o, ys, z⟩
      · rw [z] at h; cases h
      · rw [z] at h; cases h
    · exact ⟨o, h⟩
  · exact .inr h
theorem sr_nil {m : Nat → Addr} {H : Hp} (hT : NdefX.TabsN g.tb H) : SR g m H [] := ⟨fun l o h => by simp at h, fun l l' h => by simp at h, hT⟩
theorem tabs_none (hT : g.tb = []) {H : Hp} : NdefX.TabsN g.tb H := fun p hp => by rw [hT] at hp; cases hp
end
end Sm
end
section
/-! Sm, part Ig: the law's own def, entered from the top alone (so that no repr runs around it). -/
namespace Sm
open PySem PySem.Spec PyProof.Rows L2
section
variable {P : Program} {w : World} {K : PySem.W.Frag} {mg : Str → Option Value} {base : Heap} {g : Gx}
/-- a def's promise at one surrounding -/
def FnAt (P : Program) (w : World) (K : PySem.W.Frag) (mg : Str → Option Value) (base : Heap) (A : Around) (fn : Addr) (fd : FuncData) (ps : List Str) (sp : Sp) : Prop :=
  ∀ (outer : List Env) (s : Shared) (H : Hp) (args : Args) (us : List Value) (vs : List V) (Q : VK) (E : XK), Env0 P w K mg base A outer s H → BindsTo s fd args (ps.zip us) → Vals vs us → sp vs H Q E →
    codeAny (model P w) A (.call (.ref fn) args) (CR (L2.CX P w) outer P w H s Q E) s
theorem fn_at {nm qual : Str} {st : Stmt} {fn : Addr} {fd : FuncData} {N ps : List Str} {k : Nat} {A : Around} {sd : DS} (F : L2.Fun K nm qual st fn fd) (S : FnScope N ps (defScope st)) (hr : Room (k + 1) A)
    (hbody : ∀ (cdv : Value) (outer : List Env) (s0 : Shared) (H : Hp) (E : XK), Room k (A.deeper (envOfC qual (defScope st) s0.heap.objs.size fn cdv)) →
      PSs (cxOf (L2.CX P w) P w K mg base N qual (defScope st) fn cdv A outer s0 H E) (defBody st) (tS g (fun cls d _ H => E cls d H) sd)) :
    FnAt P w K mg base A fn fd ps (spF g ps.length (cDef N.length sd)) := by
  obtain ⟨oc, od, kV, doc, pm, an, cdv, ct, osl, rfl, found, cd⟩ := F.ex
  intro outer s H args us vs Q E e0 bound rv wish
  obtain ⟨same, m, S0, ds, sr, rd, q⟩ := wish
  have KX : K.In s.heap := e0.mod.kin.keeps fun b o z => (e0.bs b o z).1
  have free : s.heap.NoLimit := e0.mod.nolimit.keeps fun b o z => (e0.bs b o z).1
  have kinds : ∀ y ∈ ps.zip us, (defScope st).names.lookup y.1 = some .local ∨ ((defScope st).names.lookup y.1 = some .cell ∧ ((cellsFrom (s.heap.objs.size + 1) (defScope st).names []).lookup y.1).isSome = true) := fun y hy =>
    (S.par y.1 (List.of_mem_zip (show (y.1, y.2) ∈ ps.zip us from hy)).1).elim .inl fun z => .inr ⟨z, PySem.W.cellsFrom_some _ _ _ (.inl z)⟩
  refine codeAny_call_function hr.depth (KX _ _ found) rfl S.co S.gen rfl (PySem.W.codeRec_of KX cd) (bound _ _ _ _ (wpAny_newFunctionEnv_cells S.kind kinds fun env he s1 x => ?_))
  subst he
  refine ⟨free.keeps x.toInCall.keep, codeAny_func ?_⟩
  have start_ : Inv (cxOf (L2.CX P w) P w K mg base N qual (defScope st) fn cdv A outer s H E) [] (L2.start N vs) H s1 := inv_start S hr.hd e0 same rv x
  have asked : tS g (fun cls d _ H => E cls d H) sd { nx := fun _ H' => Q .non H', rt := Q } (L2.start N vs) H := by
    refine ⟨m, S0, startE N.length ds, sr, start_er rd, ?_⟩
    unfold cDef at q
    cases z : sd (startE N.length ds) S0 with
    | nx ρ1 S1 => rw [z] at q; exact fun _ m1 H1 e1 s1 _ => q m1 H1 e1 s1 .non .non
    | ret d S1 => rw [z] at q; exact fun v m1 H1 e1 s1 r1 => q m1 H1 e1 s1 v r1
    | ex e ρ1 S1 => rw [z] at q; exact fun c d _ m1 H1 e1 s1 _ x1 => q c d m1 H1 e1 s1 x1
    | brk ρ1 S1 => rw [z] at q; exact q.elim
    | cnt ρ1 S1 => rw [z] at q; exact q.elim
    | no => rw [z] at q; exact q.elim
  refine wpAny_mono ((hbody cdv outer s H E (hr.deeper _)).run [] s1 (L2.start N vs) H _ start_ asked) (fun fl s' hs => ?_) fun e s' hs => hs
  cases fl with
  | ret u =>
    obtain ⟨v, σ', H', J, rv', q'⟩ := hs
    exact ⟨v, H', J.os, J.bare, J.base, J.hok, rv', q'⟩
  | next =>
    obtain ⟨σ', H', J, q'⟩ := hs
    exact ⟨.non, H', J.os, J.bare, J.base, J.hok, rfl, q'⟩
  | brk => exact hs.elim fun _ z => z.elim fun _ z => z.2.elim
  | cont => exact hs.elim fun _ z => z.elim fun _ z => z.2.elim
theorem law_at {A : Around} {n : Nat} {fn : Addr} {fd : FuncData} {ps : List Str} {F : List D → Mo D} (hK : g.K = K) (G : FnAt P w K mg base A fn fd ps (spF g 1 F)) (h : ∀ ns : List Int, ns.length ≤ n → (∀ z ∈ ns, Builtin.Int.intBits z ≤ 1048576) → ∃ S', F [.lsc (ns.map .int)] [] = .ok (.bl true) S') (hT : g.tb = [] := by rfl) :
    FnAt P w K mg base A fn fd ps (spL n K) := fun outer s H args us vs Q E e0 hb rv q => G outer s H args us vs Q E e0 hb rv (by
  obtain ⟨a, ns, rfl, hl, hb, hO, hS, hQ⟩ := q
  obtain ⟨S', e⟩ := h ns hl hb
  refine ⟨rfl, fun _ => 0, [], [.lsc (ns.map .int)], sr_nil (tabs_none hT), .cons _ _ _ _ (.lsc a (ns.map V.int) _ (by rw [hK]; exact lsc_of hO hS) (VRs.of_ints ns)) .nil, ?_⟩
  rw [e]
  intro m' H' _ _ v rv
  cases rv
  exact hQ H')
/-- the call of the law, at the heap behind the top -/
theorem law_called {mb : Str → Option Value} {n : Nat} {fa a : Addr} {fd : FuncData} {x : Str} {s1 : Shared} {vs : List Value} {ns : List Int}
    (KX : K.In s1.heap) (hns : s1.heap.Ns mainGlobals mg) (hb : s1.heap.Ns builtinsNs mb) (hbb : ∀ x : Str, x ≠ "__name__" → mb x = bootBuiltins x) (hlim : s1.heap.NoLimit) (hg : s1.gens = #[])
    (ha : s1.heap.get? a = some { cls := .type "list", data := .seq vs.toArray }) (hi : IntsAre vs ns) (hl : ns.length ≤ sizeLine)
    (F : ∀ base : Heap, K.In base → base.Ns mainGlobals mg → FnAt P w K mg base callerA fa fd [x] (spL n K)) (hbind : ∀ (s : Shared) (u : Value), BindsTo s fd ⟨[u], []⟩ [(x, u)])
    (hln : ns.length ≤ n) (bits : ∀ z ∈ ns, Builtin.Int.intBits z ≤ 1048576) :
    codeAny (model P w) callerA (.call (.ref fa) ⟨[.ref a], []⟩) (fun r s' => r = .ok (.ret (.bool true)) ∧ OldK s1.heap s'.heap ∧ s'.os = s1.os ∧ AllBare s'.gens) s1 := by
  have rv := vals_ints hi
  have lenV := hi.length
  have main : ∀ H : Hp, Only H → SqL K H a (ns.map V.int) → HOk P w H s1.heap → (∀ b, H b ≠ none → b = a) → (H a ≠ none → K.lookup a = none) →
      codeAny (model P w) callerA (.call (.ref fa) ⟨[.ref a], []⟩) (fun r s' => r = .ok (.ret (.bool true)) ∧ OldK s1.heap s'.heap ∧ s'.os = s1.os ∧ AllBare s'.gens) s1 := by
    intro H hO hS hok hA hKn
    have noA : ∀ {b : Addr} {o : Obj} {es : Array DictEntry} {ep : Nat}, s1.heap.get? b = some o → o.data = .dict es ep → H b = none := fun {b o es ep} e d => Classical.byContradiction fun q => by
      have e' : b = a := hA b q
      subst e'
      rw [ha] at e; cases e
      exact nomatch (show Data.seq vs.toArray _ = Data.dict es ep from d)
    have nsK : ∀ {b : Addr} {m : Str → Option Value}, s1.heap.Ns b m → (hidT s1.heap H).Ns b m := fun {b m} ⟨o, es, ep, e, d, r⟩ => ⟨o, es, ep, hidT_get e (noA e d), d, r⟩
    have hKb : K.In (hidT s1.heap H) := fun b o e => hidT_get (KX b o e) (Classical.byContradiction fun q => by
      have e' : b = a := hA b q
      subst e'
      rw [hKn q] at e; cases e)
    have ground : Env0 P w K mg (hidT s1.heap H) callerA [] s1 H := ⟨rfl, ⟨hKb, nsK hns, ⟨mb, nsK hb, hbb⟩, hlim.elim fun mc z => ⟨mc, nsK z.1, z.2⟩⟩, fun b o e => of_hidT e, Nat.le_of_eq (hidT_size _ _), trivial, fun b z => (nomatch (show b ∈ ([] : List Addr) from z)), hok, .of_eq hg⟩
    refine codeAny_mono (F _ hKb (nsK hns) [] s1 H ⟨[.ref a], []⟩ [.ref a] [.ref a] (fun v _ => v = .bl true) (fun _ _ _ => False) ground (hbind s1 (.ref a)) (.cons rfl .nil) ⟨a, ns, rfl, hln, bits, hO, hS, fun _ => rfl⟩) fun r s' h => ?_
    match r, h with
    | .error e, h => obtain ⟨_, _, _, _, _, _, _, _, _, _, _, _, z⟩ := h; exact z.elim
    | .ok .next, h => exact False.elim h
    | .ok .brk, h => exact False.elim h
    | .ok .cont, h => exact False.elim h
    | .ok (.ret u), h =>
      obtain ⟨v, H', os, bare, un, hok', r', q⟩ := h
      obtain rfl : v = .bl true := q
      obtain rfl : u = Value.bool true := r'
      refine ⟨rfl, OldK.of_keep fun b o e => ?_, os, bare⟩
      cases q : H b with
      | none => exact un.keep b o e q (fun z => nomatch (show b ∈ ([] : List Addr) from z)) (by simp)
      | some u =>
        rcases hO b with z | ⟨ob, xs, z⟩
        · rw [q] at z; cases z
        · have h1 := (hok b _ z).1
          have h2 := (hok' b _ (un.frzs b ob _ z)).1
          rw [e] at h1; cases h1
          exact h2
  cases hk : K.lookup a with
  | some o =>
    have e := KX a o hk
    rw [ha] at e
    cases e
    exact main (fun _ => none) (fun _ => .inl rfl) (.inr ⟨_, vs.toArray, _, hk, rfl, rfl, rfl, by rw [List.size_toArray, lenV]; exact hl, by simpa using rv⟩) (fun b u z => nomatch (show (none : Option HO) = some u from z)) (fun b z => absurd rfl z) (fun z => absurd rfl z)
  | none =>
    refine main (fun b => if b = a then some (.frz { cls := .type "list", data := .seq vs.toArray } (.lst (ns.map V.int))) else none) (fun b => ?_) (.inl (.inr ⟨{ cls := .type "list", data := .seq vs.toArray }, if_pos rfl⟩)) (fun b u z => ?_) (fun b z => Classical.byContradiction fun hb => z (if_neg hb)) fun _ => hk
    · by_cases hb : b = a
      · exact .inr ⟨_, _, if_pos hb⟩
      · exact .inl (if_neg hb)
    · by_cases hb : b = a
      · cases (if_pos hb).symm.trans z
        subst hb
        exact ⟨ha, by rw [List.length_map]; exact hl, vs, _, rv, ha⟩
      · cases (if_neg hb).symm.trans z
theorem walk_smT {l : PySem.W.OpenLaw} {n : Nat} {q : Program} {loose : List Str} {XP : (Str → Option Value) → Heap → Prop} {YP : World → Heap → Prop} {d : DefRec} {K : Params → PySem.W.Frag} {x : Str}
    (hn : l.most = some n) (hn2 : n ≤ sizeLine) (hdf : d.params.defaults = []) (hY : ∀ (w : World) (h : Heap), YP w h → (K w.params).In h)
    (F : ∀ (w : World) (mg : Str → Option Value) (fa : Addr) (h : Heap), (K w.params).In h → h.Ns mainGlobals mg → mg d.name = some (.ref fa) →
      ∃ fd : FuncData, (∀ (s : Shared) (u : Value), BindsTo s fd ⟨[u], []⟩ [(x, u)]) ∧
        ∀ base : Heap, (K w.params).In base → base.Ns mainGlobals mg → FnAt l.prog w (K w.params) mg base callerA fa fd [x] (spL n (K w.params))) :
    PySem.W.WalkO q loose XP YP l.row.toRowW d [] (fun f vs => PySem.call f vs) := by
  refine Att.attach_callB hn hdf fun w s0 s1 mg mb fa o pm cd doc a vs ns G Y ho hd hcd hmg hobj hints hlen hbits hg => ?_
  obtain ⟨fd, hb, hF⟩ := F w mg fa _ (hY w _ Y) G.T.g hmg
  exact law_called (hY w _ Y) G.T.g G.T.b G.T.builtins G.T.nolimit hg hobj hints (Nat.le_trans hlen hn2) hF hb hlen hbits
end
end Sm
end
section
/-! Sm, part J: how denotations are reckoned (for simp). -/
namespace Sm
open PySem PySem.Spec PyProof.Rows L2
section
variable {S S' : Sto} {ρ : En} {f fa fb fc : DE} {fs : En → Mo (List D)} {ft fu : En → Mo Bool} {s t u : DS} {d e : D} {i j : Int}
/-! ### expressions -/
@[simp] theorem cVar_e (i : Nat) : cVar i ρ S = (match ρ[i]? with
  | some (some d) => .ok d S
  | _ => .no) := rfl
@[simp] theorem cC_e : cC d ρ S = .ok d S := rfl
@[simp] theorem cNil_e : cNil ρ S = .ok [] S := rfl
@[simp] theorem cCons_e : cCons f fs ρ S = (f ρ S).andThen fun x S1 => (fs ρ S1).andThen fun xs S2 => .ok (x :: xs) S2 := rfl
@[simp] theorem cTup_e : cTup fs ρ S = (fs ρ S).andThen fun xs S1 => if fit xs.length = true then .ok (.tup xs) S1 else .no := rfl
@[simp] theorem cLst_e : cLst fs ρ S = (fs ρ S).andThen fun xs S1 => newL xs S1 := rfl
@[simp] theorem cOp_e {h : D → D → Mo D} : cOp h fa fb ρ S = (fa ρ S).andThen fun x S1 => (fb ρ S1).andThen fun y S2 => h x y S2 := rfl
@[simp] theorem cUn_e {h : D → Mo D} : cUn h fa ρ S = (fa ρ S).andThen fun x S1 => h x S1 := rfl
@[simp] theorem cTest_e : cTest f ρ S = (f ρ S).andThen fun x S1 => asB x S1 := rfl
@[simp] theorem asB_e {b : Bool} : asB (.bl b) S = .ok b S := rfl
@[simp] theorem cTru_e : cTru f ρ S = (f ρ S).andThen fun x S1 => trD x S1 := rfl
@[simp] theorem cNotT_e : cNotT ft ρ S = (ft ρ S).andThen fun k S1 => .ok (!k) S1 := rfl
@[simp] theorem cAndT_e : cAndT ft fu ρ S = (ft ρ S).andThen fun k S1 => if k = true then fu ρ S1 else .ok false S1 := by
  show (ft ρ S).andThen _ = _
  congr
  funext k S1
  cases k <;> rfl
@[simp] theorem cOrT_e : cOrT ft fu ρ S = (ft ρ S).andThen fun k S1 => if k = true then .ok true S1 else fu ρ S1 := by
  show (ft ρ S).andThen _ = _
  congr
  funext k S1
  cases k <;> rfl
@[simp] theorem cAnd_e : cAnd fa fb ρ S = (fa ρ S).andThen fun x S1 => (trD x S1).andThen fun k S2 => if k = true then fb ρ S2 else .ok x S2 := by
  show (fa ρ S).andThen _ = _
  congr
  funext x S1
  show (trD x S1).andThen _ = _
  congr
  funext k S2
  cases k <;> rfl
@[simp] theorem cOr_e : cOr fa fb ρ S = (fa ρ S).andThen fun x S1 => (trD x S1).andThen fun k S2 => if k = true then .ok x S2 else fb ρ S2 := by
  show (fa ρ S).andThen _ = _
  congr
  funext x S1
  show (trD x S1).andThen _ = _
  congr
  funext k S2
  cases k <;> rfl
@[simp] theorem cNot_e : cNot fa ρ S = (fa ρ S).andThen fun x S1 => (trD x S1).andThen fun k S2 => .ok (.bl (!k)) S2 := rfl
@[simp] theorem cIf_e : cIf ft fa fb ρ S = (ft ρ S).andThen fun k S1 => if k = true then fa ρ S1 else fb ρ S1 := by
  show (ft ρ S).andThen _ = _
  congr
  funext k S1
  cases k <;> rfl
@[simp] theorem cCall_e {h : List D → Mo D} : cCall h fs ρ S = (fs ρ S).andThen fun xs S1 => h xs S1 := rfl
@[simp] theorem cChain_e {h h' : D → D → Mo D} : cChain h h' fa fb fc ρ S = (fa ρ S).andThen fun x S1 => (fb ρ S1).andThen fun y S2 => (h x y S2).andThen fun z S3 => (asB z S3).andThen fun k S4 => if k = true then (fc ρ S4).andThen fun u S5 => h' y u S5 else .ok (.bl false) S4 := by
  show (fa ρ S).andThen _ = _
  congr
  funext x S1
  show (fb ρ S1).andThen _ = _
  congr
  funext y S2
  show (h x y S2).andThen _ = _
  congr
  funext z S3
  show (asB z S3).andThen _ = _
  congr
  funext k S4
  cases k <;> rfl
@[simp] theorem cMt_e {T : String} {h : D → List D → Mo D} : cMt T h fa fs ρ S = (fa ρ S).andThen fun x S1 => (chk T x S1).andThen fun _ S2 => (fs ρ S2).andThen fun xs S3 => h x xs S3 := rfl
@[simp] theorem cMt0_e {T : String} {h : D → List D → Mo D} : cMt0 T h fa ρ S = (fa ρ S).andThen fun x S1 => (chk T x S1).andThen fun _ S2 => h x [] S2 := rfl
@[simp] theorem cFld_e {T : FTab} {nm : Str} : cFld T nm fa ρ S = (fa ρ S).andThen fun x S1 => fldD T nm x S1 := rfl
@[simp] theorem apF_e {np : Nat} {F : List D → Mo D} {ds : List D} : apF np F ds S = if ds.length = np then F ds S else .no := by
  unfold apF
  split <;> rfl
@[simp] theorem ar1_e {h : D → Mo D} : ar1 h [d] S = h d S := rfl
@[simp] theorem ar2_e {h : D → D → Mo D} : ar2 h [d, e] S = h d e S := rfl
@[simp] theorem am0_e {h : D → Mo D} : am0 h d [] S = h d S := rfl
@[simp] theorem am1_e {h : D → D → Mo D} : am1 h d [e] S = h d e S := rfl
@[simp] theorem optD_some {α : Type} {a : α} : optD (some a) S = .ok a S := rfl
@[simp] theorem optD_none {α : Type} : optD (none : Option α) S = .no := rfl
@[simp] theorem newL_e {xs : List D} (h : xs.length ≤ 16777216) : newL xs S = .ok (.loc S.length) (S ++ [.lst xs]) := by
  unfold newL
  rw [if_pos (fit_of h)]
@[simp] theorem fit_e {n : Nat} (h : n ≤ 16777216) : fit n = true := fit_of h
@[simp] theorem cSl_e {lo hi : En → Mo (Option Int)} : cSl fa lo hi ρ S = (fa ρ S).andThen fun x S1 => (lo ρ S1).andThen fun l S2 => (hi ρ S2).andThen fun h S3 => slD l h x S3 := rfl
@[simp] theorem cPart_none : cPart none ρ S = .ok none S := rfl
@[simp] theorem cPart_some : cPart (some fa) ρ S = (fa ρ S).andThen fun x S1 => match x with
    | .int i => .ok (some i) S1
    | _ => .no := by
  show (fa ρ S).andThen _ = _
  congr
  funext x S1
  cases x <;> rfl
/-! ### operations -/
@[simp] theorem addD_int : addD (.int i) (.int j) S = .ok (.int (i + j)) S := rfl
@[simp] theorem addD_str {x y : Str} : addD (.str x) (.str y) S = if fit (x.length + y.length) = true then .ok (.str (x ++ y)) S else .no := rfl
@[simp] theorem addD_tup {x y : List D} : addD (.tup x) (.tup y) S = if fit (x.length + y.length) = true then .ok (.tup (x ++ y)) S else .no := rfl
@[simp] theorem addD_loc {l l' : Nat} : addD (.loc l) (.loc l') S = addO S S[l]? S[l']? := rfl
@[simp] theorem subD_int : subD (.int i) (.int j) S = .ok (.int (i - j)) S := rfl
@[simp] theorem mulD_int : mulD (.int i) (.int j) S = if okMul i j = true then .ok (.int (i * j)) S else .no := rfl
@[simp] theorem fdivD_int : fdivD (.int i) (.int j) S = if okDiv i j = true then .ok (.int (i.fdiv j)) S else .no := rfl
@[simp] theorem modD_int : modD (.int i) (.int j) S = if okMod i j = true then .ok (.int (i % j)) S else .no := rfl
@[simp] theorem powD_int : powD (.int i) (.int j) S = if okPow i j = true then .ok (.int (i ^ j.toNat)) S else .no := rfl
@[simp] theorem shrD_int : shrD (.int i) (.int j) S = if okShr i j = true then .ok (.int (i / 2 ^ j.toNat)) S else .no := rfl
@[simp] theorem andD_int : andD (.int i) (.int j) S = .ok (.int (Builtin.bitAnd i j)) S := rfl
@[simp] theorem negD_int : negD (.int i) S = .ok (.int (-i)) S := rfl
@[simp] theorem ltI_int : ltI (.int i) (.int j) S = .ok (.bl (decide (i < j))) S := rfl
@[simp] theorem leI_int : leI (.int i) (.int j) S = .ok (.bl (decide (i ≤ j))) S := rfl
@[simp] theorem gtI_int : gtI (.int i) (.int j) S = .ok (.bl (decide (j < i))) S := rfl
@[simp] theorem geI_int : geI (.int i) (.int j) S = .ok (.bl (decide (j ≤ i))) S := rfl
@[simp] theorem okMod_e (h : 0 < j) : okMod i j = true := okMod_iff.mpr h
@[simp] theorem okShr_e (h : 0 ≤ j) : okShr i j = true := okShr_iff.mpr h
@[simp] theorem okPow_e (h : 0 ≤ j) (h2 : j ≤ 1000000) (h3 : i.natAbs < 18446744073709551616) : okPow i j = true := okPow_iff.mpr ⟨h, h2, h3⟩
theorem log2_lt {n k : Nat} (hk : 0 < k) (h : n < 2 ^ k) : n.log2 < k := by
  rcases Nat.eq_zero_or_pos n with z | z
  · subst z; simpa using hk
  · exact (Nat.log2_lt (Nat.ne_of_gt z)).mpr h
@[simp] theorem okDiv_e (h : 0 < j) (h2 : j < 18446744073709551616) : okDiv i j = true := okDiv_iff.mpr ⟨by omega, by
  have : j.natAbs.log2 < 64 := log2_lt (by decide) (by omega)
  omega⟩
@[simp] theorem fdiv_e (h : 0 < j) : i.fdiv j = i / j := Int.fdiv_eq_ediv_of_nonneg i (by omega)
@[simp] theorem okMul_e (h : -18446744073709551616 < i) (h2 : i < 18446744073709551616) : okMul i j = true := okMul_iff.mpr (.inl (.inl ⟨by simpa using h, by simpa using h2⟩))
@[simp] theorem intD_int : intD (.int i) S = .ok (.int i) S := rfl
@[simp] theorem intD_bl {b : Bool} : intD (.bl b) S = .ok (.int (if b = true then 1 else 0)) S := rfl
@[simp] theorem absD_int : absD (.int i) S = .ok (.int (if i < 0 then -i else i)) S := rfl
@[simp] theorem maxD_int : maxD (.int i) (.int j) S = .ok (.int (if j > i then j else i)) S := rfl
@[simp] theorem minD_int : minD (.int i) (.int j) S = .ok (.int (if j < i then j else i)) S := rfl
theorem eqN_flat {n : Nat} {b : Bool} (h : scalF d e = some b) : eqN S n d e = some b := by
  cases n with
  | zero => exact h
  | succ n => unfold eqN; rw [h]
theorem okTop_flat (h : flatD d = true) : okTop S d = true := by
  cases d <;> first | rfl | (cases h; done)
theorem eqQ_flat {b : Bool} (h : scalF d e = some b) : eqQ d e S = some b := by
  obtain ⟨h1, h2, _⟩ := scalF_some h
  unfold eqQ
  rw [okTop_flat h1, okTop_flat h2, eqN_flat h]
  rfl
theorem eqD_flat {b : Bool} (h : scalF d e = some b) : eqD d e S = .ok (.bl b) S := by
  unfold eqD
  rw [eqQ_flat h]
theorem neD_flat {b : Bool} (h : scalF d e = some b) : neD d e S = .ok (.bl (!b)) S := by
  unfold neD
  rw [eqQ_flat h]
@[simp] theorem eqD_int : eqD (.int i) (.int j) S = .ok (.bl (i == j)) S := eqD_flat rfl
@[simp] theorem neD_int : neD (.int i) (.int j) S = .ok (.bl (!(i == j))) S := neD_flat rfl
@[simp] theorem eqD_str {x y : Str} : eqD (.str x) (.str y) S = .ok (.bl (x == y)) S := eqD_flat rfl
@[simp] theorem neD_str {x y : Str} : neD (.str x) (.str y) S = .ok (.bl (!(x == y))) S := neD_flat rfl
@[simp] theorem eqD_bl {x y : Bool} : eqD (.bl x) (.bl y) S = .ok (.bl (x == y)) S := eqD_flat rfl
@[simp] theorem neD_bl {x y : Bool} : neD (.bl x) (.bl y) S = .ok (.bl (!(x == y))) S := neD_flat rfl
@[simp] theorem eqD_ni : eqD .non (.int j) S = .ok (.bl false) S := eqD_flat rfl
@[simp] theorem eqD_in : eqD (.int j) .non S = .ok (.bl false) S := eqD_flat rfl
@[simp] theorem eqD_ns {x : Str} : eqD .non (.str x) S = .ok (.bl false) S := eqD_flat rfl
@[simp] theorem eqD_sn {x : Str} : eqD (.str x) .non S = .ok (.bl false) S := eqD_flat rfl
@[simp] theorem eqD_is {x : Str} : eqD (.int i) (.str x) S = .ok (.bl false) S := eqD_flat rfl
@[simp] theorem eqD_si {x : Str} : eqD (.str x) (.int i) S = .ok (.bl false) S := eqD_flat rfl
@[simp] theorem neD_ni : neD .non (.int j) S = .ok (.bl true) S := neD_flat (b := false) rfl
@[simp] theorem neD_in : neD (.int j) .non S = .ok (.bl true) S := neD_flat (b := false) rfl
@[simp] theorem neD_is {x : Str} : neD (.int i) (.str x) S = .ok (.bl true) S := neD_flat (b := false) rfl
@[simp] theorem neD_si {x : Str} : neD (.str x) (.int i) S = .ok (.bl true) S := neD_flat (b := false) rfl
/-- all of them, if all can be told -/
def mapO (f : D → Option D) : List D → Option (List D)
  | [] => some []
  | x :: xs => match f x, mapO f xs with
    | some y, some ys => some (y :: ys)
    | _, _ => none
/-- data with its lists written out, n deep at most -/
def cont (S : Sto) : Nat → D → Option D
  | 0, d => if flatD d = true then some d else none
  | n + 1, .tup xs => (mapO (cont S n) xs).map .tup
  | n + 1, .lsc xs => (mapO (cont S n) xs).map .lsc
  | n + 1, .loc l => match S[l]? with
    | some (.lst xs) => (mapO (cont S n) xs).map .lsc
    | some (.ins _ _) => some (.loc l)
    | _ => none
  | _ + 1, d => if flatD d = true then some d else none
theorem mapO_len {f : D → Option D} : ∀ {xs ys : List D}, mapO f xs = some ys → ys.length = xs.length
  | [], _, h => by cases h; rfl
  | x :: xs, ys, h => by
    unfold mapO at h
    cases q : f x with
    | none => simp only [q] at h; cases h
    | some y =>
      cases q2 : mapO f xs with
      | none => simp only [q, q2] at h; cases h
      | some zs =>
        simp only [q, q2] at h
        cases h
        simp [mapO_len q2]
theorem eqAll_cont {f : D → D → Option Bool} {c : D → Option D} (hf : ∀ d e r, c d = some r → c e = some r → f d e = some true) : ∀ {xs ys zs : List D}, mapO c xs = some zs → mapO c ys = some zs → eqAll f xs ys = some true
  | [], ys, _, h, h' => by cases h; cases ys with
    | nil => rfl
    | cons _ _ => have := mapO_len h'; simp at this
  | x :: xs, [], _, h, h' => by cases h'; have := mapO_len h; simp at this
  | x :: xs, y :: ys, zs, h, h' => by
    unfold mapO at h h'
    cases q1 : c x with
    | none => simp only [q1] at h; cases h
    | some u =>
      cases q2 : mapO c xs with
      | none => simp only [q1, q2] at h; cases h
      | some us =>
        cases q3 : c y with
        | none => simp only [q3] at h'; cases h'
        | some w =>
          cases q4 : mapO c ys with
          | none => simp only [q3, q4] at h'; cases h'
          | some ws =>
            simp only [q1, q2] at h
            simp only [q3, q4] at h'
            cases h
            cases h'
            unfold eqAll
            rw [hf x y _ q1 q3, eqAll_cont hf q2 q4]
            rfl
theorem flat_self : flatD d = true → scalF d d = some true := by
  intro h
  cases d <;> first | (cases h; done) | (simp [scalF, flatD, eqF])
theorem cont_shape {n : Nat} {r : D} (h : cont S n d = some r) : (flatD d = true ∧ r = d) ∨ (∃ k xs zs, n = k + 1 ∧ d = .tup xs ∧ mapO (cont S k) xs = some zs ∧ r = .tup zs) ∨ (∃ k xs zs, n = k + 1 ∧ lstS S d = some xs ∧ flatD d = false ∧ (∀ ys, d ≠ .tup ys) ∧ mapO (cont S k) xs = some zs ∧ r = .lsc zs) ∨ (∃ l, d = .loc l ∧ r = .loc l ∧ lstS S d = none ∧ ∃ k, n = k + 1) := by
  cases n with
  | zero =>
    have h2 : (if flatD d = true then some d else none) = some r := by cases d <;> exact h
    split at h2
    · rename_i q; cases h2; exact .inl ⟨q, rfl⟩
    · cases h2
  | succ k =>
    cases d with
    | tup xs =>
      obtain ⟨zs, q, rfl⟩ := Option.map_eq_some_iff.mp (show (mapO (cont S k) xs).map D.tup = some r from h)
      exact .inr (.inl ⟨k, xs, zs, rfl, rfl, q, rfl⟩)
    | lsc xs =>
      obtain ⟨zs, q, rfl⟩ := Option.map_eq_some_iff.mp (show (mapO (cont S k) xs).map D.lsc = some r from h)
      exact .inr (.inr (.inl ⟨k, xs, zs, rfl, rfl, rfl, (by intro _ z; cases z), q, rfl⟩))
    | loc l =>
      unfold cont at h
      cases q0 : S[l]? with
      | none => simp only [q0] at h; cases h
      | some o =>
        simp only [q0] at h
        cases o with
        | lst xs =>
          obtain ⟨zs, q, rfl⟩ := Option.map_eq_some_iff.mp h
          exact .inr (.inr (.inl ⟨k, xs, zs, rfl, by show lstO S[l]? = _; rw [q0]; rfl, rfl, (by intro _ z; cases z), q, rfl⟩))
        | ins c fs => cases h; exact .inr (.inr (.inr ⟨l, rfl, rfl, by show lstO S[l]? = _; rw [q0]; rfl, k, rfl⟩))
        | dct kvs => cases h
        | lck kvs => cases h
    | _ =>
      first
        | (cases h; exact .inl ⟨rfl, rfl⟩)
        | (cases h; done)
theorem eqN_cont (n : Nat) : ∀ {d e r : D}, cont S n d = some r → cont S n e = some r → eqN S n d e = some true := by
  induction n using Nat.strongRecOn with
  | ind n ih =>
    intro d e r h h'
    rcases cont_shape h with ⟨f1, rfl⟩ | ⟨k, xs, zs, rfl, rfl, m1, rfl⟩ | ⟨k, xs, zs, rfl, l1, f1, t1, m1, rfl⟩ | ⟨l, rfl, rfl, l1, k, rfl⟩
    · rcases cont_shape h' with ⟨f2, rfl⟩ | ⟨_, _, _, _, rfl, _, rfl⟩ | ⟨_, _, _, _, _, f2, _, _, rfl⟩ | ⟨l, rfl, rfl, _⟩
      · exact eqN_flat (flat_self f1)
      · cases f1
      · cases f1
      · cases f1
    · rcases cont_shape h' with ⟨f2, e2⟩ | ⟨_, ys, zs', e1, rfl, m2, e2⟩ | ⟨_, _, _, _, _, _, _, _, e2⟩ | ⟨l, _, e2, _⟩
      · subst e2; cases f2
      · cases e1
        cases e2
        show (match scalF (.tup xs) (.tup ys) with
          | some b => some b
          | none => (eqAll (eqN S k) xs ys).map fun b => b && decide (xs.length = ys.length)) = some true
        rw [eqAll_cont (f := eqN S k) (c := cont S k) (fun _ _ _ a b => ih k (Nat.lt_succ_self k) a b) m1 m2]
        have : xs.length = ys.length := by rw [← mapO_len m1, ← mapO_len m2]
        simp [scalF, flatD, this]
      · cases e2
      · cases e2
    · rcases cont_shape h' with ⟨f2, e2⟩ | ⟨_, ys, zs', e1, rfl, m2, e2⟩ | ⟨_, ys, zs', e1, l2, f2, t2, m2, e2⟩ | ⟨l, _, e2, _⟩
      · subst e2; cases f2
      · cases e2
      · cases e1
        cases e2
        have key : eqC (eqN S k) S d e = eqL (eqN S k) S d e := by
          cases d <;> cases e <;> first | rfl | exact absurd rfl (t1 _) | exact absurd rfl (t2 _)
        unfold eqN
        have : scalF d e = none := by unfold scalF; rw [f1]; rfl
        rw [this]
        dsimp only
        rw [key]
        unfold eqL
        simp only [l1, l2]
        rw [if_pos (by rw [← mapO_len m1, ← mapO_len m2])]
        exact eqAll_cont (f := eqN S k) (c := cont S k) (fun _ _ _ a b => ih k (Nat.lt_succ_self k) a b) m1 m2
      · cases e2
    · rcases cont_shape h' with ⟨f2, e2⟩ | ⟨_, _, _, _, _, _, e2⟩ | ⟨_, _, _, _, _, _, _, _, e2⟩ | ⟨l', e1, e2, l2, _⟩
      · subst e2; cases f2
      · cases e2
      · cases e2
      · cases e2
        subst e1
        unfold eqN
        show eqL (eqN S k) S (.loc l) (.loc l) = some true
        unfold eqL
        simp only [l1]
        simp [sameI]
theorem top_cont {n : Nat} {r : D} (h : cont S n d = some r) (hn : ∀ l, r ≠ .loc l) : okTop S d = true := by
  rcases cont_shape h with ⟨f1, rfl⟩ | ⟨k, xs, zs, rfl, rfl, m1, rfl⟩ | ⟨k, xs, zs, rfl, l1, f1, t1, m1, rfl⟩ | ⟨l, rfl, rfl, l1, k, rfl⟩
  · exact okTop_flat f1
  · rfl
  · have : okTop S d = (flatD d || (lstS S d).isSome) := by cases d <;> first | rfl | exact absurd rfl (t1 _)
    rw [this, l1]
    simp
  · exact absurd rfl (hn l)
theorem ne_cont {r : D} (h : cont S 60 d = some r) (h' : cont S 60 e = some r) (hn : ∀ l, r ≠ .loc l) : neD d e S = .ok (.bl false) S := by
  unfold neD eqQ
  rw [top_cont h hn, top_cont h' hn, eqN_cont 60 h h']
  rfl
@[simp] theorem mapO_nil {f : D → Option D} : mapO f [] = some [] := rfl
@[simp] theorem mapO_cons {f : D → Option D} {x : D} {xs : List D} : mapO f (x :: xs) = (f x).bind fun y => (mapO f xs).map fun ys => y :: ys := by
  conv => lhs; unfold mapO
  cases f x <;> cases mapO f xs <;> rfl
@[simp] theorem cont_tup {n : Nat} {xs : List D} : cont S (n + 1) (.tup xs) = (mapO (cont S n) xs).map .tup := rfl
@[simp] theorem cont_lsc {n : Nat} {xs : List D} : cont S (n + 1) (.lsc xs) = (mapO (cont S n) xs).map .lsc := rfl
@[simp] theorem cont_int {n : Nat} : cont S n (.int i) = some (.int i) := by cases n <;> rfl
@[simp] theorem cont_str {n : Nat} {x : Str} : cont S n (.str x) = some (.str x) := by cases n <;> rfl
@[simp] theorem cont_bl {n : Nat} {x : Bool} : cont S n (.bl x) = some (.bl x) := by cases n <;> rfl
@[simp] theorem cont_non {n : Nat} : cont S n .non = some .non := by cases n <;> rfl
theorem cont_loc {n l : Nat} : cont S (n + 1) (.loc l) = match S[l]? with
    | some (.lst xs) => (mapO (cont S n) xs).map .lsc
    | some (.ins _ _) => some (.loc l)
    | _ => none := rfl
@[simp] theorem isNone_n : isNone .non .non S = .ok (.bl true) S := rfl
@[simp] theorem isNone_i : isNone (.int i) .non S = .ok (.bl false) S := rfl
@[simp] theorem isNone_s {x : Str} : isNone (.str x) .non S = .ok (.bl false) S := rfl
@[simp] theorem isNone_t {x : List D} : isNone (.tup x) .non S = .ok (.bl false) S := rfl
@[simp] theorem isNone_l {x : Nat} : isNone (.loc x) .non S = .ok (.bl false) S := rfl
@[simp] theorem notNone_n : notNone .non .non S = .ok (.bl false) S := rfl
@[simp] theorem notNone_i : notNone (.int i) .non S = .ok (.bl true) S := rfl
@[simp] theorem notNone_s {x : Str} : notNone (.str x) .non S = .ok (.bl true) S := rfl
@[simp] theorem notNone_t {x : List D} : notNone (.tup x) .non S = .ok (.bl true) S := rfl
@[simp] theorem notNone_l {x : Nat} : notNone (.loc x) .non S = .ok (.bl true) S := rfl
@[simp] theorem getD_tup {xs : List D} : getD (.tup xs) (.int i) S = optD (L2.atI xs i) S := rfl
@[simp] theorem getD_lsc {xs : List D} : getD (.lsc xs) (.int i) S = optD (L2.atI xs i) S := rfl
@[simp] theorem getD_loc {l : Nat} : getD (.loc l) d S = optD (getO d S[l]?) S := rfl
@[simp] theorem getO_lst {xs : List D} : getO (.int i) (some (.lst xs)) = L2.atI xs i := rfl
@[simp] theorem getO_dctI {kvs : List (Key × D)} : getO (.int i) (some (.dct kvs)) = valD kvs (.inl i) := rfl
@[simp] theorem getO_dctS {x : Str} {kvs : List (Key × D)} : getO (.str x) (some (.dct kvs)) = valD kvs (.inr x) := rfl
@[simp] theorem isiD_e {J : TK → TK → Option Bool} : isiD J d e S = optD ((isiQ J d e S).map D.bl) S := rfl
@[simp] theorem fldD_loc {T : FTab} {nm : Str} {l : Nat} : fldD T nm (.loc l) S = optD (fldO T nm S[l]?) S := rfl
@[simp] theorem fldO_ins {T : FTab} {nm : Str} {c : Nat} {fs : List (Str × D)} : fldO T nm (some (.ins c fs)) = if T c nm = true then fs.lookup nm else none := rfl
@[simp] theorem lenD_e : lenD d S = optD (lenQ d S) S := rfl
@[simp] theorem lenQ_tup {xs : List D} : lenQ (.tup xs) S = some (.int xs.length) := rfl
@[simp] theorem lenQ_lsc {xs : List D} : lenQ (.lsc xs) S = some (.int xs.length) := rfl
@[simp] theorem lenQ_loc {l : Nat} : lenQ (.loc l) S = lenO S[l]? := rfl
@[simp] theorem lenO_lst {xs : List D} : lenO (some (.lst xs)) = some (.int xs.length) := rfl
@[simp] theorem lenO_dct {xs : List (Key × D)} : lenO (some (.dct xs)) = some (.int xs.length) := rfl
@[simp] theorem tyQ_non : tyQ .non S = some (.inl "NoneType") := rfl
@[simp] theorem tyQ_bl {b : Bool} : tyQ (.bl b) S = some (.inl "bool") := rfl
@[simp] theorem tyQ_int : tyQ (.int i) S = some (.inl "int") := rfl
@[simp] theorem tyQ_str {x : Str} : tyQ (.str x) S = some (.inl "str") := rfl
@[simp] theorem tyQ_tup {x : List D} : tyQ (.tup x) S = some (.inl "tuple") := rfl
@[simp] theorem tyQ_loc {l : Nat} : tyQ (.loc l) S = tyO S[l]? := rfl
@[simp] theorem tyO_lst {x : List D} : tyO (some (.lst x)) = some (.inl "list") := rfl
@[simp] theorem tyO_dct {x : List (Key × D)} : tyO (some (.dct x)) = some (.inl "dict") := rfl
@[simp] theorem tyO_ins {c : Nat} {x : List (Str × D)} : tyO (some (.ins c x)) = some (.inr c) := rfl
@[simp] theorem clQ_ty {n : String} : clQ (.ty n) = some (.inl n) := rfl
@[simp] theorem clQ_cls {n : Nat} : clQ (.cls n) = some (.inr n) := rfl
@[simp] theorem trD_bl {b : Bool} : trD (.bl b) S = .ok b S := rfl
@[simp] theorem trD_int : trD (.int i) S = .ok (i != 0) S := rfl
@[simp] theorem trD_non : trD .non S = .ok false S := rfl
@[simp] theorem trD_tup {x : List D} : trD (.tup x) S = .ok (!x.isEmpty) S := rfl
@[simp] theorem trD_locs {l : Nat} : trD (.loc l) S = trO S S[l]? := rfl
@[simp] theorem trO_lst {x : List D} : trO S (some (.lst x)) = .ok (!x.isEmpty) S := rfl
@[simp] theorem trO_dct {x : List (Key × D)} : trO S (some (.dct x)) = .ok (!x.isEmpty) S := rfl
@[simp] theorem chk_e {T : String} : chk T d S = if tyD T d S = true then .ok () S else .no := rfl
@[simp] theorem appD_loc {l : Nat} : appD (.loc l) e S = unitQ (appO e l S S[l]?) := rfl
@[simp] theorem appO_lst {l : Nat} {xs : List D} : appO e l S (some (.lst xs)) = if fit (xs.length + 1) = true then some (S.set l (.lst (xs ++ [e]))) else none := rfl
@[simp] theorem unitQ_some : unitQ (some S) = .ok .non S := rfl
/-! ### statements -/
def Fz.sq (r : Fz) (t : DS) : Fz := match r with
  | .nx ρ' S' => t ρ' S'
  | o => o
@[simp] theorem sq_nx : (Fz.nx ρ S).sq t = t ρ S := rfl
@[simp] theorem sq_ret : (Fz.ret d S).sq t = .ret d S := rfl
@[simp] theorem sq_no : Fz.no.sq t = .no := rfl
@[simp] theorem sq_brk : (Fz.brk ρ S).sq t = .brk ρ S := rfl
@[simp] theorem sq_cnt : (Fz.cnt ρ S).sq t = .cnt ρ S := rfl
@[simp] theorem sq_ex {x : Exn} : (Fz.ex x ρ S).sq t = .ex x ρ S := rfl
@[simp] theorem cSeq_e : cSeq s t ρ S = (s ρ S).sq t := by
  unfold cSeq Fz.sq
  rfl
@[simp] theorem cNext_e : cNext ρ S = .nx ρ S := rfl
@[simp] theorem cBrk_e : cBrk ρ S = .brk ρ S := rfl
@[simp] theorem cCnt_e : cCnt ρ S = .cnt ρ S := rfl
@[simp] theorem cExpr_e : cExpr f ρ S = (f ρ S).toF ρ fun _ S1 => .nx ρ S1 := rfl
@[simp] theorem cRet_e : cRet f ρ S = (f ρ S).toF ρ fun d S1 => .ret d S1 := rfl
@[simp] theorem cRetN_e : cRetN ρ S = .ret .non S := rfl
@[simp] theorem cIfS_e : cIfS ft s t ρ S = (ft ρ S).toF ρ fun k S1 => if k = true then s ρ S1 else t ρ S1 := by
  show (ft ρ S).toF ρ _ = _
  congr
  funext k S1
  cases k <;> rfl
@[simp] theorem kName_e {i : Nat} : kName i d ρ S = .nx (ρ.set i (some d)) S := rfl
def Fz.nxO (r : Fz) : Fz := match r with
  | .nx ρ' S' => .nx ρ' S'
  | _ => .no
@[simp] theorem nxO_nx : (Fz.nx ρ S).nxO = .nx ρ S := rfl
@[simp] theorem cAsg_e {k : DG} : cAsg f k ρ S = (f ρ S).toF ρ fun d S1 => (k d ρ S1).nxO := rfl
@[simp] theorem kTup_e {ks : DGs} {n : Nat} {xs : List D} : kTup ks n (.tup xs) ρ S = if xs.length = n then ks xs ρ S else .no := rfl
@[simp] theorem kCons_e {k : DG} {ks : DGs} {r : List D} : kCons k ks (d :: r) ρ S = match k d ρ S with
    | .nx ρ' S' => ks r ρ' S'
    | _ => .no := rfl
@[simp] theorem kNil_e : kNil [] ρ S = .nx ρ S := rfl
@[simp] theorem cPar_e {i j : Nat} : cPar i j fs ρ S = (fs ρ S).toF ρ fun ds S1 => match ds with
  | [d, e] => .nx ((ρ.set i (some d)).set j (some e)) S1
  | _ => .no := rfl
@[simp] theorem cSt_e {fo fi fv : DE} : cSt fo fi fv ρ S = (fv ρ S).toF ρ fun v S1 => (fo ρ S1).toF ρ fun o S2 => (fi ρ S2).toF ρ fun i S3 => match stQ o i v S3 with
  | some S4 => .nx ρ S4
  | none => .no := rfl
@[simp] theorem stQ_loc {l : Nat} {i v : D} : stQ (.loc l) i v S = stO i v l S S[l]? := rfl
@[simp] theorem stO_lst {l : Nat} {v : D} {xs : List D} : stO (.int i) v l S (some (.lst xs)) = (L2.ixN xs.length i).map fun j => S.set l (.lst (xs.set j v)) := rfl
@[simp] theorem stO_dctI {l : Nat} {v : D} {kvs : List (Key × D)} : stO (.int i) v l S (some (.dct kvs)) = if fit (kvs.length + 1) = true then some (S.set l (.dct (putD kvs (.inl i) v))) else none := rfl
@[simp] theorem stO_dctS {l : Nat} {v : D} {x : Str} {kvs : List (Key × D)} : stO (.str x) v l S (some (.dct kvs)) = if fit (kvs.length + 1) = true then some (S.set l (.dct (putD kvs (.inr x) v))) else none := rfl
@[simp] theorem cSetF_e {T : FTab} {nm : Str} {fo fv : DE} : cSetF T nm fo fv ρ S = (fv ρ S).toF ρ fun v S1 => (fo ρ S1).toF ρ fun o S2 => match setG T nm v o S2 with
  | some S3 => .nx ρ S3
  | none => .no := rfl
@[simp] theorem setG_loc {T : FTab} {nm : Str} {l : Nat} {v : D} : setG T nm v (.loc l) S = setO T nm v l S S[l]? := rfl
@[simp] theorem few_e {n : Nat} (h : n < 1000) : few n = true := few_iff.mpr h
@[simp] theorem setO_ins {T : FTab} {nm : Str} {l c : Nat} {v : D} {fs : List (Str × D)} : setO T nm v l S (some (.ins c fs)) = if (T c nm && few fs.length) = true then some (S.set l (.ins c (putFD nm v fs))) else none := rfl
@[simp] theorem newI_e {c np : Nat} {F : List D → Mo D} {ds : List D} : newI c np F ds S = (apF np F (.loc S.length :: ds) (S ++ [.ins c []])).andThen fun r S' => match r with
  | .non => .ok (.loc S.length) S'
  | _ => .no := rfl
theorem cFor_e {it : En → Mo Wk} {k : DG} : cFor it k s ρ S = (it ρ S).toF ρ fun w S1 => match w with
  | .items ds => loopI k s ds ρ S1
  | .view nx n => loopV k s nx n 0 ρ S1 := rfl
@[simp] theorem cIt_e : cIt f ρ S = (f ρ S).andThen fun x S1 => itD x S1 := rfl
@[simp] theorem itD_tup {xs : List D} : itD (.tup xs) S = .ok (.items xs) S := rfl
@[simp] theorem itD_lsc {xs : List D} : itD (.lsc xs) S = .ok (.items xs) S := rfl
@[simp] theorem itD_str {x : Str} : itD (.str x) S = .ok (.items (x.cps.toList.map fun c => .str ⟨#[c]⟩)) S := rfl
@[simp] theorem itD_loc {l : Nat} : itD (.loc l) S = match S[l]? with
    | some (.lst xs) => .ok (.view (liveX l) xs.length) S
    | _ => .no := rfl
@[simp] theorem loopI_nil {k : DG} : loopI k s [] ρ S = .nx ρ S := rfl
/-- what a turn leaves to the rest -/
def Fz.tn (r : Fz) (rest : DS) : Fz := match r with
  | .nx ρ' S' => rest ρ' S'
  | .cnt ρ' S' => rest ρ' S'
  | .brk ρ' S' => .nx ρ' S'
  | o => o
@[simp] theorem tn_nx : (Fz.nx ρ S).tn t = t ρ S := rfl
@[simp] theorem tn_cnt : (Fz.cnt ρ S).tn t = t ρ S := rfl
@[simp] theorem tn_brk : (Fz.brk ρ S).tn t = .nx ρ S := rfl
@[simp] theorem tn_ret : (Fz.ret d S).tn t = .ret d S := rfl
@[simp] theorem tn_no : Fz.no.tn t = .no := rfl
theorem loopI_cons {k : DG} {r : List D} : loopI k s (d :: r) ρ S = match k d ρ S with
    | .nx ρ1 S1 => (s ρ1 S1).tn (loopI k s r)
    | _ => .no := by
  conv => lhs; unfold loopI
  cases k d ρ S with
  | nx ρ1 S1 => cases s ρ1 S1 <;> rfl
  | _ => rfl
@[simp] theorem liveX_e {l i : Nat} : liveX l i S = liveO i S[l]? := rfl
@[simp] theorem liveO_lst {i : Nat} {xs : List D} : liveO i (some (.lst xs)) = some xs[i]? := rfl
/-- a loop that keeps an invariant: over items -/
theorem loopI_inv {k : DG} (P : Nat → En → Sto → Prop) {ds : List D} (h : ∀ i d ρ S, ds[i]? = some d → P i ρ S → ∃ ρ1 S1, k d ρ S = .nx ρ1 S1 ∧ ∃ ρ' S', (s ρ1 S1 = .nx ρ' S' ∨ s ρ1 S1 = .cnt ρ' S') ∧ P (i + 1) ρ' S') (h0 : P 0 ρ S) :
    ∃ ρ' S', loopI k s ds ρ S = .nx ρ' S' ∧ P ds.length ρ' S' := by
  suffices ∀ (n : Nat) (r : List D) (ρ : En) (S : Sto), ds.drop n = r → n ≤ ds.length → P n ρ S → ∃ ρ' S', loopI k s r ρ S = .nx ρ' S' ∧ P ds.length ρ' S' from this 0 ds ρ S rfl (Nat.zero_le _) h0
  intro n r
  induction r generalizing n with
  | nil =>
    intro ρ S e hn p
    have : ds.length ≤ n := by simpa using e
    have e2 : n = ds.length := by omega
    subst e2
    exact ⟨ρ, S, rfl, p⟩
  | cons d r ih =>
    intro ρ S e hn p
    have hd : ds[n]? = some d := by
      have := congrArg (fun l => l[0]?) e
      simpa using this
    have hr : ds.drop (n + 1) = r := by
      have := congrArg List.tail e
      simpa using this
    have hlt : n < ds.length := by
      rw [List.getElem?_eq_some_iff] at hd
      exact hd.1
    obtain ⟨ρ1, S1, e1, ρ', S', e2, p2⟩ := h n d ρ S hd p
    obtain ⟨ρ2, S2, e3, p3⟩ := ih (n + 1) ρ' S' hr hlt p2
    refine ⟨ρ2, S2, ?_, p3⟩
    rw [loopI_cons, e1]
    show (s ρ1 S1).tn _ = _
    rcases e2 with e2 | e2 <;> (rw [e2]; exact e3)
@[simp] theorem toR_nx : (Fz.nx ρ S).toR = .ok .non S := rfl
@[simp] theorem toR_ret : (Fz.ret d S).toR = .ok d S := rfl
@[simp] theorem cDef_e {n : Nat} {ds : List D} : cDef n s ds S = (s (startE n ds) S).toR := rfl
end
end Sm
namespace Sm
open PySem PySem.Spec PyProof.Rows L2
section
variable {S X : Sto} {o : Ob}
@[simp high] theorem get_app0 : (S ++ X)[S.length]? = X[0]? := by
  rw [List.getElem?_append_right (Nat.le_refl _), Nat.sub_self]
@[simp high] theorem get_appk {k : Nat} : (S ++ X)[S.length + k]? = X[k]? := by
  rw [List.getElem?_append_right (by omega)]
  congr 1
  omega
@[simp] theorem set_app0 : (S ++ X).set S.length o = S ++ X.set 0 o := by
  rw [List.set_append_right _ _ (Nat.le_refl _), Nat.sub_self]
@[simp] theorem set_appk {k : Nat} : (S ++ X).set (S.length + k) o = S ++ X.set k o := by
  rw [List.set_append_right _ _ (by omega)]
  congr 2
  omega
theorem get_old {l : Nat} {q : Ob} (h : S[l]? = some q) : (S ++ X)[l]? = some q := by
  rw [List.getElem?_append_left (List.getElem?_eq_some_iff.mp h).1]
  exact h
end
end Sm
namespace Sm
open PySem PySem.Spec PyProof.Rows L2
@[simp] theorem str_inj {a b : String} : (Str.ofString a = Str.ofString b) = (a = b) := by
  refine propext ⟨fun h => ?_, fun h => by rw [h]⟩
  rw [Str.ofString_eq_toList, Str.ofString_eq_toList] at h
  have h2 : (a.toList.map Char.toNat) = b.toList.map Char.toNat := by
    have := congrArg (fun s => s.cps.toList) h
    simpa using this
  have h3 : a.toList = b.toList := by
    have inj : ∀ x y : Char, x.toNat = y.toNat → x = y := fun x y e => Char.ext (UInt32.toNat_inj.mp e)
    exact (List.map_inj_right (fun x y e => inj x y e)).mp h2
  exact String.toList_inj.mp h3
@[simp] theorem str_len {a : String} : (Str.ofString a).length = a.length := by
  rw [Str.ofString_eq_toList]
  show ((a.toList.map Char.toNat).toArray).size = a.length
  simp only [List.size_toArray, List.length_map]
  first | rfl | exact String.length_toList
end Sm
namespace Sm
open PySem PySem.Spec PyProof.Rows L2
section
variable {S X : Sto} {o : Ob} {ρ : En} {d v : D} {i : Int} {k k' : Key}
@[simp] theorem cDict_e {fs : List (DE × DE)} : cDict fs ρ S = (cPairs fs ρ (S ++ [.dct []])).andThen fun ps S' => dispF S.length ps S' := rfl
@[simp] theorem cPairs_nil : cPairs [] ρ S = .ok [] S := rfl
@[simp] theorem cPairs_cons {fk fv : DE} {r : List (DE × DE)} : cPairs ((fk, fv) :: r) ρ S = (fk ρ S).andThen fun k S1 => (fv ρ S1).andThen fun v S2 => (cPairs r ρ S2).andThen fun ps S3 => .ok ((k, v) :: ps) S3 := rfl
@[simp] theorem asKvs_nil : asKvs [] = some [] := rfl
@[simp] theorem asKvs_str {x : Str} {r : List (D × D)} : asKvs ((.str x, v) :: r) = (asKvs r).map fun q => (.inr x, v) :: q := by
  conv => lhs; unfold asKvs
  show (match some (Sum.inr x), asKvs r with
    | some k, some r => some ((k, v) :: r)
    | _, _ => none) = _
  cases asKvs r <;> rfl
@[simp] theorem asKvs_int {r : List (D × D)} : asKvs ((.int i, v) :: r) = (asKvs r).map fun q => (.inl i, v) :: q := by
  conv => lhs; unfold asKvs
  show (match some (Sum.inl i), asKvs r with
    | some k, some r => some ((k, v) :: r)
    | _, _ => none) = _
  cases asKvs r <;> rfl
@[simp] theorem few15_e {n : Nat} (h : n ≤ 15) : few15 n = true := few15_iff.mpr h
@[simp] theorem valD_nil : valD [] k = none := rfl
@[simp] theorem valD_cons {r : List (Key × D)} : valD ((k', v) :: r) k = if k' = k then some v else valD r k := by
  unfold valD
  rw [List.find?_cons]
  by_cases h : k' = k
  · simp [h]
  · simp [h]
theorem atI_nn {α : Type} {xs : List α} (h : 0 ≤ i) : L2.atI xs i = xs[i.toNat]? := by
  unfold L2.atI L2.ixN
  rw [if_pos h]
  by_cases h2 : i < xs.length
  · rw [if_pos h2]; rfl
  · rw [if_neg h2]
    show none = _
    rw [List.getElem?_eq_none (by omega)]
@[simp] theorem atI_cast {α : Type} {xs : List α} {n : Nat} : L2.atI xs (n : Int) = xs[n]? := atI_nn (by omega)
@[simp] theorem atI_lit {α : Type} {xs : List α} {n : Nat} : L2.atI xs (no_index (OfNat.ofNat n)) = xs[n]? := atI_cast
@[simp] theorem atI_m1 {α : Type} {xs : List α} : L2.atI xs (-1) = xs.getLast? := by
  unfold L2.atI L2.ixN
  rw [if_neg (by omega)]
  cases xs with
  | nil => rfl
  | cons x r =>
    rw [if_pos (by simp; omega)]
    show (x :: r)[((-1 : Int) + ((x :: r).length : Nat)).toNat]? = _
    rw [List.getLast?_eq_getElem?]
    congr 1
    omega
end
end Sm
namespace Sm
open PySem PySem.Spec PyProof.Rows L2
section
variable {S X : Sto} {o : Ob} {ρ : En} {d v : D} {i : Int}
@[simp] theorem slD_lsc {xs : List D} {lo hi : Option Int} : slD lo hi (.lsc xs) S = .ok (.loc S.length) (S ++ [.lst (cutD xs lo hi)]) := rfl
@[simp] theorem slD_tup {xs : List D} {lo hi : Option Int} : slD lo hi (.tup xs) S = .ok (.tup (cutD xs lo hi)) S := rfl
@[simp] theorem slD_loc {l : Nat} {lo hi : Option Int} : slD lo hi (.loc l) S = slO lo hi S S[l]? := rfl
@[simp] theorem slO_lst {xs : List D} {lo hi : Option Int} : slO lo hi S (some (.lst xs)) = .ok (.loc S.length) (S ++ [.lst (cutD xs lo hi)]) := rfl
end
end Sm
end
section
/-! Sm, part Je: enumerate of a tuple (the kit has it of a list and of a text). -/
namespace Sm
open PySem PySem.Spec PyProof.Rows L2
end Sm
end
section
/-! Sm, part K: list(), tuple(), sorted(), sum(); more methods of lists; zip, enumerate. -/
namespace Sm
open PySem PySem.Spec PyProof.Rows L2
section
variable {X : Cx} {g : Gx} {W : WX} {e o a b : Expr} {es : List Expr} {fs : En → Mo (List D)} {pos : Pos}
/-- the items of a list or a tuple -/
def seqS (S : Sto) : D → Option (List D)
  | .tup xs => some xs
  | d => lstS S d
/-- a key as data -/
def kD : Key → D
  | .inl i => .int i
  | .inr x => .str x
def keysO : Option Ob → Option (List Key)
  | some (.dct kvs) => some (kvs.map (·.1))
  | _ => none
def keysS (S : Sto) : D → Option (List Key)
  | .loc l => keysO S[l]?
  | _ => none
/-- a new list -/
def mkL (xs : List D) (S : Sto) : Rz D := .ok (.loc S.length) (S ++ [.lst xs])
def listD (d : D) : Mo D := fun S => match seqS S d with
  | some xs => mkL xs S
  | none => match keysS S d with
    | some ks => mkL (ks.map kD) S
    | none => .no
def tupleD (d : D) : Mo D := fun S => match seqS S d with
  | some xs => .ok (.tup xs) S
  | none => .no
/-! ### sorted ints -/
def intsOf : List D → Option (List Int)
  | [] => some []
  | .int i :: r => (intsOf r).map fun q => i :: q
  | _ :: _ => none
@[simp] theorem intsOf_map : ∀ ns : List Int, intsOf (ns.map .int) = some ns
  | [] => rfl
  | n :: r => by
    show (intsOf (r.map D.int)).map (fun q => n :: q) = _
    rw [intsOf_map r]
    rfl
def isort (ns : List Int) : List Int := ns.mergeSort fun a b => decide (a ≤ b)
def intKeys : List Key → Option (List Int)
  | [] => some []
  | .inl i :: r => (intKeys r).map fun q => i :: q
  | .inr _ :: _ => none
@[simp] theorem intKeys_map : ∀ ns : List Int, intKeys (ns.map Sum.inl) = some ns
  | [] => rfl
  | n :: r => by
    show (intKeys (r.map Sum.inl)).map (fun q => n :: q) = _
    rw [intKeys_map r]
    rfl
def blsOf : List D → Option (List Bool)
  | [] => some []
  | .bl i :: r => (blsOf r).map fun q => i :: q
  | _ :: _ => none
@[simp] theorem blsOf_map : ∀ ns : List Bool, blsOf (ns.map .bl) = some ns
  | [] => rfl
  | n :: r => by
    show (blsOf (r.map D.bl)).map (fun q => n :: q) = _
    rw [blsOf_map r]
    rfl
/-! ### methods of lists -/
def lstM : D → Sto → Option (Nat × List D)
  | .loc l, S => (lstO S[l]?).map fun xs => (l, xs)
  | _, _ => none
/-- the items of a tuple or a list of the store -/
def seqM (S : Sto) : D → Option (List D)
  | .tup xs => some xs
  | .loc l => lstO S[l]?
  | _ => none
theorem VRs.dropLast {m : Nat → Addr} {n : Nat} {H : Hp} {vs : List V} {ds : List D} (r : VRs g m n H vs ds) : VRs g m n H vs.dropLast ds.dropLast := by
  rw [List.dropLast_eq_take, List.dropLast_eq_take, r.length]
  exact r.take _
/-! ### zip, enumerate -/
/-- a list, told at each turn: locked or of the store -/
def lstF (d : D) : Sto → Option (List D) := fun S => lstS S d
end
end Sm
end
section
/-! Sm, part Ke: more of dicts: d.get(k), d.get(k, x), d.clear(). -/
namespace Sm
open PySem PySem.Spec PyProof.Rows L2
end Sm
end
section
/-! Sm, part Kf: walks over dicts (locked meanwhile). -/
namespace Sm
open PySem PySem.Spec PyProof.Rows L2
section
variable {g : Gx} {m m' : Nat → Addr} {n n' : Nat} {H H' H2 : Hp} {S S' : Sto} {σ : L2.St} {ρ : En} {p : Addr} {od : Obj} {kv0 : List (Key × V)} {o : HO}
/-! ### what a lock changes: nothing that data see -/
/-! ### a statement, an expression under a lock -/
variable {X : Cx} {W : WX} {st : Stmt} {e : Expr} {s : DS} {f fe : DE}
/-! ### what is walked -/
inductive DW where
  | keys | vals | items
end
end Sm
end
section
/-! Sm, part Kg: == of data that hold dicts, list(d), list(d.values()), max of a list. -/
namespace Sm
open PySem PySem.Spec PyProof.Rows L2
/-! ### data with the same content -/

/-! ### list(d.values()) -/
def dctO : Option Ob → Option (List (Key × D))
  | some (.dct kvs) => some kvs
  | _ => none
end Sm
end
section
/-! Sm, part Kh: d.get, len(set(list of whole numbers)). -/
namespace Sm
open PySem PySem.Spec PyProof.Rows L2
end Sm
end
section
/-! Sm, part Kr: repr of data (numbers, texts, tuples and lists of these), where no repr runs around. -/
namespace Sm
open PySem PySem.Spec PyProof.Rows L2
def pdL (f : D → Option PyData) : List D → Option (List PyData)
  | [] => some []
  | d :: r => (f d).bind fun p => (pdL f r).map (p :: ·)
def pdO (f : D → Option PyData) : Option Ob → Option PyData
  | some (.lst ds) => (pdL f ds).map .list
  | _ => none
def pdQ (S : Sto) : Nat → D → Option PyData
  | 0, _ => none
  | _ + 1, .non => some .none
  | _ + 1, .bl b => some (.bool b)
  | _ + 1, .int i => some (.int i)
  | _ + 1, .str x => some (.str x)
  | n + 1, .tup ds => (pdL (pdQ S n) ds).map .tuple
  | n + 1, .lsc ds => (pdL (pdQ S n) ds).map .list
  | n + 1, .loc l => pdO (pdQ S n) S[l]?
  | _ + 1, _ => none
def rpP (p : PyData) : Option Str := if (p.showable && fit p.shown.length) = true then some p.shown else none
def rpQ (d : D) (S : Sto) : Option D := ((pdQ S 60 d).bind rpP).map .str
def reprD (d : D) : Mo D := fun S => optD (rpQ d S) S
section
variable {g : Gx} {m : Nat → Addr} {H : Hp} {S : Sto}
theorem pdL_dp {n k : Nat} {f : D → Option PyData} (ih : ∀ d p v, f d = some p → VR g m k H v d → Dp g.K H v p ∧ p.hasDict = false ∧ p.depth ≤ n) : ∀ ds ps vs, pdL f ds = some ps → VRs g m k H vs ds → DpAll g.K H vs ps ∧ PyData.hasDictAll ps = false ∧ PyData.depthAll ps ≤ n
  | [], ps, vs, h, r => by
    cases h
    cases r
    exact ⟨.nil, rfl, Nat.zero_le _⟩
  | d :: ds, ps, vs, h, r => by
    cases r with
    | cons x _ xs _ r1 r2 =>
      simp only [pdL] at h
      obtain ⟨p, h1, h2⟩ := Option.bind_eq_some_iff.mp h
      obtain ⟨ps', h3, rfl⟩ := Option.map_eq_some_iff.mp h2
      obtain ⟨a1, a2, a3⟩ := ih d p x h1 r1
      obtain ⟨b1, b2, b3⟩ := pdL_dp ih ds ps' xs h3 r2
      refine ⟨.cons a1 b1, ?_, ?_⟩
      · simp only [PyData.hasDictAll, a2, b2, Bool.or_false]
      · simp only [PyData.depthAll]
        exact Nat.max_le.mpr ⟨a3, b3⟩
theorem pd_dp (sr : SR g m H S) : ∀ n d p v, pdQ S n d = some p → VR g m S.length H v d → Dp g.K H v p ∧ p.hasDict = false ∧ p.depth ≤ n
  | 0, _, _, _, h, _ => by cases h
  | n + 1, d, p, v, h, r => by
    cases r with
    | non => cases h; exact ⟨.non, rfl, Nat.zero_le _⟩
    | bl b => cases h; exact ⟨.bl b, rfl, Nat.zero_le _⟩
    | int i => cases h; exact ⟨.int i, rfl, Nat.zero_le _⟩
    | str x => cases h; exact ⟨.str x, rfl, Nat.zero_le _⟩
    | tup a xs ds hq rs =>
      obtain ⟨ps, h1, rfl⟩ := Option.map_eq_some_iff.mp (show (pdL (pdQ S n) ds).map .tuple = some p from h)
      obtain ⟨a1, a2, a3⟩ := pdL_dp (pd_dp sr n) ds ps xs h1 rs
      exact ⟨.tup hq a1, by simpa only [PyData.hasDict] using a2, by simp only [PyData.depth]; omega⟩
    | lsc a xs ds hq rs =>
      obtain ⟨ps, h1, rfl⟩ := Option.map_eq_some_iff.mp (show (pdL (pdQ S n) ds).map .list = some p from h)
      obtain ⟨a1, a2, a3⟩ := pdL_dp (pd_dp sr n) ds ps xs h1 rs
      exact ⟨.lst hq.sq a1, by simpa only [PyData.hasDict] using a2, by simp only [PyData.depth]; omega⟩
    | loc l hl =>
      have h' : pdO (pdQ S n) S[l]? = some p := h
      cases q0 : S[l]? with
      | none => rw [q0] at h'; cases h'
      | some ob =>
        rw [q0] at h'
        cases ob with
        | lst ds =>
          obtain ⟨_, xs, hx, rs⟩ := sr.atL q0
          obtain ⟨ps, h1, rfl⟩ := Option.map_eq_some_iff.mp (show (pdL (pdQ S n) ds).map .list = some p from h')
          obtain ⟨a1, a2, a3⟩ := pdL_dp (pd_dp sr n) ds ps xs h1 rs
          exact ⟨.lst (SqL.of hx) a1, by simpa only [PyData.hasDict] using a2, by simp only [PyData.depth]; omega⟩
        | dct _ => cases h'
        | ins _ _ => cases h'
        | lck _ => cases h'
    | _ => cases h
end
section
variable {X : Cx} {g : Gx} {W : WX} {e : Expr} {es : List Expr} {fs : En → Mo (List D)} {pos : Pos}
def rRepr (K : PySem.W.Frag) : List V → Hp → VK → Prop := fun xs H Q => ∃ x p, xs = [x] ∧ Dp K H x p ∧ p.hasDict = false ∧ p.depth ≤ 60 ∧ p.showable = true ∧ p.shown.length ≤ sizeLine ∧ Q (.str p.shown) H
theorem call_reprD (hg : X.A.guards = some []) (hu : X.A.units + 64 < cLine) : CallR X (.builtin "repr") (rRepr X.K) := by
  intro pins s σ H xs us Q I rx h
  obtain ⟨x, p, rfl, hd, nd, dp, sh, sz, q⟩ := h
  cases rx with
  | cons ru rt =>
    cases rt
    obtain ⟨as, r⟩ := Dp.reads I p x _ hd ru
    cases r with
    | none => exact P.repr_of_none ⟨.str _, H, I.tok _, ⟨_, rfl⟩, q⟩
    | bool b => exact P.repr_of_bool ⟨.str _, H, I.tok _, ⟨_, rfl⟩, q⟩
    | int i t => exact P.repr_of_int (by simpa [PyData.showable] using sh) ⟨.str _, H, I.tok _, ⟨_, rfl⟩, q⟩
    | str y t => exact P.repr_of_str ⟨.str _, H, I.tok _, ⟨_, rfl⟩, q⟩ sz
    | list h1 h2 h3 h4 => exact repr_of_reads' (.list h1 h2 h3 h4) sh (PyData.noDict_hsm nd) hg (by omega) (fun _ _ e => e) (fun h' u tk hk => ⟨.str _, H, I.kept hk, ⟨_, rfl⟩, q⟩) sz
    | tuple h1 h2 h3 h4 => exact repr_of_reads' (.tuple h1 h2 h3 h4) sh (PyData.noDict_hsm nd) hg (by omega) (fun _ _ e => e) (fun h' u tk hk => ⟨.str _, H, I.kept hk, ⟨_, rfl⟩, q⟩) sz
    | dict h1 h2 h3 h4 h5 => cases nd
theorem reprD_ok : SC g (rRepr g.K) (ar1 reprD) := SC.one fun m S H x d Q W sr rx h => by
  have h2 : PRx g m S H W (KD g Q) (optD (rpQ d S) S) := h
  cases e1 : pdQ S 60 d with
  | none => unfold rpQ at h2; rw [e1] at h2; exact h2.elim
  | some p =>
    obtain ⟨a1, a2, a3⟩ := pd_dp sr 60 d p x e1 rx
    by_cases e2 : (p.showable && fit p.shown.length) = true
    · have e3 : rpQ d S = some (.str p.shown) := by
        unfold rpQ
        rw [e1]
        show (rpP p).map D.str = _
        unfold rpP
        rw [if_pos e2]
        rfl
      rw [e3] at h2
      rw [Bool.and_eq_true] at e2
      exact ⟨x, p, rfl, a1, a2, a3, e2.1, fit_iff.mp e2.2, h2.here sr _ (.str _)⟩
    · have e3 : rpQ d S = none := by
        unfold rpQ
        rw [e1]
        show (rpP p).map D.str = _
        unfold rpP
        rw [if_neg e2]
        rfl
      rw [e3] at h2
      exact h2.elim
theorem de_repr {p : Pos} (hK : X.K = g.K) (gd : X.A.guards = some []) (hu : X.A.units + 64 < cLine) (hm : X.mg "repr" = none) (ha : PA X (e :: es) (tDs g W fs)) (hg : Gl X "repr" := by rfl) (he : starEach (e :: es) X.env = (false, eval e X.env) :: starEach es X.env := by rfl) (hpl : (backTo pos (starEach es X.env)).any (·.1) = false := by rfl) :
    PE X (.Call (.Name "repr" p) (e :: es) [] pos) (tD g W (cCall (ar1 reprD) fs)) := de_callB (by rw [← hK]; exact call_reprD gd hu) reprD_ok hm (by rfl) ha hg he hpl
end
end Sm
end
section
/-! Sm, part Ks: str(number), int(text), text.split(sep); defs as values, called by a name. -/
namespace Sm
open PySem PySem.Spec PyProof.Rows L2
section
variable {X : Cx} {g : Gx} {W : WX} {e o : Expr} {es : List Expr} {fs : En → Mo (List D)} {pos : Pos}
theorem call_strA : CallR X (.type "str") (fun xs H Q => (∃ i, xs = [.int i] ∧ i.natAbs.log2 < 1920 ∧ Q (.str (toString i)) H) ∨ ∃ a, xs = [.str a] ∧ Q (.str a) H) := call_str_int.or SkE.call_str_str
/-! defs as values -/
inductive FvT (X : Cx) (g : Gx) (np : Nat) : List (Nat × (List D → Mo D)) → Prop where
  | nil : FvT X g np []
  | cons {i lev : Nat} {F : List D → Mo D} {fn : Addr} {fd : FuncData} {ps : List Str} {l : List (Nat × (List D → Mo D))} (G : FnOk X.prog X.w X.K X.mg X.base (L2.CX X.prog X.w) lev fn fd ps (spF g np F)) (hr : Room lev X.A) (e : g.fa i = fn) (hk : PySem.W.keepIn X.K (.ref fn) = true) (hb : Binds X.K fd ps []) (r : FvT X g np l) : FvT X g np ((i, F) :: l)
theorem FvT.get {np : Nat} {k : Nat} {F : List D → Mo D} : ∀ {l : List (Nat × (List D → Mo D))}, FvT X g np l → l.lookup k = some F → ∃ lev fn fd ps, FnOk X.prog X.w X.K X.mg X.base (L2.CX X.prog X.w) lev fn fd ps (spF g np F) ∧ Room lev X.A ∧ g.fa k = fn ∧ PySem.W.keepIn X.K (.ref fn) = true ∧ Binds X.K fd ps []
  | _, .nil, h => by cases h
  | _, .cons (i := i) (F := F') (l := l) G hr e hk hb r, h => by
    by_cases q : k = i
    · subst q
      rw [List.lookup_cons_self] at h
      cases h
      exact ⟨_, _, _, _, G, hr, e, hk, hb⟩
    · have h2 : l.lookup k = some F := by
        rw [List.lookup_cons] at h
        have : (k == i) = false := by simpa using q
        rw [this] at h
        exact h
      exact r.get h2
end
end Sm
end
section
/-! Sm, part Kt: x in list, of data of any depth. -/
namespace Sm
open PySem PySem.Spec PyProof.Rows L2
end Sm
end
section
/-! Sm, part Kw: lists and dicts of texts that the module has written; sep.join; d.copy(). -/
namespace Sm
open PySem PySem.Spec PyProof.Rows L2
section
variable {g : Gx} {X : Cx} {W : WX}
/-! ### a written list of texts -/
def StrsV : List Value → List Str → Prop
  | [], [] => True
  | v :: r, x :: xs => (∃ t, v = .str x t) ∧ StrsV r xs
  | _, _ => False
theorem StrsV.vals : ∀ {us : List Value} {xs : List Str}, StrsV us xs → Vals (xs.map V.str) us
  | [], [], _ => .nil
  | v :: r, x :: xs, h => by
    obtain ⟨⟨t, rfl⟩, h⟩ := h
    exact .cons ⟨t, rfl⟩ h.vals
  | [], _ :: _, h => h.elim
  | _ :: _, [], h => h.elim
/-! ### a written dict from texts to texts -/
def EntV : List DictEntry → List (Str × Str) → Prop
  | [], [] => True
  | e :: r, (k, v) :: kvs => (∃ t, e.key = .str k t) ∧ (∃ t, e.val = .str v t) ∧ EntV r kvs
  | _, _ => False
theorem EntV.noref : ∀ {es : List DictEntry} {kvs : List (Str × Str)}, EntV es kvs → es.any (·.refKey) = false
  | [], [], _ => rfl
  | e :: r, (k, v) :: kvs, h => by
    obtain ⟨⟨t, h1⟩, _, h2⟩ := h
    rw [List.any_cons, h2.noref]
    unfold DictEntry.refKey
    rw [h1]
    rfl
  | [], _ :: _, h => h.elim
  | _ :: _, [], h => h.elim
theorem EntV.find (z : Str) : ∀ {es : List DictEntry} {kvs : List (Str × Str)}, EntV es kvs → (match kvs.lookup z with | some v => ∃ e t, es.find? (·.key.isStr z) = some e ∧ e.val = .str v t | none => es.find? (·.key.isStr z) = none)
  | [], [], _ => rfl
  | e :: r, (k, v) :: kvs, h => by
    obtain ⟨⟨t, h1⟩, ⟨t2, h3⟩, h2⟩ := h
    have ih := h2.find z
    have hs : e.key.isStr z = (z == k) := by
      rw [h1, PySem.W.isStr_of]
      show (k == z) = (z == k)
      rw [Bool.eq_iff_iff, beq_iff_eq, beq_iff_eq]
      exact eq_comm
    rw [List.lookup_cons, List.find?_cons, hs]
    cases q : z == k with
    | true => exact ⟨e, t2, rfl, h3⟩
    | false => exact ih
  | [], _ :: _, h => h.elim
  | _ :: _, [], h => h.elim
/-- the dict that the module calls x: at g.fa i -/
structure WdT (g : Gx) (w : World) (mg : Str → Option Value) (x : Str) (i : Nat) (kvs : List (Str × Str)) : Prop where
  m : mg x = some (.ref (g.fa i))
  d : ∃ es n, KDict g.K w (g.fa i) es n ∧ EntV es.toList kvs
theorem WdT.ns {w : World} {mg : Str → Option Value} {x : Str} {i : Nat} {kvs : List (Str × Str)} (T : WdT g w mg x i kvs) (z : Str) : ∃ es n, KDict g.K w (g.fa i) es n ∧ (match kvs.lookup z with | some v => ∃ t, PySem.W.nsIn g.K (g.fa i) z = some (some (.str v t)) | none => PySem.W.nsIn g.K (g.fa i) z = some none) := by
  obtain ⟨es, n, kd, ev⟩ := T.d
  refine ⟨es, n, kd, ?_⟩
  have f := ev.find z
  have nr := ev.noref
  unfold PySem.W.nsIn
  rw [kd.at_]
  cases q : kvs.lookup z with
  | some v =>
    rw [q] at f
    obtain ⟨e, t, h1, h2⟩ := f
    refine ⟨t, ?_⟩
    simp only [h1, h2]
  | none =>
    rw [q] at f
    simp only [f, nr, Bool.false_eq_true, if_false]
variable {a b : Expr} {fa fb : DE} {pos : Pos}
/-! ### sep.join -/
/-! ### d.copy() -/
end
end Sm
end
section
/-! Sm, part Kx: zip(text, tuple). -/
namespace Sm
open PySem PySem.Spec PyProof.Rows L2 RZ
end Sm
end
section
/-! Sm, part Ky: len(set(tuple of texts)), each once. -/
namespace Sm
open PySem PySem.Spec PyProof.Rows L2
end Sm
end
section
/-! Sm, part Kz: len(set(tuple of whole numbers)), each once. -/
namespace Sm
open PySem PySem.Spec PyProof.Rows L2
end Sm
end
section
/-! Sm, part L: how denotations are reckoned, on. -/
namespace Sm
open PySem PySem.Spec PyProof.Rows L2
section
variable {S X : Sto} {o : Ob} {ρ ρ' : En} {d e v : D} {i : Int} {s : DS}
@[simp] theorem lstO_lst {xs : List D} : lstO (some (.lst xs)) = some xs := rfl
@[simp] theorem lstO_ins {c : Nat} {fs : List (Str × D)} : lstO (some (.ins c fs)) = none := rfl
@[simp] theorem lstO_dct {fs : List (Key × D)} : lstO (some (.dct fs)) = none := rfl
@[simp] theorem lstS_loc {l : Nat} : lstS S (.loc l) = lstO S[l]? := rfl
@[simp] theorem lstS_lsc {xs : List D} : lstS S (.lsc xs) = some xs := rfl
@[simp] theorem lstS_tup {xs : List D} : lstS S (.tup xs) = none := rfl
@[simp] theorem seqS_loc {l : Nat} : seqS S (.loc l) = lstO S[l]? := rfl
@[simp] theorem seqS_tup {xs : List D} : seqS S (.tup xs) = some xs := rfl
@[simp] theorem seqM_tup {xs : List D} : seqM S (.tup xs) = some xs := rfl
@[simp] theorem seqM_loc {l : Nat} : seqM S (.loc l) = lstO S[l]? := rfl
@[simp] theorem keysS_loc {l : Nat} : keysS S (.loc l) = keysO S[l]? := rfl
@[simp] theorem keysO_dct {kvs : List (Key × D)} : keysO (some (.dct kvs)) = some (kvs.map (·.1)) := rfl
theorem tupleD_e {xs : List D} (h : seqS S d = some xs) : tupleD d S = .ok (.tup xs) S := by unfold tupleD; rw [h]
@[simp] theorem tupleD_loc {l : Nat} {xs : List D} (h : S[l]? = some (.lst xs)) : tupleD (.loc l) S = .ok (.tup xs) S := tupleD_e (by rw [seqS_loc, h]; rfl)
@[simp] theorem tupleD_tup {xs : List D} : tupleD (.tup xs) S = .ok (.tup xs) S := rfl
theorem listD_e {xs : List D} (h : seqS S d = some xs) : listD d S = .ok (.loc S.length) (S ++ [.lst xs]) := by unfold listD; rw [h]; rfl
@[simp] theorem listD_tup {xs : List D} : listD (.tup xs) S = .ok (.loc S.length) (S ++ [.lst xs]) := rfl
@[simp] theorem listD_loc {l : Nat} {xs : List D} (h : S[l]? = some (.lst xs)) : listD (.loc l) S = .ok (.loc S.length) (S ++ [.lst xs]) := listD_e (by rw [seqS_loc, h]; rfl)
@[simp] theorem lstM_loc {l : Nat} : lstM (.loc l) S = (lstO S[l]?).map fun xs => (l, xs) := rfl
@[simp] theorem tyD_lst {l : Nat} {xs : List D} (h : S[l]? = some (.lst xs)) : tyD "list" (.loc l) S = true := by
  unfold tyD
  simp only [h]
  decide
@[simp] theorem cRng_e {h : List D → Mo Wk} {fs : En → Mo (List D)} : cRng h fs ρ S = (fs ρ S).andThen fun xs S1 => h xs S1 := rfl
@[simp] theorem rng1_e (h0 : -4611686018427387904 ≤ i) (h : i < 4611686018427387904) : rng1 [.int i] S = .ok (.items (rgD 0 i.toNat)) S := by
  show (if okR i = true then Rz.ok (Wk.items (rgD 0 i.toNat)) S else .no) = _
  rw [if_pos (okR_iff.mpr ⟨by simpa using h0, by simpa using h⟩)]
theorem rgD_get {lo : Int} {n k : Nat} (h : (rgD lo n)[k]? = some d) : k < n ∧ d = .int (lo + (k : Nat)) := by
  unfold rgD at h
  rw [List.getElem?_map] at h
  obtain ⟨j, h1, h2⟩ := Option.map_eq_some_iff.mp h
  have := List.getElem?_eq_some_iff.mp h1
  obtain ⟨h3, h4⟩ := this
  simp at h3 h4
  subst h4
  exact ⟨h3, h2.symm⟩
@[simp] theorem rgD_len {lo : Int} {n : Nat} : (rgD lo n).length = n := by unfold rgD; simp
@[simp] theorem cMeth_e {c np : Nat} {nm : Str} {F : List D → Mo D} {fo : DE} {fs : En → Mo (List D)} : cMeth c nm np F fo fs ρ S = (fo ρ S).andThen fun x S1 => (chkI c nm x S1).andThen fun _ S2 => (fs ρ S2).andThen fun xs S3 => apF np F (x :: xs) S3 := rfl
@[simp] theorem chkI_ins {l c : Nat} {nm : Str} {fs : List (Str × D)} (h : S[l]? = some (.ins c fs)) (h2 : fs.lookup nm = none) : chkI c nm (.loc l) S = .ok () S := by
  unfold chkI insG
  simp [h, h2]
/-! ### comprehensions -/
theorem cLc_e {it : En → Mo Wk} {t : CT} {tst : En → Mo Bool} {elt : DE} : cLc it t tst elt ρ S = (it ρ S).andThen fun w S1 => match w with
    | .items ds => lcI t tst elt (wipeE ρ t.vs) S1.length ds (S1 ++ [.lst []])
    | .view nx k => lcV t tst elt (wipeE ρ t.vs) S1.length nx k 0 (S1 ++ [.lst []]) := by
  show (it ρ S).andThen _ = _
  congr
theorem lcTurn_t {t : CT} {tst : En → Mo Bool} {elt : DE} {n : Nat} {y : D} {S1 S2 : Sto} {acc : List D} (h1 : t.put ρ d = some ρ') (h2 : tst ρ' S = .ok true S1) (h3 : elt ρ' S1 = .ok y S2) (h4 : S2[n]? = some (.lst acc)) (h5 : acc.length < 16777216) :
    lcTurn t tst elt ρ n d S = some (S2.set n (.lst (acc ++ [y]))) := by
  unfold lcTurn
  simp only [h1, h2, h3]
  unfold pushL
  simp only [h4]
  rw [if_pos (fit_of (by omega))]
theorem lcTurn_f {t : CT} {tst : En → Mo Bool} {elt : DE} {n : Nat} {S1 : Sto} (h1 : t.put ρ d = some ρ') (h2 : tst ρ' S = .ok false S1) : lcTurn t tst elt ρ n d S = some S1 := by
  unfold lcTurn
  simp only [h1, h2]
theorem lcI_inv {t : CT} {tst : En → Mo Bool} {elt : DE} {n : Nat} {ds : List D} (P : Nat → Sto → Prop) (h : ∀ i d S, ds[i]? = some d → P i S → ∃ S', lcTurn t tst elt ρ n d S = some S' ∧ P (i + 1) S') (h0 : P 0 S) :
    ∃ S', lcI t tst elt ρ n ds S = .ok (.loc n) S' ∧ P ds.length S' := by
  suffices ∀ (r : List D) (k : Nat) (S : Sto), ds.drop k = r → k ≤ ds.length → P k S → ∃ S', lcI t tst elt ρ n r S = .ok (.loc n) S' ∧ P ds.length S' from this ds 0 S rfl (Nat.zero_le _) h0
  intro r
  induction r with
  | nil =>
    intro k S e hk p
    have : ds.length ≤ k := by simpa using e
    have e2 : k = ds.length := by omega
    subst e2
    exact ⟨S, rfl, p⟩
  | cons d r ih =>
    intro k S e hk p
    have hd : ds[k]? = some d := by
      have := congrArg (fun l => l[0]?) e
      simpa using this
    have hr : ds.drop (k + 1) = r := by
      have := congrArg List.tail e
      simpa using this
    have hlt : k < ds.length := by
      rw [List.getElem?_eq_some_iff] at hd
      exact hd.1
    obtain ⟨S1, e1, p1⟩ := h k _ S hd p
    obtain ⟨S2, e2, p2⟩ := ih (k + 1) S1 hr hlt p1
    refine ⟨S2, ?_, p2⟩
    unfold lcI
    simp only [e1]
    exact e2
theorem lcI_map {t : CT} {tst : En → Mo Bool} {elt : DE} {ds : List D} (f : D → Option D) (hn : ds.length ≤ 16777216)
    (h : ∀ d acc, d ∈ ds → ∃ ρ', t.put ρ d = some ρ' ∧ ((∃ y, tst ρ' (S ++ [.lst acc]) = .ok true (S ++ [.lst acc]) ∧ elt ρ' (S ++ [.lst acc]) = .ok y (S ++ [.lst acc]) ∧ f d = some y) ∨ (tst ρ' (S ++ [.lst acc]) = .ok false (S ++ [.lst acc]) ∧ f d = none))) :
    lcI t tst elt ρ S.length ds (S ++ [.lst []]) = .ok (.loc S.length) (S ++ [.lst (ds.filterMap f)]) := by
  obtain ⟨S', e, p⟩ := lcI_inv (t := t) (tst := tst) (elt := elt) (ρ := ρ) (n := S.length) (ds := ds) (S := S ++ [.lst []]) (fun i S' => S' = S ++ [.lst ((ds.take i).filterMap f)])
    (fun i d S' hd hS => by
      subst hS
      obtain ⟨ρ', h1, h2⟩ := h d ((ds.take i).filterMap f) (List.mem_of_getElem? hd)
      have hlt := (List.getElem?_eq_some_iff.mp hd).1
      have e : ds.take (i + 1) = ds.take i ++ [d] := by rw [List.take_add_one, hd]; rfl
      rcases h2 with ⟨y, h3, h4, h5⟩ | ⟨h3, h5⟩
      · refine ⟨_, lcTurn_t (acc := (ds.take i).filterMap f) h1 h3 h4 (by simp) (Nat.lt_of_le_of_lt (List.length_filterMap_le _ _) (by rw [List.length_take]; omega)), ?_⟩
        rw [e, List.filterMap_append]
        simp [h5]
      · refine ⟨_, lcTurn_f h1 h3, ?_⟩
        rw [e, List.filterMap_append]
        simp [h5]) (by simp)
  rw [e, p]
  simp
@[simp] theorem cTrue_e : cTrue ρ S = .ok true S := rfl
@[simp] theorem put_one {k : Nat} : CT.put ρ (.one k) d = some (ρ.set k (some d)) := rfl
@[simp] theorem vs_one {k : Nat} : CT.vs (.one k) = [k] := rfl
@[simp] theorem vs_many {k : List Nat} : CT.vs (.many k) = k := rfl
@[simp] theorem setAll_nil : setAll ρ [] [] = ρ := rfl
@[simp] theorem setAll_cons {k : Nat} {is : List Nat} {ds : List D} : setAll ρ (k :: is) (d :: ds) = setAll (ρ.set k (some d)) is ds := rfl
@[simp] theorem wipeE_nil : wipeE ρ [] = ρ := rfl
@[simp] theorem wipeE_cons {k : Nat} {is : List Nat} : wipeE ρ (k :: is) = (wipeE ρ is).set k none := rfl
/-! ### while -/
end
end Sm
namespace Sm
open PySem PySem.Spec PyProof.Rows L2
end Sm
namespace Sm
open PySem PySem.Spec PyProof.Rows L2
@[simp] theorem lookup_str {a b : Str} {v : D} {r : List (Str × D)} : List.lookup a ((b, v) :: r) = if a = b then some v else List.lookup a r := by
  rw [List.lookup_cons]
  by_cases h : a = b
  · subst h; simp
  · have : (a == b) = false := by simpa using h
    rw [this, if_neg h]
end Sm
end
section
/-! Sm, part La: zip(text, list). -/
namespace Sm
open PySem PySem.Spec PyProof.Rows L2 RZ
abbrev IsLI (h : Heap) (it l : Addr) (i : Nat) : Prop := h.IsListIter it l i
theorem IsLI.at {h h' : Heap} {it l : Addr} {i : Nat} (g : IsLI h it l i) (k : ∀ o, h.get? it = some o → h'.get? it = some o) : IsLI h' it l i := let ⟨o, ho, r⟩ := g; ⟨o, k o ho, r⟩
end Sm
end
section
/-! Sm, part Lb: len(set(tuple of whole numbers)), some of them alike perhaps. -/
namespace Sm
open PySem PySem.Spec PyProof.Rows L2
end Sm
end
section
/-! Sm, part M: sorted(set(xs)) of ints, any number below the model's scan line. -/
namespace Sm
open PySem PySem.Spec PyProof.Rows L2
section
variable {X : Cx} {g : Gx} {W : WX} {e o a b : Expr} {es : List Expr} {fs : En → Mo (List D)} {pos : Pos}
/-- the ints of xs, rising, each once -/
def usort (ns : List Int) : List Int := isort (ns.foldl (fun ks n => if n ∈ ks then ks else ks ++ [n]) [])
@[irreducible] def scan (n : Nat) : Bool := decide (n + 1 < scanBound)
theorem scan_iff {n : Nat} : scan n = true ↔ n + 1 < scanBound := by unfold scan; exact decide_eq_true_iff
theorem scan_of {n : Nat} (h : n ≤ 4000) : scan n = true := scan_iff.mpr (by unfold scanBound; omega)
/-- sorted(set(d)) -/
def sortSetD (d : D) : Mo D := fun S => match seqS S d with
  | some xs => match intsOf xs with
    | some ns => if scan ns.length = true then mkL ((usort ns).map .int) S else .no
    | none => .no
  | none => .no
@[simp] theorem sortSetD_e {d : D} {S : Sto} {ns : List Int} (h : seqS S d = some (ns.map .int)) (hl : ns.length ≤ 4000) : sortSetD d S = .ok (.loc S.length) (S ++ [.lst ((usort ns).map .int)]) := by
  unfold sortSetD
  rw [h]
  simp only [intsOf_map]
  rw [if_pos (scan_of hl)]
  rfl
end
end Sm
end
section
/-! Sm, part Mw: d.update(d'). -/
namespace Sm
open PySem PySem.Spec PyProof.Rows L2
end Sm
end
section
/-! Sm, part Mv: len(set(tuple of texts)), some of them alike perhaps. -/
namespace Sm
open PySem PySem.Spec PyProof.Rows L2
end Sm
end
section
/-! Sm, part Mu: a text times 0 or 1. -/
namespace Sm
open PySem PySem.Spec PyProof.Rows L2
end Sm
end
section
/-! Sm, part Mt: enumerate(text). -/
namespace Sm
open PySem PySem.Spec PyProof.Rows L2 RZ
end Sm
end
section
/-! Sm, part Mx: list(range(b)), list(range(a, b)). -/
namespace Sm
open PySem PySem.Spec PyProof.Rows L2
end Sm
end
section
/-! Sm, part My: a list times a small whole number. -/
namespace Sm
open PySem PySem.Spec PyProof.Rows L2
end Sm
end
section
/-! Sm, part Mz: sorted(set(xs)) of a long list of ints of which few differ. -/
namespace Sm
open PySem PySem.Spec PyProof.Rows L2
end Sm
end
section
/-! Sm, part N: what is wanted of a denotation, step by step (weakest preconditions). -/
namespace Sm
open PySem PySem.Spec PyProof.Rows L2
/-- r ends so: a value, an exception -/
def Wp {α : Type} (r : Rz α) (Q : α → Sto → Prop) (E : Exn → Sto → Prop) : Prop := match r with
  | .ok a S => Q a S
  | .ex e S => E e S
  | .no => False
abbrev noE : Exn → Sto → Prop := fun _ _ => False
structure Kn where
  nx : En → Sto → Prop := fun _ _ => False
  rt : D → Sto → Prop := fun _ _ => False
  bk : En → Sto → Prop := fun _ _ => False
  ct : En → Sto → Prop := fun _ _ => False
  ex : Exn → En → Sto → Prop := fun _ _ _ => False
def Ws (r : Fz) (K : Kn) : Prop := match r with
  | .nx ρ S => K.nx ρ S
  | .brk ρ S => K.bk ρ S
  | .cnt ρ S => K.ct ρ S
  | .ret d S => K.rt d S
  | .ex e ρ S => K.ex e ρ S
  | .no => False
section
variable {α β : Type} {S S' : Sto} {r : Rz α} {Q Q' : α → Sto → Prop} {E E' : Exn → Sto → Prop} {K K' : Kn} {ρ : En} {d : D}
@[simp] theorem wp_ok {a : α} : Wp (.ok a S) Q E = Q a S := rfl
@[simp] theorem wp_ex {e : Exn} : Wp (.ex e S : Rz α) Q E = E e S := rfl
@[simp] theorem wp_no : Wp (.no : Rz α) Q E = False := rfl
@[simp] theorem wp_bind {f : α → Sto → Rz β} {Q2 : β → Sto → Prop} : Wp (r.andThen f) Q2 E = Wp r (fun a S => Wp (f a S) Q2 E) E := by
  cases r <;> rfl
theorem Wp.mono (h : Wp r Q' E') (k : ∀ a S, Q' a S → Q a S) (ke : ∀ e S, E' e S → E e S) : Wp r Q E := by
  cases r with
  | ok a S => exact k a S h
  | ex e S => exact ke e S h
  | no => exact h
/-- a call that raises nothing -/
theorem Wp.to (h : Wp r Q' noE) (k : ∀ a S, Q' a S → Q a S) : Wp r Q E := h.mono k fun _ _ z => z.elim
/-- what is wanted is hidden while the text is reckoned -/
theorem Wp.cps {Q0 : α → Sto → Prop} (h : ∀ Q : α → Sto → Prop, (∀ a S, Q0 a S → Q a S) → Wp r Q E) : Wp r Q0 E := h Q0 fun _ _ z => z
theorem Wp.of {a : α} (e : r = .ok a S) (q : Q a S) : Wp r Q E := by rw [e]; exact q
theorem Wp.get (h : Wp r Q noE) : ∃ a S, r = .ok a S ∧ Q a S := by
  cases r with
  | ok a S => exact ⟨a, S, rfl, h⟩
  | ex e S => exact h.elim
  | no => exact h.elim
@[simp] theorem ws_nx : Ws (.nx ρ S) K = K.nx ρ S := rfl
@[simp] theorem ws_brk : Ws (.brk ρ S) K = K.bk ρ S := rfl
@[simp] theorem ws_cnt : Ws (.cnt ρ S) K = K.ct ρ S := rfl
@[simp] theorem ws_ret : Ws (.ret d S) K = K.rt d S := rfl
@[simp] theorem ws_ex {e : Exn} : Ws (.ex e ρ S) K = K.ex e ρ S := rfl
@[simp] theorem ws_no : Ws .no K = False := rfl
@[simp] theorem ws_sq {f : Fz} {t : DS} : Ws (f.sq t) K = Ws f { K with nx := fun ρ S => Ws (t ρ S) K } := by cases f <;> rfl
@[simp] theorem ws_tn {f : Fz} {t : DS} : Ws (f.tn t) K = Ws f { K with nx := fun ρ S => Ws (t ρ S) K, ct := fun ρ S => Ws (t ρ S) K, bk := K.nx } := by cases f <;> rfl
@[simp] theorem ws_toF {k : α → Sto → Fz} : Ws (r.toF ρ k) K = Wp r (fun a S => Ws (k a S) K) (fun e S => K.ex e ρ S) := by cases r <;> rfl
@[simp] theorem ws_nxO {f : Fz} : Ws f.nxO K = Ws f { nx := K.nx } := by cases f <;> rfl
@[simp] theorem wp_toR {f : Fz} {Q : D → Sto → Prop} : Wp f.toR Q E = Ws f { nx := fun _ S => Q .non S, rt := Q, ex := fun e _ S => E e S } := by cases f <;> rfl
theorem Ws.mono {f : Fz} (h : Ws f K) (h1 : ∀ ρ S, K.nx ρ S → K'.nx ρ S) (h2 : ∀ d S, K.rt d S → K'.rt d S) (h3 : ∀ ρ S, K.bk ρ S → K'.bk ρ S) (h4 : ∀ ρ S, K.ct ρ S → K'.ct ρ S) (h5 : ∀ e ρ S, K.ex e ρ S → K'.ex e ρ S) : Ws f K' := by
  cases f with
  | nx ρ S => exact h1 _ _ h
  | brk ρ S => exact h3 _ _ h
  | cnt ρ S => exact h4 _ _ h
  | ret d S => exact h2 _ _ h
  | ex e ρ S => exact h5 _ _ _ h
  | no => exact h
end
end Sm
end
section
/-! Sm, part O: x += y. -/
namespace Sm
open PySem PySem.Spec PyProof.Rows L2
section
variable {X : Cx} {g : Gx} {S : Sto} {i j : Int} {x y : Str}
def iaddD : D → D → Mo D
  | .int i, .int j => fun S => .ok (.int (i + j)) S
  | .str x, .str y => fun S => if fit (x.length + y.length) = true then .ok (.str (x ++ y)) S else .no
  | _, _ => bad
@[simp] theorem iaddD_int : iaddD (.int i) (.int j) S = .ok (.int (i + j)) S := rfl
@[simp] theorem iaddD_str : iaddD (.str x) (.str y) S = if fit (x.length + y.length) = true then .ok (.str (x ++ y)) S else .no := rfl
end
section
variable {S : Sto} {ρ : En} {f fo fv : DE} {i : Nat}
@[simp] theorem cAug_e {h : D → D → Mo D} : cAug i h f ρ S = (match ρ[i]? with
    | some (some x) => (f ρ S).toF ρ fun y S1 => (h x y S1).toF ρ fun z S2 => .nx (ρ.set i (some z)) S2
    | _ => .no) := rfl
@[simp] theorem cAugF_e {T : FTab} {nm : Str} {h : D → D → Mo D} : cAugF T nm h fo fv ρ S = (fo ρ S).toF ρ fun o S1 => match fldG T nm o S1 with
  | some x => (fv ρ S1).toF ρ fun y S2 => (h x y S2).toF ρ fun z S3 => if clsD o S1 = clsD o S3 then match setG T nm z o S3 with
    | some S4 => .nx ρ S4
    | none => .no else .no
  | none => .no := rfl
end
end Sm
end
section
/-! Sm, part Ox: faults of the program's own (made with one field, raised, caught, the field read), and defs with defaults. -/
namespace Sm
open PySem PySem.Spec PyProof.Rows L2

/-! ### an __init__ that says Base.__init__(self, ..); self.f = x -/
/-- the base class: Base.__init__ is ValueError's -/
structure BaT (K : PySem.W.Frag) (mg : Str → Option Value) (nm : Str) : Type where
  B : Addr
  m : mg nm = some (.ref B)
  rd : PySem.W.readsIn K B (.type "type") = true
  ga : PySem.W.specialIn K (.ref B) "__getattribute__" = some (some (.builtin "type.__getattribute__"))
  vV : PySem.W.findCls K (.ref B) (.type "type") "__init__" = some (.val (.builtin "ValueError.__init__"))
theorem handed_vei : PySem.W.handedIn (.builtin "ValueError.__init__") = true := by decide +kernel
section
variable {X : Cx} {e : Expr} {es : List Expr} {ta : TA} {p1 p2 pos : Pos} {xb : Str}
theorem pe_binit {pl : Sem Bool} (T : BaT X.K X.mg xb) (hg : Gl X xb) (ha : PA X (e :: es) ta) (hdb : (xb == ("__debug__" : Str)) = false := by decide)
    (hc : eval (.Call (.Attribute (.Name xb p1) "__init__" p2) (e :: es) [] pos) X.env = (do
      let ov ← eval (.Name xb p1) X.env
      standAt p2.atName
      let (f, first) ← holding [ov] (getMethod ov "__init__" pl)
      callWith pos f first (backTo pos (starEach (e :: es) X.env)) (backToKw pos (keywordEach [] X.env))) := by rfl)
    (he : starEach (e :: es) X.env = (false, eval e X.env) :: starEach es X.env := by rfl) (hpl : (backTo pos (starEach es X.env)).any (·.1) = false := by rfl) :
    PE X (.Call (.Attribute (.Name xb p1) "__init__" p2) (e :: es) [] pos) (tVeI X.K ta) := by
  refine ⟨fun pins s σ H Q I h => ?_⟩
  refine PySem.W.methodCall_KW (ld_glob I hg T.m ?_ hdb) hc
  refine PySem.W.method_cls I.kIn T.ga (PySem.W.cls_value I.kIn T.rd T.vV handed_vei ?_)
  show wpAny _ _ (callWith pos (Value.builtin "ValueError.__init__") [] (backTo pos (starEach (e :: es) X.env)) []) _ _ _
  refine PyProof.Rows.callWith_method1 (thn (ha.run pos pins _ σ H _ (I.tok _) h) fun us s1 ⟨vs, H1, I1, r1, a, C, ws, ev, hl, T, ea, q⟩ => ?_) he hpl
  subst ev
  cases r1 with
  | @cons _ u0 _ ur ra rw' =>
    obtain rfl : u0 = Value.ref a := ra
    have hlen : ur.length ≤ sizeLine := by
      rw [← Paired.length rw', sizeLine_eq]
      omega
    exact oinit_ok T I1 ea hlen fun s' J => ⟨.non, H1, J, rfl, q⟩
end
/-- what such an __init__ keeps -/
def spX (C : Addr) (f : Str) : Sp := fun vs H Q _ => ∃ (a : Addr) (y : V), vs = [.ref a, y] ∧ H a = some (exo a C none) ∧
  ∀ dx, H dx = none → dx ≠ a → Q .non (upd (upd H dx (exd dx [(f, y)])) a (exo a C (some dx)))
/-- a fault's class, with its __init__ -/
structure XnT (K : PySem.W.Frag) (mg : Str → Option Value) (C : Addr) (nm qual : Str) (st : Stmt) (pn f : Str) : Type where
  fn : Addr
  fd : FuncData
  F : L2.Fun K "__init__" qual st fn fd
  b : Binds K fd ["self", pn] []
  T : OexC K C
  iC : PySem.W.findIn K (.ref C) "__init__" = some (some (.ref fn))
  tI : PySem.W.typeIn K (.ref fn) = some (.type "function")
  nf : PySem.W.findIn K (.ref C) f = some none
  xf : XfC K C
  em : PySem.W.exmOne K (.ref C) (.ref C) = some true
  m : mg nm = some (.ref C)
theorem oexC_mk {K : PySem.W.Frag} {C : Addr} {nm q : Str} {N : Addr} {bs bm : List Value} {sn : List Str} {sub : List Value} {ab : Bool} {col : Option Bool} {dd : Option Addr} {k0 k1 k2 k3 k5 : Option Value}
    (l : K.lookup C = some (excClassObj nm q C N bs bm true sn sub ab col dd k0 k1 k2 k3 k5 "ValueError.__new__")) (r : PySem.HandSPX.refsVE bm = true)
    (sa : PySem.W.findIn K (.ref C) "__setattr__" = some (some (.builtin "object.__setattr__"))) (exC : PySem.W.subIn K (.ref C) (.type "BaseException") = some true) (tyC : PySem.W.typeIn K (.ref C) = some (.type "type")) (kC : PySem.W.keepIn K (.ref C) = true) : OexC K C :=
  ⟨⟨nm, q, N, bs, bm, sn, sub, ab, col, dd, k0, k1, k2, k3, k5, l, r⟩, sa, exC, tyC, kC⟩
section
variable {P : Program} {w : World} {K : PySem.W.Frag} {mg : Str → Option Value} {base : Heap} {C : Addr} {nm qual pn f xb : Str} {st : Stmt}
/-- the body: Base.__init__(self, text); self.f = p -/
theorem ok_xinit {k : Nat} {m : Str} (T : XnT K mg C nm qual st pn f) (S : FnScope ["self", pn] ["self", pn] (defScope st))
    (h1 : ∀ cdv A outer (s0 : Shared) H E, PSs (cxOf (L2.CX P w) P w K mg base ["self", pn] qual (defScope st) T.fn cdv A outer s0 H E) (defBody st)
      (tSeq (tDrop (tVeI K (tCons (tVar 0) (tCons (tC (.str m)) tNil)))) (tOst K f (tVar 0) (tVar 1)))) :
    FnOk P w K mg base (L2.CX P w) (k + 1) T.fn T.fd ["self", pn] (spX C f) := by
  refine T.F.okX S (fun vs H Q E h => by obtain ⟨a, y, rfl, _⟩ := h; rfl) fun cdv A outer s0 H vs Q E hr h => ⟨_, h1 cdv A outer s0 H E, ?_⟩
  obtain ⟨a, y, rfl, ea, q⟩ := h
  refine ⟨_, rfl, a, C, [.str m], rfl, by simp, T.T, ea, ?_⟩
  exact ⟨_, rfl, _, rfl, a, C, rfl, T.T, T.nf, .inl ⟨ea, fun dx n ne => q dx n ne⟩⟩
end

/-! ### raise C(e) -/

/-! ### a def with defaults -/
structure FunX (K : PySem.W.Frag) (nm qual : Str) (st : Stmt) (fn : Addr) (fd : FuncData) (dV : Value) : Prop where
  ex : ∃ (oc : Value) (od : Option Addr) (kV doc pm : Value) (an : Option Addr) (cdv ct : Value) (osl : Array (Option Value)),
    fd = PySem.W.fnOf nm qual (defArgs st) (defBody st) (defScope st) dV kV doc pm an cdv ct ∧ K.lookup fn = some ⟨oc, od, .func fd, osl⟩ ∧ PySem.W.codeIn K cdv qual = true
  kp : PySem.W.keepIn K (.ref fn) = true
section
variable {P : Program} {w : World} {K : PySem.W.Frag} {mg : Str → Option Value} {base : Heap} {g : Gx}
/-- a class whose __init__ has defaults: dvs, as many as are left out -/
structure InX (K : PySem.W.Frag) (mg : Str → Option Value) (C : Addr) (nm qual : Str) (st : Stmt) (ps : List Str) (dvs : List V) : Type where
  fn : Addr
  fd : FuncData
  dV : Value
  F : FunX K "__init__" qual st fn fd dV
  b : Binds K fd ps []
  b1 : ∃ ds, Vals dvs ds ∧ Binds K fd ps ds
  M : Mk K C fn
  cl : Cls K C
  m : mg nm = some (.ref C)
end
end Sm
end
section
/-! Sm, part Oy: an __init__ that hands Base.__init__ a text with str(its whole number). -/
namespace Sm
open PySem PySem.Spec PyProof.Rows L2
/-- a whole number that such an __init__ is handed -/
def smI (i : Int) : Bool := decide (0 ≤ i ∧ i < 1000000)
def smD : D → Bool
  | .int i => smI i
  | _ => false
theorem smI_len {i : Int} (h : smI i = true) : ((toString i : String) : Str).length ≤ 7 := by
  obtain ⟨h0, h1⟩ := of_decide_eq_true h
  obtain ⟨k, rfl⟩ : ∃ k : Nat, i = (k : Int) := ⟨i.toNat, by omega⟩
  rw [TL.len_tl]
  rw [show TL.tl (Str.ofString (toString ((k : Nat) : Int))) = TL.numL k from TL.tl_num k]
  exact TL.numL_len (by decide) (by omega)
theorem smI_log {i : Int} (h : smI i = true) : i.natAbs.log2 < 1920 := by
  obtain ⟨h0, h1⟩ := of_decide_eq_true h
  have : i.natAbs < 2 ^ 64 := by
    have e : (2 : Nat) ^ 64 = 18446744073709551616 := by decide
    omega
  by_cases z : i.natAbs = 0
  · rw [z]; decide
  · have := (Nat.log2_lt z).mpr this
    omega
/-- what such an __init__ keeps -/
def spXI (C : Addr) (f : Str) : Sp := fun vs H Q _ => ∃ (a : Addr) (i : Int), vs = [.ref a, .int i] ∧ smI i = true ∧ H a = some (exo a C none) ∧
  ∀ dx, H dx = none → dx ≠ a → Q .non (upd (upd H dx (exd dx [(f, .int i)])) a (exo a C (some dx)))
section
variable {P : Program} {w : World} {K : PySem.W.Frag} {mg : Str → Option Value} {base : Heap} {C : Addr} {nm qual pn f xb : Str} {st : Stmt}
/-- the body: Base.__init__(self, text + str(p)); self.f = p -/
theorem ok_xinitS {k : Nat} {m : Str} (T : XnT K mg C nm qual st pn f) (S : FnScope ["self", pn] ["self", pn] (defScope st)) (hm : m.length ≤ 1000)
    (h1 : ∀ cdv A outer (s0 : Shared) H E, PSs (cxOf (L2.CX P w) P w K mg base ["self", pn] qual (defScope st) T.fn cdv A outer s0 H E) (defBody st)
      (tSeq (tDrop (tVeI K (tCons (tVar 0) (tCons (tOp (rAddA K) (tC (.str m)) (tCB (fun xs H Q => (∃ i, xs = [.int i] ∧ i.natAbs.log2 < 1920 ∧ Q (.str (toString i)) H) ∨ ∃ a, xs = [.str a] ∧ Q (.str a) H) (tCons (tVar 1) tNil))) tNil)))) (tOst K f (tVar 0) (tVar 1)))) :
    FnOk P w K mg base (L2.CX P w) (k + 1) T.fn T.fd ["self", pn] (spXI C f) := by
  refine T.F.okX S (fun vs H Q E h => by obtain ⟨a, y, rfl, _⟩ := h; rfl) fun cdv A outer s0 H vs Q E hr h => ⟨_, h1 cdv A outer s0 H E, ?_⟩
  obtain ⟨a, i, rfl, hi, ea, q⟩ := h
  have hl : m.length + ((toString i : String) : Str).length ≤ sizeLine := by
    have := smI_len hi
    rw [sizeLine_eq]
    omega
  refine ⟨_, rfl, _, rfl, .inl ⟨i, rfl, smI_log hi, .inr (.inl ⟨m, _, rfl, rfl, hl, a, C, [.str _], rfl, by simp, T.T, ea, ?_⟩)⟩⟩
  exact ⟨_, rfl, _, rfl, a, C, rfl, T.T, T.nf, .inl ⟨ea, fun dx n ne => q dx n ne⟩⟩
end
/-! ### raise C(e) -/
end Sm
end
section
/-! Sm, part Oz: list.insert. -/
namespace Sm
open PySem PySem.Spec PyProof.Rows L2
def insT {α : Type} (i : Int) (y : α) (xs : List α) : List α := xs.take i.toNat ++ [y] ++ xs.drop i.toNat
def insO (l : Nat) (i : Int) (e : D) (S : Sto) : Option Ob → Option Sto
  | some (.lst ds) => if (decide (0 ≤ i) && decide (i < 4000000) && fit (ds.length + 1)) = true then some (S.set l (.lst (insT i e ds))) else none
  | _ => none
/-! ### str(e).replace(c1, c2) -/
end Sm
end
section
/-! Sm, part P: values. Lists, dicts and things by value; what is owned may be changed, what is not stands fast. -/
namespace Sm
open PySem PySem.Spec PyProof.Rows L2
inductive Y where
  | non | bl (b : Bool) | int (i : Int) | str (x : Str) | ty (n : String) | cls (c : Nat) | fnc (i : Nat)
  | tup (xs : List Y) | lsc (xs : List Y) | lst (o : Bool) (xs : List Y) | dct (o : Bool) (kvs : List (Key × Y)) | ins (o : Bool) (c : Nat) (fs : List (Str × Y))
mutual
/-- d stands for y in S; P: what stands fast; f: what is owned -/
inductive Own (P : Nat → Prop) (S : Sto) : D → Y → List Nat → Prop
  | non : Own P S .non .non []
  | bl (b : Bool) : Own P S (.bl b) (.bl b) []
  | int (i : Int) : Own P S (.int i) (.int i) []
  | str (x : Str) : Own P S (.str x) (.str x) []
  | ty (n : String) : Own P S (.ty n) (.ty n) []
  | cls (c : Nat) : Own P S (.cls c) (.cls c) []
  | fnc (i : Nat) : Own P S (.fnc i) (.fnc i) []
  | tup (ds : List D) (ys : List Y) : Owns P S ds ys [] → Own P S (.tup ds) (.tup ys) []
  | lsc (ds : List D) (ys : List Y) : Owns P S ds ys [] → Own P S (.lsc ds) (.lsc ys) []
  | lstF (l : Nat) (ds : List D) (ys : List Y) : P l → S[l]? = some (.lst ds) → Owns P S ds ys [] → Own P S (.loc l) (.lst false ys) []
  | lstO (l : Nat) (ds : List D) (ys : List Y) : ¬ P l → S[l]? = some (.lst ds) → Owns P S ds ys [] → Own P S (.loc l) (.lst true ys) [l]
  | dctF (l : Nat) (kvs : List (Key × D)) (kys : List (Key × Y)) : P l → S[l]? = some (.dct kvs) → kvs.map (·.1) = kys.map (·.1) → Owns P S (kvs.map (·.2)) (kys.map (·.2)) [] → Own P S (.loc l) (.dct false kys) []
  | dctO (l : Nat) (kvs : List (Key × D)) (kys : List (Key × Y)) (f : List Nat) : ¬ P l → l ∉ f → S[l]? = some (.dct kvs) → kvs.map (·.1) = kys.map (·.1) → Owns P S (kvs.map (·.2)) (kys.map (·.2)) f → Own P S (.loc l) (.dct true kys) (l :: f)
  | insF (l c : Nat) (kvs : List (Str × D)) (kys : List (Str × Y)) : P l → S[l]? = some (.ins c kvs) → kvs.map (·.1) = kys.map (·.1) → Owns P S (kvs.map (·.2)) (kys.map (·.2)) [] → Own P S (.loc l) (.ins false c kys) []
  | insO (l c : Nat) (kvs : List (Str × D)) (kys : List (Str × Y)) (f : List Nat) : ¬ P l → l ∉ f → S[l]? = some (.ins c kvs) → kvs.map (·.1) = kys.map (·.1) → Owns P S (kvs.map (·.2)) (kys.map (·.2)) f → Own P S (.loc l) (.ins true c kys) (l :: f)
inductive Owns (P : Nat → Prop) (S : Sto) : List D → List Y → List Nat → Prop
  | nil : Owns P S [] [] []
  | cons (d : D) (y : Y) (ds : List D) (ys : List Y) (f f' : List Nat) : Own P S d y f → Owns P S ds ys f' → (∀ l ∈ f, l ∉ f') → Owns P S (d :: ds) (y :: ys) (f ++ f')
end
section
variable {P P' P'' : Nat → Prop} {S S' S'' : Sto} {d : D} {y : Y} {ds : List D} {ys : List Y} {f f' : List Nat} {U U' : Nat → Prop}
theorem lt_of_get {l : Nat} {o : Ob} (q : S[l]? = some o) : l < S.length := (List.getElem?_eq_some_iff.mp q).1
mutual
theorem Own.fp : ∀ {d : D} {y : Y} {f : List Nat}, Own P S d y f → ∀ l ∈ f, ¬ P l ∧ l < S.length
  | _, _, _, .non => fun _ h => by cases h
  | _, _, _, .bl _ => fun _ h => by cases h
  | _, _, _, .int _ => fun _ h => by cases h
  | _, _, _, .str _ => fun _ h => by cases h
  | _, _, _, .ty _ => fun _ h => by cases h
  | _, _, _, .cls _ => fun _ h => by cases h
  | _, _, _, .fnc _ => fun _ h => by cases h
  | _, _, _, .tup _ _ _ => fun _ h => by cases h
  | _, _, _, .lsc _ _ _ => fun _ h => by cases h
  | _, _, _, .lstF _ _ _ _ _ _ => fun _ h => by cases h
  | _, _, _, .lstO _ _ _ n q _ => fun k h => by rw [List.mem_singleton.mp h]; exact ⟨n, lt_of_get q⟩
  | _, _, _, .dctF _ _ _ _ _ _ _ => fun _ h => by cases h
  | _, _, _, .dctO _ _ _ _ n _ q _ r => fun k h => by
    rcases List.mem_cons.mp h with rfl | h
    · exact ⟨n, lt_of_get q⟩
    · exact Owns.fp r k h
  | _, _, _, .insF _ _ _ _ _ _ _ _ => fun _ h => by cases h
  | _, _, _, .insO _ _ _ _ _ n _ q _ r => fun k h => by
    rcases List.mem_cons.mp h with rfl | h
    · exact ⟨n, lt_of_get q⟩
    · exact Owns.fp r k h
theorem Owns.fp : ∀ {d : List D} {y : List Y} {f : List Nat}, Owns P S d y f → ∀ l ∈ f, ¬ P l ∧ l < S.length
  | _, _, _, .nil => fun _ h => by cases h
  | _, _, _, .cons _ _ _ _ _ _ r t _ => fun k h => by
    rcases List.mem_append.mp h with h | h
    · exact Own.fp r k h
    · exact Owns.fp t k h
end
/-- what was owned or stood fast is as it was -/
structure Kp (P : Nat → Prop) (S : Sto) (f : List Nat) (P' : Nat → Prop) (S' : Sto) : Prop where
  mono : ∀ l, P l → P' l
  own : ∀ l ∈ f, ¬ P' l
  get : ∀ l o, (P l ∨ l ∈ f) → S[l]? = some o → S'[l]? = some o
theorem Kp.sub (k : Kp P S f P' S') (h : ∀ l ∈ f', l ∈ f) : Kp P S f' P' S' := ⟨k.mono, fun l q => k.own l (h l q), fun l o q => k.get l o (q.imp id (h l))⟩
mutual
theorem Own.kp : ∀ {d : D} {y : Y} {f : List Nat}, Own P S d y f → Kp P S f P' S' → Own P' S' d y f
  | _, _, _, .non, _ => .non
  | _, _, _, .bl _, _ => .bl _
  | _, _, _, .int _, _ => .int _
  | _, _, _, .str _, _ => .str _
  | _, _, _, .ty _, _ => .ty _
  | _, _, _, .cls _, _ => .cls _
  | _, _, _, .fnc _, _ => .fnc _
  | _, _, _, .tup _ _ r, k => .tup _ _ (Owns.kp r k)
  | _, _, _, .lsc _ _ r, k => .lsc _ _ (Owns.kp r k)
  | _, _, _, .lstF l _ _ p q r, k => .lstF l _ _ (k.mono l p) (k.get l _ (.inl p) q) (Owns.kp r k)
  | _, _, _, .lstO l _ _ _ q r, k => .lstO l _ _ (k.own l (List.mem_singleton.mpr rfl)) (k.get l _ (.inr (List.mem_singleton.mpr rfl)) q) (Owns.kp r (k.sub fun _ h => by cases h))
  | _, _, _, .dctF l _ _ p q e r, k => .dctF l _ _ (k.mono l p) (k.get l _ (.inl p) q) e (Owns.kp r k)
  | _, _, _, .dctO l _ _ _ _ n q e r, k => .dctO l _ _ _ (k.own l List.mem_cons_self) n (k.get l _ (.inr List.mem_cons_self) q) e (Owns.kp r (k.sub fun _ h => List.mem_cons_of_mem _ h))
  | _, _, _, .insF l _ _ _ p q e r, k => .insF l _ _ _ (k.mono l p) (k.get l _ (.inl p) q) e (Owns.kp r k)
  | _, _, _, .insO l _ _ _ _ _ n q e r, k => .insO l _ _ _ _ (k.own l List.mem_cons_self) n (k.get l _ (.inr List.mem_cons_self) q) e (Owns.kp r (k.sub fun _ h => List.mem_cons_of_mem _ h))
theorem Owns.kp : ∀ {d : List D} {y : List Y} {f : List Nat}, Owns P S d y f → Kp P S f P' S' → Owns P' S' d y f
  | _, _, _, .nil, _ => .nil
  | _, _, _, .cons _ _ _ _ _ _ r t n, k => .cons _ _ _ _ _ _ (Own.kp r (k.sub fun _ h => List.mem_append_left _ h)) (Owns.kp t (k.sub fun _ h => List.mem_append_right _ h)) n
end
/-! ### to let go -/
mutual
def frz : Y → Y
  | .lst _ xs => .lst false xs
  | .dct _ kvs => .dct false (frzK kvs)
  | .ins _ c fs => .ins false c (frzF fs)
  | y => y
def frzK : List (Key × Y) → List (Key × Y)
  | [] => []
  | (k, y) :: r => (k, frz y) :: frzK r
def frzF : List (Str × Y) → List (Str × Y)
  | [] => []
  | (k, y) :: r => (k, frz y) :: frzF r
end
theorem frzK_keys : ∀ kys : List (Key × Y), (frzK kys).map (·.1) = kys.map (·.1)
  | [] => by simp [frzK]
  | (k, y) :: r => by simp [frzK, frzK_keys r]
theorem frzF_keys : ∀ kys : List (Str × Y), (frzF kys).map (·.1) = kys.map (·.1)
  | [] => by simp [frzF]
  | (k, y) :: r => by simp [frzF, frzF_keys r]
theorem frzK_vals : ∀ kys : List (Key × Y), (frzK kys).map (·.2) = (kys.map (·.2)).map frz
  | [] => by simp [frzK]
  | (k, y) :: r => by simp [frzK, frzK_vals r]
theorem frzF_vals : ∀ kys : List (Str × Y), (frzF kys).map (·.2) = (kys.map (·.2)).map frz
  | [] => by simp [frzF]
  | (k, y) :: r => by simp [frzF, frzF_vals r]
mutual
theorem Own.frz : ∀ {d : D} {y : Y} {f : List Nat}, Own P S d y f → (∀ l, P l → P' l) → (∀ l ∈ f, P' l) → Own P' S d (frz y) []
  | _, _, _, .non, _, _ => .non
  | _, _, _, .bl _, _, _ => .bl _
  | _, _, _, .int _, _, _ => .int _
  | _, _, _, .str _, _, _ => .str _
  | _, _, _, .ty _, _, _ => .ty _
  | _, _, _, .cls _, _, _ => .cls _
  | _, _, _, .fnc _, _, _ => .fnc _
  | _, _, _, .tup ds ys r, m, _ => .tup ds ys (r.kp ⟨m, fun _ h => (by cases h), fun _ _ _ q => q⟩)
  | _, _, _, .lsc ds ys r, m, _ => .lsc ds ys (r.kp ⟨m, fun _ h => (by cases h), fun _ _ _ q => q⟩)
  | _, _, _, .lstF l ds ys p q r, m, _ => .lstF l ds ys (m l p) q (r.kp ⟨m, fun _ h => (by cases h), fun _ _ _ q => q⟩)
  | _, _, _, .lstO l ds ys _ q r, m, h => .lstF l ds ys (h l (List.mem_singleton.mpr rfl)) q (r.kp ⟨m, fun _ h => (by cases h), fun _ _ _ q => q⟩)
  | _, _, _, .dctF l kvs kys p q e r, m, _ => .dctF l kvs (frzK kys) (m l p) q (by rw [frzK_keys]; exact e) (by rw [frzK_vals]; exact Owns.frz r m fun _ h => by cases h)
  | _, _, _, .dctO l kvs kys f _ _ q e r, m, h => .dctF l kvs (frzK kys) (h l List.mem_cons_self) q (by rw [frzK_keys]; exact e) (by rw [frzK_vals]; exact Owns.frz r m fun k z => h k (List.mem_cons_of_mem _ z))
  | _, _, _, .insF l c kvs kys p q e r, m, _ => .insF l c kvs (frzF kys) (m l p) q (by rw [frzF_keys]; exact e) (by rw [frzF_vals]; exact Owns.frz r m fun _ h => by cases h)
  | _, _, _, .insO l c kvs kys f _ _ q e r, m, h => .insF l c kvs (frzF kys) (h l List.mem_cons_self) q (by rw [frzF_keys]; exact e) (by rw [frzF_vals]; exact Owns.frz r m fun k z => h k (List.mem_cons_of_mem _ z))
theorem Owns.frz : ∀ {d : List D} {y : List Y} {f : List Nat}, Owns P S d y f → (∀ l, P l → P' l) → (∀ l ∈ f, P' l) → Owns P' S d (y.map frz) []
  | _, _, _, .nil, _, _ => .nil
  | _, _, _, .cons d y ds ys f f' r t n, m, h => by
    have a := Own.frz r m fun l z => h l (List.mem_append_left _ z)
    have b := Owns.frz t m fun l z => h l (List.mem_append_right _ z)
    exact .cons d _ ds _ [] [] a b fun _ z => by cases z
end
/-- frozen right at the top -/
def isF : Y → Bool
  | .lst o _ => !o
  | .dct o _ => !o
  | .ins o _ _ => !o
  | _ => true
theorem Own.isF (h : Own P S d y f) (q : isF y = true) : f = [] := by
  cases h <;> first | rfl | cases q

mutual
def flY : Y → Bool
  | .non => true
  | .bl _ => true
  | .int _ => true
  | .str _ => true
  | .tup ys => flYs ys
  | _ => false
def flYs : List Y → Bool
  | [] => true
  | y :: r => flY y && flYs r
end
theorem flYs_eq : ∀ ys : List Y, flYs ys = ys.all flY
  | [] => by simp [flYs]
  | y :: r => by simp [flYs, flYs_eq r]
theorem flY_tup {ys : List Y} : flY (.tup ys) = ys.all flY := by rw [flY, flYs_eq]
mutual
theorem Own.fl : ∀ {d : D} {y : Y} {f : List Nat}, Own P S d y f → flY y = true → Own P' S' d y []
  | _, _, _, .non, _ => .non
  | _, _, _, .bl _, _ => .bl _
  | _, _, _, .int _, _ => .int _
  | _, _, _, .str _, _ => .str _
  | _, _, _, .tup ds ys r, h => .tup ds ys (Owns.fl r fun y hy => List.all_eq_true.mp (flY_tup ▸ h) y hy)
  | _, _, _, .ty _, h => by simp [flY] at h
  | _, _, _, .cls _, h => by simp [flY] at h
  | _, _, _, .fnc _, h => by simp [flY] at h
  | _, _, _, .lsc _ _ _, h => by simp [flY] at h
  | _, _, _, .lstF _ _ _ _ _ _, h => by simp [flY] at h
  | _, _, _, .lstO _ _ _ _ _ _, h => by simp [flY] at h
  | _, _, _, .dctF _ _ _ _ _ _ _, h => by simp [flY] at h
  | _, _, _, .dctO _ _ _ _ _ _ _ _ _, h => by simp [flY] at h
  | _, _, _, .insF _ _ _ _ _ _ _ _, h => by simp [flY] at h
  | _, _, _, .insO _ _ _ _ _ _ _ _ _ _, h => by simp [flY] at h
theorem Owns.fl : ∀ {d : List D} {y : List Y} {f : List Nat}, Owns P S d y f → (∀ z ∈ y, flY z = true) → Owns P' S' d y []
  | _, _, _, .nil, _ => .nil
  | _, _, _, .cons d y ds ys f f' r t n, h => .cons d y ds ys [] [] (Own.fl r (h y List.mem_cons_self)) (Owns.fl t fun z hz => h z (List.mem_cons_of_mem _ hz)) fun _ z => by cases z
end
/-! ### rows of data -/
theorem Owns.length : ∀ {d : List D} {y : List Y} {f : List Nat}, Owns P S d y f → d.length = y.length
  | _, _, _, .nil => rfl
  | _, _, _, .cons _ _ _ _ _ _ _ t _ => congrArg (· + 1) (Owns.length t)
theorem Owns.cons0 {d : D} {y : Y} (h : Own P S d y []) (t : Owns P S ds ys []) : Owns P S (d :: ds) (y :: ys) [] := .cons d y ds ys [] [] h t fun _ z => by cases z
theorem Owns.inv {d : D} {y : Y} (h : Owns P S (d :: ds) (y :: ys) f) : ∃ a b, Own P S d y a ∧ Owns P S ds ys b ∧ f = a ++ b ∧ ∀ l ∈ a, l ∉ b := by
  cases h with
  | cons _ _ _ _ a b r t n => exact ⟨a, b, r, t, rfl, n⟩
theorem Owns.inv0 {d : D} {y : Y} (h : Owns P S (d :: ds) (y :: ys) []) : Own P S d y [] ∧ Owns P S ds ys [] := by
  obtain ⟨a, b, r, t, e, n⟩ := h.inv
  obtain ⟨rfl, rfl⟩ := List.append_eq_nil_iff.mp e.symm
  exact ⟨r, t⟩
theorem Owns.inv1 {d : D} (h : Owns P S (d :: ds) ys f) : ∃ y r, ys = y :: r := by cases h; exact ⟨_, _, rfl⟩
theorem Owns.app0 : ∀ {d d' : List D} {y y' : List Y}, Owns P S d y [] → Owns P S d' y' [] → Owns P S (d ++ d') (y ++ y') []
  | [], _, _, _, .nil, s => s
  | _ :: _, _, _, _, h, s => by
    obtain ⟨y, r, rfl⟩ := h.inv1
    obtain ⟨a, b⟩ := h.inv0
    exact .cons0 a (Owns.app0 b s)
theorem Owns.get : ∀ {d : List D} {y : List Y} {f : List Nat} {i : Nat} {x : Y}, Owns P S d y f → y[i]? = some x → ∃ u g, d[i]? = some u ∧ Own P S u x g ∧ ∀ l ∈ g, l ∈ f
  | _, _, _, _, _, .nil, e => by simp at e
  | _, _, _, 0, _, .cons d y ds ys f f' r t n, e => by simp at e; subst e; exact ⟨d, f, rfl, r, fun l h => List.mem_append_left _ h⟩
  | _, _, _, i + 1, x, .cons d y ds ys f f' r t n, e => by
    obtain ⟨u, g, h1, h2, h3⟩ := Owns.get (i := i) (x := x) t (by simpa using e)
    exact ⟨u, g, by simpa using h1, h2, fun l h => List.mem_append_right _ (h3 l h)⟩
/-- one of a row put anew -/
theorem Owns.put : ∀ {d : List D} {y : List Y} {f : List Nat} {i : Nat} {x : Y}, Owns P S d y f → y[i]? = some x → ∃ u g, d[i]? = some u ∧ Own P S u x g ∧ (∀ l ∈ g, l ∈ f) ∧
    ∀ (P' : Nat → Prop) (S' : Sto) (u' : D) (x' : Y) (g' : List Nat), (∀ l, P l → P' l) → (∀ l ∈ f, l ∉ g → ¬ P' l) → (∀ l o, (P l ∨ (l ∈ f ∧ l ∉ g)) → S[l]? = some o → S'[l]? = some o) → Own P' S' u' x' g' → (∀ l ∈ g', l ∈ g ∨ l ∉ f) →
      ∃ f', Owns P' S' (d.set i u') (y.set i x') f' ∧ ∀ l ∈ f', l ∈ f ∨ l ∈ g'
  | _, _, _, _, _, .nil, e => by simp at e
  | _, _, _, 0, _, .cons d y ds ys f f' r t n, e => by
    simp at e; subst e
    refine ⟨d, f, rfl, r, fun l h => List.mem_append_left _ h, fun P' S' u' x' g' m1 m2 m3 o m4 => ?_⟩
    have t' : Owns P' S' ds ys f' := t.kp ⟨m1, fun l h => m2 l (List.mem_append_right _ h) fun z => n l z h, fun l o q => m3 l o (q.imp id fun h => ⟨List.mem_append_right _ h, fun z => n l z h⟩)⟩
    refine ⟨g' ++ f', .cons _ _ _ _ _ _ o t' fun l h z => ?_, fun l h => ?_⟩
    · rcases m4 l h with q | q
      · exact n l q z
      · exact q (List.mem_append_right _ z)
    · rcases List.mem_append.mp h with q | q
      · exact .inr q
      · exact .inl (List.mem_append_right _ q)
  | _, _, _, i + 1, x, .cons d y ds ys f f' r t n, e => by
    obtain ⟨u, g, h1, h2, h3, h4⟩ := Owns.put (i := i) (x := x) t (by simpa using e)
    refine ⟨u, g, by simpa using h1, h2, fun l h => List.mem_append_right _ (h3 l h), fun P' S' u' x' g' m1 m2 m3 o m4 => ?_⟩
    have hng : ∀ l ∈ f, l ∉ g := fun l h z => n l h (h3 l z)
    have r' : Own P' S' d y f := r.kp ⟨m1, fun l h => m2 l (List.mem_append_left _ h) (hng l h), fun l o q => m3 l o (q.imp id fun h => ⟨List.mem_append_left _ h, hng l h⟩)⟩
    obtain ⟨f1, k1, k2⟩ := h4 P' S' u' x' g' m1 (fun l h z => m2 l (List.mem_append_right _ h) z) (fun l o q => m3 l o (q.imp id fun h => ⟨List.mem_append_right _ h.1, h.2⟩)) o (fun l h => (m4 l h).imp id fun z q => z (List.mem_append_right _ q))
    refine ⟨f ++ f1, .cons _ _ _ _ _ _ r' k1 fun l h z => ?_, fun l h => ?_⟩
    · rcases k2 l z with q | q
      · exact n l h q
      · rcases m4 l q with q2 | q2
        · exact hng l h q2
        · exact q2 (List.mem_append_left _ h)
    · rcases List.mem_append.mp h with q | q
      · exact .inl (List.mem_append_left _ q)
      · exact (k2 l q).imp (List.mem_append_right _) id
end
end Sm
end
section
/-! Sm, part Q: frames of values; expressions that change nothing. -/
namespace Sm
open PySem PySem.Spec PyProof.Rows L2
abbrev VEn := List (Option Y)
abbrev NoU : Nat → Prop := fun _ => False
def Uf (φ : Nat → List Nat) : Nat → Prop := fun l => ∃ i, l ∈ φ i
structure Fr (O : List Nat) (P : Nat → Prop) (S : Sto) (ρ : En) (σ : VEn) (φ : Nat → List Nat) : Prop where
  len : ρ.length = σ.length
  at_ : ∀ i y, σ[i]? = some (some y) → ∃ d, ρ[i]? = some (some d) ∧ Own P S d y (φ i)
  val : ∀ i, i ∉ O → φ i = []
  emp : ∀ i, (∀ y, σ[i]? ≠ some (some y)) → φ i = []
  dis : ∀ i j, i ≠ j → ∀ l ∈ φ i, l ∉ φ j
def Bd (P : Nat → Prop) (S : Sto) : Prop := ∀ l, P l → l < S.length
/-- a step that changes at most U -/
structure Stp (P : Nat → Prop) (S : Sto) (U : Nat → Prop) (P' : Nat → Prop) (S' : Sto) : Prop where
  len : S.length ≤ S'.length
  keep : ∀ l, l < S.length → ¬ U l → S'[l]? = S[l]?
  mono : ∀ l, P l → P' l
  new : ∀ l, P' l → P l ∨ U l ∨ S.length ≤ l
  bnd : Bd P' S'
section
variable {O : List Nat} {P P' P'' : Nat → Prop} {S S' S'' : Sto} {ρ : En} {σ : VEn} {φ : Nat → List Nat} {d e : D} {x y z : Y} {ds : List D} {xs ys : List Y} {f f' : List Nat} {U U' U'' : Nat → Prop}
theorem Stp.refl (b : Bd P S) : Stp P S U P S := ⟨Nat.le_refl _, fun _ _ _ => rfl, fun _ h => h, fun _ h => .inl h, b⟩
theorem Stp.trans (a : Stp P S U P' S') (c : Stp P' S' U' P'' S'') (h : ∀ l, U' l → U l ∨ S.length ≤ l) : Stp P S U P'' S'' := by
  refine ⟨Nat.le_trans a.len c.len, fun l hl hu => ?_, fun l h => c.mono l (a.mono l h), fun l q => ?_, c.bnd⟩
  · rw [c.keep l (Nat.lt_of_lt_of_le hl a.len) fun z => (h l z).elim hu fun w => by omega, a.keep l hl hu]
  · rcases c.new l q with q | q | q
    · exact a.new l q
    · exact .inr (h l q)
    · exact .inr (.inr (Nat.le_trans a.len q))
theorem Stp.weak (a : Stp P S U P' S') (h : ∀ l, U l → U' l) : Stp P S U' P' S' := ⟨a.len, fun l hl hu => a.keep l hl fun z => hu (h l z), a.mono, fun l q => (a.new l q).imp id fun z => z.imp (h l) id, a.bnd⟩
theorem Stp.up (a : Stp P S NoU P' S') : Stp P S U P' S' := a.weak fun _ z => z.elim
theorem Stp.kp (a : Stp P S U P' S') (b : Bd P S) (hU : ∀ l, U l → ¬ P l) (h1 : ∀ l ∈ f, ¬ P l ∧ l < S.length) (h2 : ∀ l ∈ f, ¬ U l) : Kp P S f P' S' := by
  refine ⟨a.mono, fun l hl q => ?_, fun l o q g => ?_⟩
  · obtain ⟨n1, n2⟩ := h1 l hl
    rcases a.new l q with q | q | q
    · exact n1 q
    · exact h2 l hl q
    · omega
  · rcases q with q | q
    · rw [a.keep l (b l q) fun z => hU l z q]; exact g
    · rw [a.keep l (h1 l q).2 (h2 l q)]; exact g
theorem Stp.kp0 (a : Stp P S NoU P' S') (b : Bd P S) (h1 : ∀ l ∈ f, ¬ P l ∧ l < S.length) : Kp P S f P' S' := a.kp b (fun _ z => z.elim) h1 fun _ _ z => z
theorem Own.st0 (h : Own P S d y f) (a : Stp P S NoU P' S') (b : Bd P S) : Own P' S' d y f := h.kp (a.kp0 b h.fp)
theorem Owns.st0 (h : Owns P S ds ys f) (a : Stp P S NoU P' S') (b : Bd P S) : Owns P' S' ds ys f := h.kp (a.kp0 b h.fp)
theorem Own.st (h : Own P S d y []) (a : Stp P S U P' S') (b : Bd P S) (hU : ∀ l, U l → ¬ P l) : Own P' S' d y [] := h.kp (a.kp b hU (fun _ z => by cases z) fun _ z => by cases z)
theorem Owns.st (h : Owns P S ds ys []) (a : Stp P S U P' S') (b : Bd P S) (hU : ∀ l, U l → ¬ P l) : Owns P' S' ds ys [] := h.kp (a.kp b hU (fun _ z => by cases z) fun _ z => by cases z)
theorem Fr.fp (h : Fr O P S ρ σ φ) : ∀ l, Uf φ l → ¬ P l ∧ l < S.length := by
  rintro l ⟨i, hi⟩
  by_cases q : ∃ y, σ[i]? = some (some y)
  · obtain ⟨y, q⟩ := q
    obtain ⟨d, _, o⟩ := h.at_ i y q
    exact o.fp l hi
  · rw [h.emp i fun y z => q ⟨y, z⟩] at hi
    cases hi
theorem Fr.st (h : Fr O P S ρ σ φ) (a : Stp P S U P' S') (b : Bd P S) (hU : ∀ l, U l → ¬ P l) (hd : ∀ l, Uf φ l → ¬ U l) : Fr O P' S' ρ σ φ :=
  ⟨h.len, fun i y q => by
    obtain ⟨d, e, o⟩ := h.at_ i y q
    exact ⟨d, e, o.kp (a.kp b hU (fun l z => h.fp l ⟨i, z⟩) fun l z => hd l ⟨i, z⟩)⟩, h.val, h.emp, h.dis⟩
theorem Fr.st0 (h : Fr O P S ρ σ φ) (a : Stp P S NoU P' S') (b : Bd P S) : Fr O P' S' ρ σ φ := h.st a b (fun _ z => z.elim) fun _ _ z => z
/-! ### judgements -/
def XB (O : List Nat) (f : DE) (g : VEn → Option Y) : Prop := ∀ P S ρ σ φ, Bd P S → Fr O P S ρ σ φ → ∀ y, g σ = some y → ∃ d S' P' a, f ρ S = .ok d S' ∧ Stp P S NoU P' S' ∧ Own P' S' d y a ∧ ∀ l ∈ a, Uf φ l
def XV (O : List Nat) (f : DE) (g : VEn → Option Y) : Prop := ∀ P S ρ σ φ, Bd P S → Fr O P S ρ σ φ → ∀ y, g σ = some y → ∃ d S' P', f ρ S = .ok d S' ∧ Stp P S NoU P' S' ∧ Own P' S' d y []
theorem XV.b {f : DE} {g : VEn → Option Y} (h : XV O f g) : XB O f g := fun P S ρ σ φ b r y e => by
  obtain ⟨d, S', P', h1, h2, h3⟩ := h P S ρ σ φ b r y e
  exact ⟨d, S', P', [], h1, h2, h3, fun _ z => by cases z⟩
/-- borrowed, but it stands fast -/
def vF (g : VEn → Option Y) : VEn → Option Y := fun σ => (g σ).bind fun y => if isF y = true then some y else none
theorem XB.v {f : DE} {g : VEn → Option Y} (h : XB O f g) : XV O f (vF g) := fun P S ρ σ φ b r y e => by
  obtain ⟨z, h1, h2⟩ := Option.bind_eq_some_iff.mp e
  split at h2
  · rename_i q
    cases h2
    obtain ⟨d, S', P', a, k1, k2, k3, _⟩ := h P S ρ σ φ b r _ h1
    have := k3.isF q
    subst this
    exact ⟨d, S', P', k1, k2, k3⟩
  · cases h2
/-! ### names, constants -/
def vVar (i : Nat) : VEn → Option Y := fun σ => match σ[i]? with
  | some (some y) => some y
  | _ => none
def vC (y : Y) : VEn → Option Y := fun _ => some y
/-! ### rows -/
def vNil : VEn → Option (List Y) := fun _ => some []
def vCons (g : VEn → Option Y) (gs : VEn → Option (List Y)) : VEn → Option (List Y) := fun σ => (g σ).bind fun y => (gs σ).bind fun ys => some (y :: ys)
/-! ### operations -/
def B1 (h : D → Mo D) (hY : Y → Option Y) : Prop := ∀ P S d x f, Bd P S → Own P S d x f → ∀ y, hY x = some y → ∃ r S' P', h d S = .ok r S' ∧ Stp P S NoU P' S' ∧ Own P' S' r y []
def vUn (h : Y → Option Y) (g : VEn → Option Y) : VEn → Option Y := fun σ => (g σ).bind h
def vOp (h : Y → Y → Option Y) (g g' : VEn → Option Y) : VEn → Option Y := fun σ => (g σ).bind fun x => (g' σ).bind fun y => h x y
def vTup (gs : VEn → Option (List Y)) : VEn → Option Y := fun σ => (gs σ).bind fun ys => if fit ys.length = true then some (.tup ys) else none
/-- a new list that stands fast; that is owned -/
theorem new_F (b : Bd P S) (h : Owns P S ds ys []) : Stp P S NoU (fun l => P l ∨ l = S.length) (S ++ [.lst ds]) ∧ Own (fun l => P l ∨ l = S.length) (S ++ [.lst ds]) (.loc S.length) (.lst false ys) [] := by
  have st : Stp P S NoU (fun l => P l ∨ l = S.length) (S ++ [.lst ds]) := ⟨by simp, fun l hl _ => List.getElem?_append_left hl, fun l h => .inl h, fun l h => h.imp id fun z => .inr (by omega), fun l h => by
    rcases h with h | h
    · have := b l h; simp; omega
    · simp; omega⟩
  exact ⟨st, .lstF _ ds ys (.inr rfl) (by simp) (h.st0 st b)⟩
def vLst (gs : VEn → Option (List Y)) : VEn → Option Y := fun σ => (gs σ).bind fun ys => if fit ys.length = true then some (.lst false ys) else none
/-! ### truths -/
def vTest (g : VEn → Option Y) : VEn → Option Bool := fun σ => match g σ with
  | some (.bl b) => some b
  | _ => none
def trY : Y → Option Bool
  | .non => some false
  | .bl b => some b
  | .int i => some (i != 0)
  | .str y => if fit y.length = true then some ((y.length : Int) != 0) else none
  | .tup xs => some (!xs.isEmpty)
  | .lsc xs => some (!xs.isEmpty)
  | .lst _ xs => some (!xs.isEmpty)
  | .dct _ xs => some (!xs.isEmpty)
  | _ => none
theorem Owns.emp (h : Owns P S ds ys f) : ds.isEmpty = ys.isEmpty := by cases h <;> rfl
def vTru (g : VEn → Option Y) : VEn → Option Bool := fun σ => (g σ).bind trY
def vNotT (g : VEn → Option Bool) : VEn → Option Bool := fun σ => (g σ).map (!·)
def vAndT (g g' : VEn → Option Bool) : VEn → Option Bool := fun σ => (g σ).bind fun k => if k = true then g' σ else some false
def vOrT (g g' : VEn → Option Bool) : VEn → Option Bool := fun σ => (g σ).bind fun k => if k = true then some true else g' σ
def vTt : VEn → Option Bool := fun _ => some true
def vIf (t : VEn → Option Bool) (g g' : VEn → Option Y) : VEn → Option Y := fun σ => (t σ).bind fun k => if k = true then g σ else g' σ
def vAnd (g g' : VEn → Option Y) : VEn → Option Y := fun σ => (g σ).bind fun x => (trY x).bind fun k => if k = true then g' σ else some x
def vOr (g g' : VEn → Option Y) : VEn → Option Y := fun σ => (g σ).bind fun x => (trY x).bind fun k => if k = true then some x else g' σ
def vNot (g : VEn → Option Y) : VEn → Option Y := fun σ => (g σ).bind fun x => (trY x).map fun k => .bl (!k)
def vChain (h h' : Y → Y → Option Y) (ga gb gc : VEn → Option Y) : VEn → Option Y := fun σ => (ga σ).bind fun x => (gb σ).bind fun y => match h x y with
  | some (.bl true) => (gc σ).bind fun u => h' y u
  | some (.bl false) => some (.bl false)
  | _ => none
end
end Sm
end
section
/-! Sm, part R: operations on values. -/
namespace Sm
open PySem PySem.Spec PyProof.Rows L2
section
variable {O : List Nat} {P P' P'' : Nat → Prop} {S S' S'' : Sto} {ρ : En} {σ : VEn} {φ : Nat → List Nat} {d e : D} {x y z k : Y} {ds : List D} {xs ys : List Y} {f f' : List Nat} {U U' U'' : Nat → Prop}
def intY (C : Int → Int → Bool) (f : Int → Int → Y) : Y → Y → Option Y
  | .int i, .int j => if C i j = true then some (f i j) else none
  | _, _ => none
def intY0 (f : Int → Int → Y) : Y → Y → Option Y
  | .int i, .int j => some (f i j)
  | _, _ => none
def lstY : Y → Option (List Y)
  | .lsc xs => some xs
  | .lst _ xs => some xs
  | _ => none
def seqY : Y → Option (List Y)
  | .tup xs => some xs
  | y => lstY y
def addY : Y → Y → Option Y
  | .int i, .int j => some (.int (i + j))
  | .str x, .str y => if fit (x.length + y.length) = true then some (.str (x ++ y)) else none
  | .tup xs, .tup ys => if fit (xs.length + ys.length) = true then some (.tup (xs ++ ys)) else none
  | .lst _ xs, .lst _ ys => if fit (xs.length + ys.length) = true then some (.lst false (xs ++ ys)) else none
  | _, _ => none
/-! ### sameness -/
def flatY : Y → Bool
  | .non => true
  | .bl _ => true
  | .int _ => true
  | .str _ => true
  | _ => false
def eqFY : Y → Y → Bool
  | .non, .non => true
  | .bl a, .bl b => a == b
  | .bl a, .int b => (if a then 1 else 0) == b
  | .int a, .bl b => a == (if b then 1 else 0)
  | .int a, .int b => a == b
  | .str a, .str b => a == b
  | _, _ => false
def isTp : Y → Option (List Y)
  | .tup xs => some xs
  | _ => none
def eqAllY (f : Y → Y → Option Bool) : List Y → List Y → Option Bool
  | x :: xs, y :: ys => match f x y, eqAllY f xs ys with
    | some a, some b => some (a && b)
    | _, _ => none
  | _, _ => some true
def eqLY (f : Y → Y → Option Bool) (d e : Y) : Option Bool := match lstY d, lstY e with
  | some xs, some ys => if xs.length = ys.length then eqAllY f xs ys else some false
  | some _, none => if flatY e = true then some false else none
  | none, some _ => if flatY d = true then some false else none
  | none, none => none
def eqCY (f : Y → Y → Option Bool) (d e : Y) : Option Bool := match isTp d, isTp e with
  | some xs, some ys => (eqAllY f xs ys).map fun b => b && decide (xs.length = ys.length)
  | some _, none => if (flatY e || (lstY e).isSome) = true then some false else none
  | none, some _ => if (flatY d || (lstY d).isSome) = true then some false else none
  | none, none => eqLY f d e
def eqNY : Nat → Y → Y → Option Bool
  | 0, d, e => if (flatY d && flatY e) = true then some (eqFY d e) else none
  | n + 1, d, e => if (flatY d && flatY e) = true then some (eqFY d e) else eqCY (eqNY n) d e
def okTopY (x : Y) : Bool := (isTp x).isSome || flatY x || (lstY x).isSome
def eqQY (x y : Y) : Option Bool := if (okTopY x && okTopY y) = true then eqNY 60 x y else none
def eqY (x y : Y) : Option Y := (eqQY x y).map .bl
def neY (x y : Y) : Option Y := (eqQY x y).map fun b => .bl (!b)
/-! ### keys -/
def keyY : Y → Option Key
  | .int i => some (.inl i)
  | .str x => some (.inr x)
  | _ => none
def valY (kys : List (Key × Y)) (k : Key) : Option Y := (kys.find? fun kv => decide (kv.1 = k)).map (·.2)
/-! ### parts -/
def atY (xs : List Y) : Y → Option Y
  | .int i => atI xs i
  | _ => none
def getY : Y → Y → Option Y
  | .tup xs, k => atY xs k
  | .lsc xs, k => atY xs k
  | .lst _ xs, k => atY xs k
  | .str z, .int i => if fit z.length = true then (atI z.cps.toList i).map fun c => .str ⟨#[c]⟩ else none
  | .dct _ kvs, k => match keyY k with
    | some c => valY kvs c
    | none => none
  | _, _ => none
/-- a part that stands fast -/
def getV (x k : Y) : Option Y := match x with
  | .dct true _ => (getY x k).bind fun y => if isF y = true then some y else none
  | _ => getY x k
def vGet (g g' : VEn → Option Y) : VEn → Option Y := fun σ => (g σ).bind fun x => (g' σ).bind fun k => getY x k
/-! ### fields -/
def fldY (T : FTab) (nm : Str) : Y → Option Y
  | .ins _ c fs => if T c nm = true then fs.lookup nm else none
  | _ => none
def vFld (T : FTab) (nm : Str) (g : VEn → Option Y) : VEn → Option Y := fun σ => (g σ).bind (fldY T nm)
/-! ### in -/
def inLY (x : Y) (xs : List Y) : Option Bool := if (flatY x && xs.all flatY) = true then some (xs.any fun y => eqFY y x) else none
def inQY : Y → Y → Option Bool
  | x, .tup xs => inLY x xs
  | x, .lsc xs => inLY x xs
  | x, .lst _ xs => inLY x xs
  | .str x, .str z => some (inS x z)
  | x, .dct _ kvs => match keyY x with
    | some k => some (valY kvs k).isSome
    | none => none
  | _, _ => none
def inY (x y : Y) : Option Y := (inQY x y).map .bl
def ninY (x y : Y) : Option Y := (inQY x y).map fun b => .bl (!b)
end
end Sm
end
section
/-! Sm, part S: more operations on values; what is walked; comprehensions; calls that change nothing. -/
namespace Sm
open PySem PySem.Spec PyProof.Rows L2
section
variable {O : List Nat} {P P' P'' : Nat → Prop} {S S' S'' : Sto} {ρ : En} {σ : VEn} {φ : Nat → List Nat} {d e : D} {x y z k : Y} {ds : List D} {xs ys : List Y} {f f' : List Nat} {U U' U'' : Nat → Prop}
def lenY : Y → Option Y
  | .tup xs => some (.int xs.length)
  | .lsc xs => some (.int xs.length)
  | .lst _ xs => some (.int xs.length)
  | .dct _ xs => some (.int xs.length)
  | .str z => if fit z.length = true then some (.int z.length) else none
  | _ => none
def intY1 : Y → Option Y
  | .int i => some (.int i)
  | .bl b => some (.int (if b then 1 else 0))
  | _ => none
def absY : Y → Option Y
  | .int i => some (.int (if i < 0 then -i else i))
  | _ => none
def negY : Y → Option Y
  | .int i => some (.int (-i))
  | _ => none
/-! ### new lists -/
def NL1 (h : D → Mo D) (hL : Y → Option (List Y)) : Prop := ∀ P S d x f, Own P S d x f → ∀ ys, hL x = some ys → ∃ ds, h d S = .ok (.loc S.length) (S ++ [.lst ds]) ∧ Owns P S ds ys []
def frL (hL : Y → Option (List Y)) : Y → Option Y := fun x => (hL x).map (.lst false)
theorem NL1.b {h : D → Mo D} {hL : Y → Option (List Y)} (H : NL1 h hL) : B1 h (frL hL) := fun P S d x f b hx y q => by
  obtain ⟨ys, h1, rfl⟩ := Option.map_eq_some_iff.mp q
  obtain ⟨ds, k1, k2⟩ := H P S d x f hx ys h1
  obtain ⟨s1, s2⟩ := new_F b k2
  exact ⟨_, _, _, k1, s1, s2⟩
def addL2 : Y → Y → Option (List Y)
  | .lst _ xs, .lst _ ys => if fit (xs.length + ys.length) = true then some (xs ++ ys) else none
  | _, _ => none
def kY : Key → Y
  | .inl i => .int i
  | .inr x => .str x
def keysY : Y → Option (List Key)
  | .dct _ kvs => some (kvs.map (·.1))
  | _ => none
def listL (x : Y) : Option (List Y) := match seqY x with
  | some xs => some xs
  | none => (keysY x).map fun ks => ks.map kY
def intsY : List Y → Option (List Int)
  | [] => some []
  | .int i :: r => (intsY r).map fun q => i :: q
  | _ :: _ => none
@[simp] theorem intsY_map : ∀ ns : List Int, intsY (ns.map .int) = some ns
  | [] => rfl
  | n :: r => by rw [List.map_cons, intsY, intsY_map r]; rfl
def tupleY (x : Y) : Option Y := (seqY x).map .tup
def blsY : List Y → Option (List Bool)
  | [] => some []
  | .bl i :: r => (blsY r).map fun q => i :: q
  | _ :: _ => none
@[simp] theorem blsY_map : ∀ ns : List Bool, blsY (ns.map .bl) = some ns
  | [] => rfl
  | n :: r => by rw [List.map_cons, blsY, blsY_map r]; rfl
def tyY : Y → Option TK
  | .non => some (.inl "NoneType")
  | .bl _ => some (.inl "bool")
  | .int _ => some (.inl "int")
  | .str _ => some (.inl "str")
  | .tup _ => some (.inl "tuple")
  | .lst _ _ => some (.inl "list")
  | .dct _ _ => some (.inl "dict")
  | .ins _ c _ => some (.inr c)
  | _ => none
def clY : Y → Option TK
  | .ty n => some (.inl n)
  | .cls c => some (.inr c)
  | _ => none
def isiY (J : TK → TK → Option Bool) (x c : Y) : Option Y := match tyY x, clY c with
  | some t, some k => (J t k).map .bl
  | _, _ => none
/-! ### slices -/
def cutG {α : Type} (xs : List α) (lo hi : Option Int) : List α := (xs.drop (HT.sIx xs.length 0 lo)).take (HT.sIx xs.length xs.length hi - HT.sIx xs.length 0 lo)
def vPt0 : VEn → Option (Option Int) := fun _ => some none
def vPt (g : VEn → Option Y) : VEn → Option (Option Int) := fun σ => match g σ with
  | some (.int i) => some (some i)
  | _ => none
def slY (lo hi : Option Int) : Y → Option Y
  | .tup xs => some (.tup (cutG xs lo hi))
  | .lsc xs => some (.lst false (cutG xs lo hi))
  | .lst _ xs => some (.lst false (cutG xs lo hi))
  | .str z => if fit z.length = true then some (.str (cutS z lo hi)) else none
  | _ => none
def slL (lo hi : Option Int) : Y → Option (List Y)
  | .lsc xs => some (cutG xs lo hi)
  | .lst _ xs => some (cutG xs lo hi)
  | _ => none
def vSl (g : VEn → Option Y) (gl gh : VEn → Option (Option Int)) : VEn → Option Y := fun σ => (g σ).bind fun x => (gl σ).bind fun l => (gh σ).bind fun h => slY l h x
/-! ### index -/
/-! ### what is walked -/
def itY : Y → Option (List Y)
  | .tup xs => some xs
  | .lsc xs => some xs
  | .lst false xs => some xs
  | .str x => some (x.cps.toList.map fun c => .str ⟨#[c]⟩)
  | _ => none
def vIt (g : VEn → Option Y) : VEn → Option (List Y) := fun σ => (g σ).bind itY
def rgY (lo : Int) (n : Nat) : List Y := (List.range n).map fun i => Y.int (lo + (i : Nat))
def rng1Y : List Y → Option (List Y)
  | [.int j] => if okR j = true then some (rgY 0 j.toNat) else none
  | _ => none
def vRng (h : List Y → Option (List Y)) (gs : VEn → Option (List Y)) : VEn → Option (List Y) := fun σ => (gs σ).bind h
def enumFrom (n : Nat) : List Y → List Y
  | [] => []
  | x :: r => .tup [.int (n : Nat), x] :: enumFrom (n + 1) r
def enumY : List Y → Option (List Y)
  | [x] => (seqY x).map (enumFrom 0)
  | _ => none
end
end Sm
end
section
/-! Sm, part T: comprehensions; calls that change nothing; expressions that change what is owned. -/
namespace Sm
open PySem PySem.Spec PyProof.Rows L2
section
variable {O : List Nat} {P P' P'' : Nat → Prop} {S S' S'' : Sto} {ρ ρ' : En} {σ σ' : VEn} {φ : Nat → List Nat} {d e : D} {x y z k : Y} {ds : List D} {xs ys : List Y} {f f' : List Nat} {U U' U'' : Nat → Prop}
/-! ### frames changed -/
def fset (φ : Nat → List Nat) (i : Nat) (a : List Nat) : Nat → List Nat := fun j => if j = i then a else φ j
theorem fset_self {i : Nat} {a : List Nat} : fset φ i a i = a := if_pos rfl
theorem fset_ne {i j : Nat} {a : List Nat} (h : j ≠ i) : fset φ i a j = φ j := if_neg h
theorem Fr.set (h : Fr O P S ρ σ φ) {i : Nat} {a : List Nat} (o : Own P S d y a) (ha : ∀ j, j ≠ i → ∀ l ∈ a, l ∉ φ j) (hi : i ∈ O ∨ a = []) :
    ∃ φ', Fr O P S (ρ.set i (some d)) (σ.set i (some y)) φ' ∧ ∀ l, Uf φ' l → Uf φ l ∨ l ∈ a := by
  by_cases hl : i < σ.length
  · refine ⟨fset φ i a, ⟨by simp [h.len], fun j z q => ?_, fun j hj => ?_, fun j q => ?_, fun j k hjk l hl1 hl2 => ?_⟩, ?_⟩
    · by_cases hj : j = i
      · subst hj
        rw [List.getElem?_set_self hl] at q
        cases q
        rw [fset_self]
        exact ⟨d, List.getElem?_set_self (by rw [h.len]; exact hl), o⟩
      · rw [List.getElem?_set_ne (fun z => hj z.symm)] at q
        rw [fset_ne hj, List.getElem?_set_ne (fun z => hj z.symm)]
        exact h.at_ j z q
    · by_cases hj2 : j = i
      · subst hj2
        rw [fset_self]
        exact hi.resolve_left hj
      · rw [fset_ne hj2]; exact h.val j hj
    · by_cases hj : j = i
      · subst hj
        exact absurd (List.getElem?_set_self hl) (q y)
      · rw [fset_ne hj]
        refine h.emp j fun z w => q z ?_
        rw [List.getElem?_set_ne (fun z => hj z.symm)]; exact w
    · by_cases hj : j = i
      · subst hj
        rw [fset_self] at hl1
        rw [fset_ne (fun z => hjk z.symm)] at hl2
        exact ha k (fun z => hjk z.symm) l hl1 hl2
      · rw [fset_ne hj] at hl1
        by_cases hk : k = i
        · subst hk
          rw [fset_self] at hl2
          exact ha j hj l hl2 hl1
        · rw [fset_ne hk] at hl2
          exact h.dis j k hjk l hl1 hl2
    · rintro l ⟨j, hj⟩
      by_cases hji : j = i
      · subst hji; rw [fset_self] at hj; exact .inr hj
      · rw [fset_ne hji] at hj; exact .inl ⟨j, hj⟩
  · refine ⟨φ, ?_, fun l q => .inl q⟩
    have hr := h.len
    rw [List.set_eq_of_length_le (show ρ.length ≤ i by omega), List.set_eq_of_length_le (show σ.length ≤ i by omega)]
    exact h
/-- names forgotten; rows that agree else -/
def wipeV (σ : VEn) : List Nat → VEn
  | [] => σ
  | v :: vs => (wipeV σ vs).set v none
theorem wipeV_len : ∀ vs : List Nat, (wipeV σ vs).length = σ.length
  | [] => rfl
  | v :: vs => by simp [wipeV, wipeV_len vs]
theorem wipeV_get {i : Nat} : ∀ {vs : List Nat}, (wipeV σ vs)[i]? = some (some y) → σ[i]? = some (some y) ∧ i ∉ vs
  | [], h => ⟨h, by simp⟩
  | v :: vs, h => by
    unfold wipeV at h
    by_cases hv : i = v
    · subst hv
      have hl := (List.getElem?_eq_some_iff.mp h).1
      rw [List.length_set] at hl
      rw [List.getElem?_set_self hl] at h
      cases h
    · rw [List.getElem?_set_ne (fun z => hv z.symm)] at h
      obtain ⟨h1, h2⟩ := wipeV_get h
      exact ⟨h1, by simp [hv, h2]⟩
theorem Fr.wipe (h : Fr O P S ρ σ φ) {vs : List Nat} (hv : ∀ i ∈ vs, i ∉ O) (hl : ρ'.length = ρ.length) (ha : ∀ i, i ∉ vs → ρ'[i]? = ρ[i]?) : Fr O P S ρ' (wipeV σ vs) φ := by
  refine ⟨by rw [hl, h.len, wipeV_len], fun i y q => ?_, h.val, fun i q => ?_, h.dis⟩
  · obtain ⟨h1, h2⟩ := wipeV_get q
    rw [ha i h2]
    exact h.at_ i y h1
  · by_cases hi : i ∈ vs
    · exact h.val i (hv i hi)
    · refine h.emp i fun y w => q y ?_
      have : ∀ {vs : List Nat}, i ∉ vs → (wipeV σ vs)[i]? = σ[i]? := fun {vs} => by
        induction vs with
        | nil => intro _; rfl
        | cons v vs ih =>
          intro hn
          simp at hn
          unfold wipeV
          rw [List.getElem?_set_ne (fun z => hn.1 z.symm)]
          exact ih hn.2
      rw [this hi]; exact w
def setAllV (σ : VEn) : List Nat → List Y → VEn
  | i :: is, y :: ys => setAllV (σ.set i (some y)) is ys
  | _, _ => σ
def putV (σ : VEn) : CT → Y → Option VEn
  | .one i, y => some (σ.set i (some y))
  | .many is, .tup ys => if ys.length = is.length then some (setAllV σ is ys) else none
  | .many _, _ => none
/-! ### effects -/
def XE (O : List Nat) (f : DE) (g : VEn → Option (Y × VEn)) : Prop := ∀ P S ρ σ φ, Bd P S → Fr O P S ρ σ φ → ∀ y σ', g σ = some (y, σ') → ∃ d S' P' φ' a, f ρ S = .ok d S' ∧ Stp P S (Uf φ) P' S' ∧ Fr O P' S' ρ σ' φ' ∧ Own P' S' d y a ∧ (∀ l ∈ a, ¬ Uf φ' l) ∧ (∀ l, Uf φ' l ∨ l ∈ a → Uf φ l ∨ S.length ≤ l)
def XEV (O : List Nat) (f : DE) (g : VEn → Option (Y × VEn)) : Prop := ∀ P S ρ σ φ, Bd P S → Fr O P S ρ σ φ → ∀ y σ', g σ = some (y, σ') → ∃ d S' P' φ', f ρ S = .ok d S' ∧ Stp P S (Uf φ) P' S' ∧ Fr O P' S' ρ σ' φ' ∧ Own P' S' d y [] ∧ (∀ l, Uf φ' l → Uf φ l ∨ S.length ≤ l)
def XEVs (O : List Nat) (f : En → Mo (List D)) (g : VEn → Option (List Y × VEn)) : Prop := ∀ P S ρ σ φ, Bd P S → Fr O P S ρ σ φ → ∀ y σ', g σ = some (y, σ') → ∃ d S' P' φ', f ρ S = .ok d S' ∧ Stp P S (Uf φ) P' S' ∧ Fr O P' S' ρ σ' φ' ∧ Owns P' S' d y [] ∧ (∀ l, Uf φ' l → Uf φ l ∨ S.length ≤ l)
def XTE (O : List Nat) (f : En → Mo Bool) (g : VEn → Option (Bool × VEn)) : Prop := ∀ P S ρ σ φ, Bd P S → Fr O P S ρ σ φ → ∀ y σ', g σ = some (y, σ') → ∃ S' P' φ', f ρ S = .ok y S' ∧ Stp P S (Uf φ) P' S' ∧ Fr O P' S' ρ σ' φ' ∧ (∀ l, Uf φ' l → Uf φ l ∨ S.length ≤ l)
def vL {α : Type} (g : VEn → Option α) : VEn → Option (α × VEn) := fun σ => (g σ).map fun y => (y, σ)
theorem XEV.o {f : DE} {g : VEn → Option (Y × VEn)} (h : XEV O f g) : XE O f g := fun P S ρ σ φ b r y σ' e => by
  obtain ⟨d, S1, P1, φ1, k1, k2, k3, k4, k5⟩ := h P S ρ σ φ b r y σ' e
  exact ⟨d, S1, P1, φ1, [], k1, k2, k3, k4, (fun _ z => by cases z), fun l q => q.elim (k5 l) fun z => by cases z⟩
/-- let go -/
def vFz (g : VEn → Option (Y × VEn)) : VEn → Option (Y × VEn) := fun σ => (g σ).map fun p => (frz p.1, p.2)
theorem add_P {a : List Nat} (st : Stp P S U P' S') (ha : ∀ l ∈ a, (U l ∨ S.length ≤ l) ∧ l < S'.length) : Stp P S U (fun l => P' l ∨ l ∈ a) S' := ⟨st.len, st.keep, fun l h => .inl (st.mono l h), fun l h => h.elim (st.new l) fun z => .inr (ha l z).1, fun l h => h.elim (st.bnd l) fun z => (ha l z).2⟩
theorem Fr.addP (h : Fr O P S ρ σ φ) {a : List Nat} (ha : ∀ l ∈ a, ¬ Uf φ l) : Fr O (fun l => P l ∨ l ∈ a) S ρ σ φ :=
  ⟨h.len, fun i y q => by
    obtain ⟨d, e, o⟩ := h.at_ i y q
    exact ⟨d, e, o.kp ⟨fun l z => .inl z, fun l z w => w.elim (h.fp l ⟨i, z⟩).1 fun w => ha l w ⟨i, z⟩, fun _ _ _ q => q⟩⟩, h.val, h.emp, h.dis⟩
theorem XE.v {f : DE} {g : VEn → Option (Y × VEn)} (h : XE O f g) : XEV O f (vFz g) := fun P S ρ σ φ b r y σ' e => by
  obtain ⟨⟨z, σ1⟩, h1, h2⟩ := Option.map_eq_some_iff.mp e
  cases h2
  obtain ⟨d, S1, P1, φ1, a, k1, k2, k3, k4, k5, k6⟩ := h P S ρ σ φ b r _ _ h1
  exact ⟨d, S1, fun l => P1 l ∨ l ∈ a, φ1, k1, add_P k2 fun l q => ⟨k6 l (.inr q), (k4.fp l q).2⟩, k3.addP k5, k4.frz (fun l q => .inl q) fun l q => .inr q, fun l q => k6 l (.inl q)⟩
theorem Fr.hU (h : Fr O P S ρ σ φ) : ∀ l, Uf φ l → ¬ P l := fun l q => (h.fp l q).1
/-- one behind the other -/
theorem XEV.seq {f : DE} {g : VEn → Option (Y × VEn)} (h : XEV O f g) {P1 : Nat → Prop} {S1 : Sto} {φ1 : Nat → List Nat} (st : Stp P S (Uf φ) P1 S1) (fr : Fr O P1 S1 ρ σ φ1) (hs : ∀ l, Uf φ1 l → Uf φ l ∨ S.length ≤ l) (q : g σ = some (y, σ')) :
    ∃ d S' P' φ', f ρ S1 = .ok d S' ∧ Stp P S (Uf φ) P' S' ∧ Fr O P' S' ρ σ' φ' ∧ Own P' S' d y [] ∧ (∀ l, Uf φ' l → Uf φ l ∨ S.length ≤ l) ∧ (∀ u x, Own P1 S1 u x [] → Own P' S' u x []) ∧ (∀ u x, Owns P1 S1 u x [] → Owns P' S' u x []) := by
  obtain ⟨d, S2, P2, φ2, k1, k2, k3, k4, k5⟩ := h P1 S1 ρ σ φ1 st.bnd fr _ _ q
  refine ⟨d, S2, P2, φ2, k1, st.trans k2 hs, k3, k4, fun l z => ?_, fun u x o => o.st k2 st.bnd fr.hU, fun u x o => o.st k2 st.bnd fr.hU⟩
  rcases k5 l z with w | w
  · exact hs l w
  · exact .inr (Nat.le_trans st.len w)
theorem XEVs.seq {f : En → Mo (List D)} {g : VEn → Option (List Y × VEn)} (h : XEVs O f g) {P1 : Nat → Prop} {S1 : Sto} {φ1 : Nat → List Nat} (st : Stp P S (Uf φ) P1 S1) (fr : Fr O P1 S1 ρ σ φ1) (hs : ∀ l, Uf φ1 l → Uf φ l ∨ S.length ≤ l) (q : g σ = some (ys, σ')) :
    ∃ d S' P' φ', f ρ S1 = .ok d S' ∧ Stp P S (Uf φ) P' S' ∧ Fr O P' S' ρ σ' φ' ∧ Owns P' S' d ys [] ∧ (∀ l, Uf φ' l → Uf φ l ∨ S.length ≤ l) ∧ (∀ u x, Own P1 S1 u x [] → Own P' S' u x []) ∧ (∀ u x, Owns P1 S1 u x [] → Owns P' S' u x []) := by
  obtain ⟨d, S2, P2, φ2, k1, k2, k3, k4, k5⟩ := h P1 S1 ρ σ φ1 st.bnd fr _ _ q
  refine ⟨d, S2, P2, φ2, k1, st.trans k2 hs, k3, k4, fun l z => ?_, fun u x o => o.st k2 st.bnd fr.hU, fun u x o => o.st k2 st.bnd fr.hU⟩
  rcases k5 l z with w | w
  · exact hs l w
  · exact .inr (Nat.le_trans st.len w)
theorem XTE.seq {f : En → Mo Bool} {g : VEn → Option (Bool × VEn)} {b : Bool} (h : XTE O f g) {P1 : Nat → Prop} {S1 : Sto} {φ1 : Nat → List Nat} (st : Stp P S (Uf φ) P1 S1) (fr : Fr O P1 S1 ρ σ φ1) (hs : ∀ l, Uf φ1 l → Uf φ l ∨ S.length ≤ l) (q : g σ = some (b, σ')) :
    ∃ S' P' φ', f ρ S1 = .ok b S' ∧ Stp P S (Uf φ) P' S' ∧ Fr O P' S' ρ σ' φ' ∧ (∀ l, Uf φ' l → Uf φ l ∨ S.length ≤ l) ∧ (∀ u x, Own P1 S1 u x [] → Own P' S' u x []) ∧ (∀ u x, Owns P1 S1 u x [] → Owns P' S' u x []) := by
  obtain ⟨S2, P2, φ2, k1, k2, k3, k5⟩ := h P1 S1 ρ σ φ1 st.bnd fr _ _ q
  refine ⟨S2, P2, φ2, k1, st.trans k2 hs, k3, fun l z => ?_, fun u x o => o.st k2 st.bnd fr.hU, fun u x o => o.st k2 st.bnd fr.hU⟩
  rcases k5 l z with w | w
  · exact hs l w
  · exact .inr (Nat.le_trans st.len w)
def eNil : VEn → Option (List Y × VEn) := fun σ => some ([], σ)
def eCons (g : VEn → Option (Y × VEn)) (gs : VEn → Option (List Y × VEn)) : VEn → Option (List Y × VEn) := fun σ => (g σ).bind fun p => (gs p.2).map fun q => (p.1 :: q.1, q.2)
def eUn (h : Y → Option Y) (g : VEn → Option (Y × VEn)) : VEn → Option (Y × VEn) := fun σ => (g σ).bind fun p => (h p.1).map fun y => (y, p.2)
def eOp (h : Y → Y → Option Y) (g g' : VEn → Option (Y × VEn)) : VEn → Option (Y × VEn) := fun σ => (g σ).bind fun p => (g' p.2).bind fun q => (h p.1 q.1).map fun y => (y, q.2)
def eTup (gs : VEn → Option (List Y × VEn)) : VEn → Option (Y × VEn) := fun σ => (gs σ).bind fun p => if fit p.1.length = true then some (.tup p.1, p.2) else none
def eLst (gs : VEn → Option (List Y × VEn)) : VEn → Option (Y × VEn) := fun σ => (gs σ).bind fun p => if fit p.1.length = true then some (.lst true p.1, p.2) else none
/-- list(x), sorted(x), .. owned -/
def oNL (h : Y → Option (List Y)) (g : VEn → Option Y) : VEn → Option (Y × VEn) := fun σ => (g σ).bind fun x => (h x).map fun ys => (.lst true ys, σ)
def oNL2 (h : Y → Y → Option (List Y)) (g g' : VEn → Option Y) : VEn → Option (Y × VEn) := fun σ => (g σ).bind fun x => (g' σ).bind fun z => (h x z).map fun ys => (.lst true ys, σ)
/-- .. the second one with effects -/
def eNL2 (h : Y → Y → Option (List Y)) (g g' : VEn → Option (Y × VEn)) : VEn → Option (Y × VEn) := fun σ => (g σ).bind fun p => (g' p.2).bind fun q => (h p.1 q.1).map fun ys => (.lst true ys, q.2)
def oSl (g : VEn → Option Y) (gl gh : VEn → Option (Option Int)) : VEn → Option (Y × VEn) := fun σ => (g σ).bind fun x => (gl σ).bind fun l => (gh σ).bind fun h => (slL l h x).map fun ys => (.lst true ys, σ)
def oDct : VEn → Option (Y × VEn) := fun σ => some (.dct true [], σ)
/-! ### truths with effects -/
def eTest (g : VEn → Option (Y × VEn)) : VEn → Option (Bool × VEn) := fun σ => match g σ with
  | some (.bl b, σ') => some (b, σ')
  | _ => none
def eTru (g : VEn → Option (Y × VEn)) : VEn → Option (Bool × VEn) := fun σ => (g σ).bind fun p => (trY p.1).map fun k => (k, p.2)
def eNotT (g : VEn → Option (Bool × VEn)) : VEn → Option (Bool × VEn) := fun σ => (g σ).map fun p => (!p.1, p.2)
def eAndT (g g' : VEn → Option (Bool × VEn)) : VEn → Option (Bool × VEn) := fun σ => (g σ).bind fun p => if p.1 = true then g' p.2 else some (false, p.2)
def eOrT (g g' : VEn → Option (Bool × VEn)) : VEn → Option (Bool × VEn) := fun σ => (g σ).bind fun p => if p.1 = true then some (true, p.2) else g' p.2
def eIf (t : VEn → Option (Bool × VEn)) (g g' : VEn → Option (Y × VEn)) : VEn → Option (Y × VEn) := fun σ => (t σ).bind fun p => if p.1 = true then g p.2 else g' p.2
/-! ### walks with effects ahead -/
def eRng (h : List Y → Option (List Y)) (gs : VEn → Option (List Y × VEn)) : VEn → Option (List Y × VEn) := fun σ => (gs σ).bind fun p => (h p.1).map fun ys => (ys, p.2)
def eIt (g : VEn → Option (Y × VEn)) : VEn → Option (List Y × VEn) := fun σ => (g σ).bind fun p => (itY p.1).map fun ys => (ys, p.2)
end
end Sm
end
section
/-! Sm, part U: comprehensions and calls on values. -/
namespace Sm
open PySem PySem.Spec PyProof.Rows L2
section
variable {O : List Nat} {P P' P'' : Nat → Prop} {S S' S'' : Sto} {ρ ρ' : En} {σ σ' : VEn} {φ : Nat → List Nat} {d : D} {x y z k : Y} {ds : List D} {xs ys : List Y} {f f' : List Nat} {U U' U'' : Nat → Prop}
/-! ### comprehensions -/
def lcY (t : CT) (gt : VEn → Option Bool) (ge : VEn → Option Y) (σ : VEn) : List Y → Option (List Y)
  | [] => some []
  | y :: r => (putV σ t y).bind fun σ' => (gt σ').bind fun b => if b = true then (ge σ').bind fun z => (lcY t gt ge σ r).map fun q => z :: q else lcY t gt ge σ r
/-- how a walk goes on: what is left, the place -/
structure Run (t : CT) (tst : En → Mo Bool) (elt : DE) (ρ : En) (n : Nat) (D0 : List D) (P0 : Nat → Prop) (S0 : Sto) (run : List D → Nat → Sto → Rz D) : Prop where
  nil : ∀ i S, D0.drop i = [] → (∀ l, P0 l → S[l]? = S0[l]?) → run [] i S = .ok (.loc n) S
  cons : ∀ d r i S, D0.drop i = d :: r → (∀ l, P0 l → S[l]? = S0[l]?) → run (d :: r) i S = match lcTurn t tst elt ρ n d S with
    | some S' => run r (i + 1) S'
    | none => .no
def vLcL (gi : VEn → Option (List Y)) (t : CT) (gt : VEn → Option Bool) (ge : VEn → Option Y) : VEn → Option (List Y) := fun σ => (gi σ).bind fun ys => (lcY t gt ge (wipeV σ t.vs) ys).bind fun out => if fit out.length = true then some out else none
def vLc (gi : VEn → Option (List Y)) (t : CT) (gt : VEn → Option Bool) (ge : VEn → Option Y) : VEn → Option Y := fun σ => (vLcL gi t gt ge σ).map (.lst false)
/-- [.. for x in h ..] over a list of ours -/
def vLcH (h : Nat) (t : CT) (gt : VEn → Option Bool) (ge : VEn → Option Y) : VEn → Option Y := fun σ => match σ[h]? with
  | some (some (.lst true ys)) => (lcY t gt ge (wipeV σ t.vs) ys).bind fun out => if fit out.length = true then some (.lst false out) else none
  | _ => none
def oLc (gi : VEn → Option (List Y)) (t : CT) (gt : VEn → Option Bool) (ge : VEn → Option Y) : VEn → Option (Y × VEn) := fun σ => (vLcL gi t gt ge σ).map fun ys => (.lst true ys, σ)
/-! .. with effects -/
def lcE (t : CT) (gt : VEn → Option (Bool × VEn)) (ge : VEn → Option (Y × VEn)) : List Y → VEn → Option (List Y × VEn)
  | [], σ => some ([], σ)
  | y :: r, σ => (putV (wipeV σ t.vs) t y).bind fun σ1 => (gt σ1).bind fun p => if p.1 = true then (ge p.2).bind fun q => (lcE t gt ge r q.2).map fun w => (q.1 :: w.1, w.2) else lcE t gt ge r p.2
def eLc (gi : VEn → Option (List Y × VEn)) (t : CT) (gt : VEn → Option (Bool × VEn)) (ge : VEn → Option (Y × VEn)) : VEn → Option (Y × VEn) := fun σ => (gi σ).bind fun p => (lcE t gt ge p.1 p.2).bind fun q => if fit q.1.length = true then some (.lst true q.1, wipeV q.2 t.vs) else none
end
end Sm
end
section
/-! Sm, part V: calls on values. -/
namespace Sm
open PySem PySem.Spec PyProof.Rows L2
section
variable {O K : List Nat} {P P' P'' : Nat → Prop} {S S' S'' : Sto} {ρ ρ' : En} {σ σ' : VEn} {φ : Nat → List Nat} {d : D} {x y z k : Y} {ds : List D} {xs ys : List Y} {f f' : List Nat} {U U' U'' : Nat → Prop} {F : List D → Mo D} {np : Nat}
/-- a def that changes nothing that was there -/
def RefP (F : List D → Mo D) (G : List Y → Option Y) : Prop := ∀ P S ds ys, Bd P S → Owns P S ds ys [] → ∀ y, G ys = some y → ∃ d S' P' a, F ds S = .ok d S' ∧ Stp P S NoU P' S' ∧ Own P' S' d y a ∧ (∀ l ∈ a, S.length ≤ l)
def vCall (np : Nat) (G : List Y → Option Y) (gs : VEn → Option (List Y)) : VEn → Option Y := fun σ => (gs σ).bind fun ys => if ys.length = np then (G ys).map frz else none
def eCall (np : Nat) (G : List Y → Option Y) (gs : VEn → Option (List Y × VEn)) : VEn → Option (Y × VEn) := fun σ => (gs σ).bind fun p => if p.1.length = np then (G p.1).map fun y => (y, p.2) else none
/-! ### something owned handed to a def that does not change it -/
theorem own_weak {a : List Nat} (h : Own P S d y a) (m : ∀ l, P l → P' l) (h2 : ∀ l ∈ a, ¬ P' l) : Own P' S d y a := h.kp ⟨m, h2, fun _ _ _ q => q⟩
def vFrz (g : VEn → Option Y) : VEn → Option Y := fun σ => (g σ).map frz
def vCallB (np : Nat) (G : List Y → Option Y) (gs : VEn → Option (List Y)) : VEn → Option Y := fun σ => (gs σ).bind fun ys => if ys.length = np then (G ys).bind fun y => if flY y = true then some y else none else none
/-! ### something owned handed to a def that changes it -/
inductive AR (P : Nat → Prop) (S : Sto) (ρ : En) (σ : VEn) : List D → List Y → List (Option Nat) → Prop
  | nil : AR P S ρ σ [] [] []
  | v (d : D) (y : Y) (ds : List D) (ys : List Y) (os : List (Option Nat)) : Own P S d y [] → AR P S ρ σ ds ys os → AR P S ρ σ (d :: ds) (y :: ys) (none :: os)
  | o (i : Nat) (d : D) (y : Y) (ds : List D) (ys : List Y) (os : List (Option Nat)) : ρ[i]? = some (some d) → σ[i]? = some (some y) → AR P S ρ σ ds ys os → AR P S ρ σ (d :: ds) (y :: ys) (some i :: os)
theorem AR.len {os : List (Option Nat)} : ∀ {ds : List D} {ys : List Y} {os : List (Option Nat)}, AR P S ρ σ ds ys os → ds.length = ys.length ∧ os.length = ys.length
  | _, _, _, .nil => ⟨rfl, rfl⟩
  | _, _, _, .v _ _ _ _ _ _ t => by have := AR.len (os := []) t; simp [this.1, this.2]
  | _, _, _, .o _ _ _ _ _ _ _ _ t => by have := AR.len (os := []) t; simp [this.1, this.2]
theorem AR.get {k : Nat} : ∀ {ds : List D} {ys : List Y} {os : List (Option Nat)} {k : Nat}, AR P S ρ σ ds ys os → ys[k]? = some y → ∃ d, ds[k]? = some d ∧ ((os[k]? = some none ∧ Own P S d y []) ∨ ∃ i, os[k]? = some (some i) ∧ ρ[i]? = some (some d) ∧ σ[i]? = some (some y))
  | _, _, _, _, .nil, e => by simp at e
  | _, _, _, 0, .v d _ _ _ _ w t, e => by simp at e; subst e; exact ⟨d, rfl, .inl ⟨rfl, w⟩⟩
  | _, _, _, 0, .o i d _ _ _ _ h1 h2 t, e => by simp at e; subst e; exact ⟨d, rfl, .inr ⟨i, rfl, h1, h2⟩⟩
  | _, _, _, k + 1, .v d _ _ _ _ w t, e => by
    obtain ⟨d, h1, h2⟩ := AR.get (k := k) t (by simpa using e)
    exact ⟨d, by simpa using h1, by simpa using h2⟩
  | _, _, _, k + 1, .o i d _ _ _ _ _ _ t, e => by
    obtain ⟨d, h1, h2⟩ := AR.get (k := k) t (by simpa using e)
    exact ⟨d, by simpa using h1, by simpa using h2⟩
def putB (σ : VEn) : List (Option Nat) → VEn → VEn
  | some i :: os, u :: us => putB (σ.set i u) os us
  | none :: os, _ :: us => putB σ os us
  | _, _ => σ
theorem AR.st0 {os : List (Option Nat)} (st : Stp P S NoU P' S') (b : Bd P S) : ∀ {ds : List D} {ys : List Y} {os : List (Option Nat)}, AR P S ρ σ ds ys os → AR P' S' ρ σ ds ys os
  | _, _, _, .nil => .nil
  | _, _, _, .v _ _ _ _ _ w t => .v _ _ _ _ _ (w.st0 st b) (AR.st0 (os := os) st b t)
  | _, _, _, .o _ _ _ _ _ _ h1 h2 t => .o _ _ _ _ _ _ h1 h2 (AR.st0 (os := os) st b t)
/-! .. and something owned lent -/
mutual
def noF : Y → Bool
  | .lst o xs => o && xs.all flY
  | .dct o kvs => o && noFK kvs
  | .ins o _ fs => o && noFF fs
  | y => flY y
def noFK : List (Key × Y) → Bool
  | [] => true
  | (_, y) :: r => noF y && noFK r
def noFF : List (Str × Y) → Bool
  | [] => true
  | (_, y) :: r => noF y && noFF r
end
theorem noFK_all : ∀ kvs : List (Key × Y), noFK kvs = true → ∀ y ∈ kvs.map (·.2), noF y = true
  | [], _, y, h => by simp at h
  | (k, z) :: r, h, y, hy => by
    simp only [noFK, Bool.and_eq_true] at h
    rcases List.mem_cons.mp hy with e | e
    · subst e; exact h.1
    · exact noFK_all r h.2 y e
theorem noFF_all : ∀ kvs : List (Str × Y), noFF kvs = true → ∀ y ∈ kvs.map (·.2), noF y = true
  | [], _, y, h => by simp at h
  | (k, z) :: r, h, y, hy => by
    simp only [noFF, Bool.and_eq_true] at h
    rcases List.mem_cons.mp hy with e | e
    · subst e; exact h.1
    · exact noFF_all r h.2 y e
mutual
theorem Own.nf : ∀ {d : D} {y : Y} {f : List Nat}, Own P S d y f → noF y = true → (∀ l ∈ f, ¬ P' l) → Own P' S d y f
  | _, _, _, .non, _, _ => .non
  | _, _, _, .bl _, _, _ => .bl _
  | _, _, _, .int _, _, _ => .int _
  | _, _, _, .str _, _, _ => .str _
  | _, _, _, .ty _, _, _ => .ty _
  | _, _, _, .cls _, _, _ => .cls _
  | _, _, _, .fnc _, _, _ => .fnc _
  | _, _, _, .tup ds ys r, h, _ => Own.fl (.tup ds ys r) (by simpa [noF] using h)
  | _, _, _, .lsc _ _ _, h, _ => by simp [noF, flY] at h
  | _, _, _, .lstF _ _ _ _ _ _, h, _ => by simp [noF] at h
  | _, _, _, .lstO l ds ys _ q r, h, n => .lstO l ds ys (n l (List.mem_singleton.mpr rfl)) q (r.fl fun z hz => by simp [noF] at h; exact h z hz)
  | _, _, _, .dctF _ _ _ _ _ _ _, h, _ => by simp [noF] at h
  | _, _, _, .dctO l kvs kys f _ nl q e r, h, n => .dctO l kvs kys f (n l List.mem_cons_self) nl q e (Owns.nf r (noFK_all kys (by simpa [noF] using h)) fun m hm => n m (List.mem_cons_of_mem _ hm))
  | _, _, _, .insF _ _ _ _ _ _ _ _, h, _ => by simp [noF] at h
  | _, _, _, .insO l c kvs kys f _ nl q e r, h, n => .insO l c kvs kys f (n l List.mem_cons_self) nl q e (Owns.nf r (noFF_all kys (by simpa [noF] using h)) fun m hm => n m (List.mem_cons_of_mem _ hm))
theorem Owns.nf : ∀ {d : List D} {y : List Y} {f : List Nat}, Owns P S d y f → (∀ z ∈ y, noF z = true) → (∀ l ∈ f, ¬ P' l) → Owns P' S d y f
  | _, _, _, .nil, _, _ => .nil
  | _, _, _, .cons d y ds ys f f' r t nd, h, n => .cons d y ds ys f f' (Own.nf r (h y List.mem_cons_self) fun l z => n l (List.mem_append_left _ z)) (Owns.nf t (fun z hz => h z (List.mem_cons_of_mem _ hz)) fun l z => n l (List.mem_append_right _ z)) nd
end
def allNoF (us : VEn) : Bool := us.all fun o => match o with
  | some y => noF y
  | none => true
def vCallEB (np : Nat) (G : List Y → Option (Y × VEn)) (gs : VEn → Option (List Y)) (os : List (Option Nat)) : VEn → Option (Y × VEn) := fun σ => (gs σ).bind fun ys => if ys.length = np then (G ys).bind fun p => if (flY p.1 && allNoF p.2) = true then some (p.1, putB σ os p.2) else none else none
def vCallE (np : Nat) (G : List Y → Option (Y × VEn)) (gs : VEn → Option (List Y)) (os : List (Option Nat)) : VEn → Option (Y × VEn) := fun σ => (gs σ).bind fun ys => if ys.length = np then (G ys).map fun p => (p.1, putB σ os p.2) else none
/-! ### methods -/
def insY (c : Nat) (nm : Str) : Y → Bool
  | .ins _ c' fs => decide (c' = c) && (fs.lookup nm).isNone
  | _ => false
def vMethE (c : Nat) (nm : Str) (np : Nat) (G : List Y → Option (Y × VEn)) (i : Nat) (gs : VEn → Option (List Y)) (os : List (Option Nat)) : VEn → Option (Y × VEn) := fun σ => (vVar i σ).bind fun x => if insY c nm x = true then (gs σ).bind fun ys => if ys.length + 1 = np then (G (x :: ys)).map fun p => (p.1, putB σ (some i :: os) p.2) else none else none
/-- on a thing that stands fast, by a def that changes nothing -/
def vMeth (c : Nat) (nm : Str) (np : Nat) (G : List Y → Option Y) (g : VEn → Option Y) (gs : VEn → Option (List Y)) : VEn → Option Y := fun σ => (g σ).bind fun x => if insY c nm x = true then (gs σ).bind fun ys => if ys.length + 1 = np then (G (x :: ys)).map frz else none else none
/-- on a thing that is owned, by a def that changes nothing and tells no place -/
def vMethB (c : Nat) (nm : Str) (np : Nat) (G : List Y → Option Y) (g : VEn → Option Y) (gs : VEn → Option (List Y)) : VEn → Option Y := fun σ => (g σ).bind fun x => if insY c nm x = true then (gs σ).bind fun ys => if ys.length + 1 = np then (G (frz x :: ys)).bind fun y => if flY y = true then some y else none else none else none
/-! ### new things -/
def vNew (c np : Nat) (G : List Y → Option (Y × VEn)) (gs : VEn → Option (List Y × VEn)) : VEn → Option (Y × VEn) := fun σ => (gs σ).bind fun p => if p.1.length + 1 = np then match G (.ins true c [] :: p.1) with
  | some (.non, some u :: _) => some (u, p.2)
  | _ => none else none
end
end Sm
end
section
/-! Sm, part W: statements on values. -/
namespace Sm
open PySem PySem.Spec PyProof.Rows L2
inductive YF where
  | nx (σ : VEn) | brk (σ : VEn) | cnt (σ : VEn) | ret (y : Y) (σ : VEn) | no
section
variable {O K : List Nat} {P P' P'' P1 : Nat → Prop} {S S' S'' S1 : Sto} {ρ ρ' ρ1 : En} {σ σ' σ1 : VEn} {φ φ1 : Nat → List Nat} {d : D} {x y z k : Y} {ds : List D} {xs ys : List Y} {f f' : List Nat} {U U' U'' : Nat → Prop} {r : Fz}
def Go (O K : List Nat) (P : Nat → Prop) (S : Sto) (ρ : En) (φ : Nat → List Nat) (σ' : VEn) (ρ' : En) (S' : Sto) : Prop := ∃ P' φ', Stp P S (Uf φ) P' S' ∧ Fr O P' S' ρ' σ' φ' ∧ (∀ l, Uf φ' l → Uf φ l ∨ S.length ≤ l) ∧ (∀ i ∈ K, ρ'[i]? = ρ[i]?)
def SOut (O K : List Nat) (P : Nat → Prop) (S : Sto) (ρ : En) (φ : Nat → List Nat) (r : Fz) : YF → Prop
  | .nx σ' => ∃ ρ' S', r = .nx ρ' S' ∧ Go O K P S ρ φ σ' ρ' S'
  | .brk σ' => ∃ ρ' S', r = .brk ρ' S' ∧ Go O K P S ρ φ σ' ρ' S'
  | .cnt σ' => ∃ ρ' S', r = .cnt ρ' S' ∧ Go O K P S ρ φ σ' ρ' S'
  | .ret y σ' => ∃ d ρ' S' P' φ' a, r = .ret d S' ∧ Stp P S (Uf φ) P' S' ∧ Fr O P' S' ρ' σ' φ' ∧ (∀ i ∈ K, ρ'[i]? = ρ[i]?) ∧ Own P' S' d y a ∧ (∀ l ∈ a, ¬ Uf φ' l) ∧ (∀ l, Uf φ' l ∨ l ∈ a → Uf φ l ∨ S.length ≤ l)
  | .no => True
theorem Go.pre (st : Stp P S (Uf φ) P1 S1) (hs : ∀ l, Uf φ1 l → Uf φ l ∨ S.length ≤ l) (hk : ∀ i ∈ K, ρ1[i]? = ρ[i]?) (g : Go O K P1 S1 ρ1 φ1 σ' ρ' S') : Go O K P S ρ φ σ' ρ' S' := by
  obtain ⟨P2, φ2, a, b, c, e⟩ := g
  refine ⟨P2, φ2, st.trans a hs, b, fun l z => ?_, fun i hi => (e i hi).trans (hk i hi)⟩
  rcases c l z with w | w
  · exact hs l w
  · exact .inr (Nat.le_trans st.len w)
theorem SOut.pre {o : YF} (st : Stp P S (Uf φ) P1 S1) (hs : ∀ l, Uf φ1 l → Uf φ l ∨ S.length ≤ l) (hk : ∀ i ∈ K, ρ1[i]? = ρ[i]?) (g : SOut O K P1 S1 ρ1 φ1 r o) : SOut O K P S ρ φ r o := by
  cases o with
  | nx σ' => obtain ⟨ρ', S', e, g⟩ := g; exact ⟨ρ', S', e, g.pre st hs hk⟩
  | brk σ' => obtain ⟨ρ', S', e, g⟩ := g; exact ⟨ρ', S', e, g.pre st hs hk⟩
  | cnt σ' => obtain ⟨ρ', S', e, g⟩ := g; exact ⟨ρ', S', e, g.pre st hs hk⟩
  | ret y σ' =>
    obtain ⟨d, ρ', S', P', φ', a, e, g1, g2, g3, g4, g5, g6⟩ := g
    refine ⟨d, ρ', S', P', φ', a, e, st.trans g1 hs, g2, fun i hi => (g3 i hi).trans (hk i hi), g4, g5, fun l z => ?_⟩
    rcases g6 l z with w | w
    · exact hs l w
    · exact .inr (Nat.le_trans st.len w)
  | no => trivial
theorem SOut.go {o : YF} (g : Go O K P S ρ φ σ1 ρ1 S1) (h : ∀ P1 φ1, Bd P1 S1 → Fr O P1 S1 ρ1 σ1 φ1 → SOut O K P1 S1 ρ1 φ1 r o) : SOut O K P S ρ φ r o := by
  obtain ⟨P1, φ1, a, b, c, e⟩ := g
  exact (h P1 φ1 a.bnd b).pre a c e
def yNext : VEn → YF := fun σ => .nx σ
def yBrk : VEn → YF := fun σ => .brk σ
def yCnt : VEn → YF := fun σ => .cnt σ
def yNo : VEn → YF := fun _ => .no
def ySeq (g h : VEn → YF) : VEn → YF := fun σ => match g σ with
  | .nx σ' => h σ'
  | o => o
def yRet (g : VEn → Option (Y × VEn)) : VEn → YF := fun σ => match g σ with
  | some (y, σ') => .ret y σ'
  | none => .no
def yRetN : VEn → YF := fun σ => .ret .non σ
def yExpr (g : VEn → Option (Y × VEn)) : VEn → YF := fun σ => match g σ with
  | some (_, σ') => .nx σ'
  | none => .no
def yIf (t : VEn → Option (Bool × VEn)) (g h : VEn → YF) : VEn → YF := fun σ => match t σ with
  | some (true, σ') => g σ'
  | some (false, σ') => h σ'
  | none => .no
/-! ### names set -/
def ySet (i : Nat) (g : VEn → Option (Y × VEn)) : VEn → YF := fun σ => match g σ with
  | some (y, σ') => .nx (σ'.set i (some y))
  | none => .no
def gN (i : Nat) : VEn → Y → Option VEn := fun σ y => some (σ.set i (some y))
def gNil : VEn → List Y → Option VEn := fun σ ys => match ys with
  | [] => some σ
  | _ :: _ => none
def gCons (p : VEn → Y → Option VEn) (ps : VEn → List Y → Option VEn) : VEn → List Y → Option VEn := fun σ ys => match ys with
  | [] => none
  | y :: r => (p σ y).bind fun σ' => ps σ' r
def gTp (ps : VEn → List Y → Option VEn) (n : Nat) : VEn → Y → Option VEn := fun σ y => match seqY y with
  | some ys => if ys.length = n then ps σ ys else none
  | none => none
def yAsg (g : VEn → Option (Y × VEn)) (p : VEn → Y → Option VEn) : VEn → YF := fun σ => match g σ with
  | some (y, σ') => match p σ' y with
    | some σ'' => .nx σ''
    | none => .no
  | none => .no
def yPar (i j : Nat) (gs : VEn → Option (List Y × VEn)) : VEn → YF := fun σ => match gs σ with
  | some ([x, y], σ') => .nx ((σ'.set i (some x)).set j (some y))
  | _ => .no
def iaddY : Y → Y → Option Y
  | .int i, .int j => some (.int (i + j))
  | .str x, .str y => if fit (x.length + y.length) = true then some (.str (x ++ y)) else none
  | _, _ => none
def yAug (i : Nat) (h : Y → Y → Option Y) (g : VEn → Option (Y × VEn)) : VEn → YF := fun σ => match σ[i]? with
  | some (some x) => match g σ with
    | some (y, σ') => match h x y with
      | some z => .nx (σ'.set i (some z))
      | none => .no
    | none => .no
  | _ => .no
/-! ### loops -/
def yLoop (p : VEn → Y → Option VEn) (g : VEn → YF) : List Y → VEn → YF
  | [], σ => .nx σ
  | y :: r, σ => match p σ y with
    | none => .no
    | some σ1 => match g σ1 with
      | .nx σ' => yLoop p g r σ'
      | .cnt σ' => yLoop p g r σ'
      | .brk σ' => .nx σ'
      | o => o
structure RunS (k : DG) (s : DS) (D0 : List D) (P0 : Nat → Prop) (S0 : Sto) (run : List D → Nat → En → Sto → Fz) : Prop where
  nil : ∀ i ρ S, D0.drop i = [] → (∀ l, P0 l → S[l]? = S0[l]?) → run [] i ρ S = .nx ρ S
  cons : ∀ d r i ρ S, D0.drop i = d :: r → (∀ l, P0 l → S[l]? = S0[l]?) → run (d :: r) i ρ S = match k d ρ S with
    | .nx ρ1 S1 => (s ρ1 S1).tn (run r (i + 1))
    | _ => .no
def yFor (gi : VEn → Option (List Y × VEn)) (p : VEn → Y → Option VEn) (g : VEn → YF) : VEn → YF := fun σ => match gi σ with
  | some (ys, σ') => yLoop p g ys σ'
  | none => .no
/-! ### to let go of a name -/
def frzAt (i : Nat) (σ : VEn) : VEn := match σ[i]? with
  | some (some y) => σ.set i (some (frz y))
  | _ => σ
theorem Fr.frzAt {i : Nat} (b : Bd P S) (r : Fr O P S ρ σ φ) : ∃ P' φ', Stp P S (Uf φ) P' S ∧ Fr O P' S ρ (frzAt i σ) φ' ∧ (∀ l, Uf φ' l → Uf φ l) ∧ ∀ y, σ[i]? = some (some y) → ∃ d, ρ[i]? = some (some d) ∧ Own P' S d (frz y) [] := by
  by_cases q : ∃ y, σ[i]? = some (some y)
  · obtain ⟨y, q⟩ := q
    obtain ⟨d, g1, g2⟩ := r.at_ i y q
    have st : Stp P S (Uf φ) (fun l => P l ∨ l ∈ φ i) S := add_P (.refl b) fun l z => ⟨.inl ⟨i, z⟩, (g2.fp l z).2⟩
    have e : Sm.frzAt i σ = σ.set i (some (frz y)) := by unfold Sm.frzAt; rw [q]
    have o : Own (fun l => P l ∨ l ∈ φ i) S d (frz y) [] := g2.frz (fun l z => .inl z) fun l z => .inr z
    refine ⟨_, fset φ i [], st, ?_, ?_, fun y' q' => by rw [q] at q'; cases q'; exact ⟨d, g1, o⟩⟩
    · rw [e]
      have hl := (List.getElem?_eq_some_iff.mp q).1
      refine ⟨by rw [List.length_set]; exact r.len, fun j z w => ?_, fun j hj => ?_, fun j w => ?_, fun j k hjk l h1 h2 => ?_⟩
      · by_cases hj : j = i
        · subst hj
          rw [List.getElem?_set_self hl] at w
          cases w
          rw [fset_self]
          exact ⟨d, g1, o⟩
        · rw [List.getElem?_set_ne fun z => hj z.symm] at w
          rw [fset_ne hj]
          obtain ⟨d', k1, k2⟩ := r.at_ j z w
          exact ⟨d', k1, own_weak k2 (fun l z => .inl z) fun l hl z => z.elim (k2.fp l hl).1 fun z => r.dis j i hj l hl z⟩
      · by_cases hji : j = i
        · subst hji; exact fset_self
        · rw [fset_ne hji]; exact r.val j hj
      · by_cases hji : j = i
        · subst hji; exact fset_self
        · rw [fset_ne hji]
          refine r.emp j fun z v => w z ?_
          rw [List.getElem?_set_ne fun z => hji z.symm]; exact v
      · by_cases hj : j = i
        · subst hj; rw [fset_self] at h1; cases h1
        · by_cases hk : k = i
          · subst hk; rw [fset_self] at h2; cases h2
          · rw [fset_ne hj] at h1; rw [fset_ne hk] at h2; exact r.dis j k hjk l h1 h2
    · rintro l ⟨j, hj⟩
      by_cases hji : j = i
      · subst hji; rw [fset_self] at hj; cases hj
      · rw [fset_ne hji] at hj; exact ⟨j, hj⟩
  · have e : Sm.frzAt i σ = σ := by
      unfold Sm.frzAt
      split
      · rename_i y w; exact absurd ⟨y, w⟩ q
      · rfl
    exact ⟨P, φ, .refl b, by rw [e]; exact r, fun l z => z, fun y w => absurd ⟨y, w⟩ q⟩
def yFz (i : Nat) (g : VEn → YF) : VEn → YF := fun σ => g (frzAt i σ)
/-- a name handed on, let go -/
def eMv (i : Nat) : VEn → Option (Y × VEn) := fun σ => match σ[i]? with
  | some (some y) => some (frz y, σ.set i (some (frz y)))
  | _ => none
/-- .. and still owned -/
def oVar (i : Nat) : VEn → Option (Y × VEn) := fun σ => match σ[i]? with
  | some (some y) => some (y, σ.set i none)
  | _ => none
/-! ### defs -/
def startY (n : Nat) (ys : List Y) : VEn := ys.map some ++ List.replicate (n - ys.length) none
def yDefP (n : Nat) (g : VEn → YF) : List Y → Option Y := fun ys => match g (startY n ys) with
  | .nx _ => some .non
  | .ret y _ => some y
  | _ => none
def usOf (K : List Nat) (np : Nat) (σ : VEn) : VEn := (List.range np).map fun i => if i ∈ K then (σ[i]?).join else none
def yDefE (n : Nat) (K : List Nat) (g : VEn → YF) : List Y → Option (Y × VEn) := fun ys => match g (startY n ys) with
  | .nx σ => some (.non, usOf K ys.length σ)
  | .ret y σ => some (y, usOf K ys.length σ)
  | _ => none
end
end Sm
end
section
/-! Sm, part X: what is owned is changed. -/
namespace Sm
open PySem PySem.Spec PyProof.Rows L2
section
variable {O K : List Nat} {P P' P'' P1 : Nat → Prop} {S S' S'' S1 : Sto} {ρ ρ' ρ1 : En} {σ σ' σ1 : VEn} {φ φ1 : Nat → List Nat} {d : D} {x y z c k : Y} {ds : List D} {xs ys : List Y} {f f' : List Nat} {U U' U'' : Nat → Prop} {r : Fz}
/-- a way to something owned -/
def XP (O : List Nat) (fo : DE) (p : VEn → Option Y) (st : VEn → Y → VEn) : Prop := ∀ P S ρ σ φ, Bd P S → Fr O P S ρ σ φ → ∀ c, p σ = some c → ∃ d fc, fo ρ S = .ok d S ∧ Own P S d c fc ∧ (∀ l ∈ fc, Uf φ l) ∧
  ∀ P' S' c' fc', Stp P S (fun l => l ∈ fc) P' S' → Own P' S' d c' fc' → (∀ l ∈ fc', l ∈ fc ∨ ¬ Uf φ l) → ∃ φ', Fr O P' S' ρ (st σ c') φ' ∧ (∀ l, Uf φ' l → Uf φ l ∨ l ∈ fc')
def sVar (i : Nat) : VEn → Y → VEn := fun σ c => σ.set i (some c)
def repK {α : Type} [DecidableEq α] (k : α) (y : Y) : List (α × Y) → List (α × Y)
  | [] => []
  | (k', v) :: r => if k' = k then (k', y) :: r else (k', v) :: repK k y r
def pKey (k : Str) (p : VEn → Option Y) : VEn → Option Y := fun σ => match p σ with
  | some (.dct true kys) => valY kys (.inr k)
  | _ => none
def sKey (k : Str) (p : VEn → Option Y) (st : VEn → Y → VEn) : VEn → Y → VEn := fun σ c => match p σ with
  | some (.dct true kys) => st σ (.dct true (repK (Sum.inr k : Key) c kys))
  | _ => σ
def pFld (T : FTab) (nm : Str) (p : VEn → Option Y) : VEn → Option Y := fun σ => match p σ with
  | some (.ins true c fs) => if T c nm = true then fs.lookup nm else none
  | _ => none
def sFld (nm : Str) (p : VEn → Option Y) (st : VEn → Y → VEn) : VEn → Y → VEn := fun σ z => match p σ with
  | some (.ins true c fs) => st σ (.ins true c (repK nm z fs))
  | _ => σ
/-! ### lists changed -/
def appL (xs : List Y) (y : Y) : Option (List Y) := if fit (xs.length + 1) = true then some (xs ++ [y]) else none
def extL (xs : List Y) (y : Y) : Option (List Y) := match y with
  | .tup ys => if fit (xs.length + ys.length) = true then some (xs ++ ys) else none
  | .lst _ ys => if fit (xs.length + ys.length) = true then some (xs ++ ys) else none
  | _ => none
def eMt1 (p : VEn → Option Y) (st : VEn → Y → VEn) (hL : List Y → Y → Option (List Y)) (g : VEn → Option Y) : VEn → Option (Y × VEn) := fun σ => match p σ with
  | some (.lst true xs) => (g σ).bind fun y => (hL xs y).map fun xs' => (.non, st σ (.lst true xs'))
  | _ => none
/-- .. the argument with effects -/
def eMt1E (i : Nat) (hL : List Y → Y → Option (List Y)) (g : VEn → Option (Y × VEn)) : VEn → Option (Y × VEn) := fun σ => match vVar i σ with
  | some (.lst _ _) => (g σ).bind fun q => match vVar i q.2 with
    | some (.lst true xs) => (hL xs q.1).map fun xs' => (.non, sVar i q.2 (.lst true xs'))
    | _ => none
  | _ => none
def popL (xs : List Y) : Option (List Y × Y) := match xs[xs.length - 1]? with
  | some y => some (xs.dropLast, y)
  | none => none
def clrL (xs : List Y) : Option (List Y × Y) := some ([], .non)
def eMt0 (p : VEn → Option Y) (st : VEn → Y → VEn) (hL : List Y → Option (List Y × Y)) : VEn → Option (Y × VEn) := fun σ => match p σ with
  | some (.lst true xs) => (hL xs).map fun q => (q.2, st σ (.lst true q.1))
  | _ => none
/-! ### x[i] = v -/
def putY (kvs : List (Key × Y)) (k : Key) (v : Y) : List (Key × Y) :=
  if (kvs.any fun kv => decide (kv.1 = k)) = true then kvs.map (fun kv => if kv.1 = k then (kv.1, v) else kv) else kvs ++ [(k, v)]
def stY (c i v : Y) : Option Y := match c with
  | .dct true kys => match keyY i with
    | some k => if fit (kys.length + 1) = true then some (.dct true (putY kys k v)) else none
    | none => none
  | .lst true xs => match i with
    | .int j => (ixN xs.length j).map fun j => .lst true (xs.set j v)
    | _ => none
  | _ => none
def ySt (p : VEn → Option Y) (st : VEn → Y → VEn) (gi : VEn → Option Y) (gv : VEn → Option (Y × VEn)) : VEn → YF := fun σ => match gv σ with
  | some (v, σ1) => match p σ1, gi σ1 with
    | some c, some i => match stY c i v with
      | some c' => .nx (st σ1 c')
      | none => .no
    | _, _ => .no
  | none => .no
/-! ### x.f = v -/
def putFY (f : Str) (v : Y) : List (Str × Y) → List (Str × Y)
  | [] => [(f, v)]
  | (h, x) :: r => if h = f then (h, v) :: r else (h, x) :: putFY f v r
def setFY (T : FTab) (nm : Str) (c v : Y) : Option Y := match c with
  | .ins true cc fs => if (T cc nm && few fs.length) = true then some (.ins true cc (putFY nm v fs)) else none
  | _ => none
def ySetF (T : FTab) (nm : Str) (p : VEn → Option Y) (st : VEn → Y → VEn) (gv : VEn → Option (Y × VEn)) : VEn → YF := fun σ => match gv σ with
  | some (v, σ1) => match p σ1 with
    | some c => match setFY T nm c v with
      | some c' => .nx (st σ1 c')
      | none => .no
    | none => .no
  | none => .no
def yAugF (T : FTab) (nm : Str) (h : Y → Y → Option Y) (p : VEn → Option Y) (st : VEn → Y → VEn) (gv : VEn → Option Y) : VEn → YF := fun σ => match p σ, gv σ with
  | some c, some v => match fldY T nm c with
    | some x => if isF x = true then match h x v with
      | some z => match setFY T nm c z with
        | some c' => .nx (st σ c')
        | none => .no
      | none => .no else .no
    | none => .no
  | _, _ => .no
end
/-! ### a list that something is put into that is still changed -/
section
variable {O K : List Nat} {P P' P1 : Nat → Prop} {S S' S1 : Sto} {ρ ρ' ρ1 : En} {σ σ' σ1 : VEn} {φ φ1 : Nat → List Nat} {d : D} {x y z : Y} {ds es : List D} {xs ys E : List Y} {f : List Nat}
def HOut (O K : List Nat) (P : Nat → Prop) (S : Sto) (ρ : En) (φ : Nat → List Nat) (lf : Nat) (ds : List D) (σ' : VEn) (E : List Y) (ρ' : En) (S' : Sto) : Prop := ∃ P' φ' es, Stp P S (fun l => Uf φ l ∨ l = lf) P' S' ∧ Fr O P' S' ρ' σ' φ' ∧ (∀ l, Uf φ' l → Uf φ l ∨ S.length ≤ l) ∧ (∀ i ∈ K, ρ'[i]? = ρ[i]?) ∧ ¬ P' lf ∧ ¬ Uf φ' lf ∧ S'[lf]? = some (.lst (ds ++ es)) ∧ Owns P' S' es E []
def hS (g : VEn → YF) : VEn → Option (VEn × List Y) := fun σ => match g σ with
  | .nx σ' => some (σ', [])
  | _ => none
def hSeq (g g' : VEn → Option (VEn × List Y)) : VEn → Option (VEn × List Y) := fun σ => (g σ).bind fun p => (g' p.1).map fun q => (q.1, p.2 ++ q.2)
theorem HOut.seq {lf : Nat} {E' : List Y} {ρ2 : En} {S2 : Sto} {σ2 : VEn} (b : Bd P S) (r : Fr O P S ρ σ φ) (nP : ¬ P lf) (st : Stp P S (fun l => Uf φ l ∨ l = lf) P1 S1) (hu : ∀ l, Uf φ1 l → Uf φ l ∨ S.length ≤ l) (hk : ∀ i ∈ K, ρ1[i]? = ρ[i]?) (r1 : Fr O P1 S1 ρ1 σ1 φ1) (nP1 : ¬ P1 lf) (o : Owns P1 S1 es E []) (h2 : HOut O K P1 S1 ρ1 φ1 lf (ds ++ es) σ2 E' ρ2 S2) : HOut O K P S ρ φ lf ds σ2 (E ++ E') ρ2 S2 := by
  obtain ⟨P2, φ2, es2, a1, a2, a3, a4, a5, a6, a7, a8⟩ := h2
  refine ⟨P2, φ2, es ++ es2, st.trans a1 fun l z => ?_, a2, fun l z => ?_, fun i hi => (a4 i hi).trans (hk i hi), a5, a6, by rw [← List.append_assoc]; exact a7, (o.st a1 st.bnd fun l z => ?_).app0 a8⟩
  · rcases z with z | z
    · exact (hu l z).imp .inl id
    · exact .inl (.inr z)
  · rcases a3 l z with w | w
    · exact hu l w
    · exact .inr (Nat.le_trans st.len w)
  · rcases z with z | z
    · exact r1.hU l z
    · subst z; exact nP1
def hExt (g : VEn → Option Y) : VEn → Option (VEn × List Y) := fun σ => (g σ).bind fun y => match y with
  | .tup ys => some (σ, ys)
  | .lst _ ys => some (σ, ys)
  | _ => none
def hLoop (p : VEn → Y → Option VEn) (g : VEn → Option (VEn × List Y)) : List Y → VEn → Option (VEn × List Y)
  | [], σ => some (σ, [])
  | y :: r, σ => (p σ y).bind fun σ1 => (g σ1).bind fun q => (hLoop p g r q.1).map fun w => (w.1, q.2 ++ w.2)
def hFor (gi : VEn → Option (List Y × VEn)) (p : VEn → Y → Option VEn) (g : VEn → Option (VEn × List Y)) : VEn → Option (VEn × List Y) := fun σ => (gi σ).bind fun q => hLoop p g q.1 q.2
/-- xs.append(w), w still changed behind it -/
def yLate (h w : Nat) (g : VEn → Option (VEn × List Y)) : VEn → YF := fun σ => match σ[h]?, σ[w]? with
  | some (some (.lst true F)), some (some _) => match g (σ.set h none) with
    | some (σ', E) => match σ'[w]? with
      | some (some y) => if fit (F.length + 1 + E.length) = true then .nx ((σ'.set w none).set h (some (.lst true (F ++ frz y :: E)))) else .no
      | _ => .no
    | none => .no
  | _, _ => .no
end
end Sm
end
section
/-! Sm, part Xe: a walk over a list of ours that stays ours. -/
namespace Sm
open PySem PySem.Spec PyProof.Rows L2
section
variable {O K : List Nat} {P P' P'' P1 : Nat → Prop} {S S' S'' S1 : Sto} {ρ ρ' ρ1 : En} {σ σ' σ1 : VEn} {φ φ1 : Nat → List Nat} {d : D} {x y z c k : Y} {ds : List D} {xs ys : List Y} {f f' : List Nat} {r : Fz}
def yForH (h : Nat) (p : VEn → Y → Option VEn) (g : VEn → YF) : VEn → YF := fun σ => match σ[h]? with
  | some (some (.lst true ys)) => match yLoop p g ys (σ.set h none) with
    | .nx σ' => match σ'[h]? with
      | some none => .nx (σ'.set h (some (.lst true ys)))
      | _ => .no
    | .ret y σ' => .ret y σ'
    | _ => .no
  | _ => .no
end
end Sm
end
section
/-! Sm, part Xf: walks over a dict of ours. -/
namespace Sm
open PySem PySem.Spec PyProof.Rows L2
end Sm
end
section
/-! Sm, part Xg: d.get, dict(d), len(set(..)) on values; what is asked for with something lent; what is picked from a dict. -/
namespace Sm
open PySem PySem.Spec PyProof.Rows L2
end Sm
end
section
/-! Sm, part Xh: for k in d: if ..: found[k] = d[k] (d stands fast, found is ours and empty). -/
namespace Sm
open PySem PySem.Spec PyProof.Rows L2
abbrev Im := List (Int × Int)
def dI (d : Im) : List (Key × Y) := d.map fun p => (.inl p.1, .int p.2)
def dInts : List (Key × Y) → Option Im
  | [] => some []
  | (.inl k, .int v) :: r => (dInts r).map fun e => (k, v) :: e
  | _ :: _ => none
@[simp] theorem dInts_dI (d : Im) : dInts (dI d) = some d := by
  induction d with
  | nil => rfl
  | cons p r ih =>
    show (dInts (dI r)).map (fun e => (p.1, p.2) :: e) = _
    rw [ih]
    rfl
end Sm
end
section
/-! Sm, part Xi: written lists and dicts, sep.join, d.copy() on values. -/
namespace Sm
open PySem PySem.Spec PyProof.Rows L2
section
variable {O K : List Nat} {P P' : Nat → Prop} {S S' : Sto} {ρ : En} {σ : VEn} {φ : Nat → List Nat} {f f' : List Nat} {x y : Y} {d : D}
def strsY : List Y → Option (List Str)
  | [] => some []
  | .str x :: r => (strsY r).map fun q => x :: q
  | _ :: _ => none
@[simp] theorem strsY_map : ∀ xs : List Str, strsY (xs.map Y.str) = some xs
  | [] => rfl
  | x :: xs => by simp [strsY, strsY_map xs]
end
end Sm
end
section
/-! Sm, part Xj: a def that changes its last parameter, asked with a new dict there. -/
namespace Sm
open PySem PySem.Spec PyProof.Rows L2
end Sm
end
section
/-! Sm, part Xk: zip(text, tuple), zip(tuple, tuple) on values. -/
namespace Sm
open PySem PySem.Spec PyProof.Rows L2
end Sm
end
section
/-! Sm, part Xl: sorted(set(xs)) of a long list of which few differ, on values. -/
namespace Sm
open PySem PySem.Spec PyProof.Rows L2
end Sm
end
section
/-! Sm, part Xm: a def that changes what it is handed, asked with arguments that have effects. -/
namespace Sm
open PySem PySem.Spec PyProof.Rows L2
section
variable {O K : List Nat} {P P' P'' P1 : Nat → Prop} {S S' S'' S1 : Sto} {ρ ρ' ρ1 : En} {σ σ' σ1 : VEn} {φ φ1 : Nat → List Nat} {d : D} {x y z c k : Y} {ds : List D} {xs ys : List Y} {f f' : List Nat} {F : List D → Mo D} {np : Nat}
def eAO (i : Nat) (gs : VEn → Option (List Y × VEn)) : VEn → Option (List Y × VEn) := fun σ => (gs σ).bind fun q => match q.2[i]? with
  | some (some y) => some (y :: q.1, q.2)
  | _ => none
def vCallX (np : Nat) (G : List Y → Option (Y × VEn)) (gs : VEn → Option (List Y × VEn)) (os : List (Option Nat)) : VEn → Option (Y × VEn) := fun σ => (gs σ).bind fun q => if q.1.length = np then (G q.1).map fun p => (p.1, putB q.2 os p.2) else none
@[simp] theorem vCallX_e {G : List Y → Option (Y × VEn)} {gs : VEn → Option (List Y × VEn)} {os : List (Option Nat)} : vCallX np G gs os σ = (gs σ).bind fun q => if q.1.length = np then (G q.1).map fun p => (p.1, putB q.2 os p.2) else none := rfl
@[simp] theorem eAO_e {i : Nat} {gs : VEn → Option (List Y × VEn)} : eAO i gs σ = (gs σ).bind fun q => match q.2[i]? with
  | some (some y) => some (y :: q.1, q.2)
  | _ => none := rfl
/-! ### d.get(k, x) -/
def dget2Y (x k w : Y) : Option Y := match x, keyY k with
  | .dct _ kys, some k => match valY kys k with
    | some v => if flY v = true then some v else none
    | none => some w
  | _, _ => none
def eGet2 (g : VEn → Option (Y × VEn)) (gk gw : VEn → Option Y) : VEn → Option (Y × VEn) := fun σ => (g σ).bind fun p => (gk p.2).bind fun k => (gw p.2).bind fun w => (dget2Y p.1 k w).map fun y => (y, p.2)
@[simp] theorem eGet2_e {g : VEn → Option (Y × VEn)} {gk gw : VEn → Option Y} : eGet2 g gk gw σ = (g σ).bind fun p => (gk p.2).bind fun k => (gw p.2).bind fun w => (dget2Y p.1 k w).map fun y => (y, p.2) := rfl
end
end Sm
end
section
/-! Sm, part Xn: a list times a small whole number, on values. -/
namespace Sm
open PySem PySem.Spec PyProof.Rows L2
end Sm
end
section
/-! Sm, part Xo: list(range(..)) on values. -/
namespace Sm
open PySem PySem.Spec PyProof.Rows L2
end Sm
end
section
/-! Sm, part Xp: a new object that takes a new thing for its own. -/
namespace Sm
open PySem PySem.Spec PyProof.Rows L2
section
variable {O K : List Nat} {P P' P1 : Nat → Prop} {S S' S1 : Sto} {ρ : En} {σ σ' σ1 : VEn} {φ φ1 : Nat → List Nat} {F : List D → Mo D}
def vNew2 (c : Nat) (G : List Y → Option (Y × VEn)) (g1 g2 : VEn → Option (Y × VEn)) : VEn → Option (Y × VEn) := fun σ => (g1 σ).bind fun p => (g2 p.2).bind fun q => match G [.ins true c [], p.1, q.1] with
  | some (.non, some u :: _) => some (u, q.2)
  | _ => none
@[simp] theorem vNew2_e {c : Nat} {G : List Y → Option (Y × VEn)} {g1 g2 : VEn → Option (Y × VEn)} : vNew2 c G g1 g2 σ = (g1 σ).bind fun p => (g2 p.2).bind fun q => match G [.ins true c [], p.1, q.1] with
  | some (.non, some u :: _) => some (u, q.2)
  | _ => none := rfl
end
end Sm
end
section
/-! Sm, part Xq: d.update(d') on values. -/
namespace Sm
open PySem PySem.Spec PyProof.Rows L2
section
variable {O K : List Nat} {P P' P1 : Nat → Prop} {S S' S1 : Sto} {ρ : En} {σ σ' σ1 : VEn} {φ φ1 : Nat → List Nat} {d : D} {f : List Nat}
def mergeY (kys more : List (Key × Y)) : List (Key × Y) := more.foldl (fun acc kv => putY acc kv.1 kv.2) kys
def eUpdE (i : Nat) (g : VEn → Option (Y × VEn)) : VEn → Option (Y × VEn) := fun σ => match vVar i σ with
  | some (.dct _ _) => (g σ).bind fun q => match vVar i q.2, q.1 with
    | some (.dct true kys), .dct false ms => if fit (kys.length + ms.length) = true then some (.non, sVar i q.2 (.dct true (mergeY kys ms))) else none
    | _, _ => none
  | _ => none
@[simp] theorem eUpdE_e {i : Nat} {g : VEn → Option (Y × VEn)} : eUpdE i g σ = (match vVar i σ with
  | some (.dct _ _) => (g σ).bind fun q => match vVar i q.2, q.1 with
    | some (.dct true kys), .dct false ms => if fit (kys.length + ms.length) = true then some (.non, sVar i q.2 (.dct true (mergeY kys ms))) else none
    | _, _ => none
  | _ => none) := rfl
end
end Sm
end
section
/-! Sm, part Xr: len(set(texts)), some alike; d.get(k, x) of a dict of ours. -/
namespace Sm
open PySem PySem.Spec PyProof.Rows L2
section
variable {P : Nat → Prop} {S : Sto}
def smulY : Y → Y → Option Y
  | .str a, .int k => if (decide (k = 0) || decide (k = 1)) = true then some (.str (if k = 1 then a else Str.empty)) else none
  | _, _ => none
@[simp] theorem smulY_0 {a : Str} : smulY (.str a) (.int 0) = some (.str Str.empty) := by simp [smulY]
@[simp] theorem smulY_1 {a : Str} : smulY (.str a) (.int 1) = some (.str a) := by simp [smulY]
end
section
def vGet2 (g gk gw : VEn → Option Y) : VEn → Option Y := fun σ => (g σ).bind fun d => (gk σ).bind fun k => (gw σ).bind fun w => dget2Y d k w
@[simp] theorem vGet2_e {g gk gw : VEn → Option Y} {σ : VEn} : vGet2 g gk gw σ = (g σ).bind fun d => (gk σ).bind fun k => (gw σ).bind fun w => dget2Y d k w := rfl
end
section
variable {O K : List Nat} {P P' P1 : Nat → Prop} {S S' S1 : Sto} {ρ : En} {σ σ' σ1 : VEn} {φ φ1 : Nat → List Nat} {F : List D → Mo D}
/-- a def that changes its second parameter, asked with a value and something new, which is let go -/
def vCallM (G : List Y → Option (Y × VEn)) (g1 g2 : VEn → Option (Y × VEn)) : VEn → Option (Y × VEn) := fun σ => (g1 σ).bind fun p => (g2 p.2).bind fun q => (G [p.1, q.1]).bind fun z => if flY z.1 = true then some (z.1, q.2) else none
@[simp] theorem vCallM_e {G : List Y → Option (Y × VEn)} {g1 g2 : VEn → Option (Y × VEn)} : vCallM G g1 g2 σ = (g1 σ).bind fun p => (g2 p.2).bind fun q => (G [p.1, q.1]).bind fun z => if flY z.1 = true then some (z.1, q.2) else none := rfl
end
end Sm
end
section
/-! Sm, part Xs: repr on values. -/
namespace Sm
open PySem PySem.Spec PyProof.Rows L2
end Sm
end
section
/-! Sm, part Xt: str, int(text), split, defs as values: on values. -/
namespace Sm
open PySem PySem.Spec PyProof.Rows L2
def strY : Y → Option Y
  | .int i => if decide (i.natAbs.log2 < 1920) = true then some (.str (toString i)) else none
  | .str x => some (.str x)
  | _ => none
section
variable {O : List Nat} {P : Nat → Prop} {S : Sto}
/-! defs as values -/
inductive RvT : List (Nat × (List D → Mo D)) → List (Nat × (List Y → Option Y)) → Prop where
  | nil : RvT [] []
  | cons {i : Nat} {F : List D → Mo D} {G : List Y → Option Y} {l : List (Nat × (List D → Mo D))} {r : List (Nat × (List Y → Option Y))} (h : RefP F G) (t : RvT l r) : RvT ((i, F) :: l) ((i, G) :: r)
theorem RvT.get {k : Nat} {G : List Y → Option Y} : ∀ {l : List (Nat × (List D → Mo D))} {r : List (Nat × (List Y → Option Y))}, RvT l r → r.lookup k = some G → ∃ F, l.lookup k = some F ∧ RefP F G
  | _, _, .nil, h => by cases h
  | _, _, .cons (i := i) (F := F) (l := l) (r := r) hh t, h => by
    by_cases q : k = i
    · subst q
      rw [List.lookup_cons_self] at h
      cases h
      exact ⟨F, List.lookup_cons_self, hh⟩
    · have e : (k == i) = false := by simpa using q
      rw [List.lookup_cons, e] at h
      obtain ⟨F', h1, h2⟩ := t.get h
      refine ⟨F', ?_, h2⟩
      rw [List.lookup_cons, e]
      exact h1
def fvY (l : List (Nat × (List Y → Option Y))) : Y → Option (List Y → Option Y)
  | .fnc k => l.lookup k
  | _ => none
def vCallV (l : List (Nat × (List Y → Option Y))) (np : Nat) (gv : VEn → Option Y) (gs : VEn → Option (List Y)) : VEn → Option Y := fun σ => (gv σ).bind fun f => (fvY l f).bind fun G => (gs σ).bind fun ys => if ys.length = np then (G ys).map frz else none
section
variable {i : Int} {x : Str} {σ : VEn} {l : List (Nat × (List Y → Option Y))} {np : Nat} {gv : VEn → Option Y} {gs : VEn → Option (List Y)}
@[simp] theorem strY_int : strY (.int i) = if i.natAbs.log2 < 1920 then some (.str (toString i)) else none := by simp [strY]
@[simp] theorem strY_str : strY (.str x) = some (.str x) := rfl
@[simp] theorem vCallV_e : vCallV l np gv gs σ = (gv σ).bind fun f => (fvY l f).bind fun G => (gs σ).bind fun ys => if ys.length = np then (G ys).map frz else none := rfl
@[simp] theorem fvY_fnc {k : Nat} : fvY l (.fnc k) = l.lookup k := rfl
end
end
end Sm
end
section
/-! Sm, part Xu: len(set(tuple of whole numbers)) on values. -/
namespace Sm
open PySem PySem.Spec PyProof.Rows L2
end Sm
end
section
/-! Sm, part Xv: x in list, of data of any depth, on values. -/
namespace Sm
open PySem PySem.Spec PyProof.Rows L2
end Sm
end
section
/-! Sm, part Xw: zip(text, list) on values. -/
namespace Sm
open PySem PySem.Spec PyProof.Rows L2
end Sm
end
section
/-! Sm, part Xx: what is raised, on values; one try that catches it. -/
namespace Sm
open PySem PySem.Spec PyProof.Rows L2
end Sm
end
section
/-! Sm, part Xy: list.insert, str(e).replace(c1, c2) on values. -/
namespace Sm
open PySem PySem.Spec PyProof.Rows L2
end Sm
end
section
/-! Sm, part Xz: len(set(whole numbers)), some alike, on values. -/
namespace Sm
open PySem PySem.Spec PyProof.Rows L2
end Sm
end
section
/-! Sm, part Y: dicts written out; how values are reckoned. -/
namespace Sm
open PySem PySem.Spec PyProof.Rows L2
section
variable {O K : List Nat} {P P' P'' P1 : Nat → Prop} {S S' S'' S1 : Sto} {ρ ρ' ρ1 : En} {σ σ' σ1 : VEn} {φ φ1 : Nat → List Nat} {d : D} {x y z c k : Y} {ds : List D} {xs ys : List Y} {f f' : List Nat} {U U' U'' : Nat → Prop} {r : Fz}
def ePs0 : VEn → Option (List (Key × Y) × VEn) := fun σ => some ([], σ)
def ePs (x : Str) (g : VEn → Option (Y × VEn)) (gs : VEn → Option (List (Key × Y) × VEn)) : VEn → Option (List (Key × Y) × VEn) := fun σ => (g σ).bind fun p => (gs p.2).map fun q => ((.inr x, p.1) :: q.1, q.2)
def eDict (gs : VEn → Option (List (Key × Y) × VEn)) : VEn → Option (Y × VEn) := fun σ => (gs σ).bind fun p => if few15 p.1.length = true ∧ (p.1.map (·.1)).Nodup then some (.dct true p.1, p.2) else none
end
/-! ### how it is reckoned -/
section
variable {σ : VEn} {x y z u v : Y} {xs ys : List Y} {i j : Int} {g g' ga gb gc : VEn → Option Y} {gs : VEn → Option (List Y)} {t t' : VEn → Option Bool} {e e' : VEn → Option (Y × VEn)} {es : VEn → Option (List Y × VEn)} {et et' : VEn → Option (Bool × VEn)} {h : Y → Y → Option Y} {h1 : Y → Option Y} {s s' : VEn → YF} {p : VEn → Option Y} {st : VEn → Y → VEn}
@[simp] theorem vVar_e {i : Nat} : vVar i σ = (match σ[i]? with | some (some y) => some y | _ => none) := rfl
@[simp] theorem vC_e : vC y σ = some y := rfl
@[simp] theorem vF_e : vF g σ = (g σ).bind fun y => if isF y = true then some y else none := rfl
@[simp] theorem isF_non : isF .non = true := rfl
@[simp] theorem isF_int : isF (.int i) = true := rfl
@[simp] theorem isF_bl {b : Bool} : isF (.bl b) = true := rfl
@[simp] theorem isF_str {b : Str} : isF (.str b) = true := rfl
@[simp] theorem isF_tup : isF (.tup xs) = true := rfl
@[simp] theorem isF_lsc : isF (.lsc xs) = true := rfl
@[simp] theorem isF_lst {o : Bool} : isF (.lst o xs) = !o := rfl
@[simp] theorem isF_dct {o : Bool} {kvs : List (Key × Y)} : isF (.dct o kvs) = !o := rfl
@[simp] theorem isF_ins {o : Bool} {c : Nat} {kvs : List (Str × Y)} : isF (.ins o c kvs) = !o := rfl
@[simp] theorem frz_non : frz .non = .non := by simp only [frz]
@[simp] theorem frz_int : frz (.int i) = .int i := by simp only [frz]
@[simp] theorem frz_bl {b : Bool} : frz (.bl b) = .bl b := by simp only [frz]
@[simp] theorem frz_str {b : Str} : frz (.str b) = .str b := by simp only [frz]
@[simp] theorem frz_tup : frz (.tup xs) = .tup xs := by simp only [frz]
@[simp] theorem frz_lsc : frz (.lsc xs) = .lsc xs := by simp only [frz]
@[simp] theorem frz_lst {o : Bool} : frz (.lst o xs) = .lst false xs := by simp only [frz]
@[simp] theorem frz_dct {o : Bool} {kvs : List (Key × Y)} : frz (.dct o kvs) = .dct false (frzK kvs) := by simp only [frz]
@[simp] theorem frz_ins {o : Bool} {c : Nat} {fs : List (Str × Y)} : frz (.ins o c fs) = .ins false c (frzF fs) := by simp only [frz]
@[simp] theorem frzK_nil : frzK [] = [] := by simp only [frzK]
@[simp] theorem frzK_cons {k : Key} {r : List (Key × Y)} : frzK ((k, y) :: r) = (k, frz y) :: frzK r := by simp only [frzK]
@[simp] theorem frzF_nil : frzF [] = [] := by simp only [frzF]
@[simp] theorem frzF_cons {k : Str} {r : List (Str × Y)} : frzF ((k, y) :: r) = (k, frz y) :: frzF r := by simp only [frzF]
@[simp] theorem flY_non : flY .non = true := by simp only [flY]
@[simp] theorem flY_int : flY (.int i) = true := by simp only [flY]
@[simp] theorem flY_bl {b : Bool} : flY (.bl b) = true := by simp only [flY]
@[simp] theorem flY_str {b : Str} : flY (.str b) = true := by simp only [flY]
@[simp] theorem flY_tp : flY (.tup xs) = xs.all flY := flY_tup
@[simp] theorem vNil_e : vNil σ = some [] := rfl
@[simp] theorem vCons_e : vCons g gs σ = (g σ).bind fun y => (gs σ).bind fun ys => some (y :: ys) := rfl
@[simp] theorem vUn_e : vUn h1 g σ = (g σ).bind h1 := rfl
@[simp] theorem vOp_e : vOp h g g' σ = (g σ).bind fun x => (g' σ).bind fun y => h x y := rfl
@[simp] theorem vTup_e : vTup gs σ = (gs σ).bind fun ys => if fit ys.length = true then some (.tup ys) else none := rfl
@[simp] theorem vLst_e : vLst gs σ = (gs σ).bind fun ys => if fit ys.length = true then some (.lst false ys) else none := rfl
@[simp] theorem vTest_e : vTest g σ = (match g σ with | some (.bl b) => some b | _ => none) := rfl
@[simp] theorem vTru_e : vTru g σ = (g σ).bind trY := rfl
@[simp] theorem vNotT_e : vNotT t σ = (t σ).map (!·) := rfl
@[simp] theorem vAndT_e : vAndT t t' σ = (t σ).bind fun k => if k = true then t' σ else some false := rfl
@[simp] theorem vOrT_e : vOrT t t' σ = (t σ).bind fun k => if k = true then some true else t' σ := rfl
@[simp] theorem vTt_e : vTt σ = some true := rfl
@[simp] theorem vIf_e : vIf t g g' σ = (t σ).bind fun k => if k = true then g σ else g' σ := rfl
@[simp] theorem vAnd_e : vAnd g g' σ = (g σ).bind fun x => (trY x).bind fun k => if k = true then g' σ else some x := rfl
@[simp] theorem vOr_e : vOr g g' σ = (g σ).bind fun x => (trY x).bind fun k => if k = true then some x else g' σ := rfl
@[simp] theorem vNot_e : vNot g σ = (g σ).bind fun x => (trY x).map fun k => .bl (!k) := rfl
@[simp] theorem vChain_e {h' : Y → Y → Option Y} : vChain h h' ga gb gc σ = (ga σ).bind fun x => (gb σ).bind fun y => match h x y with
  | some (.bl true) => (gc σ).bind fun u => h' y u
  | some (.bl false) => some (.bl false)
  | _ => none := rfl
@[simp] theorem vGet_e : vGet g g' σ = (g σ).bind fun x => (g' σ).bind fun k => getY x k := rfl
@[simp] theorem vFld_e {T : FTab} {nm : Str} : vFld T nm g σ = (g σ).bind (fldY T nm) := rfl
@[simp] theorem vPt0_e : vPt0 σ = some none := rfl
@[simp] theorem vPt_e : vPt g σ = (match g σ with | some (.int i) => some (some i) | _ => none) := rfl
@[simp] theorem vSl_e {gl gh : VEn → Option (Option Int)} : vSl g gl gh σ = (g σ).bind fun x => (gl σ).bind fun l => (gh σ).bind fun h => slY l h x := rfl
@[simp] theorem vIt_e : vIt g σ = (g σ).bind itY := rfl
@[simp] theorem vRng_e {hw : List Y → Option (List Y)} : vRng hw gs σ = (gs σ).bind hw := rfl
@[simp] theorem vL_e {α : Type} {q : VEn → Option α} : vL q σ = (q σ).map fun y => (y, σ) := rfl
@[simp] theorem vFz_e : vFz e σ = (e σ).map fun p => (frz p.1, p.2) := rfl
@[simp] theorem eNil_e : eNil σ = some ([], σ) := rfl
@[simp] theorem eCons_e : eCons e es σ = (e σ).bind fun p => (es p.2).map fun q => (p.1 :: q.1, q.2) := rfl
@[simp] theorem eUn_e : eUn h1 e σ = (e σ).bind fun p => (h1 p.1).map fun y => (y, p.2) := rfl
@[simp] theorem eOp_e : eOp h e e' σ = (e σ).bind fun p => (e' p.2).bind fun q => (h p.1 q.1).map fun y => (y, q.2) := rfl
@[simp] theorem eTup_e : eTup es σ = (es σ).bind fun p => if fit p.1.length = true then some (.tup p.1, p.2) else none := rfl
@[simp] theorem eLst_e : eLst es σ = (es σ).bind fun p => if fit p.1.length = true then some (.lst true p.1, p.2) else none := rfl
@[simp] theorem oNL_e {hl : Y → Option (List Y)} : oNL hl g σ = (g σ).bind fun x => (hl x).map fun ys => (.lst true ys, σ) := rfl
@[simp] theorem oNL2_e {hl : Y → Y → Option (List Y)} : oNL2 hl g g' σ = (g σ).bind fun x => (g' σ).bind fun z => (hl x z).map fun ys => (.lst true ys, σ) := rfl
@[simp] theorem eNL2_e {hl : Y → Y → Option (List Y)} : eNL2 hl e e' σ = (e σ).bind fun p => (e' p.2).bind fun q => (hl p.1 q.1).map fun ys => (.lst true ys, q.2) := rfl
@[simp] theorem oSl_e {gl gh : VEn → Option (Option Int)} : oSl g gl gh σ = (g σ).bind fun x => (gl σ).bind fun l => (gh σ).bind fun h => (slL l h x).map fun ys => (.lst true ys, σ) := rfl
@[simp] theorem oDct_e : oDct σ = some (.dct true [], σ) := rfl
@[simp] theorem eTest_e : eTest e σ = (match e σ with | some (.bl b, σ') => some (b, σ') | _ => none) := rfl
@[simp] theorem eTru_e : eTru e σ = (e σ).bind fun p => (trY p.1).map fun k => (k, p.2) := rfl
@[simp] theorem eNotT_e : eNotT et σ = (et σ).map fun p => (!p.1, p.2) := rfl
@[simp] theorem eAndT_e : eAndT et et' σ = (et σ).bind fun p => if p.1 = true then et' p.2 else some (false, p.2) := rfl
@[simp] theorem eOrT_e : eOrT et et' σ = (et σ).bind fun p => if p.1 = true then some (true, p.2) else et' p.2 := rfl
@[simp] theorem eIf_e : eIf et e e' σ = (et σ).bind fun p => if p.1 = true then e p.2 else e' p.2 := rfl
@[simp] theorem eRng_e {hw : List Y → Option (List Y)} : eRng hw es σ = (es σ).bind fun p => (hw p.1).map fun ys => (ys, p.2) := rfl
@[simp] theorem eIt_e : eIt e σ = (e σ).bind fun p => (itY p.1).map fun ys => (ys, p.2) := rfl
@[simp] theorem vLcL_e {gi : VEn → Option (List Y)} {ct : CT} : vLcL gi ct t g σ = (gi σ).bind fun ys => (lcY ct t g (wipeV σ ct.vs) ys).bind fun out => if fit out.length = true then some out else none := rfl
@[simp] theorem vLc_e {gi : VEn → Option (List Y)} {ct : CT} : vLc gi ct t g σ = (vLcL gi ct t g σ).map (.lst false) := rfl
@[simp] theorem oLc_e {gi : VEn → Option (List Y)} {ct : CT} : oLc gi ct t g σ = (vLcL gi ct t g σ).map fun ys => (.lst true ys, σ) := rfl
@[simp] theorem eLc_e {ct : CT} : eLc es ct et e σ = (es σ).bind fun p => (lcE ct et e p.1 p.2).bind fun q => if fit q.1.length = true then some (.lst true q.1, wipeV q.2 ct.vs) else none := rfl
@[simp] theorem lcY_nil {ct : CT} : lcY ct t g σ [] = some [] := rfl
@[simp] theorem lcE_nil {ct : CT} : lcE ct et e [] σ = some ([], σ) := rfl
@[simp] theorem vs_one' {i : Nat} : (CT.one i).vs = [i] := rfl
@[simp] theorem vs_many' {is : List Nat} : (CT.many is).vs = is := rfl
@[simp] theorem wipeV_nil : wipeV σ [] = σ := rfl
@[simp] theorem wipeV_cons {n : Nat} {ns : List Nat} : wipeV σ (n :: ns) = (wipeV σ ns).set n none := rfl
@[simp] theorem putV_one {i : Nat} : putV σ (.one i) y = some (σ.set i (some y)) := rfl
@[simp] theorem putV_many {is : List Nat} : putV σ (.many is) (.tup ys) = if ys.length = is.length then some (setAllV σ is ys) else none := rfl
@[simp] theorem setAllV_cons {i : Nat} {is : List Nat} : setAllV σ (i :: is) (y :: ys) = setAllV (σ.set i (some y)) is ys := rfl
@[simp] theorem setAllV_nil : setAllV σ [] ys = σ := by cases ys <;> rfl
@[simp] theorem vCall_e {np : Nat} {G : List Y → Option Y} : vCall np G gs σ = (gs σ).bind fun ys => if ys.length = np then (G ys).map frz else none := rfl
@[simp] theorem eCall_e {np : Nat} {G : List Y → Option Y} : eCall np G es σ = (es σ).bind fun p => if p.1.length = np then (G p.1).map fun y => (y, p.2) else none := rfl
@[simp] theorem vFrz_e : vFrz g σ = (g σ).map frz := rfl
@[simp] theorem vCallB_e {np : Nat} {G : List Y → Option Y} : vCallB np G gs σ = (gs σ).bind fun ys => if ys.length = np then (G ys).bind fun y => if flY y = true then some y else none else none := rfl
@[simp] theorem vCallE_e {np : Nat} {G : List Y → Option (Y × VEn)} {os : List (Option Nat)} : vCallE np G gs os σ = (gs σ).bind fun ys => if ys.length = np then (G ys).map fun p => (p.1, putB σ os p.2) else none := rfl
@[simp] theorem vCallEB_e {np : Nat} {G : List Y → Option (Y × VEn)} {os : List (Option Nat)} : vCallEB np G gs os σ = (gs σ).bind fun ys => if ys.length = np then (G ys).bind fun p => if (flY p.1 && allNoF p.2) = true then some (p.1, putB σ os p.2) else none else none := rfl
@[simp] theorem allNoF_nil : allNoF [] = true := rfl
@[simp] theorem allNoF_some {us : VEn} : allNoF (some y :: us) = (noF y && allNoF us) := rfl
@[simp] theorem allNoF_none {us : VEn} : allNoF (none :: us) = allNoF us := rfl
@[simp] theorem noF_int : noF (.int i) = true := by simp only [noF, flY]
@[simp] theorem noF_bl {b : Bool} : noF (.bl b) = true := by simp only [noF, flY]
@[simp] theorem noF_str {b : Str} : noF (.str b) = true := by simp only [noF, flY]
@[simp] theorem noF_non : noF .non = true := by simp only [noF, flY]
@[simp] theorem noF_tup : noF (.tup xs) = xs.all flY := by simp only [noF]; exact flY_tup
@[simp] theorem noF_lst {o : Bool} : noF (.lst o xs) = (o && xs.all flY) := by simp only [noF]
@[simp] theorem noF_dct {o : Bool} {kvs : List (Key × Y)} : noF (.dct o kvs) = (o && noFK kvs) := by simp only [noF]
@[simp] theorem noF_ins {o : Bool} {c : Nat} {fs : List (Str × Y)} : noF (.ins o c fs) = (o && noFF fs) := by simp only [noF]
@[simp] theorem noFK_nil : noFK [] = true := by simp only [noFK]
@[simp] theorem noFK_cons {k : Key} {r : List (Key × Y)} : noFK ((k, y) :: r) = (noF y && noFK r) := by simp only [noFK]
@[simp] theorem noFF_nil : noFF [] = true := by simp only [noFF]
@[simp] theorem noFF_cons {k : Str} {r : List (Str × Y)} : noFF ((k, y) :: r) = (noF y && noFF r) := by simp only [noFF]
@[simp] theorem vMethE_e {c : Nat} {nm : Str} {np i : Nat} {G : List Y → Option (Y × VEn)} {os : List (Option Nat)} : vMethE c nm np G i gs os σ = (vVar i σ).bind fun x => if insY c nm x = true then (gs σ).bind fun ys => if ys.length + 1 = np then (G (x :: ys)).map fun p => (p.1, putB σ (some i :: os) p.2) else none else none := rfl
@[simp] theorem vMeth_e {c : Nat} {nm : Str} {np : Nat} {G : List Y → Option Y} : vMeth c nm np G g gs σ = (g σ).bind fun x => if insY c nm x = true then (gs σ).bind fun ys => if ys.length + 1 = np then (G (x :: ys)).map frz else none else none := rfl
@[simp] theorem vMethB_e {c : Nat} {nm : Str} {np : Nat} {G : List Y → Option Y} : vMethB c nm np G g gs σ = (g σ).bind fun x => if insY c nm x = true then (gs σ).bind fun ys => if ys.length + 1 = np then (G (frz x :: ys)).bind fun y => if flY y = true then some y else none else none else none := rfl
@[simp] theorem vNew_e {c np : Nat} {G : List Y → Option (Y × VEn)} : vNew c np G es σ = (es σ).bind fun p => if p.1.length + 1 = np then match G (.ins true c [] :: p.1) with
  | some (.non, some u :: _) => some (u, p.2)
  | _ => none else none := rfl
@[simp] theorem insY_e {o : Bool} {c c' : Nat} {nm : Str} {fs : List (Str × Y)} : insY c nm (.ins o c' fs) = (decide (c' = c) && (fs.lookup nm).isNone) := rfl
@[simp] theorem putB_nil {us : VEn} : putB σ [] us = σ := by cases us <;> rfl
@[simp] theorem putB_none {os : List (Option Nat)} {q : Option Y} {us : VEn} : putB σ (none :: os) (q :: us) = putB σ os us := rfl
@[simp] theorem putB_some {i : Nat} {os : List (Option Nat)} {q : Option Y} {us : VEn} : putB σ (some i :: os) (q :: us) = putB (σ.set i q) os us := rfl
/-! statements -/
@[simp] theorem yNext_e : yNext σ = .nx σ := rfl
@[simp] theorem yBrk_e : yBrk σ = .brk σ := rfl
@[simp] theorem yCnt_e : yCnt σ = .cnt σ := rfl
@[simp] theorem yNo_e : yNo σ = .no := rfl
def YF.sq (r : YF) (t : VEn → YF) : YF := match r with
  | .nx σ => t σ
  | o => o
@[simp] theorem ysq_nx : (YF.nx σ).sq s = s σ := rfl
@[simp] theorem ysq_ret : (YF.ret y σ).sq s = .ret y σ := rfl
@[simp] theorem ysq_brk : (YF.brk σ).sq s = .brk σ := rfl
@[simp] theorem ysq_cnt : (YF.cnt σ).sq s = .cnt σ := rfl
@[simp] theorem ysq_no : YF.no.sq s = .no := rfl
@[simp] theorem ySeq_e : ySeq s s' σ = (s σ).sq s' := by unfold ySeq YF.sq; rfl
@[simp] theorem yRet_e : yRet e σ = (match e σ with | some (y, σ') => .ret y σ' | none => .no) := rfl
@[simp] theorem yRetN_e : yRetN σ = .ret .non σ := rfl
@[simp] theorem yExpr_e : yExpr e σ = (match e σ with | some (_, σ') => .nx σ' | none => .no) := rfl
@[simp] theorem yIf_e : yIf et s s' σ = (match et σ with | some (b, σ') => if b = true then s σ' else s' σ' | none => .no) := by
  unfold yIf
  cases et σ with
  | none => rfl
  | some p => obtain ⟨b, q⟩ := p; cases b <;> rfl
@[simp] theorem ySet_e {i : Nat} : ySet i e σ = (match e σ with | some (y, σ') => .nx (σ'.set i (some y)) | none => .no) := rfl
@[simp] theorem gN_e {i : Nat} : gN i σ y = some (σ.set i (some y)) := rfl
@[simp] theorem gNil_e : gNil σ [] = some σ := rfl
@[simp] theorem gCons_e {q : VEn → Y → Option VEn} {qs : VEn → List Y → Option VEn} : gCons q qs σ (y :: ys) = (q σ y).bind fun σ' => qs σ' ys := rfl
@[simp] theorem gTp_e {qs : VEn → List Y → Option VEn} {n : Nat} : gTp qs n σ y = (match seqY y with | some ys => if ys.length = n then qs σ ys else none | none => none) := rfl
@[simp] theorem seqY_tup : seqY (.tup xs) = some xs := rfl
@[simp] theorem seqY_lst {o : Bool} : seqY (.lst o xs) = some xs := rfl
@[simp] theorem seqY_lsc : seqY (.lsc xs) = some xs := rfl
@[simp] theorem yAsg_e {q : VEn → Y → Option VEn} : yAsg e q σ = (match e σ with | some (y, σ') => (match q σ' y with | some σ'' => .nx σ'' | none => .no) | none => .no) := rfl
@[simp] theorem yPar_e {i j : Nat} : yPar i j es σ = (match es σ with | some ([x, y], σ') => .nx ((σ'.set i (some x)).set j (some y)) | _ => .no) := rfl
@[simp] theorem yAug_e {i : Nat} : yAug i h e σ = (match σ[i]? with
  | some (some x) => match e σ with
    | some (y, σ') => match h x y with
      | some z => .nx (σ'.set i (some z))
      | none => .no
    | none => .no
  | _ => .no) := rfl
@[simp] theorem yFor_e {gi : VEn → Option (List Y × VEn)} {q : VEn → Y → Option VEn} : yFor gi q s σ = (match gi σ with | some (ys, σ') => yLoop q s ys σ' | none => .no) := rfl
def YF.tn (r : YF) (t : VEn → YF) : YF := match r with
  | .nx σ => t σ
  | .cnt σ => t σ
  | .brk σ => .nx σ
  | o => o
@[simp] theorem ytn_nx : (YF.nx σ).tn s = s σ := rfl
@[simp] theorem ytn_cnt : (YF.cnt σ).tn s = s σ := rfl
@[simp] theorem ytn_brk : (YF.brk σ).tn s = .nx σ := rfl
@[simp] theorem ytn_ret : (YF.ret y σ).tn s = .ret y σ := rfl
@[simp] theorem ytn_no : YF.no.tn s = .no := rfl
@[simp] theorem yLoop_nil {q : VEn → Y → Option VEn} : yLoop q s [] σ = .nx σ := rfl
@[simp] theorem frzAt_e {i : Nat} : frzAt i σ = (match σ[i]? with | some (some y) => σ.set i (some (frz y)) | _ => σ) := rfl
@[simp] theorem yFz_e {i : Nat} : yFz i s σ = s (frzAt i σ) := rfl
@[simp] theorem eMv_e {i : Nat} : eMv i σ = (match σ[i]? with | some (some y) => some (frz y, σ.set i (some (frz y))) | _ => none) := rfl
@[simp] theorem oVar_e {i : Nat} : oVar i σ = (match σ[i]? with | some (some y) => some (y, σ.set i none) | _ => none) := rfl
def YF.toR (r : YF) : Option Y := match r with
  | .nx _ => some .non
  | .ret y _ => some y
  | _ => none
@[simp] theorem ytoR_nx : (YF.nx σ).toR = some .non := rfl
@[simp] theorem ytoR_ret : (YF.ret y σ).toR = some y := rfl
@[simp] theorem yDefP_e {n : Nat} : yDefP n s ys = (s (startY n ys)).toR := by unfold yDefP YF.toR; rfl
def YF.toE (r : YF) (K : List Nat) (np : Nat) : Option (Y × VEn) := match r with
  | .nx σ => some (.non, usOf K np σ)
  | .ret y σ => some (y, usOf K np σ)
  | _ => none
@[simp] theorem ytoE_nx {K : List Nat} {np : Nat} : (YF.nx σ).toE K np = some (.non, usOf K np σ) := rfl
@[simp] theorem ytoE_ret {K : List Nat} {np : Nat} : (YF.ret y σ).toE K np = some (y, usOf K np σ) := rfl
@[simp] theorem yDefE_e {n : Nat} {K : List Nat} : yDefE n K s ys = (s (startY n ys)).toE K ys.length := by unfold yDefE YF.toE; rfl
/-- a def that changes what it is handed, as it is asked -/
def yDef' (n : Nat) (K : List Nat) (np : Nat) (g : VEn → YF) : List Y → Option (Y × VEn) := fun ys => if ys.length = np then yDefE n K g ys else none
@[simp] theorem yDef'_e {n np : Nat} {K : List Nat} : yDef' n K np s ys = if ys.length = np then yDefE n K s ys else none := rfl
@[simp] theorem vLcH_e {h : Nat} {ct : CT} {tt : VEn → Option Bool} {ee : VEn → Option Y} : vLcH h ct tt ee σ = (match σ[h]? with
  | some (some (.lst true ys)) => (lcY ct tt ee (wipeV σ ct.vs) ys).bind fun out => if fit out.length = true then some (.lst false out) else none
  | _ => none) := rfl
@[simp] theorem yForH_e {h : Nat} {q : VEn → Y → Option VEn} {w : VEn → YF} : yForH h q w σ = (match σ[h]? with
  | some (some (.lst true ys)) => match yLoop q w ys (σ.set h none) with
    | .nx σ' => match σ'[h]? with
      | some none => .nx (σ'.set h (some (.lst true ys)))
      | _ => .no
    | .ret y σ' => .ret y σ'
    | _ => .no
  | _ => .no) := rfl
/-! a list that something is put into that is still changed -/
@[simp] theorem hS_e : hS s σ = (match s σ with | .nx σ' => some (σ', []) | _ => none) := rfl
@[simp] theorem hSeq_e {q q' : VEn → Option (VEn × List Y)} : hSeq q q' σ = (q σ).bind fun p => (q' p.1).map fun r => (r.1, p.2 ++ r.2) := rfl
@[simp] theorem hExt_e : hExt g σ = (g σ).bind fun y => match y with
  | .tup ys => some (σ, ys)
  | .lst _ ys => some (σ, ys)
  | _ => none := rfl
@[simp] theorem hFor_e {gi : VEn → Option (List Y × VEn)} {q : VEn → Y → Option VEn} {w : VEn → Option (VEn × List Y)} : hFor gi q w σ = (gi σ).bind fun p => hLoop q w p.1 p.2 := rfl
@[simp] theorem hLoop_nil {q : VEn → Y → Option VEn} {w : VEn → Option (VEn × List Y)} : hLoop q w [] σ = some (σ, []) := rfl
@[simp] theorem yLate_e {a b : Nat} {w : VEn → Option (VEn × List Y)} : yLate a b w σ = (match σ[a]?, σ[b]? with
  | some (some (.lst true F)), some (some _) => match w (σ.set a none) with
    | some (σ', E) => match σ'[b]? with
      | some (some y) => if fit (F.length + 1 + E.length) = true then .nx ((σ'.set b none).set a (some (.lst true (F ++ frz y :: E)))) else .no
      | _ => .no
    | none => .no
  | _, _ => .no) := rfl
/-! operations -/
@[simp] theorem intY_e {C : Int → Int → Bool} {q : Int → Int → Y} : intY C q (.int i) (.int j) = if C i j = true then some (q i j) else none := rfl
@[simp] theorem intY0_e {q : Int → Int → Y} : intY0 q (.int i) (.int j) = some (q i j) := rfl
@[simp] theorem addY_int : addY (.int i) (.int j) = some (.int (i + j)) := rfl
@[simp] theorem addY_str {a b : Str} : addY (.str a) (.str b) = if fit (a.length + b.length) = true then some (.str (a ++ b)) else none := rfl
@[simp] theorem addY_tup : addY (.tup xs) (.tup ys) = if fit (xs.length + ys.length) = true then some (.tup (xs ++ ys)) else none := rfl
@[simp] theorem addY_lst {o o' : Bool} : addY (.lst o xs) (.lst o' ys) = if fit (xs.length + ys.length) = true then some (.lst false (xs ++ ys)) else none := rfl
@[simp] theorem addL2_lst {o o' : Bool} : addL2 (.lst o xs) (.lst o' ys) = if fit (xs.length + ys.length) = true then some (xs ++ ys) else none := rfl
@[simp] theorem iaddY_int : iaddY (.int i) (.int j) = some (.int (i + j)) := rfl
@[simp] theorem negY_e : negY (.int i) = some (.int (-i)) := rfl
@[simp] theorem absY_e : absY (.int i) = some (.int (if i < 0 then -i else i)) := rfl
@[simp] theorem intY1_int : intY1 (.int i) = some (.int i) := rfl
@[simp] theorem intY1_bl {b : Bool} : intY1 (.bl b) = some (.int (if b then 1 else 0)) := rfl
@[simp] theorem trY_bl {b : Bool} : trY (.bl b) = some b := rfl
@[simp] theorem trY_int : trY (.int i) = some (i != 0) := rfl
@[simp] theorem trY_non : trY .non = some false := rfl
@[simp] theorem trY_tup : trY (.tup xs) = some (!xs.isEmpty) := rfl
@[simp] theorem trY_lst {o : Bool} : trY (.lst o xs) = some (!xs.isEmpty) := rfl
@[simp] theorem lenY_tup : lenY (.tup xs) = some (.int xs.length) := rfl
@[simp] theorem lenY_lst {o : Bool} : lenY (.lst o xs) = some (.int xs.length) := rfl
@[simp] theorem lenY_lsc : lenY (.lsc xs) = some (.int xs.length) := rfl
@[simp] theorem lenY_dct {o : Bool} {kvs : List (Key × Y)} : lenY (.dct o kvs) = some (.int kvs.length) := rfl
@[simp] theorem lenY_str {a : Str} : lenY (.str a) = if fit a.length = true then some (.int a.length) else none := rfl
@[simp] theorem atY_int : atY xs (.int i) = L2.atI xs i := rfl
@[simp] theorem getY_tup : getY (.tup xs) x = atY xs x := rfl
@[simp] theorem getY_lst {o : Bool} : getY (.lst o xs) x = atY xs x := rfl
@[simp] theorem getY_lsc : getY (.lsc xs) x = atY xs x := rfl
@[simp] theorem getY_dctS {o : Bool} {kvs : List (Key × Y)} {a : Str} : getY (.dct o kvs) (.str a) = valY kvs (.inr a) := rfl
@[simp] theorem getY_dctI {o : Bool} {kvs : List (Key × Y)} : getY (.dct o kvs) (.int i) = valY kvs (.inl i) := rfl
@[simp] theorem getV_tup : getV (.tup xs) x = atY xs x := rfl
@[simp] theorem getV_lst {o : Bool} : getV (.lst o xs) x = atY xs x := rfl
@[simp] theorem getV_lsc : getV (.lsc xs) x = atY xs x := rfl
@[simp] theorem getV_dctF {kvs : List (Key × Y)} : getV (.dct false kvs) x = getY (.dct false kvs) x := rfl
@[simp] theorem getV_dctO {kvs : List (Key × Y)} : getV (.dct true kvs) x = (getY (.dct true kvs) x).bind fun y => if isF y = true then some y else none := rfl
@[simp] theorem getV_str {a : Str} : getV (.str a) (.int i) = if fit a.length = true then (L2.atI a.cps.toList i).map fun c => .str ⟨#[c]⟩ else none := rfl
@[simp] theorem valY_nil {k : Key} : valY [] k = none := rfl
@[simp] theorem valY_cons {k k' : Key} {r : List (Key × Y)} : valY ((k', y) :: r) k = if k' = k then some y else valY r k := by
  unfold valY
  rw [List.find?_cons]
  by_cases h : k' = k
  · simp [h]
  · simp [h]
@[simp] theorem fldY_e {T : FTab} {nm : Str} {o : Bool} {c : Nat} {fs : List (Str × Y)} : fldY T nm (.ins o c fs) = if T c nm = true then fs.lookup nm else none := rfl
@[simp] theorem keyY_int : keyY (.int i) = some (.inl i) := rfl
@[simp] theorem keyY_str {a : Str} : keyY (.str a) = some (.inr a) := rfl
@[simp] theorem itY_tup : itY (.tup xs) = some xs := rfl
@[simp] theorem itY_lst : itY (.lst false xs) = some xs := rfl
@[simp] theorem itY_lsc : itY (.lsc xs) = some xs := rfl
@[simp] theorem itY_str {a : Str} : itY (.str a) = some (a.cps.toList.map fun c => .str ⟨#[c]⟩) := rfl
@[simp] theorem listL_tup : listL (.tup xs) = some xs := rfl
@[simp] theorem listL_lst {o : Bool} : listL (.lst o xs) = some xs := rfl
@[simp] theorem listL_lsc : listL (.lsc xs) = some xs := rfl
@[simp] theorem listL_dct {o : Bool} {kvs : List (Key × Y)} : listL (.dct o kvs) = some ((kvs.map (·.1)).map kY) := rfl
@[simp] theorem frL_e {hl : Y → Option (List Y)} : frL hl x = (hl x).map (.lst false) := rfl
@[simp] theorem tupleY_tup : tupleY (.tup xs) = some (.tup xs) := rfl
@[simp] theorem tupleY_lst {o : Bool} : tupleY (.lst o xs) = some (.tup xs) := rfl
@[simp] theorem lstY_lst {o : Bool} : lstY (.lst o xs) = some xs := rfl
@[simp] theorem lstY_lsc : lstY (.lsc xs) = some xs := rfl
@[simp] theorem rng1Y_e (h0 : -4611686018427387904 ≤ i) (h : i < 4611686018427387904) : rng1Y [.int i] = some (rgY 0 i.toNat) := by
  show (if okR i = true then _ else _) = _
  rw [if_pos (okR_iff.mpr ⟨by simpa using h0, by simpa using h⟩)]
@[simp] theorem rgY_len {lo : Int} {n : Nat} : (rgY lo n).length = n := by simp [rgY]
/-! changes -/
@[simp] theorem sVar_e {i : Nat} : sVar i σ y = σ.set i (some y) := rfl
@[simp] theorem pKey_e {k : Str} : pKey k p σ = (match p σ with | some (.dct true kys) => valY kys (.inr k) | _ => none) := rfl
@[simp] theorem sKey_e {k : Str} : sKey k p st σ y = (match p σ with | some (.dct true kys) => st σ (.dct true (repK (Sum.inr k : Key) y kys)) | _ => σ) := rfl
@[simp] theorem pFld_e {T : FTab} {nm : Str} : pFld T nm p σ = (match p σ with | some (.ins true c fs) => if T c nm = true then fs.lookup nm else none | _ => none) := rfl
@[simp] theorem sFld_e {nm : Str} : sFld nm p st σ y = (match p σ with | some (.ins true c fs) => st σ (.ins true c (repK nm y fs)) | _ => σ) := rfl
@[simp] theorem repK_nil {α : Type} [DecidableEq α] {k : α} : repK k y [] = [] := rfl
@[simp] theorem repK_cons {α : Type} [DecidableEq α] {k k' : α} {r : List (α × Y)} : repK k y ((k', x) :: r) = if k' = k then (k', y) :: r else (k', x) :: repK k y r := rfl
@[simp] theorem putFY_nil {f : Str} : putFY f v [] = [(f, v)] := rfl
@[simp] theorem putFY_cons {f k' : Str} {r : List (Str × Y)} : putFY f v ((k', x) :: r) = if k' = f then (k', v) :: r else (k', x) :: putFY f v r := rfl
@[simp] theorem eMt1_e {hL : List Y → Y → Option (List Y)} : eMt1 p st hL g σ = (match p σ with | some (.lst true xs) => (g σ).bind fun y => (hL xs y).map fun xs' => (.non, st σ (.lst true xs')) | _ => none) := rfl
@[simp] theorem eMt1E_e {i : Nat} {hL : List Y → Y → Option (List Y)} : eMt1E i hL e σ = (match vVar i σ with
  | some (.lst _ _) => (e σ).bind fun q => match vVar i q.2 with
    | some (.lst true xs) => (hL xs q.1).map fun xs' => (.non, sVar i q.2 (.lst true xs'))
    | _ => none
  | _ => none) := rfl
@[simp] theorem eMt0_e {hL : List Y → Option (List Y × Y)} : eMt0 p st hL σ = (match p σ with | some (.lst true xs) => (hL xs).map fun q => (q.2, st σ (.lst true q.1)) | _ => none) := rfl
@[simp] theorem appL_e : appL xs y = if fit (xs.length + 1) = true then some (xs ++ [y]) else none := rfl
@[simp] theorem extL_tup : extL xs (.tup ys) = if fit (xs.length + ys.length) = true then some (xs ++ ys) else none := rfl
@[simp] theorem extL_lst {o : Bool} : extL xs (.lst o ys) = if fit (xs.length + ys.length) = true then some (xs ++ ys) else none := rfl
@[simp] theorem clrL_e : clrL xs = some ([], .non) := rfl
@[simp] theorem popL_e : popL (xs ++ [y]) = some (xs, y) := by unfold popL; simp
@[simp] theorem ySt_e {gi : VEn → Option Y} : ySt p st gi e σ = (match e σ with
  | some (v, σ1) => match p σ1, gi σ1 with
    | some c, some i => match stY c i v with
      | some c' => .nx (st σ1 c')
      | none => .no
    | _, _ => .no
  | none => .no) := rfl
@[simp] theorem stY_dS {kys : List (Key × Y)} {k : Str} : stY (.dct true kys) (.str k) v = if fit (kys.length + 1) = true then some (.dct true (putY kys (.inr k) v)) else none := rfl
@[simp] theorem stY_dI {kys : List (Key × Y)} : stY (.dct true kys) (.int i) v = if fit (kys.length + 1) = true then some (.dct true (putY kys (.inl i) v)) else none := rfl
@[simp] theorem stY_l : stY (.lst true xs) (.int j) v = (L2.ixN xs.length j).map fun j => .lst true (xs.set j v) := rfl
@[simp] theorem ySetF_e {T : FTab} {nm : Str} : ySetF T nm p st e σ = (match e σ with
  | some (v, σ1) => match p σ1 with
    | some c => match setFY T nm c v with
      | some c' => .nx (st σ1 c')
      | none => .no
    | none => .no
  | none => .no) := rfl
@[simp] theorem setFY_e {T : FTab} {nm : Str} {cc : Nat} {fs : List (Str × Y)} : setFY T nm (.ins true cc fs) v = if (T cc nm && few fs.length) = true then some (.ins true cc (putFY nm v fs)) else none := rfl
@[simp] theorem yAugF_e {T : FTab} {nm : Str} : yAugF T nm h p st g σ = (match p σ, g σ with
  | some c, some v => match fldY T nm c with
    | some x => if isF x = true then match h x v with
      | some z => match setFY T nm c z with
        | some c' => .nx (st σ c')
        | none => .no
      | none => .no else .no
    | none => .no
  | _, _ => .no) := rfl
@[simp] theorem ePs0_e : ePs0 σ = some ([], σ) := rfl
@[simp] theorem ePs_e {a : Str} {q : VEn → Option (List (Key × Y) × VEn)} : ePs a e q σ = (e σ).bind fun p => (q p.2).map fun w => ((.inr a, p.1) :: w.1, w.2) := rfl
@[simp] theorem eDict_e {q : VEn → Option (List (Key × Y) × VEn)} : eDict q σ = (q σ).bind fun p => if few15 p.1.length = true ∧ (p.1.map (·.1)).Nodup then some (.dct true p.1, p.2) else none := rfl
/-! sameness -/
theorem eqQY_flat {b : Bool} (h1 : flatY x = true) (h2 : flatY y = true) (h : eqFY x y = b) : eqQY x y = some b := by
  unfold eqQY okTopY
  simp only [h1, h2, Bool.or_true, Bool.true_or, Bool.and_self, if_true]
  unfold eqNY
  simp [h1, h2, h]
@[simp] theorem eqY_int : eqY (.int i) (.int j) = some (.bl (i == j)) := by unfold eqY; rw [eqQY_flat rfl rfl rfl]; rfl
@[simp] theorem eqY_str {a b : Str} : eqY (.str a) (.str b) = some (.bl (a == b)) := by unfold eqY; rw [eqQY_flat rfl rfl rfl]; rfl
@[simp] theorem eqY_bl {a b : Bool} : eqY (.bl a) (.bl b) = some (.bl (a == b)) := by unfold eqY; rw [eqQY_flat rfl rfl rfl]; rfl
@[simp] theorem neY_int : neY (.int i) (.int j) = some (.bl (!(i == j))) := by unfold neY; rw [eqQY_flat rfl rfl rfl]; rfl
@[simp] theorem neY_str {a b : Str} : neY (.str a) (.str b) = some (.bl (!(a == b))) := by unfold neY; rw [eqQY_flat rfl rfl rfl]; rfl
@[simp] theorem neY_lstNil {o o' : Bool} : neY (.lst o xs) (.lst o' []) = some (.bl (!xs.isEmpty)) := by
  cases xs <;> rfl
@[simp] theorem eqY_lstNil {o o' : Bool} : eqY (.lst o xs) (.lst o' []) = some (.bl xs.isEmpty) := by
  cases xs <;> rfl
/-- data without dicts and things, n deep at most -/
def Pl : Nat → Y → Prop
  | 0, y => flatY y = true
  | n + 1, y => flatY y = true ∨ (∃ xs, (y = .tup xs ∨ y = .lsc xs ∨ (∃ o, y = .lst o xs)) ∧ ∀ x ∈ xs, Pl n x)
theorem Pl.up : ∀ {n : Nat} {y : Y}, Pl n y → Pl (n + 1) y
  | 0, _, h => .inl h
  | n + 1, _, .inl h => .inl h
  | n + 1, _, .inr ⟨xs, h1, h2⟩ => .inr ⟨xs, h1, fun x hx => (h2 x hx).up⟩
theorem Pl.mono {n m : Nat} (h : Pl n y) (hm : n ≤ m) : Pl m y := by
  induction m with
  | zero => rw [show n = 0 by omega] at h; exact h
  | succ m ih =>
    by_cases q : n = m + 1
    · rw [← q]; exact h
    · exact (ih (by omega)).up
/-! names among names -/
theorem inQY_lst {o : Bool} : inQY x (.lst o ys) = inLY x ys := by cases x <;> rfl
theorem inQY_tup : inQY x (.tup ys) = inLY x ys := by cases x <;> rfl
theorem inLY_ints {n : Int} {ns : List Int} : inLY (.int n) (ns.map .int) = some (decide (n ∈ ns)) := by
  unfold inLY
  have : (ns.map Y.int).all flatY = true := by simp [flatY]
  rw [this]
  have h2 : ((ns.map Y.int).any fun y => eqFY y (.int n)) = decide (n ∈ ns) := by
    clear this
    induction ns with
    | nil => rfl
    | cons m r ih =>
      rw [List.map_cons, List.any_cons, ih]
      show ((m == n) || _) = _
      by_cases q : m = n
      · simp [q]
      · have q' : ¬ n = m := fun z => q z.symm
        simp [q, q']
  rw [h2]
  rfl
@[simp] theorem inY_ints {o : Bool} {n : Int} {ns : List Int} : inY (.int n) (.lst o (ns.map .int)) = some (.bl (decide (n ∈ ns))) := by unfold inY; rw [inQY_lst, inLY_ints]; rfl
@[simp] theorem ninY_ints {o : Bool} {n : Int} {ns : List Int} : ninY (.int n) (.lst o (ns.map .int)) = some (.bl (!decide (n ∈ ns))) := by unfold ninY; rw [inQY_lst, inLY_ints]; rfl
@[simp] theorem inY_tints {n : Int} {ns : List Int} : inY (.int n) (.tup (ns.map .int)) = some (.bl (decide (n ∈ ns))) := by unfold inY; rw [inQY_tup, inLY_ints]; rfl
@[simp] theorem ninY_tints {n : Int} {ns : List Int} : ninY (.int n) (.tup (ns.map .int)) = some (.bl (!decide (n ∈ ns))) := by unfold ninY; rw [inQY_tup, inLY_ints]; rfl
end
end Sm
end
section
/-! Sm, part Z: loops and comprehensions on values, as they are used. -/
namespace Sm
open PySem PySem.Spec PyProof.Rows L2
/-! ### what a def gives back of its arguments -/
section
variable {x y z u v w : Option Y} {r : VEn}
@[simp] theorem us_0_1 : usOf [0] 1 (x :: r) = [x] := by cases x <;> rfl
@[simp] theorem us_0_2 : usOf [0] 2 (x :: r) = [x, none] := by cases x <;> rfl
@[simp] theorem us_0_3 : usOf [0] 3 (x :: r) = [x, none, none] := by cases x <;> rfl
@[simp] theorem us_0_4 : usOf [0] 4 (x :: r) = [x, none, none, none] := by cases x <;> rfl
@[simp] theorem us_0_5 : usOf [0] 5 (x :: r) = [x, none, none, none, none] := by cases x <;> rfl
@[simp] theorem us_0_6 : usOf [0] 6 (x :: r) = [x, none, none, none, none, none] := by cases x <;> rfl
end
@[simp] theorem enumY_tup {xs : List Y} : enumY [.tup xs] = some (enumFrom 0 xs) := rfl
@[simp] theorem enumY_lst {o : Bool} {xs : List Y} : enumY [.lst o xs] = some (enumFrom 0 xs) := rfl
@[simp] theorem isiY_e {J : TK → TK → Option Bool} {x c : Y} : isiY J x c = (match tyY x, clY c with | some t, some k => (J t k).map .bl | _, _ => none) := rfl
section
variable {i : Int} {b : Bool} {a : Str} {n : String} {c : Nat} {xs : List Y} {o : Bool} {kvs : List (Key × Y)} {fs : List (Str × Y)}
@[simp] theorem tyY_non : tyY .non = some (.inl "NoneType") := rfl
@[simp] theorem tyY_bl : tyY (.bl b) = some (.inl "bool") := rfl
@[simp] theorem tyY_int : tyY (.int i) = some (.inl "int") := rfl
@[simp] theorem tyY_str : tyY (.str a) = some (.inl "str") := rfl
@[simp] theorem tyY_tup : tyY (.tup xs) = some (.inl "tuple") := rfl
@[simp] theorem tyY_lst : tyY (.lst o xs) = some (.inl "list") := rfl
@[simp] theorem tyY_dct : tyY (.dct o kvs) = some (.inl "dict") := rfl
@[simp] theorem tyY_ins : tyY (.ins o c fs) = some (.inr c) := rfl
@[simp] theorem clY_ty : clY (.ty n) = some (.inl n) := rfl
@[simp] theorem clY_cls : clY (.cls c) = some (.inr c) := rfl
end
/-! ### a word among words -/
section
variable {w a : Str} {r : List Y} {o : Bool}
@[simp] theorem inY_strL : inY (.str w) (.lst o r) = (inLY (.str w) r).map .bl := by unfold inY; rw [inQY_lst]
@[simp] theorem inY_strT : inY (.str w) (.tup r) = (inLY (.str w) r).map .bl := by unfold inY; rw [inQY_tup]
@[simp] theorem ninY_strL : ninY (.str w) (.lst o r) = (inLY (.str w) r).map fun b => .bl (!b) := by unfold ninY; rw [inQY_lst]
@[simp] theorem ninY_strT : ninY (.str w) (.tup r) = (inLY (.str w) r).map fun b => .bl (!b) := by unfold ninY; rw [inQY_tup]
@[simp] theorem inLY_nil' : inLY (.str w) [] = some false := rfl
@[simp] theorem inLY_cons' : inLY (.str w) (.str a :: r) = (inLY (.str w) r).map fun b => (a == w) || b := by
  unfold inLY
  have h1 : flatY (.str w) = true := rfl
  have h2 : flatY (.str a) = true := rfl
  simp only [h1, h2, List.all_cons, Bool.true_and, List.any_cons]
  split <;> rfl
end
/-! ### the dict of names -/
/-- names as keys, True behind each -/
def kdY (ks : List Int) : List (Key × Y) := ks.map fun k => (.inl k, .bl true)
@[simp] theorem kdY_len {ks : List Int} : (kdY ks).length = ks.length := by unfold kdY; simp
end Sm
end
section
/-! Sm, part Za: lambdas without captured names; sorted(xs, key=lambda x: x[j]) of tuples with a whole number at j; the end of a law with tables. -/
namespace Sm
open PySem PySem.Spec PyProof.Rows L2 LamX NdefX
/-! ### a lambda's object -/
structure LF where
  qual : Str
  params : Arguments
  body : Expr
  scope : Scope
  cl : List (Str × Addr)
  c : Addr
abbrev LF.fd (F : LF) (pm ctv : Value) : FuncData := PySem.W.kla_fn "<lambda>" F.qual F.params F.body F.scope F.cl pm (.ref F.c) ctv
/-! ### lambda x: x[j], called -/
/-! ### sorted(xs, key=lambda x: x[j]) -/
/-! ### .. of data -/
end Sm
end
section
/-! Sm, part Zb: a def that makes functions (its code object known); the end of a law whose defs have tables of code objects. -/
namespace Sm
open PySem PySem.Spec PyProof.Rows L2 LamX NdefX
end Sm
end
section
/-! Sm, part Zd: enumerate(list, start=k). -/
namespace Sm
open PySem PySem.Spec PyProof.Rows L2
end Sm
end
section
/-! Sm, part Zc: on values, sorted(xs, key=lambda x: x[j]). -/
namespace Sm
open PySem PySem.Spec PyProof.Rows L2
/-! ### enumerate(list, start=k) -/
end Sm
end
section
/-! Sm, part Ze: faults of the program's own as values: made and not raised, asked for their class, read. -/
namespace Sm
open PySem PySem.Spec PyProof.Rows L2
/-- C(e, ..), C's own __init__ keeping sp: the new object -/
def tMkV (C : Addr) (sp : Sp) (ta : TA) : TE := fun σ H Q => ta σ H fun vs H1 => vs.length ≤ 1000 ∧ ∀ a, H1 a = none → sp (.ref a :: vs) (upd H1 a (exo a C none))
  (fun v H2 => v = .non ∧ Q (.ref a) H2) (fun _ _ _ => False)
section
variable {X : Cx} {e : Expr} {es : List Expr} {ta : TA} {p pos : Pos}
theorem pe_oexV {CX : CXT} {x : Str} {C fI : Addr} {k : Nat} {fd : FuncData} {ps : List Str} {sp : Sp} (T : OexC X.K C) (iC : PySem.W.findIn X.K (.ref C) "__init__" = some (some (.ref fI))) (tI : PySem.W.typeIn X.K (.ref fI) = some (.type "function"))
    (F1 : FnOk X.prog X.w X.K X.mg X.base CX k fI fd ps sp) (hr : Room (k + 1) X.A) (hb : Binds X.K fd ps []) (hx : Passes CX X (fun _ _ _ => False)) (hg : Gl X x) (hm : X.mg x = some (.ref C)) (ha : PA X (e :: es) ta)
    (hdb : (x == ("__debug__" : Str)) = false := by decide) (he : starEach (e :: es) X.env = (false, eval e X.env) :: starEach es X.env := by rfl) (hpl : (backTo pos (starEach es X.env)).any (·.1) = false := by rfl) :
    PE X (.Call (.Name x p) (e :: es) [] pos) (tMkV C sp ta) := by
  refine ⟨fun pins s σ H Q I h => ?_⟩
  obtain ⟨nm, q, N, bs, bm, sn, sub, ab, col, dd, k0, k1, k2, k3, k5, hC, hbm⟩ := T.cls
  refine wpAny_Call_Name_kw (ld_glob I hg hm ?_ hdb)
  refine PySem.W.callWith_K (h₀ := X.base) I.ok.mod.kin T.kC (thn (ha.run pos pins s σ H _ I h) fun us s1 ⟨vs, H1, I1, r1, hz, q1⟩ => ⟨I1.kIn, ?_⟩) he hpl
  show wpAny _ _ (call (.ref C) us) _ _ _
  obtain ⟨hp, g, dr, tk, os⟩ := s1
  have hsz : hp.objs.size ≤ hp.objs.size + 1 := Nat.le_succ _
  have hn : H1 (hp.objs.size + 1) = none := I1.hok.fresh hsz
  have hq := q1 (hp.objs.size + 1) hn
  have kk : ∀ b o, hp.get? b = some o → ((hp.push (PySem.W.kdv_tup us)).push (PySem.HandSPX.excO C hp.objs.size)).get? b = some o := fun b o e => Heap.get?_push_of_some _ (Heap.get?_push_of_some _ e)
  have hget : ((hp.push (PySem.W.kdv_tup us)).push (PySem.HandSPX.excO C hp.objs.size)).get? (hp.objs.size + 1) = some (PySem.HandSPX.excO C hp.objs.size) := by heap_get
  have I2 : Inv X pins σ (upd H1 (hp.objs.size + 1) (exo (hp.objs.size + 1) C none)) ⟨(hp.push (PySem.W.kdv_tup us)).push (PySem.HandSPX.excO C hp.objs.size), g, dr, tk, os⟩ :=
    I1.laid (t' := tk) (a := hp.objs.size + 1) (o := exo (hp.objs.size + 1) C none) (h' := (hp.push (PySem.W.kdv_tup us)).push (PySem.HandSPX.excO C hp.objs.size)) kk hsz (exo_ok hget)
  have r2 : Vals (V.ref (hp.objs.size + 1) :: vs) (Value.ref (hp.objs.size + 1) :: us) := .cons rfl r1
  have hl : (Value.ref (hp.objs.size + 1) :: us).length = ps.length := by
    have e := r2.length
    rw [F1.len _ _ _ _ hq] at e
    exact e.symm
  have hus : us.length ≤ sizeLine := by
    rw [← Paired.length r1, sizeLine_eq]
    omega
  have hb2 := hb _ (Value.ref (hp.objs.size + 1) :: us) I2.kIn (by rw [List.append_nil]; exact hl)
  rw [List.append_nil] at hb2
  refine wpAny_call (PySem.HandSPX.call_own F.excBase_ValueError (fun Y => PySem.HandSPX.refsVE_contains Y bm hbm) (I1.kIn _ _ hC) (PySem.W.looks_findIn I1.kIn iC) (fun self => PySem.W.bind_fn I1.kIn self tI) hus
    (codeAny_mono (F1.run _ X.stack _ _ ⟨Value.ref (hp.objs.size + 1) :: us, []⟩ (Value.ref (hp.objs.size + 1) :: us) _ _ (fun _ _ _ => False) (hr.make C us []) (I2.env0.make C us []) hb2 r2 hq) fun r s' hq' => ?_))
  cases r with
  | error er => exact hx pins σ _ _ er s' I2 hq'
  | ok fl =>
    cases fl with
    | ret u =>
      obtain ⟨v, H', I3, rv, ev, q3⟩ := I2.after hq'
      subst ev
      exact ⟨rv, .ref (hp.objs.size + 1), H', I3, rfl, q3⟩
    | next => exact False.elim hq'
    | brk => exact False.elim hq'
    | cont => exact False.elim hq'
/-- C(), an own class without own __init__ -/
theorem pe_oexV0 {C : Addr} {bmB : List Value} {B newId initId : String} {x : Str} (F : ExcBaseFacts B newId initId bmB) (q : PySem.W.excIn X.K C bmB newId = true) (gC : X.mg x = some (.ref C)) (kC : PySem.W.keepIn X.K (.ref C) = true) (hg : Gl X x)
    (hdb : (x == ("__debug__" : Str)) = false := by decide) :
    PE X (.Call (.Name x p) [] [] pos) (fun σ H Q => ∀ a, H a = none → Q (.ref a) (upd H a (exo a C none))) := by
  refine ⟨fun pins s σ H Q I h => ?_⟩
  refine wpAny_Call_Name_kw (ld_glob I hg gC ?_ hdb)
  refine PySem.W.callWith_K0 I.kIn kC ?_
  obtain ⟨bm, N, nm, qn, bs, hdct, sn, sub, ab, col, dd, k0, k1, k2, k3, k5, mN, hC, hN, hni, T⟩ := exc_obj I.kIn q
  refine wpAny_call_exc_subT F T hC hN hni (fun h' a hm => ?_) (Nat.zero_le _)
  have hn : H a = none := I.hok.gone hm.new
  obtain ⟨t, ht, _, _⟩ := hm.there
  exact ⟨.ref a, upd H a (exo a C none), I.laidN hm.keeps hm.new hn (exo_ok ht), rfl, h a hn⟩
end
/-! ### on data -/
def mkX (c : Nat) (f : Str) (ck : D → Bool) (fe : DE) : DE := fun ρ S => (fe ρ S).andThen fun d S' => if ck d = true then .ok (.exn c [f] [d]) S' else .no
def mkX0 (c : Nat) : DE := fun _ S => .ok (.exn c [] []) S
section
variable {X : Cx} {g : Gx} {W : WX} {e : Expr} {fe : DE} {p pos' : Pos} {nm qual pn f : Str} {st : Stmt} {c k : Nat}
theorem upd_mid {H1 : Hp} {a dx : Addr} {o1 o2 o3 : HO} (ne : dx ≠ a) : upd (upd (upd H1 a o1) dx o2) a o3 = upd (upd H1 dx o2) a o3 := by
  funext b
  by_cases h1 : b = a
  · subst h1; rw [upd_same, upd_same]
  · rw [upd_ne h1, upd_ne h1]
    by_cases h2 : b = dx
    · subst h2; rw [upd_same, upd_same]
    · rw [upd_ne h2, upd_ne h2, upd_ne h1]
/-- a new fault, all that is known of it -/
theorem mkX_put {m : Nat → Addr} {S : Sto} {H1 : Hp} {a dx : Addr} {v : V} {d : D} {Q : VK} {W' : XK} (s1 : SR g m H1 S) (r1 : VR g m S.length H1 v d) (na : H1 a = none) (ndx : H1 dx = none) (ne : dx ≠ a)
    (h : PRx g m S H1 W' (KD g Q) (.ok (.exn c [f] [d]) S)) : Q (.ref a) (upd (upd (upd H1 a (exo a (g.ct c) none)) dx (exd dx [(f, v)])) a (exo a (g.ct c) (some dx))) := by
  rw [upd_mid ne]
  have na2 : upd H1 dx (exd dx [(f, v)]) a = none := by rw [upd_ne (fun z => ne z.symm)]; exact na
  have e1 : Ev g m S.length H1 m S.length (upd H1 dx (exd dx [(f, v)])) := Ev.new ndx
  have e2 : Ev g m S.length (upd H1 dx (exd dx [(f, v)])) m S.length (upd (upd H1 dx (exd dx [(f, v)])) a (exo a (g.ct c) (some dx))) := Ev.new na2
  exact h m _ (e1.trans e2) ((s1.aside ndx).aside na2) (.ref a) (.exn a dx c [f] [(f, v)] [d] upd_same (by rw [upd_ne ne]; exact upd_same) rfl (.cons _ _ _ _ (r1.ev (e1.trans e2)) .nil))
theorem de_mkX (T : XnT X.K X.mg (g.ct c) nm qual st pn f) (F1 : FnOk X.prog X.w X.K X.mg X.base (L2.CX X.prog X.w) k T.fn T.fd ["self", pn] (spX (g.ct c) f)) (tk : Takes X W) (hr : Room (k + 1) X.A) (he : PE X e (tD g W fe))
    (hg : Gl X nm := by rfl) (hdb : (nm == ("__debug__" : Str)) = false := by decide) (hst : starEach [e] X.env = (false, eval e X.env) :: starEach [] X.env := by rfl) (hpl : (backTo pos' (starEach [] X.env)).any (·.1) = false := by rfl) :
    PE X (.Call (.Name nm p) [e] [] pos') (tD g W (mkX c f (fun _ => true) fe)) := by
  refine PE.imp (pe_oexV T.T T.iC T.tI F1 hr T.b (passes_call tk fun _ _ _ _ h => h.elim) hg T.m (pa_cons he pa_nil hst) hdb hst hpl) fun σ H Q ⟨m, S, ρ, sr, er, h⟩ => ?_
  refine tD.sub sr er h fun d m1 S1 H1 v s1 er1 e1 r1 h1 => ?_
  exact ⟨by simp, fun a na => ⟨a, v, by simp, upd_same, fun dx ndx ne => ⟨rfl, mkX_put s1 r1 na (by rw [upd_ne ne] at ndx; exact ndx) ne (by simpa using h1)⟩⟩⟩
theorem de_mkXI (T : XnT X.K X.mg (g.ct c) nm qual st pn f) (F1 : FnOk X.prog X.w X.K X.mg X.base (L2.CX X.prog X.w) k T.fn T.fd ["self", pn] (spXI (g.ct c) f)) (tk : Takes X W) (hr : Room (k + 1) X.A) (he : PE X e (tD g W fe))
    (hg : Gl X nm := by rfl) (hdb : (nm == ("__debug__" : Str)) = false := by decide) (hst : starEach [e] X.env = (false, eval e X.env) :: starEach [] X.env := by rfl) (hpl : (backTo pos' (starEach [] X.env)).any (·.1) = false := by rfl) :
    PE X (.Call (.Name nm p) [e] [] pos') (tD g W (mkX c f smD fe)) := by
  refine PE.imp (pe_oexV T.T T.iC T.tI F1 hr T.b (passes_call tk fun _ _ _ _ h => h.elim) hg T.m (pa_cons he pa_nil hst) hdb hst hpl) fun σ H Q ⟨m, S, ρ, sr, er, h⟩ => ?_
  refine tD.sub sr er h fun d m1 S1 H1 v s1 er1 e1 r1 h1 => ?_
  by_cases q : smD d = true
  · rw [if_pos q] at h1
    cases r1 with
    | int i => exact ⟨by simp, fun a na => ⟨a, i, by simp, q, upd_same, fun dx ndx ne => ⟨rfl, mkX_put s1 (.int i) na (by rw [upd_ne ne] at ndx; exact ndx) ne h1⟩⟩⟩
    | _ => cases q
  · rw [if_neg q] at h1; exact h1.elim
theorem de_mkX0 {bmB : List Value} {B newId initId : String} (F : ExcBaseFacts B newId initId bmB) (q : PySem.W.excIn X.K (g.ct c) bmB newId = true) (gC : X.mg nm = some (.ref (g.ct c))) (kC : PySem.W.keepIn X.K (.ref (g.ct c)) = true) (hg : Gl X nm := by rfl)
    (hdb : (nm == ("__debug__" : Str)) = false := by decide) : PE X (.Call (.Name nm p) [] [] pos') (tD g W (mkX0 c)) :=
  PE.imp (pe_oexV0 F q gC kC hg hdb) fun σ H Q ⟨m, S, ρ, sr, er, h⟩ a na =>
    h m _ (Ev.new na) (sr.aside na) (.ref a) (.exn0 a c upd_same)
end
/-! ### isinstance of a fault, with or without fields -/
section
open PySem.W
variable {prog : Program} {w : World} {A : Around} {E : Value → Shared → Prop} {s : Shared} {K : Frag} {x D : Addr} {ox : Obj} {od : Option Obj}
theorem find_cls (C : ExcC K D) : findObj K D od "__class__" = some (.bind (.builtin "getset_descriptor.__get__") (.builtin "object.__class__")) := by
  obtain ⟨cd, hc, _⟩ := any_some C.hd
  simp [findObj, hc, C.ha, C.hn, C.ht]
theorem exc_class {Q : Option Value → Shared → Prop} (C : ExcC K D) (X : K.In s.heap) (I : InstAt s.heap x ox D od) (h : Q (some (.ref D)) { s with toks := s.toks + 1 }) : wpAny (model prog w) A (getAttr? (.ref x) "__class__") Q E s := by
  have hf := find_cls (od := od) C
  obtain ⟨hp, g, d, t, os⟩ := s
  have T0 := I.type (M := model prog w)
  have T1 := looks_findIn (M := model prog w) X C.hg
  have T2 := looks_findIn (M := model prog w) X C.hk
  have T3 := looks_find (M := model prog w) X I hf
  have S0 : Looks (model prog w) hp (isInstance (.ref x) (.type "BaseException")) true := T0.andThen (looks_subIn X C.hs)
  have n0 : (Value.builtin "BaseException.__getattribute__" == Value.builtin "object.__getattribute__") = false := by decide +kernel
  unfold getAttr? getAttrBy? getAttrBy
  refine wpAny_bind (wpAny_mkText (wpAny_bind (wpAny_attempt (wpAny_holding (wpAny_bind (T0.at (wpAny_bind (T1.at ?_))))))))
  show wpAny _ _ (if (onTheHeap (Value.ref D) && (Value.builtin "BaseException.__getattribute__" == Value.builtin "object.__getattribute__")) = true then _ else _) _ _ _
  rw [n0, Bool.and_false, if_neg Bool.false_ne_true]
  unfold getAttrByItsOwn hookBefore
  refine wpAny_bind ?_; rw [if_pos (show onTheHeap (Value.ref D) = true from rfl)]
  refine T2.at (wpAny_bind (wpAny_attempt (wpAny_holding ?_)))
  unfold callGetattribute
  rw [show (false && onTheHeap (Value.builtin "BaseException.__getattribute__")) = false from rfl, if_neg Bool.false_ne_true]
  unfold boundAndCalled; rw [PySem.F.excAttr_ValueError.ga.bind (.ref x)]
  refine wpAny_bind (wpAny_pure ?_)
  show wpAny _ _ (call (.builtin "BaseException.__getattribute__") [.ref x, .str "__class__" t]) _ _ _
  refine wpAny_call (codeAny_call_builtin PySem.F.excAttr_ValueError.ga.plain PySem.F.entry_bexc_ga (@check_slot (model prog w) _ _ ⟨hp, g, d, t + 1, os⟩ "BaseException.__getattribute__" "BaseException" "__getattribute__" (.ref x) [.str "__class__" t] [] _
    (by decide +kernel) (by decide +kernel) S0 (PySem.F.args_bexc_ga (.ref x) (.str "__class__" t)) ?_))
  unfold Builtin.«object.__getattribute__»
  refine wpAny_bind (wpAny_of_eq (a := ((Value.ref x : Value), [Value.str "__class__" t])) (by first | rfl | (simp only [slotArgs]; rfl)) (wpAny_bind (wpAny_pure (wpAny_bind (T0.at (wpAny_bind (T3.at ?_)))))))
  show wpAny _ _ (holding [Value.builtin "object.__class__"] (call (.builtin "getset_descriptor.__get__") [.builtin "object.__class__", .ref x, .ref D]) >>= ret) _ _ _
  refine wpAny_bind (wpAny_holding (wpAny_call (class_get (s := ⟨hp, g, d, t + 1, os⟩) (ox := ox) (od := od) X I C.hm (wpAny_pure ?_))))
  show wpAny _ _ (handedOut (.ref D)) _ _ _
  rw [handedOut_of (v := .ref D) rfl]
  first
    | exact wpAny_pure (wpAny_pure h)
    | exact wpAny_pure h
    | exact wpAny_pure (wpAny_bind (wpAny_pure (wpAny_pure h)))
theorem kit_exc (C : ExcC K D) : KitX K (.ref x) (.ref D) (fun h => InstAt h x ox D od) where
  ty := fun _ _ _ I => I.type
  it := fun _ _ X _ => by
    obtain ⟨cd, hc, _⟩ := any_some C.hd
    unfold clsIn at hc; split at hc
    · rename_i c' d' cd' sl' ho
      exact fun A' Q' E' s' k q => by
        unfold isType loadHead
        exact wpAny_bind (wpAny_loadPart (k _ _ (X _ _ ho)) (wpAny_pure q))
    · cases hc
  ne := fun h tp dd its n sl X htp => by
    obtain ⟨cd, hc, _⟩ := any_some C.hd
    refine Bool.eq_false_iff.mpr fun q => ?_
    have e : D = tp := Value.ref.inj (beq_iff_eq.mp q)
    subst e
    unfold clsIn at hc; split at hc
    · rename_i c' d' cd' sl' ho
      cases (X _ _ ho).symm.trans htp
    · cases hc
  ca := fun X I k => exc_class C X I k
end
/-- isinstance(e, c), e a fault held -/
def rIsX (K : PySem.W.Frag) : List V → Hp → VK → Prop := fun xs H Q => ∃ (a C : Addr) (d : Option Addr) (c : V) (cv : Value) (b : Bool), xs = [.ref a, c] ∧ H a = some (exo a C d) ∧ (∀ dd, d = some dd → ∃ fs, H dd = some (exd dd fs)) ∧ ExcC K C ∧ (∀ u, RelV c u → u = cv) ∧ PySem.W.kitOne K (.ref C) cv = some b ∧ Q (.bl b) H
theorem call_isX {X : Cx} : CallR X (.builtin "isinstance") (rIsX X.K) := by
  intro pins s σ H xs us Q I r h
  obtain ⟨a, C, d, c, cv, b, rfl, ha, hd, T, hcv, e, q⟩ := h
  cases r with
  | cons rx rr =>
    cases rr with
    | cons rt rr =>
      cases rr
      cases rx
      have ec := hcv _ rt
      subst ec
      obtain ⟨t1, hget⟩ := exo_at I.hok ha
      cases d with
      | none => exact PySem.W.kia_one (kit_exc (od := none) T) I.kIn (⟨hget, rfl, rfl, trivial⟩ : PySem.W.InstAt s.heap a _ C none) e (fun z => nomatch z) fun tk => ⟨.bl b, H, I.kept (t' := tk) fun _ _ z => z, rfl, q⟩
      | some dd =>
        obtain ⟨fs, hdd⟩ := hd dd rfl
        obtain ⟨mA, hns, hr⟩ := exd_at I.hok hdd
        obtain ⟨o2, ho, hl⟩ := lookIn_ns hns
        exact PySem.W.kia_one (kit_exc (od := some o2) T) I.kIn (⟨hget, rfl, rfl, ho⟩ : PySem.W.InstAt s.heap a _ C (some o2)) e (fun z => nomatch z) fun tk => ⟨.bl b, H, I.kept (t' := tk) fun _ _ z => z, rfl, q⟩
/-! on data -/
def isxQ (J : Nat → TK → Option Bool) : D → Option TK → Option D
  | .exn c _ _, some t => (J c t).map D.bl
  | _, _ => none
def isxD (J : Nat → TK → Option Bool) (x k : D) : Mo D := fun S => optD (isxQ J x (clQ k)) S
def IsTabX (g : Gx) (J : Nat → TK → Option Bool) : Prop := ∀ c t b, J c t = some b → ExcC g.K (g.ct c) ∧ PySem.W.kitOne g.K (.ref (g.ct c)) (tv g t) = some b
def tabX (l : List ((Nat × TK) × Bool)) (c : Nat) (t : TK) : Option Bool := look (c, t) l
theorem isTabX_of {g : Gx} {l : List ((Nat × TK) × Bool)} (h1 : ∀ e ∈ l, PySem.W.kitOne g.K (.ref (g.ct e.1.1)) (tv g e.1.2) = some e.2) (h2 : ∀ e ∈ l, ExcC g.K (g.ct e.1.1)) : IsTabX g (tabX l) :=
  fun c t b h => ⟨h2 _ (look_mem h), h1 _ (look_mem h)⟩
section
variable {g : Gx}
theorem isx_ok {J : Nat → TK → Option Bool} (hJ : IsTabX g J) : SC g (rIsX g.K) (ar2 (isxD J)) := SC.two fun m S H x y d e Q W sr rx ry h => by
  have h2 : PRx g m S H W (KD g Q) (optD (isxQ J d (clQ e)) S) := h
  cases q2 : clQ e with
  | none => rw [q2] at h2; cases d <;> exact h2.elim
  | some t =>
    rw [q2] at h2
    have kc : ∀ u, RelV y u → u = tv g t := by
      cases ry <;> first | (cases q2; intro u ru; cases ru; rfl) | cases q2
    have key : ∀ (a : Addr) (c : Nat) (od : Option Addr), x = .ref a → H a = some (exo a (g.ct c) od) → (∀ dd, od = some dd → ∃ fs, H dd = some (exd dd fs)) → PRx g m S H W (KD g Q) (optD ((J c t).map D.bl) S) → rIsX g.K [x, y] H Q := by
      intro a c od ex ha hd h3
      cases z : J c t with
      | none => rw [z] at h3; exact h3.elim
      | some b =>
        rw [z] at h3
        obtain ⟨k1, k2⟩ := hJ c t b z
        exact ⟨a, g.ct c, od, y, tv g t, b, by rw [ex], ha, hd, k1, kc, k2, h3.here sr _ (.bl _)⟩
    cases rx with
    | exn0 a c ha => exact key a c none rfl ha (fun dd z => by cases z) h2
    | exn a dx c ks kvs ds ha hd _ _ => exact key a c (some dx) rfl ha (fun dd z => by cases z; exact ⟨kvs, hd⟩) h2
    | _ => exact h2.elim
end
section
variable {X : Cx} {g : Gx} {W : WX} {e : Expr} {es : List Expr} {fe : DE} {fs : En → Mo (List D)} {p pos : Pos} {n : Str}
theorem de_isx {J : Nat → TK → Option Bool} (hJ : IsTabX g J) (hK : X.K = g.K) (hm : X.mg "isinstance" = none) (hv : bootBuiltins "isinstance" = some (.builtin "isinstance")) (ha : PA X (e :: es) (tDs g W fs)) (hg : Gl X "isinstance" := by rfl)
    (he : starEach (e :: es) X.env = (false, eval e X.env) :: starEach es X.env := by rfl) (hpl : (backTo pos (starEach es X.env)).any (·.1) = false := by rfl) :
    PE X (.Call (.Name "isinstance" p) (e :: es) [] pos) (tD g W (cCall (ar2 (isxD J)) fs)) := de_callB (by rw [← hK]; exact call_isX) (isx_ok hJ) hm hv ha hg he hpl
/-! ### e.f of a fault -/
def cXv (T : FTab) (f : Str) (fe : DE) : DE := fun ρ S => (fe ρ S).andThen fun d S' => match d with
  | .exn c ks ds => if T c f = true then (match (ks.zip ds).lookup f with
      | some v => .ok v S'
      | none => .no) else .no
  | _ => .no
def TabX (g : Gx) (T : FTab) : Prop := ∀ c f, T c f = true → XfC g.K (g.ct c) ∧ PySem.W.findIn g.K (.ref (g.ct c)) f = some none
theorem tabX_of {l : List (Nat × Str)} (h : ∀ e ∈ l, XfC g.K (g.ct e.1) ∧ PySem.W.findIn g.K (.ref (g.ct e.1)) e.2 = some none) : TabX g (tabF l) := fun c f q => h (c, f) (of_decide_eq_true q)
theorem zip_look {m : Nat → Addr} {k : Nat} {H : Hp} {f : Str} {v : D} : ∀ {kvs : List (Str × V)} {ds : List D}, VRs g m k H (kvs.map (·.2)) ds → ((kvs.map (·.1)).zip ds).lookup f = some v → ∃ y, kvs.lookup f = some y ∧ VR g m k H y v
  | [], _, r, h => by simp at h
  | (a, y) :: r, _, .cons _ d _ ds r1 r2, h => by
    simp only [List.map_cons, List.zip_cons_cons, List.lookup_cons] at h ⊢
    split at h
    · cases h; exact ⟨y, rfl, r1⟩
    · exact zip_look r2 h
theorem de_xv {T : FTab} (hT : TabX g T) (hK : X.K = g.K) (he : PE X e (tD g W fe)) (hb : attributeBase e n X.env (eval e X.env) = eval e X.env := by rfl) : PE X (.Attribute e n pos) (tD g W (cXv T n fe)) := by
  refine ⟨fun pins s σ H Q I ⟨m, S, ρ, sr, er, h⟩ => ?_⟩
  refine attr_of hb (thn (he.run pins s σ H _ I (tD.sub (Q := fun x H1 => ∃ (a dx : Addr) (c : Nat) (kvs : List (Str × V)) (y : V), x = .ref a ∧ H1 a = some (exo a (g.ct c) (some dx)) ∧ H1 dx = some (exd dx kvs) ∧ T c n = true ∧ kvs.lookup n = some y ∧ Q y H1) sr er h
    fun d m1 S1 H1 v s1 er1 e1 r1 h1 => ?_)) fun u s1 ⟨x, H1, I1, rx, a, dx, c, kvs, y, ex, ha, hd, ht, hl, q⟩ => ?_)
  · cases r1 with
    | exn a dx c ks kvs ds ha hd hk rs =>
      subst hk
      by_cases ht : T c n = true
      · simp only [if_pos ht] at h1
        cases z : ((kvs.map (·.1)).zip ds).lookup n with
        | none => rw [z] at h1; exact h1.elim
        | some v =>
          rw [z] at h1
          obtain ⟨y, hl, ry⟩ := zip_look rs z
          exact ⟨a, dx, c, kvs, y, rfl, ha, hd, ht, hl, h1.here s1 _ ry⟩
      · simp only [if_neg ht] at h1; exact h1.elim
    | exn0 a c ha =>
      by_cases ht : T c n = true
      · simp only [if_pos ht] at h1; exact h1.elim
      · simp only [if_neg ht] at h1; exact h1.elim
    | _ => exact h1.elim
  · subst ex
    obtain rfl : u = Value.ref a := rx
    obtain ⟨t1, hget⟩ := exo_at I1.hok ha
    obtain ⟨mA, hns, hr⟩ := exd_at I1.hok hd
    obtain ⟨o2, ho, hlk⟩ := lookIn_ns hns
    obtain ⟨w, hw, rw'⟩ := RelO.some_of (v := y) (o := mA n) (by rw [← hl]; exact hr n)
    obtain ⟨K1, K2⟩ := hT c n ht
    rw [← hK] at K1 K2
    exact HandSPX.exc_get I1.kIn (⟨hget, rfl, rfl, ho⟩ : PySem.W.InstAt s1.heap a _ (g.ct c) (some o2)) K1.ga K1.gg K1.exC (PySem.W.findObj_own K1.hdC K2 rfl (by rw [hlk, hw])) (handed_of rw') ⟨y, H1, I1.tok _, rw', q⟩
end
end Sm
end
section
namespace K04
open PySem PySem.Spec PyProof.Rows L2 Sm
noncomputable section
def tab : FTab := tabF []
def isT : TK → TK → Option Bool := tabJ []
def isX : Nat → TK → Option Bool := tabX [((0, .inr 0), true), ((0, .inr 5), false), ((0, .inr 4), false), ((0, .inr 1), false), ((0, .inr 2), false), ((0, .inr 3), false), ((0, .inr 6), true), ((0, .inl "ValueError"), true), ((1, .inr 0), false), ((1, .inr 5), false), ((1, .inr 4), false), ((1, .inr 1), true), ((1, .inr 2), false), ((1, .inr 3), false), ((1, .inr 6), true), ((1, .inl "ValueError"), true), ((2, .inr 0), false), ((2, .inr 5), false), ((2, .inr 4), false), ((2, .inr 1), false), ((2, .inr 2), true), ((2, .inr 3), false), ((2, .inr 6), true), ((2, .inl "ValueError"), true), ((3, .inr 0), false), ((3, .inr 5), false), ((3, .inr 4), false), ((3, .inr 1), false), ((3, .inr 2), false), ((3, .inr 3), true), ((3, .inr 6), true), ((3, .inl "ValueError"), true), ((4, .inr 0), false), ((4, .inr 5), false), ((4, .inr 4), true), ((4, .inr 1), false), ((4, .inr 2), false), ((4, .inr 3), false), ((4, .inr 6), true), ((4, .inl "ValueError"), true), ((5, .inr 0), false), ((5, .inr 5), true), ((5, .inr 4), false), ((5, .inr 1), false), ((5, .inr 2), false), ((5, .inr 3), false), ((5, .inr 6), true), ((5, .inl "ValueError"), true)]
def xtab : FTab := tabF [(0, "place"), (1, "place"), (3, "row"), (5, "end")]
@[simp] theorem isX_0 : isX 0 (.inr 0) = some true := by decide +kernel
@[simp] theorem isX_1 : isX 0 (.inr 5) = some false := by decide +kernel
@[simp] theorem isX_2 : isX 0 (.inr 4) = some false := by decide +kernel
@[simp] theorem isX_3 : isX 0 (.inr 1) = some false := by decide +kernel
@[simp] theorem isX_4 : isX 0 (.inr 2) = some false := by decide +kernel
@[simp] theorem isX_5 : isX 0 (.inr 3) = some false := by decide +kernel
@[simp] theorem isX_6 : isX 0 (.inr 6) = some true := by decide +kernel
@[simp] theorem isX_7 : isX 0 (.inl "ValueError") = some true := by decide +kernel
@[simp] theorem isX_8 : isX 1 (.inr 0) = some false := by decide +kernel
@[simp] theorem isX_9 : isX 1 (.inr 5) = some false := by decide +kernel
@[simp] theorem isX_10 : isX 1 (.inr 4) = some false := by decide +kernel
@[simp] theorem isX_11 : isX 1 (.inr 1) = some true := by decide +kernel
@[simp] theorem isX_12 : isX 1 (.inr 2) = some false := by decide +kernel
@[simp] theorem isX_13 : isX 1 (.inr 3) = some false := by decide +kernel
@[simp] theorem isX_14 : isX 1 (.inr 6) = some true := by decide +kernel
@[simp] theorem isX_15 : isX 1 (.inl "ValueError") = some true := by decide +kernel
@[simp] theorem isX_16 : isX 2 (.inr 0) = some false := by decide +kernel
@[simp] theorem isX_17 : isX 2 (.inr 5) = some false := by decide +kernel
@[simp] theorem isX_18 : isX 2 (.inr 4) = some false := by decide +kernel
@[simp] theorem isX_19 : isX 2 (.inr 1) = some false := by decide +kernel
@[simp] theorem isX_20 : isX 2 (.inr 2) = some true := by decide +kernel
@[simp] theorem isX_21 : isX 2 (.inr 3) = some false := by decide +kernel
@[simp] theorem isX_22 : isX 2 (.inr 6) = some true := by decide +kernel
@[simp] theorem isX_23 : isX 2 (.inl "ValueError") = some true := by decide +kernel
@[simp] theorem isX_24 : isX 3 (.inr 0) = some false := by decide +kernel
@[simp] theorem isX_25 : isX 3 (.inr 5) = some false := by decide +kernel
@[simp] theorem isX_26 : isX 3 (.inr 4) = some false := by decide +kernel
@[simp] theorem isX_27 : isX 3 (.inr 1) = some false := by decide +kernel
@[simp] theorem isX_28 : isX 3 (.inr 2) = some false := by decide +kernel
@[simp] theorem isX_29 : isX 3 (.inr 3) = some true := by decide +kernel
@[simp] theorem isX_30 : isX 3 (.inr 6) = some true := by decide +kernel
@[simp] theorem isX_31 : isX 3 (.inl "ValueError") = some true := by decide +kernel
@[simp] theorem isX_32 : isX 4 (.inr 0) = some false := by decide +kernel
@[simp] theorem isX_33 : isX 4 (.inr 5) = some false := by decide +kernel
@[simp] theorem isX_34 : isX 4 (.inr 4) = some true := by decide +kernel
@[simp] theorem isX_35 : isX 4 (.inr 1) = some false := by decide +kernel
@[simp] theorem isX_36 : isX 4 (.inr 2) = some false := by decide +kernel
@[simp] theorem isX_37 : isX 4 (.inr 3) = some false := by decide +kernel
@[simp] theorem isX_38 : isX 4 (.inr 6) = some true := by decide +kernel
@[simp] theorem isX_39 : isX 4 (.inl "ValueError") = some true := by decide +kernel
@[simp] theorem isX_40 : isX 5 (.inr 0) = some false := by decide +kernel
@[simp] theorem isX_41 : isX 5 (.inr 5) = some true := by decide +kernel
@[simp] theorem isX_42 : isX 5 (.inr 4) = some false := by decide +kernel
@[simp] theorem isX_43 : isX 5 (.inr 1) = some false := by decide +kernel
@[simp] theorem isX_44 : isX 5 (.inr 2) = some false := by decide +kernel
@[simp] theorem isX_45 : isX 5 (.inr 3) = some false := by decide +kernel
@[simp] theorem isX_46 : isX 5 (.inr 6) = some true := by decide +kernel
@[simp] theorem isX_47 : isX 5 (.inl "ValueError") = some true := by decide +kernel
@[simp] theorem xtab_BadText : xtab 0 "place" = true := by decide +kernel
@[simp] theorem xtab_NoName : xtab 1 "place" = true := by decide +kernel
@[simp] theorem xtab_NoRow : xtab 3 "row" = true := by decide +kernel
@[simp] theorem xtab_Ended : xtab 5 "end" = true := by decide +kernel
/- _law_kinds(0:_law_e, 1:_law_found) -/
def b_law_kinds  : DS :=
  cSeq (cAsg (cLst (cCons (cCall (ar2 (isxD isX)) (cCons (cVar 0) (cCons (cC (.cls 0)) cNil))) (cCons (cCall (ar2 (isxD isX)) (cCons (cVar 0) (cCons (cC (.cls 1)) cNil))) (cCons (cCall (ar2 (isxD isX)) (cCons (cVar 0) (cCons (cC (.cls 2)) cNil))) (cCons (cCall (ar2 (isxD isX)) (cCons (cVar 0) (cCons (cC (.cls 3)) cNil))) cNil))))) (kName 1)) <|
  cRet (cOp addD (cVar 1) (cLst (cCons (cCall (ar2 (isxD isX)) (cCons (cVar 0) (cCons (cC (.cls 4)) cNil))) (cCons (cCall (ar2 (isxD isX)) (cCons (cVar 0) (cCons (cC (.cls 5)) cNil))) (cCons (cCall (ar2 (isxD isX)) (cCons (cVar 0) (cCons (cC (.cls 6)) cNil))) (cCons (cCall (ar2 (isxD isX)) (cCons (cVar 0) (cCons (cC (.ty "ValueError")) cNil))) cNil))))))
def F_law_kinds : List D → Mo D := cDef 2 b_law_kinds
/- law(0:_law_script, 1:_law_cell, 2:_law_place, 3:_law_row, 4:_law_value, 5:_law_end, 6:_law_text, 7:_law_name, 8:_law_number, 9:_law_over, 10:_law_made, 11:_law_k, 12:_law_j, 13:_law_told) -/
def l_law_0  : DS :=
  cIfS (cTest (cOp neD (cCall (apF 1 F_law_kinds) (cCons (cOp getD (cVar 10) (cVar 11)) cNil)) (cOp addD (cLc (cRng rng1 (cCons (cC (.int 6)) cNil)) (.one 12) (cTrue) (cOp eqD (cVar 12) (cVar 11))) (cLst (cCons (cC (.bl true)) (cCons (cC (.bl true)) cNil)))))) (cRet (cC (.bl false))) (cNext)
def b_law  : DS :=
  cSeq (cAsg (cC (.int 0)) (kName 1)) <|
  cSeq (cIfS (cTest (cOp neD (cVar 0) (cLst cNil))) (cAsg (cOp getD (cVar 0) (cC (.int 0))) (kName 1)) (cNext)) <|
  cSeq (cAsg (cOp modD (cVar 1) (cC (.int 600))) (kName 2)) <|
  cSeq (cAsg (cOp modD (cOp fdivD (cVar 1) (cC (.int 600))) (cOp powD (cC (.int 10)) (cC (.int 6)))) (kName 3)) <|
  cSeq (cAsg (cOp subD (cOp modD (cVar 1) (cOp subD (cOp mulD (cC (.int 2)) (cOp powD (cC (.int 10)) (cC (.int 40)))) (cC (.int 1)))) (cOp subD (cOp powD (cC (.int 10)) (cC (.int 40))) (cC (.int 1)))) (kName 4)) <|
  cSeq (cAsg (cOp getD (cLst (cCons (cTup (cCons (cC (.str "dry")) cNil)) (cCons (cTup (cCons (cC (.str "deep")) (cCons (cVar 2) cNil))) (cCons (cTup (cCons (cC (.str "value")) (cCons (cVar 4) cNil))) (cCons (cTup (cCons (cC (.str "fault")) (cCons (cC (.str "odd")) (cCons (cC (.int 0)) (cCons (cVar 2) cNil))))) cNil))))) (cOp modD (cOp fdivD (cVar 1) (cC (.int 7))) (cC (.int 4)))) (kName 5)) <|
  cSeq (cAsg (mkX 0 "place" smD (cVar 2)) (kName 6)) <|
  cSeq (cAsg (mkX 1 "place" smD (cOp modD (cVar 3) (cC (.int 600)))) (kName 7)) <|
  cSeq (cAsg (mkX 3 "row" smD (cVar 3)) (kName 8)) <|
  cSeq (cAsg (mkX 5 "end" (fun _ => true) (cVar 5)) (kName 9)) <|
  cSeq (cAsg (cLst (cCons (cVar 6) (cCons (cVar 7) (cCons (mkX0 2) (cCons (cVar 8) (cCons (mkX0 4) (cCons (cVar 9) cNil))))))) (kName 10)) <|
  cSeq (cFor (cRng rng1 (cCons (cC (.int 6)) cNil)) (kName 11) (l_law_0)) <|
  cSeq (cAsg (cLst (cCons (cXv xtab "place" (cVar 6)) (cCons (cXv xtab "place" (cVar 7)) (cCons (cXv xtab "row" (cVar 8)) (cCons (cXv xtab "end" (cVar 9)) cNil))))) (kName 13)) <|
  cRet (cOp eqD (cCall (ar1 reprD) (cCons (cVar 13) cNil)) (cCall (ar1 reprD) (cCons (cLst (cCons (cVar 2) (cCons (cOp modD (cVar 3) (cC (.int 600))) (cCons (cVar 3) (cCons (cVar 5) cNil))))) cNil)))
def F_law : List D → Mo D := cDef 14 b_law
end
end K04
end
section
section
namespace K04
open PySem PySem.Spec PyProof.Rows L2 Sm
@[simp] theorem mkX_e {c : Nat} {f : Str} {ck : D → Bool} {fe : DE} {ρ : En} {S : Sto} : mkX c f ck fe ρ S = (fe ρ S).andThen fun d S' => if ck d = true then .ok (.exn c [f] [d]) S' else .no := rfl
@[simp] theorem mkX0_e {c : Nat} {ρ : En} {S : Sto} : mkX0 c ρ S = .ok (.exn c [] []) S := rfl
@[simp] theorem cXv_e {T : FTab} {f : Str} {fe : DE} {ρ : En} {S : Sto} : cXv T f fe ρ S = (fe ρ S).andThen fun d S' => match d with
  | .exn c ks ds => if T c f = true then (match (ks.zip ds).lookup f with
      | some v => .ok v S'
      | none => .no) else .no
  | _ => .no := rfl
def made (p r n : Int) (e : D) : List D := [.exn 0 ["place"] [.int p], .exn 1 ["place"] [.int n], .exn 2 [] [], .exn 3 ["row"] [.int r], .exn 4 [] [], .exn 5 ["end"] [e]]
def row (k : Nat) : List D := [.bl (decide (0 = k)), .bl (decide (1 = k)), .bl (decide (2 = k)), .bl (decide (3 = k)), .bl (decide (4 = k)), .bl (decide (5 = k)), .bl true, .bl true]
theorem kinds {c : Nat} (hc : c < 6) {ks : List Str} {ds : List D} {S : Sto} : F_law_kinds [.exn c ks ds] S = .ok (.loc (S.length + 2)) (S ++ [.lst ((row c).take 4), .lst ((row c).drop 4), .lst (row c)]) := by
  match c, hc with
  | 0, _ => simp [F_law_kinds, b_law_kinds, startE, isxD, isxQ, clQ, row, addO, joinL]
  | 1, _ => simp [F_law_kinds, b_law_kinds, startE, isxD, isxQ, clQ, row, addO, joinL]
  | 2, _ => simp [F_law_kinds, b_law_kinds, startE, isxD, isxQ, clQ, row, addO, joinL]
  | 3, _ => simp [F_law_kinds, b_law_kinds, startE, isxD, isxQ, clQ, row, addO, joinL]
  | 4, _ => simp [F_law_kinds, b_law_kinds, startE, isxD, isxQ, clQ, row, addO, joinL]
  | 5, _ => simp [F_law_kinds, b_law_kinds, startE, isxD, isxQ, clQ, row, addO, joinL]
theorem cont_row {S : Sto} {l k : Nat} (h : S[l]? = some (.lst (row k))) : cont S 60 (.loc l) = some (.lsc (row k)) := by
  rw [cont_loc, h]
  have f : ∀ b, flatD (.bl b) = true := fun _ => rfl
  simp [row, mapO, cont, f]
def env (sc : D) (c p r v : Int) (e : D) (m : Nat) (k : Option D) : En :=
  [some sc, some (.int c), some (.int p), some (.int r), some (.int v), some e, some (.exn 0 ["place"] [.int p]), some (.exn 1 ["place"] [.int (r % 600)]), some (.exn 3 ["row"] [.int r]), some (.exn 5 ["end"] [e]), some (.loc m), k, none, none]
theorem turn {sc e : D} {c p r v : Int} {m : Nat} {S : Sto} (hS : S[m]? = some (.lst (made p r (r % 600) e))) {i : Nat} (hi : i < 6) : ∃ R, l_law_0 (env sc c p r v e m (some (.int i))) S = .nx (env sc c p r v e m (some (.int i))) (S ++ R) := by
  have hk : ∀ (c : Nat) (h : c < 6) (ks : List Str) (ds : List D), F_law_kinds [.exn c ks ds] S = .ok (.loc (S.length + 2)) (S ++ [.lst ((row c).take 4), .lst ((row c).drop 4), .lst (row c)]) := fun c h ks ds => kinds h
  obtain ⟨x, hi2, hl⟩ : ∃ x, L2.atI (made p r (r % 600) e) (i : Int) = some x ∧ F_law_kinds [x] S = .ok (.loc (S.length + 2)) (S ++ [.lst ((row i).take 4), .lst ((row i).drop 4), .lst (row i)]) := by
    match i, hi with
    | 0, h => exact ⟨_, rfl, hk 0 h _ _⟩
    | 1, h => exact ⟨_, rfl, hk 1 h _ _⟩
    | 2, h => exact ⟨_, rfl, hk 2 h _ _⟩
    | 3, h => exact ⟨_, rfl, hk 3 h _ _⟩
    | 4, h => exact ⟨_, rfl, hk 4 h _ _⟩
    | 5, h => exact ⟨_, rfl, hk 5 h _ _⟩
  have hc : ∀ S1, cLc (cRng rng1 (cCons (cC (.int 6)) cNil)) (.one 12) (cTrue) (cOp eqD (cVar 12) (cVar 11)) (env sc c p r v e m (some (.int i))) S1 = .ok (.loc S1.length) (S1 ++ [.lst ((row i).take 6)]) := by
    intro S1
    have q := lcI_map (t := .one 12) (tst := cTrue) (elt := cOp eqD (cVar 12) (cVar 11)) (ρ := wipeE (env sc c p r v e m (some (.int i))) [12]) (S := S1) (ds := rgD 0 6) (fun d => match d with | .int j => some (.bl (j == (i : Int))) | _ => none) (by simp) (by
      intro d acc hd
      obtain ⟨j, _, rfl⟩ := List.mem_map.mp hd
      refine ⟨_, rfl, .inl ⟨.bl ((0 + (j : Int)) == (i : Int)), rfl, by simp [env, wipeE], rfl⟩⟩)
    have e6 : (rgD 0 6).filterMap (fun d => match d with | .int j => some (D.bl (j == (i : Int))) | _ => none) = (row i).take 6 := by
      match i, hi with
      | 0, h => rfl
      | 1, h => rfl
      | 2, h => rfl
      | 3, h => rfl
      | 4, h => rfl
      | 5, h => rfl
    rw [e6] at q
    rw [cLc_e]
    simp
    exact q
  have hj : (row i).take 6 ++ [D.bl true, D.bl true] = row i := rfl
  have hj6 : ((row i).take 6).length = 6 := rfl
  have hne : neD (.loc (S.length + 2)) (.loc (S.length + 5)) (S ++ [.lst ((row i).take 4), .lst ((row i).drop 4), .lst (row i), .lst ((row i).take 6), .lst [.bl true, .bl true], .lst (row i)]) = .ok (.bl false) _ :=
    ne_cont (cont_row (k := i) (by simp)) (cont_row (k := i) (by simp)) (fun _ z => by cases z)
  refine ⟨[.lst ((row i).take 4), .lst ((row i).drop 4), .lst (row i), .lst ((row i).take 6), .lst [.bl true, .bl true], .lst (row i)], ?_⟩
  unfold l_law_0
  simp only [env] at hc ⊢
  generalize (row i).take 6 = r6 at *
  generalize (row i).take 4 = r4 at *
  generalize (row i).drop 4 = d4 at *
  generalize row i = ri at *
  simp [hS, hi2, hl, hc, addO, joinL, hj, hj6, hne]
end K04
end
section
namespace K04
open PySem PySem.Spec PyProof.Rows L2 Sm TL
def mkS (l : List Nat) : Str := ⟨l.toArray⟩
def intL (n : Int) : List Nat := if n < 0 then 45 :: numL n.natAbs else numL n.natAbs
theorem tl_mkS (l : List Nat) : tl (mkS l) = l := rfl
theorem mkS_len (l : List Nat) : (mkS l).length = l.length := by rw [len_tl, tl_mkS]
theorem of_str {x : Str} {l : List Nat} (h : tl x = l) : x = mkS l := ext_tl h
theorem toStr_nat (k : Nat) : (Str.ofString (toString ((k : Nat) : Int))) = mkS (numL k) := of_str (tl_num k)
theorem toStr_neg (k : Nat) : (Str.ofString (toString (-((k + 1 : Nat) : Int)))) = mkS (45 :: numL (k + 1)) := by
  refine of_str ?_
  rw [tl_ofString]
  have e : toString (-((k + 1 : Nat) : Int)) = "-" ++ toString ((k + 1 : Nat)) := rfl
  have e2 : toString ((k + 1 : Nat)) = toString (((k + 1 : Nat)) : Int) := rfl
  have h2 := tl_num (k + 1)
  rw [tl_ofString] at h2
  rw [e, String.toList_append, List.map_append, e2, h2]
  rfl
theorem toStr_int (n : Int) : (Str.ofString (toString n)) = mkS (intL n) := by
  unfold intL
  by_cases h : n < 0
  · rw [if_pos h]
    obtain ⟨k, rfl⟩ : ∃ k : Nat, n = -((k + 1 : Nat) : Int) := ⟨(-n - 1).toNat, by omega⟩
    rw [toStr_neg, show (-((k + 1 : Nat) : Int)).natAbs = k + 1 by omega]
  · rw [if_neg h]
    obtain ⟨k, rfl⟩ : ∃ k : Nat, n = (k : Int) := ⟨n.toNat, by omega⟩
    rw [toStr_nat, Int.natAbs_natCast]
/-- whole numbers of up to 40 figures -/
def N40 (i : Int) : Prop := i.natAbs < 10 ^ 40
theorem n40_log {i : Int} (h : N40 i) : i.natAbs.log2 < 134 := by
  by_cases z : i.natAbs = 0
  · rw [z]; decide
  · refine (Nat.log2_lt z).mpr (Nat.lt_of_lt_of_le h (by decide))
theorem n40_len {i : Int} (h : N40 i) : (PyData.shown (.int i)).length ≤ 42 := by
  have e : PyData.shown (.int i) = mkS (intL i) := toStr_int i
  rw [e, mkS_len]
  have := numL_len (n := i.natAbs) (k := 40) (by decide) h
  unfold intL
  split
  · simp only [List.length_cons]; omega
  · omega
structure Sml (n w : Nat) (p : PyData) : Prop where
  l : p.canLay0 = true
  d : p.depth ≤ n
  w : p.weight ≤ w
  i : p.intsShort 42 = true
  s : p.showable = true
theorem sml_up {n w n' w' : Nat} {p : PyData} (h : Sml n w p) (a : n ≤ n') (b : w ≤ w') : Sml n' w' p := ⟨h.l, Nat.le_trans h.d a, Nat.le_trans h.w b, h.i, h.s⟩
structure Smls (n w : Nat) (ps : List PyData) : Prop where
  l : PyData.canLayAll0 ps = true
  d : PyData.depthAll ps ≤ n
  w : PyData.weightAll ps ≤ ps.length * (w + 1)
  i : PyData.intsShortAll 42 ps = true
  s : PyData.showableAll ps = true
theorem smls {n w : Nat} : ∀ {ps : List PyData}, (∀ p ∈ ps, Sml n w p) → Smls n w ps
  | [], _ => ⟨rfl, by simp [PyData.depthAll], by simp [PyData.weightAll], rfl, rfl⟩
  | p :: ps, h => by
    obtain ⟨a1, a2, a3, a4, a5⟩ := h p List.mem_cons_self
    obtain ⟨b1, b2, b3, b4, b5⟩ := smls (ps := ps) fun q hq => h q (List.mem_cons_of_mem _ hq)
    refine ⟨by simp [PyData.canLayAll0, a1, b1], ?_, ?_, by simp [PyData.intsShortAll, a4, b4], by simp [PyData.showableAll, a5, b5]⟩
    · simp only [PyData.depthAll]
      omega
    · simp only [PyData.weightAll, List.length_cons]
      rw [Nat.add_mul, Nat.one_mul]
      omega
theorem sml_tup {n w m : Nat} {ps : List PyData} (h : ∀ p ∈ ps, Sml n w p) (hm : ps.length * (w + 1) ≤ m) : Sml (n + 1) m (.tuple ps) := by
  obtain ⟨b1, b2, b3, b4, b5⟩ := smls h
  exact ⟨by simpa [PyData.canLay0] using b1, by simp only [PyData.depth]; omega, by simp only [PyData.weight]; omega, by simpa [PyData.intsShort] using b4, by simpa [PyData.showable] using b5⟩
theorem sml_lst {n w m : Nat} {ps : List PyData} (h : ∀ p ∈ ps, Sml n w p) (hm : ps.length * (w + 1) ≤ m) : Sml (n + 1) m (.list ps) := by
  obtain ⟨b1, b2, b3, b4, b5⟩ := smls h
  exact ⟨by simpa [PyData.canLay0] using b1, by simp only [PyData.depth]; omega, by simp only [PyData.weight]; omega, by simpa [PyData.intsShort] using b4, by simpa [PyData.showable] using b5⟩
theorem sml_int {i : Int} (h : N40 i) : Sml 0 140 (.int i) := by
  have lg := n40_log h
  refine ⟨rfl, Nat.le_refl _, ?_, decide_eq_true (n40_len h), decide_eq_true (by omega)⟩
  show (if i == 0 then 0 else i.natAbs.log2 + 1) ≤ 140
  split <;> omega
theorem sml_str {x : Str} (h : PyData.strOk x = true) (hl : (tl x).length ≤ 140) : Sml 0 140 (.str x) := ⟨h, Nat.le_refl _, hl, rfl, rfl⟩
theorem shown_ok {p : PyData} (h : Sml 3 3000 p) : (p.showable && fit p.shown.length) = true := by
  obtain ⟨a, b, c, d, e⟩ := h
  have q := PyData.shown_le 42 (by decide) p (PyData.leavesShort_of_canLay0 42 p a d)
  rw [e, fit_of (by omega)]
  rfl
end K04
end
section
namespace K04
open PySem PySem.Spec PyProof.Rows L2 Sm
/-- the end told -/
def endD (p v : Int) : Nat → D
  | 0 => .tup [.str "dry"]
  | 1 => .tup [.str "deep", .int p]
  | 2 => .tup [.str "value", .int v]
  | _ => .tup [.str "fault", .str "odd", .int 0, .int p]
def endP (p v : Int) : Nat → PyData
  | 0 => .tuple [.str "dry"]
  | 1 => .tuple [.str "deep", .int p]
  | 2 => .tuple [.str "value", .int v]
  | _ => .tuple [.str "fault", .str "odd", .int 0, .int p]
theorem end_pd {S : Sto} {p v : Int} (k n : Nat) : pdQ S (n + 2) (endD p v k) = some (endP p v k) := by
  match k with
  | 0 => rfl
  | 1 => rfl
  | 2 => rfl
  | k + 3 => rfl
theorem end_sml {p v : Int} (hp : N40 p) (hv : N40 v) (k : Nat) : Sml 1 600 (endP p v k) := by
  have s1 : Sml 0 140 (.str "dry") := sml_str (by decide +kernel) (by decide +kernel)
  have s2 : Sml 0 140 (.str "deep") := sml_str (by decide +kernel) (by decide +kernel)
  have s3 : Sml 0 140 (.str "value") := sml_str (by decide +kernel) (by decide +kernel)
  have s4 : Sml 0 140 (.str "fault") := sml_str (by decide +kernel) (by decide +kernel)
  have s5 : Sml 0 140 (.str "odd") := sml_str (by decide +kernel) (by decide +kernel)
  have s0 : Sml 0 140 (.int 0) := sml_int (by show (0 : Int).natAbs < 10 ^ 40; decide)
  match k with
  | 0 => exact sml_tup (n := 0) (w := 140) (fun q hq => by simp only [List.mem_cons, List.not_mem_nil, or_false] at hq; rcases hq with rfl; exact s1) (by decide)
  | 1 => exact sml_tup (n := 0) (w := 140) (fun q hq => by simp only [List.mem_cons, List.not_mem_nil, or_false] at hq; rcases hq with rfl | rfl; exact s2; exact sml_int hp) (by simp)
  | 2 => exact sml_tup (n := 0) (w := 140) (fun q hq => by simp only [List.mem_cons, List.not_mem_nil, or_false] at hq; rcases hq with rfl | rfl; exact s3; exact sml_int hv) (by simp)
  | k + 3 => exact sml_tup (n := 0) (w := 140) (fun q hq => by simp only [List.mem_cons, List.not_mem_nil, or_false] at hq; rcases hq with rfl | rfl | rfl | rfl; exact s4; exact s5; exact s0; exact sml_int hp) (by simp)
theorem n40_sm {i : Int} (h0 : 0 ≤ i) (h1 : i < 1000000) : N40 i := by
  show i.natAbs < 10 ^ 40
  have : (1000000 : Nat) ≤ 10 ^ 40 := by decide
  omega
theorem repr_told {S : Sto} {l : Nat} {p r v : Int} {k : Nat} (hp : N40 p) (hr : N40 r) (hq : N40 (r % 600)) (hv : N40 v) (h : S[l]? = some (.lst [.int p, .int (r % 600), .int r, endD p v k])) :
    reprD (.loc l) S = .ok (.str (PyData.shown (.list [.int p, .int (r % 600), .int r, endP p v k]))) S := by
  have e : pdQ S 60 (.loc l) = some (.list [.int p, .int (r % 600), .int r, endP p v k]) := by
    show pdO (pdQ S 59) S[l]? = _
    rw [h]
    have e2 := end_pd (S := S) (p := p) (v := v) k 57
    show (pdL (pdQ S 59) [.int p, .int (r % 600), .int r, endD p v k]).map PyData.list = _
    simp only [pdL]
    rw [e2]
    rfl
  have f := shown_ok (p := .list [.int p, .int (r % 600), .int r, endP p v k]) (sml_up (sml_lst (n := 1) (w := 600) (m := 2404) (fun q hq => by
    simp only [List.mem_cons, List.not_mem_nil, or_false] at hq
    rcases hq with rfl | rfl | rfl | rfl
    · exact sml_up (sml_int hp) (by decide) (by decide)
    · exact sml_up (sml_int ‹_›) (by decide) (by decide)
    · exact sml_up (sml_int hr) (by decide) (by decide)
    · exact end_sml hp hv k) (by simp)) (by decide) (by decide))
  show optD (((pdQ S 60 (.loc l)).bind rpP).map D.str) S = _
  rw [e]
  show optD ((rpP _).map D.str) S = _
  unfold rpP
  rw [if_pos f]
  rfl
theorem loop {sc e : D} {c p r v : Int} {m : Nat} {S : Sto} {k0 : Option D} (hS : S[m]? = some (.lst (made p r (r % 600) e))) : ∃ R k, loopI (kName 11) l_law_0 (rgD 0 6) (env sc c p r v e m k0) S = .nx (env sc c p r v e m k) (S ++ R) := by
  obtain ⟨ρ', S', h, R, k, rfl, rfl⟩ := loopI_inv (k := kName 11) (s := l_law_0) (ds := rgD 0 6) (ρ := env sc c p r v e m k0) (S := S) (fun _ ρ S' => ∃ R k, ρ = env sc c p r v e m k ∧ S' = S ++ R)
    (by
      rintro i d ρ S' hd ⟨R, k, rfl, rfl⟩
      obtain ⟨hi, rfl⟩ := rgD_get hd
      have hS2 : (S ++ R)[m]? = some (.lst (made p r (r % 600) e)) := get_old hS
      obtain ⟨R2, h2⟩ := turn (sc := sc) (c := c) (v := v) hS2 hi
      refine ⟨env sc c p r v e m (some (.int ((0 : Int) + (i : Nat)))), S ++ R, rfl, env sc c p r v e m (some (.int i)), (S ++ R) ++ R2, .inl ?_, R ++ R2, _, rfl, by rw [List.append_assoc]⟩
      rw [Int.zero_add]
      exact h2) ⟨[], k0, rfl, by rw [List.append_nil]⟩
  exact ⟨R, k, h⟩
theorem plain : ∀ ns : List Int, ns.length ≤ 63 → (∀ z ∈ ns, Builtin.Int.intBits z ≤ 1048576) → ∃ S', F_law [.lsc (ns.map .int)] [] = .ok (.bl true) S' := by
  intro ns hn hb
  obtain ⟨c, hc⟩ : ∃ c : Int, ∀ ρ, (cIfS (cTest (cOp neD (cVar 0) (cLst cNil))) (cAsg (cOp getD (cVar 0) (cC (.int 0))) (kName 1)) (cNext)) ([some (.lsc (ns.map .int)), some (.int 0)] ++ ρ) [] = .nx ([some (.lsc (ns.map .int)), some (.int c)] ++ ρ) [.lst []] := by
    cases ns with
    | nil =>
      refine ⟨0, fun ρ => ?_⟩
      have q : neD (.lsc []) (.loc 0) [.lst []] = .ok (.bl false) [.lst []] := ne_cont (r := .lsc []) (by simp [cont, mapO]) (by simp [cont_loc]) (fun _ z => by cases z)
      simp [q]
    | cons a r =>
      refine ⟨a, fun ρ => ?_⟩
      have q : neD (.lsc (.int a :: r.map .int)) (.loc 0) [.lst []] = .ok (.bl true) [.lst []] := by
        have e : eqQ (.lsc (.int a :: r.map .int)) (.loc 0) [.lst []] = some false := by
          unfold eqQ
          rw [if_pos (by rfl)]
          show eqC (eqN [.lst []] 59) [.lst []] (.lsc (.int a :: r.map .int)) (.loc 0) = _
          simp [eqC]
          simp [eqL, lstS, eqAll]
        unfold neD
        rw [e]
        rfl
      simp [q]
  obtain ⟨p, hp⟩ : ∃ p, p = c % 600 := ⟨_, rfl⟩
  obtain ⟨r, hr⟩ : ∃ r, r = c / 600 % 1000000 := ⟨_, rfl⟩
  obtain ⟨v, hv⟩ : ∃ v : Int, v = c % 19999999999999999999999999999999999999999 - 9999999999999999999999999999999999999999 := ⟨_, rfl⟩
  obtain ⟨k, hk⟩ : ∃ k : Int, k = c / 7 % 4 := ⟨_, rfl⟩
  have p0 : 0 ≤ p ∧ p < 600 := by omega
  have r0 : 0 ≤ r ∧ r < 1000000 := by omega
  have k0 : 0 ≤ k ∧ k < 4 := by omega
  have q0 : 0 ≤ r % 600 ∧ r % 600 < 600 := by omega
  have n1 := n40_sm p0.1 (by omega)
  have n2 := n40_sm r0.1 r0.2
  have n3 := n40_sm q0.1 (by omega)
  have n4 : N40 v := by
    show v.natAbs < 10 ^ 40
    have : (10 : Nat) ^ 40 = 10000000000000000000000000000000000000000 := by decide
    omega
  have s1 : smD (.int p) = true := decide_eq_true ⟨p0.1, by omega⟩
  have s2 : smD (.int r) = true := decide_eq_true r0
  have s3 : smD (.int (r % 600)) = true := decide_eq_true ⟨q0.1, by omega⟩
  have he : L2.atI [D.tup [.str "dry"], .tup [.str "deep", .int p], .tup [.str "value", .int v], .tup [.str "fault", .str "odd", .int 0, .int p]] k = some (endD p v k.toNat) := by
    obtain ⟨j, rfl⟩ : ∃ j : Nat, k = (j : Int) := ⟨k.toNat, by omega⟩
    have : j < 4 := by omega
    match j, this with
    | 0, _ => rfl
    | 1, _ => rfl
    | 2, _ => rfl
    | 3, _ => rfl
  have hrep : ∀ (S : Sto) (l : Nat), S[l]? = some (.lst [.int p, .int (r % 600), .int r, endD p v k.toNat]) → reprD (.loc l) S = .ok (.str (PyData.shown (.list [.int p, .int (r % 600), .int r, endP p v k.toNat]))) S := fun S l h => repr_told n1 n2 n3 n4 h
  generalize PyData.shown (.list [.int p, .int (r % 600), .int r, endP p v k.toNat]) = X at *
  generalize endD p v k.toNat = e at *
  unfold F_law b_law
  have hc2 := hc [none, none, none, none, none, none, none, none, none, none, none, none]
  simp only [List.cons_append, List.nil_append] at hc2
  generalize (cIfS (cTest (cOp neD (cVar 0) (cLst cNil))) (cAsg (cOp getD (cVar 0) (cC (.int 0))) (kName 1)) (cNext)) = W0 at *
  obtain ⟨R, k', hlp⟩ := loop (sc := .lsc (ns.map .int)) (c := c) (v := v) (e := e) (m := 2) (k0 := none) (S := [.lst [], .lst [.tup [.str "dry"], .tup [.str "deep", .int p], .tup [.str "value", .int v], .tup [.str "fault", .str "odd", .int 0, .int p]], .lst (made p r (r % 600) e)]) rfl
  simp only [env, made] at hlp
  generalize l_law_0 = W1 at *
  simp [startE, hc2, hp.symm, hr.symm, hk.symm, hv.symm, s1, s2, s3, he, cFor_e, hlp]
  generalize Ob.lst [D.exn 0 ["place"] [D.int p], D.exn 1 ["place"] [D.int (r % 600)], D.exn 2 [] [], D.exn 3 ["row"] [D.int r], D.exn 4 [] [], D.exn 5 ["end"] [e]] = o2
  generalize Ob.lst [D.tup [D.str "dry"], D.tup [D.str "deep", D.int p], D.tup [D.str "value", D.int v], D.tup [D.str "fault", D.str "odd", D.int 0, D.int p]] = o1
  rw [hrep _ _ (by simp)]
  simp only [Rz.andThen]
  rw [hrep _ _ (by simp)]
  simp
end K04
end
end
section
namespace K04
open PySem PySem.Spec PyProof.Rows L2 Sm
def top (i : Nat) : Stmt := PySem.Challenge.pw_spacewright_k04_refusals_apart.main.body.getD i (.Pass ⟨0, 0, 0, 0⟩)
abbrev st_law_kinds : Stmt := top 9
theorem sc_law_kinds : FnScope ["_law_e", "_law_found"] ["_law_e"] (defScope st_law_kinds) := ⟨rfl, rfl, rfl, by decide +kernel, rfl, by decide +kernel, by decide +kernel⟩
abbrev st_law : Stmt := top 10
theorem sc_law : FnScope ["_law_script", "_law_cell", "_law_place", "_law_row", "_law_value", "_law_end", "_law_text", "_law_name", "_law_number", "_law_over", "_law_made", "_law_k", "_law_j", "_law_told"] ["_law_script"] (defScope st_law) := ⟨rfl, rfl, rfl, by decide +kernel, rfl, by decide +kernel, by decide +kernel⟩
abbrev st_x_BadText : Stmt := inClass (top 2) 0
theorem sc_x_BadText : FnScope ["self", "place"] ["self", "place"] (defScope st_x_BadText) := ⟨rfl, rfl, rfl, by decide +kernel, rfl, by decide +kernel, by decide +kernel⟩
abbrev st_x_NoName : Stmt := inClass (top 3) 0
theorem sc_x_NoName : FnScope ["self", "place"] ["self", "place"] (defScope st_x_NoName) := ⟨rfl, rfl, rfl, by decide +kernel, rfl, by decide +kernel, by decide +kernel⟩
abbrev st_x_NoRow : Stmt := inClass (top 5) 0
theorem sc_x_NoRow : FnScope ["self", "row"] ["self", "row"] (defScope st_x_NoRow) := ⟨rfl, rfl, rfl, by decide +kernel, rfl, by decide +kernel, by decide +kernel⟩
abbrev st_x_Ended : Stmt := inClass (top 7) 0
theorem sc_x_Ended : FnScope ["self", "end"] ["self", "end"] (defScope st_x_Ended) := ⟨rfl, rfl, rfl, by decide +kernel, rfl, by decide +kernel, by decide +kernel⟩
abbrev gx (K : PySem.W.Frag) (C0 C1 C2 C3 C4 C5 C6 : Addr) : Gx := ⟨K, Sm.pick [C0, C1, C2, C3, C4, C5, C6], fun _ => 0, []⟩
structure Tx (K : PySem.W.Frag) (mg : Str → Option Value) (C0 C1 C2 C3 C4 C5 C6 : Addr) : Type where
  d_law_kinds : FnT K mg "_law_kinds" st_law_kinds ["_law_e"]
  d_law : FnT K mg "law" st_law ["_law_script"]
  x_BadText : XnT K mg C0 "BadText" "BadText.__init__" st_x_BadText "place" "place"
  x_NoName : XnT K mg C1 "NoName" "NoName.__init__" st_x_NoName "place" "place"
  x_NoRow : XnT K mg C3 "NoRow" "NoRow.__init__" st_x_NoRow "row" "row"
  x_Ended : XnT K mg C5 "Ended" "Ended.__init__" st_x_Ended "end" "end"
  b_SpaceError : BaT K mg "SpaceError"
  xm_BadText : mg "BadText" = some (.ref C0)
  xm_NoName : mg "NoName" = some (.ref C1)
  xm_NoPart : mg "NoPart" = some (.ref C2)
  xi_NoPart : PySem.W.excIn K C2 [.type "ValueError", .type "Exception", .type "BaseException", .type "object"] "ValueError.__new__" = true
  xk_NoPart : PySem.W.keepIn K (.ref C2) = true
  xm_NoRow : mg "NoRow" = some (.ref C3)
  xm_NoLine : mg "NoLine" = some (.ref C4)
  xi_NoLine : PySem.W.excIn K C4 [.type "ValueError", .type "Exception", .type "BaseException", .type "object"] "ValueError.__new__" = true
  xk_NoLine : PySem.W.keepIn K (.ref C4) = true
  xm_Ended : mg "Ended" = some (.ref C5)
  xm_SpaceError : mg "SpaceError" = some (.ref C6)
  xt : TabX (gx K C0 C1 C2 C3 C4 C5 C6) xtab
  jx : IsTabX (gx K C0 C1 C2 C3 C4 C5 C6) isX
  z_ValueError : mg "ValueError" = none
  z_isinstance : mg "isinstance" = none
  z_range : mg "range" = none
  z_repr : mg "repr" = none
  z_str : mg "str" = none
  tb : TabOk (gx K C0 C1 C2 C3 C4 C5 C6) tab
  jt : IsTab (gx K C0 C1 C2 C3 C4 C5 C6) isT
section
variable {P : Program} {w : World} {K : PySem.W.Frag} {mg : Str → Option Value} {base : Heap} {C0 C1 C2 C3 C4 C5 C6 : Addr}
theorem xok_BadText (T : Tx K mg C0 C1 C2 C3 C4 C5 C6) : FnOk P w K mg base (L2.CX P w) 1 T.x_BadText.fn T.x_BadText.fd ["self", "place"] (spXI C0 "place") :=
  ok_xinitS T.x_BadText sc_x_BadText (by decide +kernel) fun cdv A outer s0 H E =>
    pss_cons (ps_expr (pe_binit T.b_SpaceError rfl (pa_cons (pv 0) (pa_cons (pe_op op_addA pe_str (pe_callTy call_strA rfl T.z_str PyProof.Rows.boot_str (pa_cons (pv 1) pa_nil))) pa_nil)))) (pss_one (ps_ost (pv 0) (pv 1)))
theorem xok_NoName (T : Tx K mg C0 C1 C2 C3 C4 C5 C6) : FnOk P w K mg base (L2.CX P w) 1 T.x_NoName.fn T.x_NoName.fd ["self", "place"] (spXI C1 "place") :=
  ok_xinitS T.x_NoName sc_x_NoName (by decide +kernel) fun cdv A outer s0 H E =>
    pss_cons (ps_expr (pe_binit T.b_SpaceError rfl (pa_cons (pv 0) (pa_cons (pe_op op_addA pe_str (pe_callTy call_strA rfl T.z_str PyProof.Rows.boot_str (pa_cons (pv 1) pa_nil))) pa_nil)))) (pss_one (ps_ost (pv 0) (pv 1)))
theorem xok_NoRow (T : Tx K mg C0 C1 C2 C3 C4 C5 C6) : FnOk P w K mg base (L2.CX P w) 1 T.x_NoRow.fn T.x_NoRow.fd ["self", "row"] (spXI C3 "row") :=
  ok_xinitS T.x_NoRow sc_x_NoRow (by decide +kernel) fun cdv A outer s0 H E =>
    pss_cons (ps_expr (pe_binit T.b_SpaceError rfl (pa_cons (pv 0) (pa_cons (pe_op op_addA pe_str (pe_callTy call_strA rfl T.z_str PyProof.Rows.boot_str (pa_cons (pv 1) pa_nil))) pa_nil)))) (pss_one (ps_ost (pv 0) (pv 1)))
theorem xok_Ended (T : Tx K mg C0 C1 C2 C3 C4 C5 C6) : FnOk P w K mg base (L2.CX P w) 1 T.x_Ended.fn T.x_Ended.fd ["self", "end"] (spX C5 "end") :=
  ok_xinit T.x_Ended sc_x_Ended fun cdv A outer s0 H E =>
    pss_cons (ps_expr (pe_binit T.b_SpaceError rfl (pa_cons (pv 0) (pa_cons pe_str pa_nil)))) (pss_one (ps_ost (pv 0) (pv 1)))
theorem ok_law_kinds (T : Tx K mg C0 C1 C2 C3 C4 C5 C6) : FnOk P w K mg base (L2.CX P w) (1) T.d_law_kinds.fn T.d_law_kinds.fd ["_law_e"] (spF (gx K C0 C1 C2 C3 C4 C5 C6) 1 F_law_kinds) := by
  exact fn_do (k := 0) T.d_law_kinds.F sc_law_kinds rfl rfl fun cdv A outer s0 H E hr =>
    dss_cons (ds_set 1 sc_law_kinds.nd (de_lst (da_cons (de_isx T.jx rfl T.z_isinstance PyProof.Rows.boot_isinstance (da_cons (de_var 0) (da_cons (de_cls 0 T.xm_BadText) da_nil))) (da_cons (de_isx T.jx rfl T.z_isinstance PyProof.Rows.boot_isinstance (da_cons (de_var 0) (da_cons (de_cls 1 T.xm_NoName) da_nil))) (da_cons (de_isx T.jx rfl T.z_isinstance PyProof.Rows.boot_isinstance (da_cons (de_var 0) (da_cons (de_cls 2 T.xm_NoPart) da_nil))) (da_cons (de_isx T.jx rfl T.z_isinstance PyProof.Rows.boot_isinstance (da_cons (de_var 0) (da_cons (de_cls 3 T.xm_NoRow) da_nil))) da_nil)))))) <|
    dss_one (ds_ret (de_add rfl (de_var 1) (de_lst (da_cons (de_isx T.jx rfl T.z_isinstance PyProof.Rows.boot_isinstance (da_cons (de_var 0) (da_cons (de_cls 4 T.xm_NoLine) da_nil))) (da_cons (de_isx T.jx rfl T.z_isinstance PyProof.Rows.boot_isinstance (da_cons (de_var 0) (da_cons (de_cls 5 T.xm_Ended) da_nil))) (da_cons (de_isx T.jx rfl T.z_isinstance PyProof.Rows.boot_isinstance (da_cons (de_var 0) (da_cons (de_cls 6 T.xm_SpaceError) da_nil))) (da_cons (de_isx T.jx rfl T.z_isinstance PyProof.Rows.boot_isinstance (da_cons (de_var 0) (da_cons (de_bltn T.z_ValueError PyProof.Rows.Boot.«ValueError») da_nil))) da_nil)))))))
theorem ok_law (T : Tx K mg C0 C1 C2 C3 C4 C5 C6) : FnAt P w K mg base callerA T.d_law.fn T.d_law.fd ["_law_script"] (spF (gx K C0 C1 C2 C3 C4 C5 C6) 1 F_law) := by
  have G_law_kinds := ok_law_kinds (P := P) (w := w) (base := base) T
  have GX_BadText := xok_BadText (P := P) (w := w) (base := base) T
  have GX_Ended := xok_Ended (P := P) (w := w) (base := base) T
  have GX_NoName := xok_NoName (P := P) (w := w) (base := base) T
  have GX_NoRow := xok_NoRow (P := P) (w := w) (base := base) T
  exact fn_at (k := 2) T.d_law.F sc_law ⟨rfl, by decide, by decide⟩ fun cdv outer s0 H E hr =>
    dss_cons (ds_set 1 sc_law.nd (de_int)) <|
    dss_cons (ds_if (dt_cmp (op_neA rfl hr) ne_ok (de_var 0) (de_lst da_nil)) (dss_one (ds_set 1 sc_law.nd (de_ix rfl hr (de_var 0) (de_int)))) (dss_nil)) <|
    dss_cons (ds_set 2 sc_law.nd (de_mod (de_var 1) (de_int))) <|
    dss_cons (ds_set 3 sc_law.nd (de_mod (de_fdiv (de_var 1) (de_int)) (de_pow (de_int) (de_int)))) <|
    dss_cons (ds_set 4 sc_law.nd (de_sub (de_mod (de_var 1) (de_sub (de_mul (de_int) (de_pow (de_int) (de_int))) (de_int))) (de_sub (de_pow (de_int) (de_int)) (de_int)))) <|
    dss_cons (ds_set 5 sc_law.nd (de_ix rfl hr (de_lst (da_cons (de_tup (da_cons (de_str) da_nil)) (da_cons (de_tup (da_cons (de_str) (da_cons (de_var 2) da_nil))) (da_cons (de_tup (da_cons (de_str) (da_cons (de_var 4) da_nil))) (da_cons (de_tup (da_cons (de_str) (da_cons (de_str) (da_cons (de_int) (da_cons (de_var 2) da_nil))))) da_nil))))) (de_mod (de_fdiv (de_var 1) (de_int)) (de_int)))) <|
    dss_cons (ds_set 6 sc_law.nd (de_mkXI (c := 0) T.x_BadText GX_BadText (takes_of rfl rfl rfl rfl) (hr.mono (by omega)) (de_var 2))) <|
    dss_cons (ds_set 7 sc_law.nd (de_mkXI (c := 1) T.x_NoName GX_NoName (takes_of rfl rfl rfl rfl) (hr.mono (by omega)) (de_mod (de_var 3) (de_int)))) <|
    dss_cons (ds_set 8 sc_law.nd (de_mkXI (c := 3) T.x_NoRow GX_NoRow (takes_of rfl rfl rfl rfl) (hr.mono (by omega)) (de_var 3))) <|
    dss_cons (ds_set 9 sc_law.nd (de_mkX (c := 5) T.x_Ended GX_Ended (takes_of rfl rfl rfl rfl) (hr.mono (by omega)) (de_var 5))) <|
    dss_cons (ds_set 10 sc_law.nd (de_lst (da_cons (de_var 6) (da_cons (de_var 7) (da_cons (de_mkX0 (c := 2) PySem.F.excBase_ValueError T.xi_NoPart T.xm_NoPart T.xk_NoPart) (da_cons (de_var 8) (da_cons (de_mkX0 (c := 4) PySem.F.excBase_ValueError T.xi_NoLine T.xm_NoLine T.xk_NoLine) (da_cons (de_var 9) da_nil)))))))) <|
    dss_cons (ds_for (passes_of rfl) rfl (di_range1 T.z_range (da_cons (de_int) da_nil)) (dg_name 11 sc_law.nd) (dss_one (ds_if (dt_cmp (op_neA rfl hr) ne_ok (de_fn G_law_kinds (hr.mono (by omega)) T.d_law_kinds.m T.d_law_kinds.k T.d_law_kinds.b (takes_of rfl rfl rfl rfl) (da_cons (de_ix rfl hr (de_var 10) (de_var 11)) da_nil)) (de_add rfl (de_lc rfl rfl sc_law.nd (di_range1 T.z_range (da_cons (de_int) da_nil)) (blkOk_by (N := ["_law_script", "_law_cell", "_law_place", "_law_row", "_law_value", "_law_end", "_law_text", "_law_name", "_law_number", "_law_over", "_law_made", "_law_k", "_law_j", "_law_told"]) (sc := defScope st_law) (own := [("_law_j", 12)]) (by decide +kernel)) rfl (fun s H C cl fp => pg_name (i := 12) sc_law.nd rfl (Or.inl rfl) (Or.inr rfl)) (fun s H C cl fp => dts_nil) (fun s H C cl fp => de_cmp (op_eqA rfl hr) eq_ok (de_var 12) (de_var 11))) (de_lst (da_cons (de_bl) (da_cons (de_bl) da_nil))))) (dss_one (ds_ret (de_bl))) (dss_nil)))) <|
    dss_cons (ds_set 13 sc_law.nd (de_lst (da_cons (de_xv T.xt rfl (de_var 6)) (da_cons (de_xv T.xt rfl (de_var 7)) (da_cons (de_xv T.xt rfl (de_var 8)) (da_cons (de_xv T.xt rfl (de_var 9)) da_nil)))))) <|
    dss_one (ds_ret (de_cmp (op_eqA rfl hr) eq_ok (de_repr rfl rfl hr.units T.z_repr (da_cons (de_var 13) da_nil)) (de_repr rfl rfl hr.units T.z_repr (da_cons (de_lst (da_cons (de_var 2) (da_cons (de_mod (de_var 3) (de_int)) (da_cons (de_var 3) (da_cons (de_var 5) da_nil))))) da_nil))))
theorem all_mk {h : Heap} {fa : Addr} (X : K.In h) (G : h.Ns mainGlobals mg) (hfa : mg "law" = some (.ref fa))
    {f_law_kinds : Addr} {od_law_kinds an_law_kinds : Option Addr} {sl_law_kinds : Array (Option Value)} {oc_law_kinds kV_law_kinds dc_law_kinds pm_law_kinds cd_law_kinds ct_law_kinds : Value}
    {f_law : Addr} {od_law an_law : Option Addr} {sl_law : Array (Option Value)} {oc_law kV_law dc_law pm_law cd_law ct_law : Value}
    {f_x_BadText : Addr} {od_x_BadText an_x_BadText : Option Addr} {sl_x_BadText : Array (Option Value)} {oc_x_BadText kV_x_BadText dc_x_BadText pm_x_BadText cd_x_BadText ct_x_BadText : Value}
    {nm_x_BadText qn_x_BadText : Str} {N_x_BadText : Addr} {bs_x_BadText bm_x_BadText su_x_BadText : List Value} {sn_x_BadText : List Str} {ab_x_BadText : Bool} {co_x_BadText : Option Bool} {dd_x_BadText : Option Addr} {k0_x_BadText k1_x_BadText k2_x_BadText k3_x_BadText k5_x_BadText : Option Value}
    {f_x_NoName : Addr} {od_x_NoName an_x_NoName : Option Addr} {sl_x_NoName : Array (Option Value)} {oc_x_NoName kV_x_NoName dc_x_NoName pm_x_NoName cd_x_NoName ct_x_NoName : Value}
    {nm_x_NoName qn_x_NoName : Str} {N_x_NoName : Addr} {bs_x_NoName bm_x_NoName su_x_NoName : List Value} {sn_x_NoName : List Str} {ab_x_NoName : Bool} {co_x_NoName : Option Bool} {dd_x_NoName : Option Addr} {k0_x_NoName k1_x_NoName k2_x_NoName k3_x_NoName k5_x_NoName : Option Value}
    {f_x_NoRow : Addr} {od_x_NoRow an_x_NoRow : Option Addr} {sl_x_NoRow : Array (Option Value)} {oc_x_NoRow kV_x_NoRow dc_x_NoRow pm_x_NoRow cd_x_NoRow ct_x_NoRow : Value}
    {nm_x_NoRow qn_x_NoRow : Str} {N_x_NoRow : Addr} {bs_x_NoRow bm_x_NoRow su_x_NoRow : List Value} {sn_x_NoRow : List Str} {ab_x_NoRow : Bool} {co_x_NoRow : Option Bool} {dd_x_NoRow : Option Addr} {k0_x_NoRow k1_x_NoRow k2_x_NoRow k3_x_NoRow k5_x_NoRow : Option Value}
    {f_x_Ended : Addr} {od_x_Ended an_x_Ended : Option Addr} {sl_x_Ended : Array (Option Value)} {oc_x_Ended kV_x_Ended dc_x_Ended pm_x_Ended cd_x_Ended ct_x_Ended : Value}
    {nm_x_Ended qn_x_Ended : Str} {N_x_Ended : Addr} {bs_x_Ended bm_x_Ended su_x_Ended : List Value} {sn_x_Ended : List Str} {ab_x_Ended : Bool} {co_x_Ended : Option Bool} {dd_x_Ended : Option Addr} {k0_x_Ended k1_x_Ended k2_x_Ended k3_x_Ended k5_x_Ended : Option Value}
    {B_b_SpaceError : Addr}
    (sg : PySem.W.specialIn K (.builtin "object.__class__") "__get__" = some (some (.builtin "getset_descriptor.__get__")))
    (tk : PySem.W.takesIn K (.builtin "object.__class__") = some true)
    (a_law_kinds : PySem.W.nsIn K mainGlobals "_law_kinds" = some (some (.ref f_law_kinds)))
    (l_law_kinds : K.lookup f_law_kinds = some ⟨oc_law_kinds, od_law_kinds, .func (PySem.W.fnOf "_law_kinds" "_law_kinds" (defArgs st_law_kinds) (defBody st_law_kinds) (defScope st_law_kinds) .none kV_law_kinds dc_law_kinds pm_law_kinds an_law_kinds cd_law_kinds ct_law_kinds), sl_law_kinds⟩)
    (c_law_kinds : PySem.W.codeIn K cd_law_kinds "_law_kinds" = true)
    (k_law_kinds : PySem.W.keepIn K (.ref f_law_kinds) = true)
    (a_law : PySem.W.nsIn K mainGlobals "law" = some (some (.ref f_law)))
    (l_law : K.lookup f_law = some ⟨oc_law, od_law, .func (PySem.W.fnOf "law" "law" (defArgs st_law) (defBody st_law) (defScope st_law) .none kV_law dc_law pm_law an_law cd_law ct_law), sl_law⟩)
    (c_law : PySem.W.codeIn K cd_law "law" = true)
    (k_law : PySem.W.keepIn K (.ref f_law) = true)
    (a_C0 : PySem.W.nsIn K mainGlobals "BadText" = some (some (.ref C0)))
    (a_x_BadText : PySem.W.findIn K (.ref C0) "__init__" = some (some (.ref f_x_BadText)))
    (l_x_BadText : K.lookup f_x_BadText = some ⟨oc_x_BadText, od_x_BadText, .func (PySem.W.fnOf "__init__" "BadText.__init__" (defArgs st_x_BadText) (defBody st_x_BadText) (defScope st_x_BadText) .none kV_x_BadText dc_x_BadText pm_x_BadText an_x_BadText cd_x_BadText ct_x_BadText), sl_x_BadText⟩)
    (c_x_BadText : PySem.W.codeIn K cd_x_BadText "BadText.__init__" = true)
    (k_x_BadText : PySem.W.keepIn K (.ref f_x_BadText) = true)
    (xl_x_BadText : K.lookup C0 = some (excClassObj nm_x_BadText qn_x_BadText C0 N_x_BadText bs_x_BadText bm_x_BadText true sn_x_BadText su_x_BadText ab_x_BadText co_x_BadText dd_x_BadText k0_x_BadText k1_x_BadText k2_x_BadText k3_x_BadText k5_x_BadText "ValueError.__new__"))
    (ne_r_x_BadText : PySem.HandSPX.refsVE bm_x_BadText = true)
    (sa_x_BadText : PySem.W.findIn K (.ref C0) "__setattr__" = some (some (.builtin "object.__setattr__")))
    (ex_x_BadText : PySem.W.subIn K (.ref C0) (.type "BaseException") = some true)
    (ty_x_BadText : PySem.W.typeIn K (.ref C0) = some (.type "type"))
    (kc_x_BadText : PySem.W.keepIn K (.ref C0) = true)
    (tf_x_BadText : PySem.W.typeIn K (.ref f_x_BadText) = some (.type "function"))
    (nf_x_BadText : PySem.W.findIn K (.ref C0) "place" = some none)
    (ga_x_BadText : PySem.W.findIn K (.ref C0) "__getattribute__" = some (some (.builtin "BaseException.__getattribute__")))
    (gg_x_BadText : PySem.W.findIn K (.ref C0) "__getattr__" = some none)
    (hd_x_BadText : PySem.W.hasDictIn K C0 = true)
    (ss_x_BadText : PySem.W.subIn K (.ref C0) (.ref C0) = some true)
    (a_C1 : PySem.W.nsIn K mainGlobals "NoName" = some (some (.ref C1)))
    (a_x_NoName : PySem.W.findIn K (.ref C1) "__init__" = some (some (.ref f_x_NoName)))
    (l_x_NoName : K.lookup f_x_NoName = some ⟨oc_x_NoName, od_x_NoName, .func (PySem.W.fnOf "__init__" "NoName.__init__" (defArgs st_x_NoName) (defBody st_x_NoName) (defScope st_x_NoName) .none kV_x_NoName dc_x_NoName pm_x_NoName an_x_NoName cd_x_NoName ct_x_NoName), sl_x_NoName⟩)
    (c_x_NoName : PySem.W.codeIn K cd_x_NoName "NoName.__init__" = true)
    (k_x_NoName : PySem.W.keepIn K (.ref f_x_NoName) = true)
    (xl_x_NoName : K.lookup C1 = some (excClassObj nm_x_NoName qn_x_NoName C1 N_x_NoName bs_x_NoName bm_x_NoName true sn_x_NoName su_x_NoName ab_x_NoName co_x_NoName dd_x_NoName k0_x_NoName k1_x_NoName k2_x_NoName k3_x_NoName k5_x_NoName "ValueError.__new__"))
    (ne_r_x_NoName : PySem.HandSPX.refsVE bm_x_NoName = true)
    (sa_x_NoName : PySem.W.findIn K (.ref C1) "__setattr__" = some (some (.builtin "object.__setattr__")))
    (ex_x_NoName : PySem.W.subIn K (.ref C1) (.type "BaseException") = some true)
    (ty_x_NoName : PySem.W.typeIn K (.ref C1) = some (.type "type"))
    (kc_x_NoName : PySem.W.keepIn K (.ref C1) = true)
    (tf_x_NoName : PySem.W.typeIn K (.ref f_x_NoName) = some (.type "function"))
    (nf_x_NoName : PySem.W.findIn K (.ref C1) "place" = some none)
    (ga_x_NoName : PySem.W.findIn K (.ref C1) "__getattribute__" = some (some (.builtin "BaseException.__getattribute__")))
    (gg_x_NoName : PySem.W.findIn K (.ref C1) "__getattr__" = some none)
    (hd_x_NoName : PySem.W.hasDictIn K C1 = true)
    (ss_x_NoName : PySem.W.subIn K (.ref C1) (.ref C1) = some true)
    (a_C3 : PySem.W.nsIn K mainGlobals "NoRow" = some (some (.ref C3)))
    (a_x_NoRow : PySem.W.findIn K (.ref C3) "__init__" = some (some (.ref f_x_NoRow)))
    (l_x_NoRow : K.lookup f_x_NoRow = some ⟨oc_x_NoRow, od_x_NoRow, .func (PySem.W.fnOf "__init__" "NoRow.__init__" (defArgs st_x_NoRow) (defBody st_x_NoRow) (defScope st_x_NoRow) .none kV_x_NoRow dc_x_NoRow pm_x_NoRow an_x_NoRow cd_x_NoRow ct_x_NoRow), sl_x_NoRow⟩)
    (c_x_NoRow : PySem.W.codeIn K cd_x_NoRow "NoRow.__init__" = true)
    (k_x_NoRow : PySem.W.keepIn K (.ref f_x_NoRow) = true)
    (xl_x_NoRow : K.lookup C3 = some (excClassObj nm_x_NoRow qn_x_NoRow C3 N_x_NoRow bs_x_NoRow bm_x_NoRow true sn_x_NoRow su_x_NoRow ab_x_NoRow co_x_NoRow dd_x_NoRow k0_x_NoRow k1_x_NoRow k2_x_NoRow k3_x_NoRow k5_x_NoRow "ValueError.__new__"))
    (ne_r_x_NoRow : PySem.HandSPX.refsVE bm_x_NoRow = true)
    (sa_x_NoRow : PySem.W.findIn K (.ref C3) "__setattr__" = some (some (.builtin "object.__setattr__")))
    (ex_x_NoRow : PySem.W.subIn K (.ref C3) (.type "BaseException") = some true)
    (ty_x_NoRow : PySem.W.typeIn K (.ref C3) = some (.type "type"))
    (kc_x_NoRow : PySem.W.keepIn K (.ref C3) = true)
    (tf_x_NoRow : PySem.W.typeIn K (.ref f_x_NoRow) = some (.type "function"))
    (nf_x_NoRow : PySem.W.findIn K (.ref C3) "row" = some none)
    (ga_x_NoRow : PySem.W.findIn K (.ref C3) "__getattribute__" = some (some (.builtin "BaseException.__getattribute__")))
    (gg_x_NoRow : PySem.W.findIn K (.ref C3) "__getattr__" = some none)
    (hd_x_NoRow : PySem.W.hasDictIn K C3 = true)
    (ss_x_NoRow : PySem.W.subIn K (.ref C3) (.ref C3) = some true)
    (a_C5 : PySem.W.nsIn K mainGlobals "Ended" = some (some (.ref C5)))
    (a_x_Ended : PySem.W.findIn K (.ref C5) "__init__" = some (some (.ref f_x_Ended)))
    (l_x_Ended : K.lookup f_x_Ended = some ⟨oc_x_Ended, od_x_Ended, .func (PySem.W.fnOf "__init__" "Ended.__init__" (defArgs st_x_Ended) (defBody st_x_Ended) (defScope st_x_Ended) .none kV_x_Ended dc_x_Ended pm_x_Ended an_x_Ended cd_x_Ended ct_x_Ended), sl_x_Ended⟩)
    (c_x_Ended : PySem.W.codeIn K cd_x_Ended "Ended.__init__" = true)
    (k_x_Ended : PySem.W.keepIn K (.ref f_x_Ended) = true)
    (xl_x_Ended : K.lookup C5 = some (excClassObj nm_x_Ended qn_x_Ended C5 N_x_Ended bs_x_Ended bm_x_Ended true sn_x_Ended su_x_Ended ab_x_Ended co_x_Ended dd_x_Ended k0_x_Ended k1_x_Ended k2_x_Ended k3_x_Ended k5_x_Ended "ValueError.__new__"))
    (ne_r_x_Ended : PySem.HandSPX.refsVE bm_x_Ended = true)
    (sa_x_Ended : PySem.W.findIn K (.ref C5) "__setattr__" = some (some (.builtin "object.__setattr__")))
    (ex_x_Ended : PySem.W.subIn K (.ref C5) (.type "BaseException") = some true)
    (ty_x_Ended : PySem.W.typeIn K (.ref C5) = some (.type "type"))
    (kc_x_Ended : PySem.W.keepIn K (.ref C5) = true)
    (tf_x_Ended : PySem.W.typeIn K (.ref f_x_Ended) = some (.type "function"))
    (nf_x_Ended : PySem.W.findIn K (.ref C5) "end" = some none)
    (ga_x_Ended : PySem.W.findIn K (.ref C5) "__getattribute__" = some (some (.builtin "BaseException.__getattribute__")))
    (gg_x_Ended : PySem.W.findIn K (.ref C5) "__getattr__" = some none)
    (hd_x_Ended : PySem.W.hasDictIn K C5 = true)
    (ss_x_Ended : PySem.W.subIn K (.ref C5) (.ref C5) = some true)
    (a_b_SpaceError : PySem.W.nsIn K mainGlobals "SpaceError" = some (some (.ref B_b_SpaceError)))
    (rd_b_SpaceError : PySem.W.readsIn K B_b_SpaceError (.type "type") = true)
    (ga_b_SpaceError : PySem.W.specialIn K (.ref B_b_SpaceError) "__getattribute__" = some (some (.builtin "type.__getattribute__")))
    (fc_b_SpaceError : PySem.W.findCls K (.ref B_b_SpaceError) (.type "type") "__init__" = some (.val (.builtin "ValueError.__init__")))
    (xic_0 : PySem.W.isClsIn K C0 = true)
    (xty_0 : PySem.W.typeIn K (.ref C0) = some (.type "type"))
    (xga_0 : PySem.W.findIn K (.ref C0) "__getattribute__" = some (some (.builtin "BaseException.__getattribute__")))
    (xgg_0 : PySem.W.findIn K (.ref C0) "__getattr__" = some none)
    (xsb_0 : PySem.W.subIn K (.ref C0) (.type "BaseException") = some true)
    (xhd_0 : PySem.W.hasDictIn K C0 = true)
    (xcc_0 : PySem.W.findIn K (.ref C0) "__class__" = some (some (.builtin "object.__class__")))
    (xmo_0 : PySem.W.mroIn K C0 (.type "object") = some true)
    (xic_1 : PySem.W.isClsIn K C1 = true)
    (xty_1 : PySem.W.typeIn K (.ref C1) = some (.type "type"))
    (xga_1 : PySem.W.findIn K (.ref C1) "__getattribute__" = some (some (.builtin "BaseException.__getattribute__")))
    (xgg_1 : PySem.W.findIn K (.ref C1) "__getattr__" = some none)
    (xsb_1 : PySem.W.subIn K (.ref C1) (.type "BaseException") = some true)
    (xhd_1 : PySem.W.hasDictIn K C1 = true)
    (xcc_1 : PySem.W.findIn K (.ref C1) "__class__" = some (some (.builtin "object.__class__")))
    (xmo_1 : PySem.W.mroIn K C1 (.type "object") = some true)
    (a_C2 : PySem.W.nsIn K mainGlobals "NoPart" = some (some (.ref C2)))
    (xic_2 : PySem.W.isClsIn K C2 = true)
    (xty_2 : PySem.W.typeIn K (.ref C2) = some (.type "type"))
    (xga_2 : PySem.W.findIn K (.ref C2) "__getattribute__" = some (some (.builtin "BaseException.__getattribute__")))
    (xgg_2 : PySem.W.findIn K (.ref C2) "__getattr__" = some none)
    (xsb_2 : PySem.W.subIn K (.ref C2) (.type "BaseException") = some true)
    (xhd_2 : PySem.W.hasDictIn K C2 = true)
    (xcc_2 : PySem.W.findIn K (.ref C2) "__class__" = some (some (.builtin "object.__class__")))
    (xmo_2 : PySem.W.mroIn K C2 (.type "object") = some true)
    (xi_2 : PySem.W.excIn K C2 [.type "ValueError", .type "Exception", .type "BaseException", .type "object"] "ValueError.__new__" = true)
    (xk_2 : PySem.W.keepIn K (.ref C2) = true)
    (xic_3 : PySem.W.isClsIn K C3 = true)
    (xty_3 : PySem.W.typeIn K (.ref C3) = some (.type "type"))
    (xga_3 : PySem.W.findIn K (.ref C3) "__getattribute__" = some (some (.builtin "BaseException.__getattribute__")))
    (xgg_3 : PySem.W.findIn K (.ref C3) "__getattr__" = some none)
    (xsb_3 : PySem.W.subIn K (.ref C3) (.type "BaseException") = some true)
    (xhd_3 : PySem.W.hasDictIn K C3 = true)
    (xcc_3 : PySem.W.findIn K (.ref C3) "__class__" = some (some (.builtin "object.__class__")))
    (xmo_3 : PySem.W.mroIn K C3 (.type "object") = some true)
    (a_C4 : PySem.W.nsIn K mainGlobals "NoLine" = some (some (.ref C4)))
    (xic_4 : PySem.W.isClsIn K C4 = true)
    (xty_4 : PySem.W.typeIn K (.ref C4) = some (.type "type"))
    (xga_4 : PySem.W.findIn K (.ref C4) "__getattribute__" = some (some (.builtin "BaseException.__getattribute__")))
    (xgg_4 : PySem.W.findIn K (.ref C4) "__getattr__" = some none)
    (xsb_4 : PySem.W.subIn K (.ref C4) (.type "BaseException") = some true)
    (xhd_4 : PySem.W.hasDictIn K C4 = true)
    (xcc_4 : PySem.W.findIn K (.ref C4) "__class__" = some (some (.builtin "object.__class__")))
    (xmo_4 : PySem.W.mroIn K C4 (.type "object") = some true)
    (xi_4 : PySem.W.excIn K C4 [.type "ValueError", .type "Exception", .type "BaseException", .type "object"] "ValueError.__new__" = true)
    (xk_4 : PySem.W.keepIn K (.ref C4) = true)
    (xic_5 : PySem.W.isClsIn K C5 = true)
    (xty_5 : PySem.W.typeIn K (.ref C5) = some (.type "type"))
    (xga_5 : PySem.W.findIn K (.ref C5) "__getattribute__" = some (some (.builtin "BaseException.__getattribute__")))
    (xgg_5 : PySem.W.findIn K (.ref C5) "__getattr__" = some none)
    (xsb_5 : PySem.W.subIn K (.ref C5) (.type "BaseException") = some true)
    (xhd_5 : PySem.W.hasDictIn K C5 = true)
    (xcc_5 : PySem.W.findIn K (.ref C5) "__class__" = some (some (.builtin "object.__class__")))
    (xmo_5 : PySem.W.mroIn K C5 (.type "object") = some true)
    (a_C6 : PySem.W.nsIn K mainGlobals "SpaceError" = some (some (.ref C6)))
    (xic_6 : PySem.W.isClsIn K C6 = true)
    (xty_6 : PySem.W.typeIn K (.ref C6) = some (.type "type"))
    (ne_xs_1 : (C0 == C5) = false)
    (xs_1 : PySem.W.subIn K (.ref C0) (.ref C5) = some false)
    (ne_xs_2 : (C0 == C4) = false)
    (xs_2 : PySem.W.subIn K (.ref C0) (.ref C4) = some false)
    (ne_xs_3 : (C0 == C1) = false)
    (xs_3 : PySem.W.subIn K (.ref C0) (.ref C1) = some false)
    (ne_xs_4 : (C0 == C2) = false)
    (xs_4 : PySem.W.subIn K (.ref C0) (.ref C2) = some false)
    (ne_xs_5 : (C0 == C3) = false)
    (xs_5 : PySem.W.subIn K (.ref C0) (.ref C3) = some false)
    (ne_xs_6 : (C0 == C6) = false)
    (xs_6 : PySem.W.subIn K (.ref C0) (.ref C6) = some true)
    (xs_7 : PySem.W.subIn K (.ref C0) (.type "ValueError") = some true)
    (ne_xs_8 : (C1 == C0) = false)
    (xs_8 : PySem.W.subIn K (.ref C1) (.ref C0) = some false)
    (ne_xs_9 : (C1 == C5) = false)
    (xs_9 : PySem.W.subIn K (.ref C1) (.ref C5) = some false)
    (ne_xs_10 : (C1 == C4) = false)
    (xs_10 : PySem.W.subIn K (.ref C1) (.ref C4) = some false)
    (ne_xs_12 : (C1 == C2) = false)
    (xs_12 : PySem.W.subIn K (.ref C1) (.ref C2) = some false)
    (ne_xs_13 : (C1 == C3) = false)
    (xs_13 : PySem.W.subIn K (.ref C1) (.ref C3) = some false)
    (ne_xs_14 : (C1 == C6) = false)
    (xs_14 : PySem.W.subIn K (.ref C1) (.ref C6) = some true)
    (xs_15 : PySem.W.subIn K (.ref C1) (.type "ValueError") = some true)
    (ne_xs_16 : (C2 == C0) = false)
    (xs_16 : PySem.W.subIn K (.ref C2) (.ref C0) = some false)
    (ne_xs_17 : (C2 == C5) = false)
    (xs_17 : PySem.W.subIn K (.ref C2) (.ref C5) = some false)
    (ne_xs_18 : (C2 == C4) = false)
    (xs_18 : PySem.W.subIn K (.ref C2) (.ref C4) = some false)
    (ne_xs_19 : (C2 == C1) = false)
    (xs_19 : PySem.W.subIn K (.ref C2) (.ref C1) = some false)
    (ne_xs_21 : (C2 == C3) = false)
    (xs_21 : PySem.W.subIn K (.ref C2) (.ref C3) = some false)
    (ne_xs_22 : (C2 == C6) = false)
    (xs_22 : PySem.W.subIn K (.ref C2) (.ref C6) = some true)
    (xs_23 : PySem.W.subIn K (.ref C2) (.type "ValueError") = some true)
    (ne_xs_24 : (C3 == C0) = false)
    (xs_24 : PySem.W.subIn K (.ref C3) (.ref C0) = some false)
    (ne_xs_25 : (C3 == C5) = false)
    (xs_25 : PySem.W.subIn K (.ref C3) (.ref C5) = some false)
    (ne_xs_26 : (C3 == C4) = false)
    (xs_26 : PySem.W.subIn K (.ref C3) (.ref C4) = some false)
    (ne_xs_27 : (C3 == C1) = false)
    (xs_27 : PySem.W.subIn K (.ref C3) (.ref C1) = some false)
    (ne_xs_28 : (C3 == C2) = false)
    (xs_28 : PySem.W.subIn K (.ref C3) (.ref C2) = some false)
    (ne_xs_30 : (C3 == C6) = false)
    (xs_30 : PySem.W.subIn K (.ref C3) (.ref C6) = some true)
    (xs_31 : PySem.W.subIn K (.ref C3) (.type "ValueError") = some true)
    (ne_xs_32 : (C4 == C0) = false)
    (xs_32 : PySem.W.subIn K (.ref C4) (.ref C0) = some false)
    (ne_xs_33 : (C4 == C5) = false)
    (xs_33 : PySem.W.subIn K (.ref C4) (.ref C5) = some false)
    (ne_xs_35 : (C4 == C1) = false)
    (xs_35 : PySem.W.subIn K (.ref C4) (.ref C1) = some false)
    (ne_xs_36 : (C4 == C2) = false)
    (xs_36 : PySem.W.subIn K (.ref C4) (.ref C2) = some false)
    (ne_xs_37 : (C4 == C3) = false)
    (xs_37 : PySem.W.subIn K (.ref C4) (.ref C3) = some false)
    (ne_xs_38 : (C4 == C6) = false)
    (xs_38 : PySem.W.subIn K (.ref C4) (.ref C6) = some true)
    (xs_39 : PySem.W.subIn K (.ref C4) (.type "ValueError") = some true)
    (ne_xs_40 : (C5 == C0) = false)
    (xs_40 : PySem.W.subIn K (.ref C5) (.ref C0) = some false)
    (ne_xs_42 : (C5 == C4) = false)
    (xs_42 : PySem.W.subIn K (.ref C5) (.ref C4) = some false)
    (ne_xs_43 : (C5 == C1) = false)
    (xs_43 : PySem.W.subIn K (.ref C5) (.ref C1) = some false)
    (ne_xs_44 : (C5 == C2) = false)
    (xs_44 : PySem.W.subIn K (.ref C5) (.ref C2) = some false)
    (ne_xs_45 : (C5 == C3) = false)
    (xs_45 : PySem.W.subIn K (.ref C5) (.ref C3) = some false)
    (ne_xs_46 : (C5 == C6) = false)
    (xs_46 : PySem.W.subIn K (.ref C5) (.ref C6) = some true)
    (xs_47 : PySem.W.subIn K (.ref C5) (.type "ValueError") = some true)
    (z_ValueError : PySem.W.nsIn K mainGlobals "ValueError" = some none)
    (z_isinstance : PySem.W.nsIn K mainGlobals "isinstance" = some none)
    (z_range : PySem.W.nsIn K mainGlobals "range" = some none)
    (z_repr : PySem.W.nsIn K mainGlobals "repr" = some none)
    (z_str : PySem.W.nsIn K mainGlobals "str" = some none) :
    ∃ fd : FuncData, (∀ (s : Shared) (v : Value), BindsTo s fd ⟨[v], []⟩ [("_law_script", v)]) ∧ ∀ base : Heap, K.In base → base.Ns mainGlobals mg → FnAt P w K mg base callerA fa fd ["_law_script"] (spL 63 K) := by
  have e : fa = f_law := by injection (Option.some.inj (hfa.symm.trans (PySem.W.mg_of X G a_law)))
  rw [e]
  let T : Tx K mg C0 C1 C2 C3 C4 C5 C6 := {
    d_law_kinds := ⟨f_law_kinds, _, (fun_mk (st := st_law_kinds) l_law_kinds c_law_kinds k_law_kinds), ((fun_mk (st := st_law_kinds) l_law_kinds c_law_kinds k_law_kinds).binds (ps := ["_law_e"]) fun _ _ _ _ _ _ us hl => match us, hl with | [_], _ => rfl), PySem.W.mg_of X G a_law_kinds, k_law_kinds⟩,
    d_law := ⟨f_law, _, (fun_mk (st := st_law) l_law c_law k_law), ((fun_mk (st := st_law) l_law c_law k_law).binds (ps := ["_law_script"]) fun _ _ _ _ _ _ us hl => match us, hl with | [_], _ => rfl), PySem.W.mg_of X G a_law, k_law⟩,
    x_BadText := ⟨f_x_BadText, _, (fun_mk (st := st_x_BadText) l_x_BadText c_x_BadText k_x_BadText), ((fun_mk (st := st_x_BadText) l_x_BadText c_x_BadText k_x_BadText).binds (ps := ["self", "place"]) fun _ _ _ _ _ _ us hl => match us, hl with | [_, _], _ => rfl), oexC_mk xl_x_BadText ne_r_x_BadText sa_x_BadText ex_x_BadText ty_x_BadText kc_x_BadText, a_x_BadText, tf_x_BadText, nf_x_BadText, ⟨ga_x_BadText, gg_x_BadText, ex_x_BadText, hd_x_BadText⟩, PySem.W.exm_ref ex_x_BadText hd_x_BadText ty_x_BadText ss_x_BadText, PySem.W.mg_of X G a_C0⟩,
    x_NoName := ⟨f_x_NoName, _, (fun_mk (st := st_x_NoName) l_x_NoName c_x_NoName k_x_NoName), ((fun_mk (st := st_x_NoName) l_x_NoName c_x_NoName k_x_NoName).binds (ps := ["self", "place"]) fun _ _ _ _ _ _ us hl => match us, hl with | [_, _], _ => rfl), oexC_mk xl_x_NoName ne_r_x_NoName sa_x_NoName ex_x_NoName ty_x_NoName kc_x_NoName, a_x_NoName, tf_x_NoName, nf_x_NoName, ⟨ga_x_NoName, gg_x_NoName, ex_x_NoName, hd_x_NoName⟩, PySem.W.exm_ref ex_x_NoName hd_x_NoName ty_x_NoName ss_x_NoName, PySem.W.mg_of X G a_C1⟩,
    x_NoRow := ⟨f_x_NoRow, _, (fun_mk (st := st_x_NoRow) l_x_NoRow c_x_NoRow k_x_NoRow), ((fun_mk (st := st_x_NoRow) l_x_NoRow c_x_NoRow k_x_NoRow).binds (ps := ["self", "row"]) fun _ _ _ _ _ _ us hl => match us, hl with | [_, _], _ => rfl), oexC_mk xl_x_NoRow ne_r_x_NoRow sa_x_NoRow ex_x_NoRow ty_x_NoRow kc_x_NoRow, a_x_NoRow, tf_x_NoRow, nf_x_NoRow, ⟨ga_x_NoRow, gg_x_NoRow, ex_x_NoRow, hd_x_NoRow⟩, PySem.W.exm_ref ex_x_NoRow hd_x_NoRow ty_x_NoRow ss_x_NoRow, PySem.W.mg_of X G a_C3⟩,
    x_Ended := ⟨f_x_Ended, _, (fun_mk (st := st_x_Ended) l_x_Ended c_x_Ended k_x_Ended), ((fun_mk (st := st_x_Ended) l_x_Ended c_x_Ended k_x_Ended).binds (ps := ["self", "end"]) fun _ _ _ _ _ _ us hl => match us, hl with | [_, _], _ => rfl), oexC_mk xl_x_Ended ne_r_x_Ended sa_x_Ended ex_x_Ended ty_x_Ended kc_x_Ended, a_x_Ended, tf_x_Ended, nf_x_Ended, ⟨ga_x_Ended, gg_x_Ended, ex_x_Ended, hd_x_Ended⟩, PySem.W.exm_ref ex_x_Ended hd_x_Ended ty_x_Ended ss_x_Ended, PySem.W.mg_of X G a_C5⟩,
    b_SpaceError := ⟨B_b_SpaceError, PySem.W.mg_of X G a_b_SpaceError, rd_b_SpaceError, ga_b_SpaceError, fc_b_SpaceError⟩,
    xm_BadText := PySem.W.mg_of X G a_C0,
    xm_NoName := PySem.W.mg_of X G a_C1,
    xm_NoPart := PySem.W.mg_of X G a_C2,
    xi_NoPart := xi_2,
    xk_NoPart := xk_2,
    xm_NoRow := PySem.W.mg_of X G a_C3,
    xm_NoLine := PySem.W.mg_of X G a_C4,
    xi_NoLine := xi_4,
    xk_NoLine := xk_4,
    xm_Ended := PySem.W.mg_of X G a_C5,
    xm_SpaceError := PySem.W.mg_of X G a_C6,
    z_ValueError := PySem.W.mg_none_of X G z_ValueError,
    z_isinstance := PySem.W.mg_none_of X G z_isinstance,
    z_range := PySem.W.mg_none_of X G z_range,
    z_repr := PySem.W.mg_none_of X G z_repr,
    z_str := PySem.W.mg_none_of X G z_str,
    tb := tabOk_of fa_nil,
    xt := tabX_of (fa_cons (⟨⟨xga_0, xgg_0, xsb_0, xhd_0⟩, nf_x_BadText⟩) (fa_cons (⟨⟨xga_1, xgg_1, xsb_1, xhd_1⟩, nf_x_NoName⟩) (fa_cons (⟨⟨xga_3, xgg_3, xsb_3, xhd_3⟩, nf_x_NoRow⟩) (fa_cons (⟨⟨xga_5, xgg_5, xsb_5, xhd_5⟩, nf_x_Ended⟩) fa_nil)))),
    jx := isTabX_of (fa_cons (kit_self) (fa_cons (kit_xr ne_xs_1 xic_5 xty_5 xs_1) (fa_cons (kit_xr ne_xs_2 xic_4 xty_4 xs_2) (fa_cons (kit_xr ne_xs_3 xic_1 xty_1 xs_3) (fa_cons (kit_xr ne_xs_4 xic_2 xty_2 xs_4) (fa_cons (kit_xr ne_xs_5 xic_3 xty_3 xs_5) (fa_cons (kit_xr ne_xs_6 xic_6 xty_6 xs_6) (fa_cons (kit_rt (by decide +kernel) xs_7) (fa_cons (kit_xr ne_xs_8 xic_0 xty_0 xs_8) (fa_cons (kit_xr ne_xs_9 xic_5 xty_5 xs_9) (fa_cons (kit_xr ne_xs_10 xic_4 xty_4 xs_10) (fa_cons (kit_self) (fa_cons (kit_xr ne_xs_12 xic_2 xty_2 xs_12) (fa_cons (kit_xr ne_xs_13 xic_3 xty_3 xs_13) (fa_cons (kit_xr ne_xs_14 xic_6 xty_6 xs_14) (fa_cons (kit_rt (by decide +kernel) xs_15) (fa_cons (kit_xr ne_xs_16 xic_0 xty_0 xs_16) (fa_cons (kit_xr ne_xs_17 xic_5 xty_5 xs_17) (fa_cons (kit_xr ne_xs_18 xic_4 xty_4 xs_18) (fa_cons (kit_xr ne_xs_19 xic_1 xty_1 xs_19) (fa_cons (kit_self) (fa_cons (kit_xr ne_xs_21 xic_3 xty_3 xs_21) (fa_cons (kit_xr ne_xs_22 xic_6 xty_6 xs_22) (fa_cons (kit_rt (by decide +kernel) xs_23) (fa_cons (kit_xr ne_xs_24 xic_0 xty_0 xs_24) (fa_cons (kit_xr ne_xs_25 xic_5 xty_5 xs_25) (fa_cons (kit_xr ne_xs_26 xic_4 xty_4 xs_26) (fa_cons (kit_xr ne_xs_27 xic_1 xty_1 xs_27) (fa_cons (kit_xr ne_xs_28 xic_2 xty_2 xs_28) (fa_cons (kit_self) (fa_cons (kit_xr ne_xs_30 xic_6 xty_6 xs_30) (fa_cons (kit_rt (by decide +kernel) xs_31) (fa_cons (kit_xr ne_xs_32 xic_0 xty_0 xs_32) (fa_cons (kit_xr ne_xs_33 xic_5 xty_5 xs_33) (fa_cons (kit_self) (fa_cons (kit_xr ne_xs_35 xic_1 xty_1 xs_35) (fa_cons (kit_xr ne_xs_36 xic_2 xty_2 xs_36) (fa_cons (kit_xr ne_xs_37 xic_3 xty_3 xs_37) (fa_cons (kit_xr ne_xs_38 xic_6 xty_6 xs_38) (fa_cons (kit_rt (by decide +kernel) xs_39) (fa_cons (kit_xr ne_xs_40 xic_0 xty_0 xs_40) (fa_cons (kit_self) (fa_cons (kit_xr ne_xs_42 xic_4 xty_4 xs_42) (fa_cons (kit_xr ne_xs_43 xic_1 xty_1 xs_43) (fa_cons (kit_xr ne_xs_44 xic_2 xty_2 xs_44) (fa_cons (kit_xr ne_xs_45 xic_3 xty_3 xs_45) (fa_cons (kit_xr ne_xs_46 xic_6 xty_6 xs_46) (fa_cons (kit_rt (by decide +kernel) xs_47) fa_nil)))))))))))))))))))))))))))))))))))))))))))))))) (fa_cons (⟨xga_0, xgg_0, xsb_0, xhd_0, xcc_0, sg, tk, xmo_0⟩) (fa_cons (⟨xga_0, xgg_0, xsb_0, xhd_0, xcc_0, sg, tk, xmo_0⟩) (fa_cons (⟨xga_0, xgg_0, xsb_0, xhd_0, xcc_0, sg, tk, xmo_0⟩) (fa_cons (⟨xga_0, xgg_0, xsb_0, xhd_0, xcc_0, sg, tk, xmo_0⟩) (fa_cons (⟨xga_0, xgg_0, xsb_0, xhd_0, xcc_0, sg, tk, xmo_0⟩) (fa_cons (⟨xga_0, xgg_0, xsb_0, xhd_0, xcc_0, sg, tk, xmo_0⟩) (fa_cons (⟨xga_0, xgg_0, xsb_0, xhd_0, xcc_0, sg, tk, xmo_0⟩) (fa_cons (⟨xga_0, xgg_0, xsb_0, xhd_0, xcc_0, sg, tk, xmo_0⟩) (fa_cons (⟨xga_1, xgg_1, xsb_1, xhd_1, xcc_1, sg, tk, xmo_1⟩) (fa_cons (⟨xga_1, xgg_1, xsb_1, xhd_1, xcc_1, sg, tk, xmo_1⟩) (fa_cons (⟨xga_1, xgg_1, xsb_1, xhd_1, xcc_1, sg, tk, xmo_1⟩) (fa_cons (⟨xga_1, xgg_1, xsb_1, xhd_1, xcc_1, sg, tk, xmo_1⟩) (fa_cons (⟨xga_1, xgg_1, xsb_1, xhd_1, xcc_1, sg, tk, xmo_1⟩) (fa_cons (⟨xga_1, xgg_1, xsb_1, xhd_1, xcc_1, sg, tk, xmo_1⟩) (fa_cons (⟨xga_1, xgg_1, xsb_1, xhd_1, xcc_1, sg, tk, xmo_1⟩) (fa_cons (⟨xga_1, xgg_1, xsb_1, xhd_1, xcc_1, sg, tk, xmo_1⟩) (fa_cons (⟨xga_2, xgg_2, xsb_2, xhd_2, xcc_2, sg, tk, xmo_2⟩) (fa_cons (⟨xga_2, xgg_2, xsb_2, xhd_2, xcc_2, sg, tk, xmo_2⟩) (fa_cons (⟨xga_2, xgg_2, xsb_2, xhd_2, xcc_2, sg, tk, xmo_2⟩) (fa_cons (⟨xga_2, xgg_2, xsb_2, xhd_2, xcc_2, sg, tk, xmo_2⟩) (fa_cons (⟨xga_2, xgg_2, xsb_2, xhd_2, xcc_2, sg, tk, xmo_2⟩) (fa_cons (⟨xga_2, xgg_2, xsb_2, xhd_2, xcc_2, sg, tk, xmo_2⟩) (fa_cons (⟨xga_2, xgg_2, xsb_2, xhd_2, xcc_2, sg, tk, xmo_2⟩) (fa_cons (⟨xga_2, xgg_2, xsb_2, xhd_2, xcc_2, sg, tk, xmo_2⟩) (fa_cons (⟨xga_3, xgg_3, xsb_3, xhd_3, xcc_3, sg, tk, xmo_3⟩) (fa_cons (⟨xga_3, xgg_3, xsb_3, xhd_3, xcc_3, sg, tk, xmo_3⟩) (fa_cons (⟨xga_3, xgg_3, xsb_3, xhd_3, xcc_3, sg, tk, xmo_3⟩) (fa_cons (⟨xga_3, xgg_3, xsb_3, xhd_3, xcc_3, sg, tk, xmo_3⟩) (fa_cons (⟨xga_3, xgg_3, xsb_3, xhd_3, xcc_3, sg, tk, xmo_3⟩) (fa_cons (⟨xga_3, xgg_3, xsb_3, xhd_3, xcc_3, sg, tk, xmo_3⟩) (fa_cons (⟨xga_3, xgg_3, xsb_3, xhd_3, xcc_3, sg, tk, xmo_3⟩) (fa_cons (⟨xga_3, xgg_3, xsb_3, xhd_3, xcc_3, sg, tk, xmo_3⟩) (fa_cons (⟨xga_4, xgg_4, xsb_4, xhd_4, xcc_4, sg, tk, xmo_4⟩) (fa_cons (⟨xga_4, xgg_4, xsb_4, xhd_4, xcc_4, sg, tk, xmo_4⟩) (fa_cons (⟨xga_4, xgg_4, xsb_4, xhd_4, xcc_4, sg, tk, xmo_4⟩) (fa_cons (⟨xga_4, xgg_4, xsb_4, xhd_4, xcc_4, sg, tk, xmo_4⟩) (fa_cons (⟨xga_4, xgg_4, xsb_4, xhd_4, xcc_4, sg, tk, xmo_4⟩) (fa_cons (⟨xga_4, xgg_4, xsb_4, xhd_4, xcc_4, sg, tk, xmo_4⟩) (fa_cons (⟨xga_4, xgg_4, xsb_4, xhd_4, xcc_4, sg, tk, xmo_4⟩) (fa_cons (⟨xga_4, xgg_4, xsb_4, xhd_4, xcc_4, sg, tk, xmo_4⟩) (fa_cons (⟨xga_5, xgg_5, xsb_5, xhd_5, xcc_5, sg, tk, xmo_5⟩) (fa_cons (⟨xga_5, xgg_5, xsb_5, xhd_5, xcc_5, sg, tk, xmo_5⟩) (fa_cons (⟨xga_5, xgg_5, xsb_5, xhd_5, xcc_5, sg, tk, xmo_5⟩) (fa_cons (⟨xga_5, xgg_5, xsb_5, xhd_5, xcc_5, sg, tk, xmo_5⟩) (fa_cons (⟨xga_5, xgg_5, xsb_5, xhd_5, xcc_5, sg, tk, xmo_5⟩) (fa_cons (⟨xga_5, xgg_5, xsb_5, xhd_5, xcc_5, sg, tk, xmo_5⟩) (fa_cons (⟨xga_5, xgg_5, xsb_5, xhd_5, xcc_5, sg, tk, xmo_5⟩) (fa_cons (⟨xga_5, xgg_5, xsb_5, xhd_5, xcc_5, sg, tk, xmo_5⟩) fa_nil)))))))))))))))))))))))))))))))))))))))))))))))),
    jt := isTab_of fa_nil fa_nil }
  exact ⟨_, fun s v => .of_eq rfl, fun base _ _ => law_at (g := (gx K C0 C1 C2 C3 C4 C5 C6)) rfl (ok_law (P := P) (w := w) (base := base) T) plain⟩
end
end K04
open PySem PySem.W PyProof.Rows
set_option maxRecDepth 100000 in
set_option maxHeartbeats 0 in
theorem PySem.Challenge.cw_spacewright_k04_refusals_apart_holds : PySem.Challenge.rw_spacewright_k04_refusals_apart.Holds := by
  w_on; o_law; k_head; (case hw => w_witness2)
  k_fill
  refine Sm.walk_smT (l := PySem.Challenge.rw_spacewright_k04_refusals_apart) (n := 63) (x := "_law_script") rfl (by decide) rfl (fun w h Y => PySem.W.kIn_of Y) ?F
  case F =>
    intro w mg fa h KX G hmg
    refine' K04.all_mk KX G hmg ?sg ?tk ?a_law_kinds ?l_law_kinds ?c_law_kinds ?k_law_kinds ?a_law ?l_law ?c_law ?k_law ?a_C0 ?a_x_BadText ?l_x_BadText ?c_x_BadText ?k_x_BadText ?xl_x_BadText ?ne_r_x_BadText ?sa_x_BadText ?ex_x_BadText ?ty_x_BadText ?kc_x_BadText ?tf_x_BadText ?nf_x_BadText ?ga_x_BadText ?gg_x_BadText ?hd_x_BadText ?ss_x_BadText ?a_C1 ?a_x_NoName ?l_x_NoName ?c_x_NoName ?k_x_NoName ?xl_x_NoName ?ne_r_x_NoName ?sa_x_NoName ?ex_x_NoName ?ty_x_NoName ?kc_x_NoName ?tf_x_NoName ?nf_x_NoName ?ga_x_NoName ?gg_x_NoName ?hd_x_NoName ?ss_x_NoName ?a_C3 ?a_x_NoRow ?l_x_NoRow ?c_x_NoRow ?k_x_NoRow ?xl_x_NoRow ?ne_r_x_NoRow ?sa_x_NoRow ?ex_x_NoRow ?ty_x_NoRow ?kc_x_NoRow ?tf_x_NoRow ?nf_x_NoRow ?ga_x_NoRow ?gg_x_NoRow ?hd_x_NoRow ?ss_x_NoRow ?a_C5 ?a_x_Ended ?l_x_Ended ?c_x_Ended ?k_x_Ended ?xl_x_Ended ?ne_r_x_Ended ?sa_x_Ended ?ex_x_Ended ?ty_x_Ended ?kc_x_Ended ?tf_x_Ended ?nf_x_Ended ?ga_x_Ended ?gg_x_Ended ?hd_x_Ended ?ss_x_Ended ?a_b_SpaceError ?rd_b_SpaceError ?ga_b_SpaceError ?fc_b_SpaceError ?xic_0 ?xty_0 ?xga_0 ?xgg_0 ?xsb_0 ?xhd_0 ?xcc_0 ?xmo_0 ?xic_1 ?xty_1 ?xga_1 ?xgg_1 ?xsb_1 ?xhd_1 ?xcc_1 ?xmo_1 ?a_C2 ?xic_2 ?xty_2 ?xga_2 ?xgg_2 ?xsb_2 ?xhd_2 ?xcc_2 ?xmo_2 ?xi_2 ?xk_2 ?xic_3 ?xty_3 ?xga_3 ?xgg_3 ?xsb_3 ?xhd_3 ?xcc_3 ?xmo_3 ?a_C4 ?xic_4 ?xty_4 ?xga_4 ?xgg_4 ?xsb_4 ?xhd_4 ?xcc_4 ?xmo_4 ?xi_4 ?xk_4 ?xic_5 ?xty_5 ?xga_5 ?xgg_5 ?xsb_5 ?xhd_5 ?xcc_5 ?xmo_5 ?a_C6 ?xic_6 ?xty_6 ?ne_xs_1 ?xs_1 ?ne_xs_2 ?xs_2 ?ne_xs_3 ?xs_3 ?ne_xs_4 ?xs_4 ?ne_xs_5 ?xs_5 ?ne_xs_6 ?xs_6 ?xs_7 ?ne_xs_8 ?xs_8 ?ne_xs_9 ?xs_9 ?ne_xs_10 ?xs_10 ?ne_xs_12 ?xs_12 ?ne_xs_13 ?xs_13 ?ne_xs_14 ?xs_14 ?xs_15 ?ne_xs_16 ?xs_16 ?ne_xs_17 ?xs_17 ?ne_xs_18 ?xs_18 ?ne_xs_19 ?xs_19 ?ne_xs_21 ?xs_21 ?ne_xs_22 ?xs_22 ?xs_23 ?ne_xs_24 ?xs_24 ?ne_xs_25 ?xs_25 ?ne_xs_26 ?xs_26 ?ne_xs_27 ?xs_27 ?ne_xs_28 ?xs_28 ?ne_xs_30 ?xs_30 ?xs_31 ?ne_xs_32 ?xs_32 ?ne_xs_33 ?xs_33 ?ne_xs_35 ?xs_35 ?ne_xs_36 ?xs_36 ?ne_xs_37 ?xs_37 ?ne_xs_38 ?xs_38 ?xs_39 ?ne_xs_40 ?xs_40 ?ne_xs_42 ?xs_42 ?ne_xs_43 ?xs_43 ?ne_xs_44 ?xs_44 ?ne_xs_45 ?xs_45 ?ne_xs_46 ?xs_46 ?xs_47 ?z_ValueError ?z_isinstance ?z_range ?z_repr ?z_str
    (case sg => k_is)
    (case tk => k_is)
    (case a_law_kinds => k_is)
    (case l_law_kinds => k_is)
    (case c_law_kinds => k_is)
    (case k_law_kinds => k_is)
    (case a_law => k_is)
    (case l_law => k_is)
    (case c_law => k_is)
    (case k_law => k_is)
    (case a_C0 => k_is)
    (case a_x_BadText => k_is)
    (case l_x_BadText => k_is)
    (case c_x_BadText => k_is)
    (case k_x_BadText => k_is)
    (case xl_x_BadText => k_is)
    (case ne_r_x_BadText => exact rfl)
    (case sa_x_BadText => k_is)
    (case ex_x_BadText => k_is)
    (case ty_x_BadText => k_is)
    (case kc_x_BadText => k_is)
    (case tf_x_BadText => k_is)
    (case nf_x_BadText => k_is)
    (case ga_x_BadText => k_is)
    (case gg_x_BadText => k_is)
    (case hd_x_BadText => k_is)
    (case ss_x_BadText => k_is)
    (case a_C1 => k_is)
    (case a_x_NoName => k_is)
    (case l_x_NoName => k_is)
    (case c_x_NoName => k_is)
    (case k_x_NoName => k_is)
    (case xl_x_NoName => k_is)
    (case ne_r_x_NoName => exact rfl)
    (case sa_x_NoName => k_is)
    (case ex_x_NoName => k_is)
    (case ty_x_NoName => k_is)
    (case kc_x_NoName => k_is)
    (case tf_x_NoName => k_is)
    (case nf_x_NoName => k_is)
    (case ga_x_NoName => k_is)
    (case gg_x_NoName => k_is)
    (case hd_x_NoName => k_is)
    (case ss_x_NoName => k_is)
    (case a_C3 => k_is)
    (case a_x_NoRow => k_is)
    (case l_x_NoRow => k_is)
    (case c_x_NoRow => k_is)
    (case k_x_NoRow => k_is)
    (case xl_x_NoRow => k_is)
    (case ne_r_x_NoRow => exact rfl)
    (case sa_x_NoRow => k_is)
    (case ex_x_NoRow => k_is)
    (case ty_x_NoRow => k_is)
    (case kc_x_NoRow => k_is)
    (case tf_x_NoRow => k_is)
    (case nf_x_NoRow => k_is)
    (case ga_x_NoRow => k_is)
    (case gg_x_NoRow => k_is)
    (case hd_x_NoRow => k_is)
    (case ss_x_NoRow => k_is)
    (case a_C5 => k_is)
    (case a_x_Ended => k_is)
    (case l_x_Ended => k_is)
    (case c_x_Ended => k_is)
    (case k_x_Ended => k_is)
    (case xl_x_Ended => k_is)
    (case ne_r_x_Ended => exact rfl)
    (case sa_x_Ended => k_is)
    (case ex_x_Ended => k_is)
    (case ty_x_Ended => k_is)
    (case kc_x_Ended => k_is)
    (case tf_x_Ended => k_is)
    (case nf_x_Ended => k_is)
    (case ga_x_Ended => k_is)
    (case gg_x_Ended => k_is)
    (case hd_x_Ended => k_is)
    (case ss_x_Ended => k_is)
    (case a_b_SpaceError => k_is)
    (case rd_b_SpaceError => k_is)
    (case ga_b_SpaceError => k_is)
    (case fc_b_SpaceError => k_is)
    (case xic_0 => k_is)
    (case xty_0 => k_is)
    (case xga_0 => k_is)
    (case xgg_0 => k_is)
    (case xsb_0 => k_is)
    (case xhd_0 => k_is)
    (case xcc_0 => k_is)
    (case xmo_0 => k_is)
    (case xic_1 => k_is)
    (case xty_1 => k_is)
    (case xga_1 => k_is)
    (case xgg_1 => k_is)
    (case xsb_1 => k_is)
    (case xhd_1 => k_is)
    (case xcc_1 => k_is)
    (case xmo_1 => k_is)
    (case a_C2 => k_is)
    (case xic_2 => k_is)
    (case xty_2 => k_is)
    (case xga_2 => k_is)
    (case xgg_2 => k_is)
    (case xsb_2 => k_is)
    (case xhd_2 => k_is)
    (case xcc_2 => k_is)
    (case xmo_2 => k_is)
    (case xi_2 => first | k_exc | k_is | kernel_rfl)
    (case xk_2 => k_is)
    (case xic_3 => k_is)
    (case xty_3 => k_is)
    (case xga_3 => k_is)
    (case xgg_3 => k_is)
    (case xsb_3 => k_is)
    (case xhd_3 => k_is)
    (case xcc_3 => k_is)
    (case xmo_3 => k_is)
    (case a_C4 => k_is)
    (case xic_4 => k_is)
    (case xty_4 => k_is)
    (case xga_4 => k_is)
    (case xgg_4 => k_is)
    (case xsb_4 => k_is)
    (case xhd_4 => k_is)
    (case xcc_4 => k_is)
    (case xmo_4 => k_is)
    (case xi_4 => first | k_exc | k_is | kernel_rfl)
    (case xk_4 => k_is)
    (case xic_5 => k_is)
    (case xty_5 => k_is)
    (case xga_5 => k_is)
    (case xgg_5 => k_is)
    (case xsb_5 => k_is)
    (case xhd_5 => k_is)
    (case xcc_5 => k_is)
    (case xmo_5 => k_is)
    (case a_C6 => k_is)
    (case xic_6 => k_is)
    (case xty_6 => k_is)
    (case ne_xs_1 => exact rfl)
    (case xs_1 => k_is)
    (case ne_xs_2 => exact rfl)
    (case xs_2 => k_is)
    (case ne_xs_3 => exact rfl)
    (case xs_3 => k_is)
    (case ne_xs_4 => exact rfl)
    (case xs_4 => k_is)
    (case ne_xs_5 => exact rfl)
    (case xs_5 => k_is)
    (case ne_xs_6 => exact rfl)
    (case xs_6 => k_is)
    (case xs_7 => k_is)
    (case ne_xs_8 => exact rfl)
    (case xs_8 => k_is)
    (case ne_xs_9 => exact rfl)
    (case xs_9 => k_is)
    (case ne_xs_10 => exact rfl)
    (case xs_10 => k_is)
    (case ne_xs_12 => exact rfl)
    (case xs_12 => k_is)
    (case ne_xs_13 => exact rfl)
    (case xs_13 => k_is)
    (case ne_xs_14 => exact rfl)
    (case xs_14 => k_is)
    (case xs_15 => k_is)
    (case ne_xs_16 => exact rfl)
    (case xs_16 => k_is)
    (case ne_xs_17 => exact rfl)
    (case xs_17 => k_is)
    (case ne_xs_18 => exact rfl)
    (case xs_18 => k_is)
    (case ne_xs_19 => exact rfl)
    (case xs_19 => k_is)
    (case ne_xs_21 => exact rfl)
    (case xs_21 => k_is)
    (case ne_xs_22 => exact rfl)
    (case xs_22 => k_is)
    (case xs_23 => k_is)
    (case ne_xs_24 => exact rfl)
    (case xs_24 => k_is)
    (case ne_xs_25 => exact rfl)
    (case xs_25 => k_is)
    (case ne_xs_26 => exact rfl)
    (case xs_26 => k_is)
    (case ne_xs_27 => exact rfl)
    (case xs_27 => k_is)
    (case ne_xs_28 => exact rfl)
    (case xs_28 => k_is)
    (case ne_xs_30 => exact rfl)
    (case xs_30 => k_is)
    (case xs_31 => k_is)
    (case ne_xs_32 => exact rfl)
    (case xs_32 => k_is)
    (case ne_xs_33 => exact rfl)
    (case xs_33 => k_is)
    (case ne_xs_35 => exact rfl)
    (case xs_35 => k_is)
    (case ne_xs_36 => exact rfl)
    (case xs_36 => k_is)
    (case ne_xs_37 => exact rfl)
    (case xs_37 => k_is)
    (case ne_xs_38 => exact rfl)
    (case xs_38 => k_is)
    (case xs_39 => k_is)
    (case ne_xs_40 => exact rfl)
    (case xs_40 => k_is)
    (case ne_xs_42 => exact rfl)
    (case xs_42 => k_is)
    (case ne_xs_43 => exact rfl)
    (case xs_43 => k_is)
    (case ne_xs_44 => exact rfl)
    (case xs_44 => k_is)
    (case ne_xs_45 => exact rfl)
    (case xs_45 => k_is)
    (case ne_xs_46 => exact rfl)
    (case xs_46 => k_is)
    (case xs_47 => k_is)
    (case z_ValueError => k_is)
    (case z_isinstance => k_is)
    (case z_range => k_is)
    (case z_repr => k_is)
    (case z_str => k_is)
#print axioms PySem.Challenge.cw_spacewright_k04_refusals_apart_holds
end
