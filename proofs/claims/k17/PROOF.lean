import PyProof.Rows.All
import HandS.ForMost
import HandS.Style
import HandS.Flow
import HandS.Walk
import HandS.IsInst
import HandS.SortInts
import HandS.Wide
import HandS.TupAny
import HandS.RaiseMore
import HandS.Deep
import HandS.Defaults
import HandS.HeadEnd
import HandS.Iter
import HandS.WideMore
import HandS.More
import PySem.Challenge.RW_primeworth_k17_ideals
import Wide.All
import OpenK.AllK
import Wide.FinOn
import KE.KStateDown
import HandS.Head0
import HandS.Head1
import HandS.Head2
import HandS.HeadHook1
import HandS.HeadHook2
set_option Elab.async false
set_option linter.all false
set_option maxRecDepth 100000
set_option maxHeartbeats 0
set_option autoImplicit false
/-! Fd1: values as trees, a store for what is changed in place, what stands for them in the heap. -/
namespace Fd
open PySem PySem.Spec PyProof.Rows L2

abbrev Frg := PySem.W.Frag

/-- a value: tuples and lists that nobody changes are trees; a list or dict that is changed is a place of the store -/
inductive PV where
  | non | bl (b : Bool) | int (i : Int) | str (x : Str) | tup (xs : List PV) | lst (xs : List PV) | loc (n : Nat) | scr (ns : List Int)
/-- what is changed in place -/
inductive Ob where
  | lst (xs : List PV) | dic (t : Bool) (kvs : List (PV × PV))
abbrev Sto := List Ob
abbrev En := List (Option PV)

/-- where the store's places stand; Z: addresses that no value names (a list that is being made) -/
structure Ad where
  f : Nat → Addr
  Z : Addr → Prop
instance : CoeFun Ad fun _ => Nat → Addr := ⟨Ad.f⟩
def Off (ι : Ad) (n : Nat) (a : Addr) : Prop := (∀ l, l < n → ι l ≠ a) ∧ ¬ ι.Z a
/-- a tuple of the written part -/
def KTup (K : Frg) (a : Addr) (xs : List V) : Prop := ∃ (o : Obj) (its : Array Value) (n : Nat), K.lookup a = some o ∧ o.cls = .type "tuple" ∧ o.data = .seq its n ∧ its.size ≤ sizeLine ∧ Vals xs its.toList
def TupAt (K : Frg) (ι : Ad) (n : Nat) (H : Hp) (a : Addr) (ys : List V) : Prop := (H a = some (.tup ys) ∧ Off ι n a) ∨ KTup K a ys
theorem TupAt.sq {K : Frg} {ι : Ad} {n : Nat} {H : Hp} {a : Addr} {ys : List V} (h : TupAt K ι n H a ys) : SqT K H a ys := by
  rcases h with h | h
  · exact .of h.1
  · exact .inr h
def ScrAt (K : Frg) (ι : Ad) (n : Nat) (H : Hp) (a : Addr) (ys : List V) : Prop := (∃ o, H a = some (.frz o (.lst ys)) ∧ Off ι n a) ∨
  ∃ (o : Obj) (its : Array Value) (n : Nat), K.lookup a = some o ∧ o.cls = .type "list" ∧ o.dict = none ∧ o.data = .seq its n ∧ its.size ≤ sizeLine ∧ Vals ys its.toList
theorem ScrAt.sq {K : Frg} {ι : Ad} {n : Nat} {H : Hp} {a : Addr} {ys : List V} (h : ScrAt K ι n H a ys) : SqL K H a ys := by
  rcases h with ⟨o, h, _⟩ | h
  · exact .inl (.inr ⟨o, h⟩)
  · exact .inr h
mutual
def RepV (K : Frg) (ι : Ad) (n : Nat) (H : Hp) : PV → V → Prop
  | .non, v => v = .non
  | .bl b, v => v = .bl b
  | .int i, v => v = .int i
  | .str x, v => v = .str x
  | .tup xs, v => ∃ a ys, v = .ref a ∧ TupAt K ι n H a ys ∧ RepVs K ι n H xs ys
  | .lst xs, v => ∃ a ys, v = .ref a ∧ (H a = some (.lst ys) ∧ Off ι n a) ∧ RepVs K ι n H xs ys
  | .loc l, v => l < n ∧ v = .ref (ι l)
  | .scr ns, v => ∃ a, v = .ref a ∧ ScrAt K ι n H a (ns.map V.int)
def RepVs (K : Frg) (ι : Ad) (n : Nat) (H : Hp) : List PV → List V → Prop
  | [], ys => ys = []
  | x :: xs, ys => ∃ y r, ys = y :: r ∧ RepV K ι n H x y ∧ RepVs K ι n H xs r
end

/-- the heap has grown: what is tracked stays, but for the store's places -/
structure Ext (ι : Ad) (n : Nat) (H : Hp) (ι' : Ad) (n' : Nat) (H' : Hp) : Prop where
  le : n ≤ n'
  same : ∀ l, l < n → ι' l = ι l
  keep : ∀ b o, H b = some o → (∀ l, l < n → ι l ≠ b) → H' b = some o
  dom : ∀ b, H b ≠ none → H' b ≠ none
  new : ∀ l, n ≤ l → l < n' → H (ι' l) = none
  zup : ∀ a, ι.Z a → ι'.Z a
  zdn : ∀ a, ι'.Z a → ι.Z a ∨ H a = none

theorem Ext.refl {ι : Ad} {n : Nat} {H : Hp} : Ext ι n H ι n H := ⟨Nat.le_refl _, fun _ _ => rfl, fun _ _ h _ => h, fun _ h => h, fun _ h1 h2 => absurd h2 (by omega), fun _ h => h, fun _ h => .inl h⟩

section
variable {K : Frg} {ι ι1 ι2 : Ad} {n n1 n2 : Nat} {H H1 H2 : Hp}
theorem Ext.off1 (e : Ext ι n H ι1 n1 H1) {a : Addr} {o : HO} (h : H a = some o) (g : ∀ l, l < n → ι l ≠ a) : ∀ l, l < n1 → ι1 l ≠ a := fun l hl z => by
  by_cases hn : l < n
  · exact g l hn ((e.same l hn).symm.trans z)
  · have q := e.new l (by omega) hl
    rw [z, h] at q
    cases q
theorem Ext.off (e : Ext ι n H ι1 n1 H1) {a : Addr} {o : HO} (h : H a = some o) (g : Off ι n a) : Off ι1 n1 a := ⟨e.off1 h g.1, fun z => (e.zdn a z).elim g.2 fun q => by rw [h] at q; cases q⟩
theorem Ext.trans (a : Ext ι n H ι1 n1 H1) (b : Ext ι1 n1 H1 ι2 n2 H2) : Ext ι n H ι2 n2 H2 where
  le := Nat.le_trans a.le b.le
  same := fun l hl => (b.same l (Nat.lt_of_lt_of_le hl a.le)).trans (a.same l hl)
  zup := fun c z => b.zup c (a.zup c z)
  zdn := fun c z => (b.zdn c z).elim (a.zdn c) fun q => .inr (by
    cases w : H c with
    | none => rfl
    | some o => exact absurd q (a.dom c (by rw [w]; exact fun k => nomatch k)))
  keep := fun c o h g => b.keep c o (a.keep c o h g) (a.off1 h g)
  dom := fun c h => b.dom c (a.dom c h)
  new := fun l h1 h2 => by
    by_cases hl : l < n1
    · rw [b.same l hl]
      exact a.new l h1 hl
    · have q := b.new l (by omega) h2
      cases z : H (ι2 l) with
      | none => rfl
      | some o => exact absurd q (a.dom _ (by rw [z]; exact fun k => nomatch k))
theorem TupAt.mono (e : Ext ι n H ι1 n1 H1) {a : Addr} {ys : List V} (h : TupAt K ι n H a ys) : TupAt K ι1 n1 H1 a ys := by
  rcases h with ⟨h, g⟩ | h
  · exact .inl ⟨e.keep a _ h g.1, e.off h g⟩
  · exact .inr h
mutual
theorem RepV.mono (e : Ext ι n H ι1 n1 H1) : ∀ {x : PV} {v : V}, RepV K ι n H x v → RepV K ι1 n1 H1 x v
  | .non, _, h => h
  | .bl _, _, h => h
  | .int _, _, h => h
  | .str _, _, h => h
  | .tup xs, v, h => by
    obtain ⟨a, ys, rfl, t, r⟩ := h
    exact ⟨a, ys, rfl, t.mono e, RepVs.mono e r⟩
  | .lst xs, v, h => by
    obtain ⟨a, ys, rfl, ⟨t, g⟩, r⟩ := h
    exact ⟨a, ys, rfl, ⟨e.keep a _ t g.1, e.off t g⟩, RepVs.mono e r⟩
  | .loc l, v, h => by
    obtain ⟨h, rfl⟩ := h
    exact ⟨Nat.lt_of_lt_of_le h e.le, by rw [e.same l h]⟩
  | .scr ns, v, h => by
    obtain ⟨a, rfl, ⟨o, s, g⟩ | s⟩ := h
    · exact ⟨a, rfl, .inl ⟨o, e.keep a _ s g.1, e.off s g⟩⟩
    · exact ⟨a, rfl, .inr s⟩
theorem RepVs.mono (e : Ext ι n H ι1 n1 H1) : ∀ {xs : List PV} {vs : List V}, RepVs K ι n H xs vs → RepVs K ι1 n1 H1 xs vs
  | [], _, h => h
  | x :: xs, _, h => by
    obtain ⟨y, r, rfl, h1, h2⟩ := h
    exact ⟨y, r, rfl, RepV.mono e h1, RepVs.mono e h2⟩
end

/-- the same, but the private places may have been changed -/
structure ExtP (ι : Ad) (n : Nat) (H : Hp) (ι' : Ad) (n' : Nat) (H' : Hp) : Prop where
  le : n ≤ n'
  same : ∀ l, l < n → ι' l = ι l
  keep : ∀ b o, H b = some o → (∀ l, l < n → ι l ≠ b) → ¬ ι.Z b → H' b = some o
  dom : ∀ b, H b ≠ none → H' b ≠ none
  new : ∀ l, n ≤ l → l < n' → H (ι' l) = none
  zup : ∀ a, ι.Z a → ι'.Z a
  zdn : ∀ a, ι'.Z a → ι.Z a ∨ H a = none
theorem Ext.p {ι ι' : Ad} {n n' : Nat} {H H' : Hp} (e : Ext ι n H ι' n' H') : ExtP ι n H ι' n' H' := ⟨e.le, e.same, fun b o h g _ => e.keep b o h g, e.dom, e.new, e.zup, e.zdn⟩
section
variable {K : Frg} {ι ι1 ι2 : Ad} {n n1 n2 : Nat} {H H1 H2 : Hp}
theorem ExtP.off1 (e : ExtP ι n H ι1 n1 H1) {a : Addr} {o : HO} (h : H a = some o) (g : ∀ l, l < n → ι l ≠ a) : ∀ l, l < n1 → ι1 l ≠ a := fun l hl z => by
  by_cases hn : l < n
  · exact g l hn ((e.same l hn).symm.trans z)
  · have q := e.new l (by omega) hl
    rw [z, h] at q
    cases q
theorem ExtP.off (e : ExtP ι n H ι1 n1 H1) {a : Addr} {o : HO} (h : H a = some o) (g : Off ι n a) : Off ι1 n1 a := ⟨e.off1 h g.1, fun z => (e.zdn a z).elim g.2 fun q => by rw [h] at q; cases q⟩
theorem ExtP.trans (a : ExtP ι n H ι1 n1 H1) (b : ExtP ι1 n1 H1 ι2 n2 H2) : ExtP ι n H ι2 n2 H2 where
  le := Nat.le_trans a.le b.le
  same := fun l hl => (b.same l (Nat.lt_of_lt_of_le hl a.le)).trans (a.same l hl)
  zup := fun c z => b.zup c (a.zup c z)
  zdn := fun c z => (b.zdn c z).elim (a.zdn c) fun q => .inr (by
    cases w : H c with
    | none => rfl
    | some o => exact absurd q (a.dom c (by rw [w]; exact fun k => nomatch k)))
  keep := fun c o h g z => b.keep c o (a.keep c o h g z) (a.off1 h g) fun z1 => (a.zdn c z1).elim z fun q => by rw [h] at q; cases q
  dom := fun c h => b.dom c (a.dom c h)
  new := fun l h1 h2 => by
    by_cases hl : l < n1
    · rw [b.same l hl]
      exact a.new l h1 hl
    · have q := b.new l (by omega) h2
      cases z : H (ι2 l) with
      | none => rfl
      | some o => exact absurd q (a.dom _ (by rw [z]; exact fun k => nomatch k))
theorem TupAt.monoP (e : ExtP ι n H ι1 n1 H1) {a : Addr} {ys : List V} (h : TupAt K ι n H a ys) : TupAt K ι1 n1 H1 a ys := by
  rcases h with ⟨h, g⟩ | h
  · exact .inl ⟨e.keep a _ h g.1 g.2, e.off h g⟩
  · exact .inr h
mutual
theorem RepV.monoP (e : ExtP ι n H ι1 n1 H1) : ∀ {x : PV} {v : V}, RepV K ι n H x v → RepV K ι1 n1 H1 x v
  | .non, _, h => h
  | .bl _, _, h => h
  | .int _, _, h => h
  | .str _, _, h => h
  | .tup xs, v, h => by
    obtain ⟨a, ys, rfl, t, r⟩ := h
    exact ⟨a, ys, rfl, t.monoP e, RepVs.monoP e r⟩
  | .lst xs, v, h => by
    obtain ⟨a, ys, rfl, ⟨t, g⟩, r⟩ := h
    exact ⟨a, ys, rfl, ⟨e.keep a _ t g.1 g.2, e.off t g⟩, RepVs.monoP e r⟩
  | .loc l, v, h => by
    obtain ⟨h, rfl⟩ := h
    exact ⟨Nat.lt_of_lt_of_le h e.le, by rw [e.same l h]⟩
  | .scr ns, v, h => by
    obtain ⟨a, rfl, ⟨o, s, g⟩ | s⟩ := h
    · exact ⟨a, rfl, .inl ⟨o, e.keep a _ s g.1 g.2, e.off s g⟩⟩
    · exact ⟨a, rfl, .inr s⟩
theorem RepVs.monoP (e : ExtP ι n H ι1 n1 H1) : ∀ {xs : List PV} {vs : List V}, RepVs K ι n H xs vs → RepVs K ι1 n1 H1 xs vs
  | [], _, h => h
  | x :: xs, _, h => by
    obtain ⟨y, r, rfl, h1, h2⟩ := h
    exact ⟨y, r, rfl, RepV.monoP e h1, RepVs.monoP e h2⟩
end
end

/-! ### the store -/
def keyOf : PV → Option Key
  | .int i => some (.inl i)
  | .str x => some (.inr x)
  | _ => none
def keysOf : List PV → Option (List Key)
  | [] => some []
  | x :: xs => match keyOf x, keysOf xs with
    | some k, some ks => some (k :: ks)
    | _, _ => none
def tkeyOf : PV → Option (List Key)
  | .tup xs => keysOf xs
  | _ => none
/-- a dict's pairs by their keys -/
def RepKs {κ : Type} (K : Frg) (ι : Ad) (n : Nat) (H : Hp) (key : PV → Option κ) : List (PV × PV) → List (κ × V) → Prop
  | [], ys => ys = []
  | (k, x) :: xs, ys => ∃ q y r, ys = (q, y) :: r ∧ key k = some q ∧ RepV K ι n H x y ∧ RepKs K ι n H key xs r
def RepO (K : Frg) (ι : Ad) (n : Nat) (H : Hp) (a : Addr) : Ob → Prop
  | .lst xs => ∃ ys, H a = some (.lst ys) ∧ RepVs K ι n H xs ys
  | .dic false kvs => ∃ ys, H a = some (.dK ys) ∧ RepKs K ι n H keyOf kvs ys
  | .dic true kvs => ∃ ys, H a = some (.dT ys) ∧ RepKs K ι n H tkeyOf kvs ys
structure RepS (K : Frg) (ι : Ad) (H : Hp) (μ : Sto) : Prop where
  inj : ∀ i j, i < μ.length → j < μ.length → ι i = ι j → i = j
  obj : ∀ (l : Nat) (o : Ob), μ[l]? = some o → RepO K ι μ.length H (ι l) o
  zin : ∀ a, ι.Z a → H a ≠ none
  zap : ∀ l, l < μ.length → ¬ ι.Z (ι l)
/-- the slots: what is known of them -/
structure RepE (K : Frg) (ι : Ad) (n : Nat) (H : Hp) (ρ : En) (σ : L2.St) : Prop where
  len : σ.length = ρ.length
  at_ : ∀ (i : Nat) (x : PV), ρ[i]? = some (some x) → ∃ v, σ[i]? = some (some v) ∧ RepV K ι n H x v

theorem RepKs.mono {κ : Type} {key : PV → Option κ} (e : Ext ι n H ι1 n1 H1) : ∀ {xs : List (PV × PV)} {ys : List (κ × V)}, RepKs K ι n H key xs ys → RepKs K ι1 n1 H1 key xs ys
  | [], _, h => h
  | (k, x) :: xs, _, h => by
    obtain ⟨q, y, r, rfl, hk, h1, h2⟩ := h
    exact ⟨q, y, r, rfl, hk, RepV.mono e h1, RepKs.mono e h2⟩
theorem RepE.mono {ρ : En} {σ : L2.St} (e : Ext ι n H ι1 n1 H1) (h : RepE K ι n H ρ σ) : RepE K ι1 n1 H1 ρ σ :=
  ⟨h.len, fun i x hx => let ⟨v, h1, h2⟩ := h.at_ i x hx; ⟨v, h1, h2.mono e⟩⟩
theorem RepE.set {ρ : En} {σ : L2.St} (h : RepE K ι n H ρ σ) (i : Nat) {x : PV} {v : V} (r : RepV K ι n H x v) : RepE K ι n H (ρ.set i (some x)) (σ.set i (some v)) := by
  refine ⟨by rw [List.length_set, List.length_set, h.len], fun j y hy => ?_⟩
  by_cases hj : i = j
  · subst hj
    by_cases hi : i < ρ.length
    · rw [List.getElem?_set_self hi] at hy
      cases hy
      exact ⟨v, List.getElem?_set_self (by rw [h.len]; exact hi), r⟩
    · rw [List.getElem?_eq_none (by rw [List.length_set]; omega)] at hy
      cases hy
  · rw [List.getElem?_set_ne hj] at hy
    obtain ⟨w, h1, h2⟩ := h.at_ j y hy
    exact ⟨w, by rw [List.getElem?_set_ne hj]; exact h1, h2⟩
/-- slots forgotten -/
theorem RepE.wipe1 {ρ : En} {σ : L2.St} (h : RepE K ι n H ρ σ) (i : Nat) (o : Option V) : RepE K ι n H (ρ.set i none) (σ.set i o) := by
  refine ⟨by rw [List.length_set, List.length_set, h.len], fun j y hy => ?_⟩
  by_cases hj : i = j
  · subst hj
    by_cases hi : i < ρ.length
    · rw [List.getElem?_set_self hi] at hy
      cases hy
    · rw [List.getElem?_eq_none (by rw [List.length_set]; omega)] at hy
      cases hy
  · rw [List.getElem?_set_ne hj] at hy
    obtain ⟨w, h1, h2⟩ := h.at_ j y hy
    exact ⟨w, by rw [List.getElem?_set_ne hj]; exact h1, h2⟩
def wipeE (ρ : En) : List Nat → En
  | [] => ρ
  | v :: vs => (wipeE ρ vs).set v none
theorem RepE.wipe {ρ : En} {σ : L2.St} (h : RepE K ι n H ρ σ) : ∀ vs : List Nat, RepE K ι n H (wipeE ρ vs) (L2.wipe σ vs)
  | [] => h
  | v :: vs => (RepE.wipe h vs).wipe1 v none

theorem RepS.some {μ : Sto} (S : RepS K ι H μ) {l : Nat} (h : l < μ.length) : ∃ o, H (ι l) = some o := by
  have q := S.obj l μ[l] (by simp [h])
  cases e : μ[l] with
  | lst xs => rw [e] at q; obtain ⟨ys, q, _⟩ := q; exact ⟨_, q⟩
  | dic t kvs => cases t <;> (rw [e] at q; obtain ⟨ys, q, _⟩ := q; exact ⟨_, q⟩)
theorem RepO.mono {a : Addr} {o : Ob} (e : Ext ι n H ι1 n1 H1) (ha : H1 a = H a) (h : RepO K ι n H a o) : RepO K ι1 n1 H1 a o := by
  cases o with
  | lst xs => obtain ⟨ys, q, r⟩ := h; exact ⟨ys, ha.trans q, RepVs.mono e r⟩
  | dic t kvs => cases t <;> (obtain ⟨ys, q, r⟩ := h; exact ⟨ys, ha.trans q, RepKs.mono e r⟩)

/-! three steps of the heap -/
/-- a new object that the store does not hold -/
theorem Ext.new1 {μ : Sto} (S : RepS K ι H μ) {p : Addr} {o : HO} (hp : H p = none) : Ext ι μ.length H ι μ.length (upd H p o) where
  le := Nat.le_refl _
  same := fun _ _ => rfl
  keep := fun b u h _ => by rw [upd_ne (ne_of_none h hp)]; exact h
  dom := fun b h => by
    by_cases e : b = p
    · subst e; exact absurd hp h
    · rw [upd_ne e]; exact h
  new := fun _ h1 h2 => absurd h2 (by omega)
  zup := fun _ h => h
  zdn := fun _ h => .inl h
theorem RepS.new1 {μ : Sto} (S : RepS K ι H μ) {p : Addr} {o : HO} (hp : H p = none) : RepS K ι (upd H p o) μ :=
  ⟨S.inj, fun l ob h => by
    have hl : l < μ.length := (List.getElem?_eq_some_iff.mp h).1
    obtain ⟨u, hu⟩ := S.some hl
    exact (S.obj l ob h).mono (Ext.new1 S hp) (upd_ne (ne_of_none hu hp)), fun a z => (Ext.new1 S hp).dom a (S.zin a z), S.zap⟩
theorem RepS.off1 {μ : Sto} (S : RepS K ι H μ) {p : Addr} (hp : H p = none) : ∀ l, l < μ.length → ι l ≠ p := fun l hl e => by
  obtain ⟨u, hu⟩ := S.some hl
  rw [e, hp] at hu
  cases hu
theorem RepS.off {μ : Sto} (S : RepS K ι H μ) {p : Addr} (hp : H p = none) : Off ι μ.length p := ⟨S.off1 hp, fun z => S.zin p z hp⟩
/-- a new place of the store -/
def addI (ι : Ad) (n : Nat) (p : Addr) : Ad := ⟨fun l => if l = n then p else ι l, ι.Z⟩
theorem addI_lt {l : Nat} {p : Addr} (h : l < n) : addI ι n p l = ι l := if_neg (by omega)
theorem addI_at {p : Addr} : addI ι n p n = p := if_pos rfl
theorem Ext.add {μ : Sto} (S : RepS K ι H μ) {p : Addr} {o : HO} (hp : H p = none) : Ext ι μ.length H (addI ι μ.length p) (μ.length + 1) (upd H p o) where
  le := Nat.le_succ _
  same := fun l hl => addI_lt hl
  keep := fun b u h _ => by rw [upd_ne (ne_of_none h hp)]; exact h
  dom := fun b h => by
    by_cases e : b = p
    · subst e; exact absurd hp h
    · rw [upd_ne e]; exact h
  new := fun l h1 h2 => by
    have : l = μ.length := by omega
    subst this
    rw [addI_at]; exact hp
  zup := fun _ h => h
  zdn := fun _ h => .inl h
theorem RepS.add {μ : Sto} (S : RepS K ι H μ) {p : Addr} {o : HO} {ob : Ob} (hp : H p = none) (r : RepO K (addI ι μ.length p) (μ.length + 1) (upd H p o) p ob) :
    RepS K (addI ι μ.length p) (upd H p o) (μ ++ [ob]) := by
  refine ⟨fun i j hi hj e => ?_, fun l u h => ?_, fun a z => (Ext.add S hp).dom a (S.zin a z), fun l hl z => ?_⟩
  · rw [List.length_append, List.length_singleton] at hi hj
    by_cases h1 : i < μ.length
    · by_cases h2 : j < μ.length
      · rw [addI_lt h1, addI_lt h2] at e
        exact S.inj i j h1 h2 e
      · have : j = μ.length := by omega
        subst this
        rw [addI_lt h1, addI_at] at e
        exact absurd e (S.off1 hp i h1)
    · have : i = μ.length := by omega
      subst this
      by_cases h2 : j < μ.length
      · rw [addI_at, addI_lt h2] at e
        exact absurd e.symm (S.off1 hp j h2)
      · omega
  · rw [List.length_append, List.length_singleton]
    by_cases h1 : l < μ.length
    · rw [List.getElem?_append_left h1] at h
      rw [addI_lt h1]
      obtain ⟨w, hw⟩ := S.some h1
      exact (S.obj l u h).mono (Ext.add S hp) (upd_ne (ne_of_none hw hp))
    · have hl : l = μ.length := by
        have := (List.getElem?_eq_some_iff.mp h).1
        rw [List.length_append, List.length_singleton] at this
        omega
      subst hl
      rw [List.getElem?_append_right (Nat.le_refl _), Nat.sub_self] at h
      cases h
      rw [addI_at]
      exact r
  · rw [List.length_append, List.length_singleton] at hl
    have z : ι.Z (addI ι μ.length p l) := z
    by_cases h1 : l < μ.length
    · rw [addI_lt h1] at z
      exact S.zap l h1 z
    · have : l = μ.length := by omega
      subst this
      rw [addI_at] at z
      exact S.zin p z hp
/-- a place of the store is changed -/
theorem Ext.put {μ : Sto} (S : RepS K ι H μ) {l : Nat} (hl : l < μ.length) {o : HO} : Ext ι μ.length H ι μ.length (upd H (ι l) o) where
  le := Nat.le_refl _
  same := fun _ _ => rfl
  keep := fun b u h g => by rw [upd_ne (g l hl).symm]; exact h
  dom := fun b h => by
    by_cases e : b = ι l
    · rw [e, upd_same]; exact fun k => nomatch k
    · rw [upd_ne e]; exact h
  new := fun _ h1 h2 => absurd h2 (by omega)
  zup := fun _ h => h
  zdn := fun _ h => .inl h
theorem RepS.put {μ : Sto} (S : RepS K ι H μ) {l : Nat} (hl : l < μ.length) {o : HO} {ob : Ob} (r : RepO K ι μ.length (upd H (ι l) o) (ι l) ob) :
    RepS K ι (upd H (ι l) o) (μ.set l ob) := by
  refine ⟨fun i j hi hj => ?_, fun k u h => ?_, fun a z => (Ext.put S hl).dom a (S.zin a z), fun k hk => S.zap k (by rw [List.length_set] at hk; exact hk)⟩
  · rw [List.length_set] at hi hj
    exact S.inj i j hi hj
  · rw [List.length_set]
    by_cases hk : l = k
    · subst hk
      rw [List.getElem?_set_self hl] at h
      cases h
      exact r
    · rw [List.getElem?_set_ne hk] at h
      have hk' : k < μ.length := (List.getElem?_eq_some_iff.mp h).1
      exact (S.obj k u h).mono (Ext.put S hl) (upd_ne fun e => hk (S.inj l k hl hk' e.symm))

/-! ### lists of values -/
theorem RepVs.length : ∀ {xs : List PV} {ys : List V}, RepVs K ι n H xs ys → xs.length = ys.length
  | [], _, h => by cases h; rfl
  | x :: xs, _, h => by
    obtain ⟨y, r, rfl, _, h2⟩ := h
    rw [List.length_cons, List.length_cons, RepVs.length h2]
theorem RepVs.get : ∀ {xs : List PV} {ys : List V} {i : Nat} {x : PV}, RepVs K ι n H xs ys → xs[i]? = some x → ∃ y, ys[i]? = some y ∧ RepV K ι n H x y
  | [], _, _, _, _, e => by simp at e
  | x :: xs, _, 0, z, h, e => by
    obtain ⟨y, r, rfl, h1, _⟩ := h
    simp at e; subst e
    exact ⟨y, rfl, h1⟩
  | x :: xs, _, i + 1, z, h, e => by
    obtain ⟨y, r, rfl, _, h2⟩ := h
    obtain ⟨w, h3, h4⟩ := RepVs.get (i := i) h2 (by simpa using e)
    exact ⟨w, by simpa using h3, h4⟩
theorem RepVs.append : ∀ {xs xs' : List PV} {ys ys' : List V}, RepVs K ι n H xs ys → RepVs K ι n H xs' ys' → RepVs K ι n H (xs ++ xs') (ys ++ ys')
  | [], _, _, _, h, g => by cases h; exact g
  | x :: xs, _, _, _, h, g => by
    obtain ⟨y, r, rfl, h1, h2⟩ := h
    exact ⟨y, r ++ _, rfl, h1, RepVs.append h2 g⟩
theorem RepVs.take : ∀ (k : Nat) {xs : List PV} {ys : List V}, RepVs K ι n H xs ys → RepVs K ι n H (xs.take k) (ys.take k)
  | 0, _, _, _ => rfl
  | k + 1, [], _, h => by cases h; rfl
  | k + 1, x :: xs, _, h => by
    obtain ⟨y, r, rfl, h1, h2⟩ := h
    exact ⟨y, r.take k, rfl, h1, RepVs.take k h2⟩
theorem RepVs.drop : ∀ (k : Nat) {xs : List PV} {ys : List V}, RepVs K ι n H xs ys → RepVs K ι n H (xs.drop k) (ys.drop k)
  | 0, _, _, h => h
  | k + 1, [], _, h => by cases h; rfl
  | k + 1, x :: xs, _, h => by
    obtain ⟨y, r, rfl, h1, h2⟩ := h
    exact RepVs.drop k h2
theorem RepVs.set : ∀ {xs : List PV} {ys : List V} (i : Nat) {x : PV} {y : V}, RepV K ι n H x y → RepVs K ι n H xs ys → RepVs K ι n H (xs.set i x) (ys.set i y)
  | [], _, _, _, _, _, h => by cases h; rfl
  | x :: xs, _, 0, _, _, g, h => by
    obtain ⟨y, r, rfl, h1, h2⟩ := h
    exact ⟨_, r, rfl, g, h2⟩
  | x :: xs, _, i + 1, _, _, g, h => by
    obtain ⟨y, r, rfl, h1, h2⟩ := h
    exact ⟨y, r.set i _, rfl, h1, RepVs.set i g h2⟩
theorem RepVs.reverse : ∀ {xs : List PV} {ys : List V}, RepVs K ι n H xs ys → RepVs K ι n H xs.reverse ys.reverse
  | [], _, h => by cases h; rfl
  | x :: xs, _, h => by
    obtain ⟨y, r, rfl, h1, h2⟩ := h
    rw [List.reverse_cons, List.reverse_cons]
    exact RepVs.append (RepVs.reverse h2) ⟨y, [], rfl, h1, rfl⟩
theorem RepVs.cons {x : PV} {y : V} {xs : List PV} {ys : List V} (h : RepV K ι n H x y) (g : RepVs K ι n H xs ys) : RepVs K ι n H (x :: xs) (y :: ys) := ⟨y, ys, rfl, h, g⟩
theorem RepVs.one {x : PV} {y : V} (h : RepV K ι n H x y) : RepVs K ι n H [x] [y] := .cons h rfl
theorem RepVs.dropLast {xs : List PV} {ys : List V} (h : RepVs K ι n H xs ys) : RepVs K ι n H xs.dropLast ys.dropLast := by
  rw [List.dropLast_eq_take, List.dropLast_eq_take, ← h.length]
  exact h.take _
theorem RepVs.rep {xs : List PV} {ys : List V} (h : RepVs K ι n H xs ys) : ∀ k : Nat, RepVs K ι n H (List.replicate k xs).flatten (List.replicate k ys).flatten
  | 0 => rfl
  | k + 1 => by
    rw [List.replicate_succ, List.replicate_succ, List.flatten_cons, List.flatten_cons]
    exact h.append (RepVs.rep h k)
end
end Fd

/-! Fd2: denotations, their readings; operators, comparisons, tests. -/
namespace Fd
open PySem PySem.Spec PyProof.Rows L2

abbrev Den := En → Sto → Option (PV × Sto)
abbrev DenT := En → Sto → Option (Bool × Sto)
abbrev DenA := En → Sto → Option (List PV × Sto)

/-- what is wanted behind a value -/
abbrev Aft (K : Frg) (ι : Ad) (μ : Sto) (H : Hp) (v : PV) (μ' : Sto) (Q : VK) : Prop := ∀ hv ι' H', Ext ι μ.length H ι' μ'.length H' → RepV K ι' μ'.length H' v hv → RepS K ι' H' μ' → Q hv H'
abbrev AftT (K : Frg) (ι : Ad) (μ : Sto) (H : Hp) (b : Bool) (μ' : Sto) (Q : Bool → Hp → Prop) : Prop := ∀ ι' H', Ext ι μ.length H ι' μ'.length H' → RepS K ι' H' μ' → Q b H'
abbrev AftA (K : Frg) (ι : Ad) (μ : Sto) (H : Hp) (vs : List PV) (μ' : Sto) (Q : List V → Hp → Prop) : Prop := ∀ hs ι' H', Ext ι μ.length H ι' μ'.length H' → RepVs K ι' μ'.length H' vs hs → RepS K ι' H' μ' → Q hs H'

def tD (K : Frg) (d : Den) : TE := fun σ H Q => ∃ ι ρ μ v μ', RepE K ι μ.length H ρ σ ∧ RepS K ι H μ ∧ d ρ μ = some (v, μ') ∧ Aft K ι μ H v μ' Q
def tT (K : Frg) (d : DenT) : TT := fun σ H Q => ∃ ι ρ μ b μ', RepE K ι μ.length H ρ σ ∧ RepS K ι H μ ∧ d ρ μ = some (b, μ') ∧ AftT K ι μ H b μ' Q
def tA (K : Frg) (d : DenA) : TA := fun σ H Q => ∃ ι ρ μ vs μ', RepE K ι μ.length H ρ σ ∧ RepS K ι H μ ∧ d ρ μ = some (vs, μ') ∧ AftA K ι μ H vs μ' Q

section
variable {X : Cx} {e : Expr}
theorem _root_.L2.PE.weak {t t' : TE} (h : PE X e t) (g : ∀ σ H Q, t' σ H Q → t σ H Q) : PE X e t' := ⟨fun pins s σ H Q I q => h.run pins s σ H Q I (g σ H Q q)⟩
theorem _root_.L2.PT.weak {t t' : TT} (h : PT X e t) (g : ∀ σ H Q, t' σ H Q → t σ H Q) : PT X e t' := ⟨fun pins s σ H Q I q => h.run pins s σ H Q I (g σ H Q q)⟩
theorem _root_.L2.PW.weak {t t' : TT} (h : PW X e t) (g : ∀ σ H Q, t' σ H Q → t σ H Q) : PW X e t' := ⟨fun wh pins s σ H Q I q => h.run wh pins s σ H Q I (g σ H Q q)⟩
theorem _root_.L2.PA.weak {es : List Expr} {t t' : TA} (h : PA X es t) (g : ∀ σ H Q, t' σ H Q → t σ H Q) : PA X es t' := ⟨fun pos pins s σ H Q I q => h.run pos pins s σ H Q I (g σ H Q q)⟩
theorem _root_.L2.PS.weak {st : Stmt} {t t' : TS} (h : PS X st t) (g : ∀ D σ H, t' D σ H → t D σ H) : PS X st t' := ⟨fun pins s σ H D I q => h.run pins s σ H D I (g D σ H q)⟩
theorem _root_.L2.PSs.weak {st : List Stmt} {t t' : TS} (h : PSs X st t) (g : ∀ D σ H, t' D σ H → t D σ H) : PSs X st t' := ⟨fun pins s σ H D I q => h.run pins s σ H D I (g D σ H q)⟩
end

/-! ### names, constants -/
def cVar (i : Nat) : Den := fun ρ μ => match ρ[i]? with
  | some (some v) => some (v, μ)
  | _ => none
def cK (v : PV) : Den := fun _ μ => some (v, μ)
theorem Aft.pure {K : Frg} {ι : Ad} {μ : Sto} {H : Hp} {v : PV} {Q : VK} (S : RepS K ι H μ) (q : Aft K ι μ H v μ Q) {hv : V} (r : RepV K ι μ.length H v hv) : Q hv H := q hv ι H .refl r S
theorem t_var {K : Frg} {i : Nat} (σ : L2.St) (H : Hp) (Q : VK) (h : tD K (cVar i) σ H Q) : tVar i σ H Q := by
  obtain ⟨ι, ρ, μ, v, μ', E, S, d, q⟩ := h
  unfold cVar at d
  split at d
  · rename_i w hw
    cases d
    obtain ⟨u, h1, h2⟩ := E.at_ i _ hw
    exact ⟨u, h1, q.pure S h2⟩
  · cases d
section
variable {X : Cx}
theorem e_var (i : Nat) {x : Str} {pos : Pos} (hN : X.N[i]? = some x := by rfl) (hv : Vis X.env.scope x := by first | exact Or.inl rfl | exact Or.inr (Or.inl rfl) | exact Or.inr (Or.inr rfl)) (hd : (x == ("__debug__" : Str)) = false := by decide)
    (hcd : (x == ("__classdict__" : Str)) = false := by decide) : PE X (.Name x pos) (tD X.K (cVar i)) := (pe_var hN hv hd hcd).weak t_var
theorem t_c {K : Frg} {v : PV} {u : V} (r : ∀ ι n H, RepV K ι n H v u) (σ : L2.St) (H : Hp) (Q : VK) (h : tD K (cK v) σ H Q) : tC u σ H Q := by
  obtain ⟨ι, ρ, μ, w, μ', E, S, d, q⟩ := h
  cases d
  exact q.pure S (r _ _ _)
theorem e_int {i : Int} {j pos} : PE X (.Constant (.int i) j pos) (tD X.K (cK (.int i))) := pe_int.weak (t_c fun _ _ _ => rfl)
theorem e_bl {b j pos} : PE X (.Constant (.bool b) j pos) (tD X.K (cK (.bl b))) := pe_bl.weak (t_c fun _ _ _ => rfl)
theorem e_non {j pos} : PE X (.Constant .none j pos) (tD X.K (cK .non)) := pe_non.weak (t_c fun _ _ _ => rfl)
theorem e_str {x j pos} : PE X (.Constant (.str x) j pos) (tD X.K (cK (.str x))) := pe_str.weak (t_c fun _ _ _ => rfl)
/-- a module's constant: an int -/
theorem e_gint {x : Str} {i : Int} {t : Tok} {pos : Pos} (hg : Gl X x) (hm : X.mg x = some (.int i t)) (hd : (x == ("__debug__" : Str)) = false := by decide) : PE X (.Name x pos) (tD X.K (cK (.int i))) :=
  (pe_glob (v := .int i) hg hm ⟨t, rfl⟩ hd).weak (t_c fun _ _ _ => rfl)
/-- a module's constant: a tuple of ints -/
theorem ktup_rep {K : Frg} {ι : Ad} {n : Nat} {H : Hp} {a : Addr} : ∀ {ns : List Int}, KTup K a (ns.map V.int) → RepV K ι n H (.tup (ns.map PV.int)) (.ref a) := fun {ns} h => by
  refine ⟨a, ns.map V.int, rfl, .inr h, ?_⟩
  clear h
  induction ns with
  | nil => rfl
  | cons k r ih => exact ⟨.int k, r.map V.int, rfl, rfl, ih⟩
theorem e_gtup {x : Str} {a : Addr} {ns : List Int} {pos : Pos} (hg : Gl X x) (hm : X.mg x = some (.ref a)) (hk : KTup X.K a (ns.map V.int)) (hd : (x == ("__debug__" : Str)) = false := by decide) : PE X (.Name x pos) (tD X.K (cK (.tup (ns.map PV.int)))) :=
  (pe_glob (v := .ref a) hg hm rfl hd).weak (t_c fun _ _ _ => ktup_rep hk)
end

/-! ### one, two values -/
abbrev Op1 := PV → Sto → Option (PV × Sto)
abbrev Op2 := PV → PV → Sto → Option (PV × Sto)
def d1 (f : Op1) (da : Den) : Den := fun ρ μ => (da ρ μ).bind fun p => f p.1 p.2
def d2 (f : Op2) (da db : Den) : Den := fun ρ μ => (da ρ μ).bind fun p => (db ρ p.2).bind fun q => f p.1 q.1 q.2
def S1 (K : Frg) (r : V → Hp → VK → Prop) (f : Op1) : Prop := ∀ ι H μ x v μ' hx (Q : VK), RepS K ι H μ → RepV K ι μ.length H x hx → f x μ = some (v, μ') → Aft K ι μ H v μ' Q → r hx H Q
def S2 (K : Frg) (r : R2) (f : Op2) : Prop := ∀ ι H μ x y v μ' hx hy (Q : VK), RepS K ι H μ → RepV K ι μ.length H x hx → RepV K ι μ.length H y hy → f x y μ = some (v, μ') → Aft K ι μ H v μ' Q → r hx hy H Q
section
variable {K : Frg} {ι ι1 : Ad} {μ μ1 μ' : Sto} {H H1 : Hp} {v : PV} {Q : VK}
theorem Aft.mono (e : Ext ι μ.length H ι1 μ1.length H1) (q : Aft K ι μ H v μ' Q) : Aft K ι1 μ1 H1 v μ' Q := fun hv ι' H' X R S => q hv ι' H' (e.trans X) R S
theorem AftT.mono {b : Bool} {Q : Bool → Hp → Prop} (e : Ext ι μ.length H ι1 μ1.length H1) (q : AftT K ι μ H b μ' Q) : AftT K ι1 μ1 H1 b μ' Q := fun ι' H' X S => q ι' H' (e.trans X) S
theorem AftA.mono {vs : List PV} {Q : List V → Hp → Prop} (e : Ext ι μ.length H ι1 μ1.length H1) (q : AftA K ι μ H vs μ' Q) : AftA K ι1 μ1 H1 vs μ' Q := fun hv ι' H' X R S => q hv ι' H' (e.trans X) R S
end
section
variable {K : Frg} {σ : L2.St} {H : Hp} {Q : VK}
theorem t_1 {f : Op1} {da : Den} {r : V → Hp → VK → Prop} (hr : S1 K r f) (h : tD K (d1 f da) σ H Q) : tUn r (tD K da) σ H Q := by
  obtain ⟨ι, ρ, μ, v, μ', E, S, d, q⟩ := h
  obtain ⟨⟨x, μ1⟩, e1, e2⟩ := Option.bind_eq_some_iff.mp d
  exact ⟨ι, ρ, μ, x, μ1, E, S, e1, fun hx ι1 H1 X1 R1 S1 => hr ι1 H1 μ1 x v μ' hx Q S1 R1 e2 (q.mono X1)⟩
theorem t_2 {f : Op2} {da db : Den} {r : R2} (hr : S2 K r f) (h : tD K (d2 f da db) σ H Q) : tOp r (tD K da) (tD K db) σ H Q := by
  obtain ⟨ι, ρ, μ, v, μ', E, S, d, q⟩ := h
  obtain ⟨⟨x, μ1⟩, e1, d⟩ := Option.bind_eq_some_iff.mp d
  obtain ⟨⟨y, μ2⟩, e2, e3⟩ := Option.bind_eq_some_iff.mp d
  exact ⟨ι, ρ, μ, x, μ1, E, S, e1, fun hx ι1 H1 X1 R1 S1 => ⟨ι1, ρ, μ1, y, μ2, E.mono X1, S1, e2, fun hy ι2 H2 X2 R2 S2 =>
    hr ι2 H2 μ2 x y v μ' hx hy Q S2 (R1.mono X2) R2 e3 (q.mono (X1.trans X2))⟩⟩
end
section
variable {X : Cx} {a b : Expr} {da db : Den} {pos : Pos}
theorem e_op {op : Operator} {r : R2} {f : Op2} (ho : OpR X (binaryOp op) r) (hr : S2 X.K r f) (ha : PE X a (tD X.K da)) (hb : PE X b (tD X.K db)) : PE X (.BinOp a op b pos) (tD X.K (d2 f da db)) :=
  (pe_op ho ha hb).weak fun _ _ _ h => t_2 hr h
theorem e_un {op : UnaryOp} {r : V → Hp → VK → Prop} {f : Op1} (ho : UnR X (unaryOp op) r) (hr : S1 X.K r f) (ha : PE X a (tD X.K da)) : PE X (.UnaryOp op a pos) (tD X.K (d1 f da)) :=
  (pe_un ho ha).weak fun _ _ _ h => t_1 hr h
theorem e_cmp {op : CmpOp} {r : R2} {f : Op2} (ho : OpR X (compareOp op) r) (hr : S2 X.K r f) (ha : PE X a (tD X.K da)) (hb : PE X b (tD X.K db)) (hm : behindInMarks op b = false) : PE X (.Compare a [op] [b] pos) (tD X.K (d2 f da db)) :=
  (pe_cmpR ho ha hb hm).weak fun _ _ _ h => t_2 hr h
end

/-! ### tests -/
def asB : Option (PV × Sto) → Option (Bool × Sto)
  | some (.bl b, μ) => some (b, μ)
  | _ => none
def tB1 (d : Den) : DenT := fun ρ μ => asB (d ρ μ)
theorem t_b {K : Frg} {d : Den} (σ : L2.St) (H : Hp) (Q : Bool → Hp → Prop) (h : tT K (tB1 d) σ H Q) : tD K d σ H fun x H' => ∃ k, x = .bl k ∧ Q k H' := by
  obtain ⟨ι, ρ, μ, b, μ', E, S, e, q⟩ := h
  unfold tB1 asB at e
  split at e
  · rename_i c μ1 h1
    cases e
    exact ⟨ι, ρ, μ, _, _, E, S, h1, fun hv ι' H' X R S => ⟨b, R, q ι' H' X S⟩⟩
  · cases e
section
variable {X : Cx} {a b : Expr} {da db : Den} {pos : Pos}
theorem x_cmp {op : CmpOp} {r : R2} {f : Op2} (ho : OpR X (compareOp op) r) (hr : S2 X.K r f) (ha : PE X a (tD X.K da)) (hb : PE X b (tD X.K db)) (hm : behindInMarks op b = false) : PT X (.Compare a [op] [b] pos) (tT X.K (tB1 (d2 f da db))) :=
  (pt_cmpR ho ha hb hm).weak fun _ _ _ h => t_2 hr (t_b _ _ _ h)
end
/-- a value's truth -/
def truP : PV → Sto → Option Bool
  | .non, _ => some false
  | .bl b, _ => some b
  | .int i, _ => some (i != 0)
  | .str x, _ => if x.length ≤ sizeLine then some ((x.length : Int) != 0) else none
  | .tup xs, _ => some !xs.isEmpty
  | .lst xs, _ => some !xs.isEmpty
  | .loc l, μ => match μ[l]? with
    | some (.lst xs) => some !xs.isEmpty
    | some (.dic false kvs) => some !kvs.isEmpty
    | _ => none
  | .scr _, _ => none
theorem RepVs.isEmpty {K : Frg} {ι : Ad} {n : Nat} {H : Hp} : ∀ {xs : List PV} {ys : List V}, RepVs K ι n H xs ys → xs.isEmpty = ys.isEmpty
  | [], _, h => by cases h; rfl
  | x :: xs, _, h => by obtain ⟨y, r, rfl, _, _⟩ := h; rfl
theorem RepKs.isEmpty {κ : Type} {key : PV → Option κ} {K : Frg} {ι : Ad} {n : Nat} {H : Hp} : ∀ {xs : List (PV × PV)} {ys : List (κ × V)}, RepKs K ι n H key xs ys → xs.isEmpty = ys.isEmpty
  | [], _, h => by cases h; rfl
  | (k, x) :: xs, _, h => by obtain ⟨q, y, r, rfl, _, _⟩ := h; rfl
theorem tru_rep {K : Frg} {ι : Ad} {μ : Sto} {H : Hp} (S : RepS K ι H μ) {x : PV} {v : V} {b : Bool} (r : RepV K ι μ.length H x v) (h : truP x μ = some b) : TruV K v H b := by
  cases x with
  | non => cases r; cases h; rfl
  | bl c => cases r; cases h; rfl
  | int i => cases r; cases h; rfl
  | str z =>
    cases r
    have h : (if z.length ≤ sizeLine then some ((z.length : Int) != 0) else none) = some b := h
    by_cases hz : z.length ≤ sizeLine
    · rw [if_pos hz] at h; cases h; exact ⟨hz, rfl⟩
    · rw [if_neg hz] at h; cases h
  | tup xs =>
    obtain ⟨a, ys, rfl, t, q⟩ := r
    cases h
    exact .inr (.inl ⟨ys, t.sq, by rw [q.isEmpty]⟩)
  | lst xs =>
    obtain ⟨a, ys, rfl, ⟨t, _⟩, q⟩ := r
    cases h
    exact .inl ⟨ys, .of t, by rw [q.isEmpty]⟩
  | loc l =>
    obtain ⟨hl, rfl⟩ := r
    simp only [truP] at h
    split at h
    · rename_i xs e
      obtain ⟨ys, t, q⟩ := S.obj l _ e
      cases h
      exact .inl ⟨ys, .of t, by rw [q.isEmpty]⟩
    · rename_i kvs e
      obtain ⟨ys, t, q⟩ := S.obj l _ e
      cases h
      exact .inr (.inr ⟨ys, t, by rw [q.isEmpty]⟩)
    · cases h
  | scr ns => cases h
def tTru (d : Den) : DenT := fun ρ μ => (d ρ μ).bind fun p => (truP p.1 p.2).map fun b => (b, p.2)
theorem t_tru {K : Frg} {d : Den} (σ : L2.St) (H : Hp) (Q : Bool → Hp → Prop) (h : tT K (tTru d) σ H Q) : tD K d σ H fun x H' => ∃ k, TruV K x H' k ∧ Q k H' := by
  obtain ⟨ι, ρ, μ, b, μ', E, S, e, q⟩ := h
  obtain ⟨⟨x, μ1⟩, e1, e2⟩ := Option.bind_eq_some_iff.mp e
  obtain ⟨c, e3, e4⟩ := Option.map_eq_some_iff.mp e2
  cases e4
  exact ⟨ι, ρ, μ, x, _, E, S, e1, fun hv ι' H' X R S => ⟨b, tru_rep S R e3, q ι' H' X S⟩⟩
def tAn (c d : DenT) : DenT := fun ρ μ => (c ρ μ).bind fun p => if p.1 = true then d ρ p.2 else some (false, p.2)
def tOr' (c d : DenT) : DenT := fun ρ μ => (c ρ μ).bind fun p => if p.1 = true then some (true, p.2) else d ρ p.2
def tNo (c : DenT) : DenT := fun ρ μ => (c ρ μ).map fun p => (!p.1, p.2)
section
variable {X : Cx} {a b : Expr} {rest : List Expr} {ca cb : DenT} {da db : Den} {pos : Pos}
/-- a name, a call, a subscript .. as a test -/
theorem x_tru (ha : PE X a (tD X.K da)) (he : ∀ whole, isTrue a X.env whole = (do let v ← whole; standAt a.pos; holding [v] (truthy v)) := by intro _; rfl) : PT X a (tT X.K (tTru da)) :=
  (pt_truth ha he).weak fun _ _ _ h => t_tru _ _ _ h
theorem x_an (ha : PT X a (tT X.K ca)) (hb : PW X (.BoolOp .And (b :: rest) pos) (tT X.K cb)) : PW X (.BoolOp .And (a :: b :: rest) pos) (tT X.K (tAn ca cb)) :=
  (pw_and ha hb).weak fun σ H Q h => by
    obtain ⟨ι, ρ, μ, c, μ', E, S, e, q⟩ := h
    obtain ⟨⟨x, μ1⟩, e1, e2⟩ := Option.bind_eq_some_iff.mp e
    refine ⟨ι, ρ, μ, x, μ1, E, S, e1, fun ι1 H1 X1 S1 => ?_⟩
    cases x with
    | true => exact ⟨ι1, ρ, μ1, c, μ', E.mono X1, S1, e2, q.mono X1⟩
    | false => cases e2; exact q ι1 H1 X1 S1
theorem x_an1 (ha : PT X a (tT X.K ca)) : PW X (.BoolOp .And [a] pos) (tT X.K ca) := pw_and1 ha
theorem x_or (ha : PT X a (tT X.K ca)) (hb : PW X (.BoolOp .Or (b :: rest) pos) (tT X.K cb)) : PW X (.BoolOp .Or (a :: b :: rest) pos) (tT X.K (tOr' ca cb)) :=
  (pw_or ha hb).weak fun σ H Q h => by
    obtain ⟨ι, ρ, μ, c, μ', E, S, e, q⟩ := h
    obtain ⟨⟨x, μ1⟩, e1, e2⟩ := Option.bind_eq_some_iff.mp e
    refine ⟨ι, ρ, μ, x, μ1, E, S, e1, fun ι1 H1 X1 S1 => ?_⟩
    cases x with
    | false => exact ⟨ι1, ρ, μ1, c, μ', E.mono X1, S1, e2, q.mono X1⟩
    | true => cases e2; exact q ι1 H1 X1 S1
theorem x_or1 (ha : PT X a (tT X.K ca)) : PW X (.BoolOp .Or [a] pos) (tT X.K ca) := pw_or1 ha
theorem x_no (ha : PT X a (tT X.K ca)) : PT X (.UnaryOp .Not a pos) (tT X.K (tNo ca)) :=
  (pt_not ha).weak fun σ H Q h => by
    obtain ⟨ι, ρ, μ, c, μ', E, S, e, q⟩ := h
    obtain ⟨⟨x, μ1⟩, e1, e2⟩ := Option.map_eq_some_iff.mp e
    cases e2
    exact ⟨ι, ρ, μ, x, _, E, S, e1, q⟩
/-- a if t else b -/
def dIf (c : DenT) (da db : Den) : Den := fun ρ μ => (c ρ μ).bind fun p => if p.1 = true then da ρ p.2 else db ρ p.2
theorem e_if {c : Expr} {dc : DenT} (hc : PT X c (tT X.K dc)) (ha : PE X a (tD X.K da)) (hb : PE X b (tD X.K db)) : PE X (.IfExp c a b pos) (tD X.K (dIf dc da db)) :=
  (pe_ifExp hc ha hb).weak fun σ H Q h => by
    obtain ⟨ι, ρ, μ, v, μ', E, S, e, q⟩ := h
    obtain ⟨⟨x, μ1⟩, e1, e2⟩ := Option.bind_eq_some_iff.mp e
    refine ⟨ι, ρ, μ, x, μ1, E, S, e1, fun ι1 H1 X1 S1 => ?_⟩
    cases x with
    | true => exact ⟨ι1, ρ, μ1, v, μ', E.mono X1, S1, e2, q.mono X1⟩
    | false => exact ⟨ι1, ρ, μ1, v, μ', E.mono X1, S1, e2, q.mono X1⟩
/-- x and y, x or y, not x as values -/
def dAn (da db : Den) : Den := fun ρ μ => (da ρ μ).bind fun p => match truP p.1 p.2 with
  | some true => db ρ p.2
  | some false => some p
  | none => none
def dOr (da db : Den) : Den := fun ρ μ => (da ρ μ).bind fun p => match truP p.1 p.2 with
  | some false => db ρ p.2
  | some true => some p
  | none => none
def dNo (da : Den) : Den := fun ρ μ => (da ρ μ).bind fun p => (truP p.1 p.2).map fun b => (.bl !b, p.2)
theorem e_an (ha : PE X a (tD X.K da)) (hb : PE X (.BoolOp .And (b :: rest) pos) (tD X.K db)) : PE X (.BoolOp .And (a :: b :: rest) pos) (tD X.K (dAn da db)) :=
  (pe_andT ha hb).weak fun σ H Q h => by
    obtain ⟨ι, ρ, μ, v, μ', E, S, e, q⟩ := h
    obtain ⟨⟨x, μ1⟩, e1, e2⟩ := Option.bind_eq_some_iff.mp e
    refine ⟨ι, ρ, μ, x, μ1, E, S, e1, fun hx ι1 H1 X1 R1 S1 => ?_⟩
    split at e2
    · rename_i e3
      exact ⟨true, tru_rep S1 R1 e3, ι1, ρ, μ1, v, μ', E.mono X1, S1, e2, q.mono X1⟩
    · rename_i e3
      cases e2
      exact ⟨false, tru_rep S1 R1 e3, q hx ι1 H1 X1 R1 S1⟩
    · cases e2
theorem e_or (ha : PE X a (tD X.K da)) (hb : PE X (.BoolOp .Or (b :: rest) pos) (tD X.K db)) : PE X (.BoolOp .Or (a :: b :: rest) pos) (tD X.K (dOr da db)) :=
  (pe_orT ha hb).weak fun σ H Q h => by
    obtain ⟨ι, ρ, μ, v, μ', E, S, e, q⟩ := h
    obtain ⟨⟨x, μ1⟩, e1, e2⟩ := Option.bind_eq_some_iff.mp e
    refine ⟨ι, ρ, μ, x, μ1, E, S, e1, fun hx ι1 H1 X1 R1 S1 => ?_⟩
    split at e2
    · rename_i e3
      exact ⟨false, tru_rep S1 R1 e3, ι1, ρ, μ1, v, μ', E.mono X1, S1, e2, q.mono X1⟩
    · rename_i e3
      cases e2
      exact ⟨true, tru_rep S1 R1 e3, q hx ι1 H1 X1 R1 S1⟩
    · cases e2
theorem e_one {op} {d : Den} (h : PE X a (tD X.K d)) : PE X (.BoolOp op [a] pos) (tD X.K d) := pe_one h
theorem e_no (ha : PE X a (tD X.K da)) : PE X (.UnaryOp .Not a pos) (tD X.K (dNo da)) :=
  (pe_notT ha).weak fun σ H Q h => by
    obtain ⟨ι, ρ, μ, v, μ', E, S, e, q⟩ := h
    obtain ⟨⟨x, μ1⟩, e1, e2⟩ := Option.bind_eq_some_iff.mp e
    obtain ⟨c, e3, e4⟩ := Option.map_eq_some_iff.mp e2
    cases e4
    exact ⟨ι, ρ, μ, x, _, E, S, e1, fun hx ι1 H1 X1 R1 S1 => ⟨c, tru_rep S1 R1 e3, q _ ι1 H1 X1 rfl S1⟩⟩
end

/-! ### argument lists, tuples, lists -/
def aNil : DenA := fun _ μ => some ([], μ)
def aCons (d : Den) (r : DenA) : DenA := fun ρ μ => (d ρ μ).bind fun p => (r ρ p.2).bind fun q => some (p.1 :: q.1, q.2)
theorem RepVs.mono' {K : Frg} {ι ι1 : Ad} {n n1 : Nat} {H H1 : Hp} (e : Ext ι n H ι1 n1 H1) {xs : List PV} {ys : List V} (h : RepVs K ι n H xs ys) : RepVs K ι1 n1 H1 xs ys := RepVs.mono e h
section
variable {X : Cx} {e : Expr} {es : List Expr} {d : Den} {r : DenA} {pos : Pos}
theorem a_nil : PA X [] (tA X.K aNil) := pa_nil.weak fun σ H Q h => by
  obtain ⟨ι, ρ, μ, v, μ', E, S, e, q⟩ := h
  cases e
  exact q [] ι H .refl rfl S
theorem a_cons (ha : PE X e (tD X.K d)) (hr : PA X es (tA X.K r)) (hs : starEach (e :: es) X.env = (false, eval e X.env) :: starEach es X.env := by rfl) : PA X (e :: es) (tA X.K (aCons d r)) :=
  (pa_cons ha hr hs).weak fun σ H Q h => by
    obtain ⟨ι, ρ, μ, v, μ', E, S, e, q⟩ := h
    obtain ⟨⟨x, μ1⟩, e1, e2⟩ := Option.bind_eq_some_iff.mp e
    obtain ⟨⟨y, μ2⟩, e3, e4⟩ := Option.bind_eq_some_iff.mp e2
    cases e4
    exact ⟨ι, ρ, μ, x, μ1, E, S, e1, fun hx ι1 H1 X1 R1 S1 => ⟨ι1, ρ, μ1, y, _, E.mono X1, S1, e3, fun hy ι2 H2 X2 R2 S2 => q _ ι2 H2 (X1.trans X2) (.cons (R1.mono X2) R2) S2⟩⟩
/-- a tuple display -/
def dTup (r : DenA) : Den := fun ρ μ => (r ρ μ).bind fun p => if p.1.length ≤ sizeLine then some (.tup p.1, p.2) else none
/-- a list display that nobody changes -/
def dLst (r : DenA) : Den := fun ρ μ => (r ρ μ).bind fun p => if p.1.length ≤ sizeLine then some (.lst p.1, p.2) else none
/-- a list display that will be changed -/
def dLoc (r : DenA) : Den := fun ρ μ => (r ρ μ).bind fun p => if p.1.length ≤ sizeLine then some (.loc p.2.length, p.2 ++ [.lst p.1]) else none
theorem Aft.tup {K : Frg} {ι : Ad} {μ : Sto} {H : Hp} {xs : List PV} {ys : List V} {Q : VK} (S : RepS K ι H μ) (q : Aft K ι μ H (.tup xs) μ Q) (r : RepVs K ι μ.length H xs ys) {p : Addr} (hp : H p = none) : Q (.ref p) (upd H p (.tup ys)) :=
  q _ ι _ (Ext.new1 S hp) ⟨p, ys, rfl, .inl ⟨upd_same, S.off hp⟩, RepVs.mono (Ext.new1 S hp) r⟩ (S.new1 hp)
theorem Aft.lst {K : Frg} {ι : Ad} {μ : Sto} {H : Hp} {xs : List PV} {ys : List V} {Q : VK} (S : RepS K ι H μ) (q : Aft K ι μ H (.lst xs) μ Q) (r : RepVs K ι μ.length H xs ys) {p : Addr} (hp : H p = none) : Q (.ref p) (upd H p (.lst ys)) :=
  q _ ι _ (Ext.new1 S hp) ⟨p, ys, rfl, ⟨upd_same, S.off hp⟩, RepVs.mono (Ext.new1 S hp) r⟩ (S.new1 hp)
theorem Aft.loc {K : Frg} {ι : Ad} {μ : Sto} {H : Hp} {xs : List PV} {ys : List V} {Q : VK} (S : RepS K ι H μ) (q : Aft K ι μ H (.loc μ.length) (μ ++ [.lst xs]) Q) (r : RepVs K ι μ.length H xs ys) {p : Addr} (hp : H p = none) : Q (.ref p) (upd H p (.lst ys)) := by
  have hl : (μ ++ [Ob.lst xs]).length = μ.length + 1 := by simp
  refine q _ (addI ι μ.length p) _ (by rw [hl]; exact Ext.add S hp) ?_ ?_
  · rw [hl]
    exact ⟨Nat.lt_succ_self _, by rw [addI_at]⟩
  · exact S.add hp ⟨ys, upd_same, RepVs.mono (Ext.add S hp) r⟩
theorem e_tup {x1} (h : PA X es (tA X.K r)) : PE X (.Tuple es x1 pos) (tD X.K (dTup r)) :=
  (pe_tup h).weak fun σ H Q h => by
    obtain ⟨ι, ρ, μ, v, μ', E, S, e, q⟩ := h
    obtain ⟨⟨x, μ1⟩, e1, e2⟩ := Option.bind_eq_some_iff.mp e
    split at e2
    · rename_i hz
      cases e2
      exact ⟨ι, ρ, μ, x, _, E, S, e1, fun hs ι1 H1 X1 R1 S1 => ⟨by rw [← R1.length]; exact hz, fun p hp => (q.mono X1).tup S1 R1 hp⟩⟩
    · cases e2
theorem e_lst (h : PA X es (tA X.K r)) : PE X (.List es pos) (tD X.K (dLst r)) :=
  (pe_lst h).weak fun σ H Q h => by
    obtain ⟨ι, ρ, μ, v, μ', E, S, e, q⟩ := h
    obtain ⟨⟨x, μ1⟩, e1, e2⟩ := Option.bind_eq_some_iff.mp e
    split at e2
    · rename_i hz
      cases e2
      exact ⟨ι, ρ, μ, x, _, E, S, e1, fun hs ι1 H1 X1 R1 S1 => ⟨by rw [← R1.length]; exact hz, fun p hp => (q.mono X1).lst S1 R1 hp⟩⟩
    · cases e2
theorem e_loc (h : PA X es (tA X.K r)) : PE X (.List es pos) (tD X.K (dLoc r)) :=
  (pe_lst h).weak fun σ H Q h => by
    obtain ⟨ι, ρ, μ, v, μ', E, S, e, q⟩ := h
    obtain ⟨⟨x, μ1⟩, e1, e2⟩ := Option.bind_eq_some_iff.mp e
    split at e2
    · rename_i hz
      cases e2
      exact ⟨ι, ρ, μ, x, _, E, S, e1, fun hs ι1 H1 X1 R1 S1 => ⟨by rw [← R1.length]; exact hz, fun p hp => (q.mono X1).loc S1 R1 hp⟩⟩
    · cases e2
end
end Fd

/-! Fd3: what the operators do. -/
namespace Fd
open PySem PySem.Spec PyProof.Rows L2

def b2 (b : Bool) : Int := if b = true then 1 else 0
/-- a list, by value or in the store -/
def rdL (μ : Sto) : PV → Option (List PV)
  | .lst xs => some xs
  | .loc l => match μ[l]? with
    | some (.lst xs) => some xs
    | _ => none
  | _ => none
section
variable {K : Frg} {ι : Ad} {μ : Sto} {H : Hp}
theorem rdL_rep (S : RepS K ι H μ) {x : PV} {v : V} {xs : List PV} (r : RepV K ι μ.length H x v) (h : rdL μ x = some xs) : ∃ a ys, v = .ref a ∧ H a = some (.lst ys) ∧ RepVs K ι μ.length H xs ys := by
  unfold rdL at h
  split at h
  · cases h
    obtain ⟨a, ys, rfl, ⟨t, _⟩, q⟩ := r
    exact ⟨a, ys, rfl, t, q⟩
  · rename_i l
    obtain ⟨hl, rfl⟩ := r
    split at h
    · rename_i zs e
      cases h
      obtain ⟨ys, t, q⟩ := S.obj l _ e
      exact ⟨_, ys, rfl, t, q⟩
    · cases h
  · cases h
end

/-! ### + - * // % ** and signs -/
def f_add : Op2 := fun x y μ => match x, y with
  | .int i, .int j => some (.int (i + j), μ)
  | .str a, .str b => if a.length + b.length ≤ sizeLine then some (.str (a ++ b), μ) else none
  | .int i, .bl b => some (.int (i + b2 b), μ)
  | .bl b, .int i => some (.int (b2 b + i), μ)
  | .bl b, .bl c => some (.int (b2 b + b2 c), μ)
  | .tup xs, .tup ys => if xs.length + ys.length ≤ sizeLine then some (.tup (xs ++ ys), μ) else none
  | x, y => match rdL μ x, rdL μ y with
    | some xs, some ys => if xs.length + ys.length ≤ sizeLine then some (.lst (xs ++ ys), μ) else none
    | _, _ => none
section
variable {X : Cx}
theorem op_add_ii : OpR X (binaryOp .Add) (fun x y H Q => ∃ i k, x = .bl k ∧ y = .int i ∧ Q (.int (b2 k + i)) H) := by
  intro pins s σ H x y v u Q I rx ry h
  obtain ⟨i, k, rfl, rfl, q⟩ := h
  obtain ⟨t, rfl⟩ := ry
  cases rx
  exact PySem.IntBool.add_bool_int ⟨.int (b2 k + i), H, I.tok _, ⟨_, rfl⟩, q⟩
theorem op_add_bb : OpR X (binaryOp .Add) (fun x y H Q => ∃ i k, x = .bl k ∧ y = .bl i ∧ Q (.int (b2 k + b2 i)) H) := by
  intro pins s σ H x y v u Q I rx ry h
  obtain ⟨i, k, rfl, rfl, q⟩ := h
  cases rx
  cases ry
  exact add_bool ⟨.int (b2 k + b2 i), H, I.tok _, ⟨_, rfl⟩, q⟩
theorem op_sub_bb : OpR X (binaryOp .Sub) (fun x y H Q => ∃ i k, x = .bl k ∧ y = .bl i ∧ Q (.int (b2 k - b2 i)) H) := by
  intro pins s σ H x y v u Q I rx ry h
  obtain ⟨i, k, rfl, rfl, q⟩ := h
  cases rx
  cases ry
  exact sub_bool ⟨.int (b2 k - b2 i), H, I.tok _, ⟨_, rfl⟩, q⟩
end
def r_add (K : Frg) : R2 := fun x y H Q => (∃ i j, x = .int i ∧ y = .int j ∧ Q (.int (i + j)) H) ∨ ((∃ i j, x = .str i ∧ y = .str j ∧ i.length + j.length ≤ sizeLine ∧ Q (.str (i ++ j)) H) ∨
  ((∃ i k, x = .int i ∧ y = .bl k ∧ Q (.int (i + b2 k)) H) ∨ ((∃ i k, x = .bl k ∧ y = .int i ∧ Q (.int (b2 k + i)) H) ∨ ((∃ i k, x = .bl k ∧ y = .bl i ∧ Q (.int (b2 k + b2 i)) H) ∨ (rCatA K x y H Q ∨ rCat x y H Q)))))
theorem o_add {X : Cx} : OpR X (binaryOp .Add) (r_add X.K) := op_add.or (op_add_str.or (op_add_ib.or (op_add_ii.or (op_add_bb.or (op_catA.or op_cat)))))
theorem s_add {K : Frg} : S2 K (r_add K) f_add := by
  intro ι H μ x y v μ' hx hy Q S rx ry h q
  unfold f_add at h
  split at h
  · cases h; cases rx; cases ry; exact .inl ⟨_, _, rfl, rfl, q.pure S rfl⟩
  · split at h
    · cases h; cases rx; cases ry; exact .inr (.inl ⟨_, _, rfl, rfl, by assumption, q.pure S rfl⟩)
    · cases h
  · cases h; cases rx; cases ry; exact .inr (.inr (.inl ⟨_, _, rfl, rfl, q.pure S rfl⟩))
  · cases h; cases rx; cases ry; exact .inr (.inr (.inr (.inl ⟨_, _, rfl, rfl, q.pure S rfl⟩)))
  · cases h; cases rx; cases ry; exact .inr (.inr (.inr (.inr (.inl ⟨_, _, rfl, rfl, q.pure S rfl⟩))))
  · rename_i xs ys
    split at h
    · rename_i hz
      cases h
      obtain ⟨a, us, rfl, ta, ra⟩ := rx
      obtain ⟨b, ws, rfl, tb, rb⟩ := ry
      refine .inr (.inr (.inr (.inr (.inr (.inl ⟨a, b, us, ws, rfl, rfl, ta.sq, tb.sq, by rw [← ra.length, ← rb.length]; exact hz, fun e => ?_, fun _ e => ?_, fun _ _ p hp => q.tup S (ra.append rb) hp⟩)))))
      · subst e
        have e : xs = [] := List.length_eq_zero_iff.mp (ra.length.trans rfl)
        subst e
        exact q.pure S ⟨b, ws, rfl, tb, rb⟩
      · subst e
        have e : ys = [] := List.length_eq_zero_iff.mp (rb.length.trans rfl)
        subst e
        exact q.pure S ⟨a, us, rfl, ta, by rw [List.append_nil]; exact ra⟩
    · cases h
  · split at h
    · rename_i xs ys e1 e2
      split at h
      · rename_i hz
        cases h
        obtain ⟨a, us, rfl, ta, ra⟩ := rdL_rep S rx e1
        obtain ⟨b, ws, rfl, tb, rb⟩ := rdL_rep S ry e2
        exact .inr (.inr (.inr (.inr (.inr (.inr ⟨a, b, us, ws, rfl, rfl, ta, tb, by rw [← ra.length, ← rb.length]; exact hz, fun p hp => q.lst S (ra.append rb) hp⟩)))))
      · cases h
    · cases h
def f_sub : Op2 := fun x y μ => match x, y with
  | .int i, .int j => some (.int (i - j), μ)
  | .bl b, .bl c => some (.int (b2 b - b2 c), μ)
  | _, _ => none
def r_sub : R2 := fun x y H Q => (∃ i j, x = .int i ∧ y = .int j ∧ Q (.int (i - j)) H) ∨ (∃ i k, x = .bl k ∧ y = .bl i ∧ Q (.int (b2 k - b2 i)) H)
theorem o_sub {X : Cx} : OpR X (binaryOp .Sub) r_sub := op_sub.or op_sub_bb
theorem s_sub {K : Frg} : S2 K r_sub f_sub := by
  intro ι H μ x y v μ' hx hy Q S rx ry h q
  unfold f_sub at h
  split at h
  · cases h; cases rx; cases ry; exact .inl ⟨_, _, rfl, rfl, q.pure S rfl⟩
  · cases h; cases rx; cases ry; exact .inr ⟨_, _, rfl, rfl, q.pure S rfl⟩
  · cases h
instance (i j : Int) : Decidable (CMulW i j) := inferInstanceAs (Decidable (_ < _))
def okMul (i j : Int) : Bool := decide (i.natAbs.log2 + j.natAbs.log2 < 1000000)
theorem okMul_iff {i j : Int} (h : okMul i j = true) : CMulW i j := of_decide_eq_true h
theorem okMul_of {i j : Int} (hi : i.natAbs < 2 ^ 400000) (hj : j.natAbs < 2 ^ 400000) : okMul i j = true := decide_eq_true (wide_mul hi hj (by decide) (by decide) (by decide))
theorem okMul_small {i j : Int} (hi : i.natAbs < 2 ^ 200) (hj : j.natAbs < 2 ^ 200) : okMul i j = true := decide_eq_true (wide_mul hi hj (by decide) (by decide) (by decide))
def f_mul : Op2 := fun x y μ => match x, y with
  | .int i, .int j => if okMul i j = true then some (.int (i * j), μ) else none
  | .str a, .int k => none
  | x, .int k => match rdL μ x with
    | some xs => if -(2 ^ 63) ≤ k ∧ k < 2 ^ 63 ∧ xs.length * k.toNat ≤ sizeLine then some (.lst (List.replicate k.toNat xs).flatten, μ) else none
    | none => none
  | _, _ => none
def r_mul : R2 := fun x y H Q => rI CMulW (fun i j => .int (i * j)) x y H Q ∨ rRep x y H Q
theorem o_mul {X : Cx} : OpR X (binaryOp .Mult) r_mul := op_mulW.or op_rep
theorem s_mul {K : Frg} : S2 K r_mul f_mul := by
  intro ι H μ x y v μ' hx hy Q S rx ry h q
  unfold f_mul at h
  split at h
  · split at h
    · rename_i hk
      cases h; cases rx; cases ry; exact .inl ⟨_, _, rfl, rfl, okMul_iff hk, q.pure S rfl⟩
    · cases h
  · cases h
  · split at h
    · rename_i xs e
      split at h
      · rename_i hz
        cases h
        obtain ⟨a, us, rfl, ta, ra⟩ := rdL_rep S rx e
        cases ry
        exact .inr ⟨a, _, us, rfl, rfl, ta, hz.1, hz.2.1, by rw [← ra.length]; exact hz.2.2, fun p hp => q.lst S (ra.rep _) hp⟩
      · cases h
    · cases h
  · cases h
def f_fdiv : Op2 := fun x y μ => match x, y with
  | .int i, .int j => if 0 < j ∧ j.natAbs.log2 < 9000 then some (.int (i / j), μ) else if j < 0 ∧ j.natAbs.log2 < 9000 then some (.int (i.fdiv j), μ) else none
  | _, _ => none
def CDivZ (i j : Int) : Prop := j ≠ 0 ∧ j.natAbs.log2 < 9000
theorem op_fdivZ {X : Cx} : OpR X (binaryOp .FloorDiv) (rI CDivZ fun i j => .int (i.fdiv j)) := opI fun _ _ _ _ _ _ _ hc q => floordiv_int hc.1 q (.inl (PyProof.noPylong_of_log2 hc.2))
def r_fdiv : R2 := fun x y H Q => rI CDivW (fun i j => .int (i / j)) x y H Q ∨ rI CDivZ (fun i j => .int (i.fdiv j)) x y H Q
theorem o_fdiv {X : Cx} : OpR X (binaryOp .FloorDiv) r_fdiv := op_fdivW.or op_fdivZ
theorem s_fdiv {K : Frg} : S2 K r_fdiv f_fdiv := by
  intro ι H μ x y v μ' hx hy Q S rx ry h q
  unfold f_fdiv at h
  split at h
  · split at h
    · rename_i hk
      cases h; cases rx; cases ry; exact .inl ⟨_, _, rfl, rfl, hk, q.pure S rfl⟩
    · split at h
      · rename_i hk
        cases h; cases rx; cases ry; exact .inr ⟨_, _, rfl, rfl, ⟨by omega, hk.2⟩, q.pure S rfl⟩
      · cases h
  · cases h
def f_mod : Op2 := fun x y μ => match x, y with
  | .int i, .int j => if 0 < j then some (.int (i % j), μ) else if j < 0 then some (.int (i.fmod j), μ) else none
  | _, _ => none
def r_mod : R2 := fun x y H Q => rI (fun _ j => 0 < j) (fun i j => .int (i % j)) x y H Q ∨ rI (fun _ j => j ≠ 0) (fun i j => .int (i.fmod j)) x y H Q
theorem o_mod {X : Cx} : OpR X (binaryOp .Mod) r_mod := op_mod.or op_modN
theorem s_mod {K : Frg} : S2 K r_mod f_mod := by
  intro ι H μ x y v μ' hx hy Q S rx ry h q
  unfold f_mod at h
  split at h
  · split at h
    · rename_i hk
      cases h; cases rx; cases ry; exact .inl ⟨_, _, rfl, rfl, hk, q.pure S rfl⟩
    · split at h
      · rename_i hk
        cases h; cases rx; cases ry; exact .inr ⟨_, _, rfl, rfl, by omega, q.pure S rfl⟩
      · cases h
  · cases h
def f_pow : Op2 := fun x y μ => match x, y with
  | .int i, .int j => if 0 ≤ j ∧ j ≤ 1000000 ∧ i.natAbs < 2 ^ 64 then some (.int (i ^ j.toNat), μ) else none
  | _, _ => none
theorem s_pow {K : Frg} : S2 K (rI CPow fun i j => .int (i ^ j.toNat)) f_pow := by
  intro ι H μ x y v μ' hx hy Q S rx ry h q
  unfold f_pow at h
  split at h
  · split at h
    · rename_i hk
      cases h; cases rx; cases ry; exact ⟨_, _, rfl, rfl, hk, q.pure S rfl⟩
    · cases h
  · cases h
def f_neg : Op1 := fun x μ => match x with
  | .int i => some (.int (-i), μ)
  | _ => none
theorem s_neg {K : Frg} : S1 K (rU fun i => .int (-i)) f_neg := by
  intro ι H μ x v μ' hx Q S rx h q
  unfold f_neg at h
  split at h
  · cases h; cases rx; exact ⟨_, rfl, q.pure S rfl⟩
  · cases h

/-! ### < <= > >= -/
def intsP : List PV → Option (List Int)
  | [] => some []
  | .int i :: r => (intsP r).map (i :: ·)
  | _ :: _ => none
theorem intsP_map : ∀ ns : List Int, intsP (ns.map PV.int) = some ns
  | [] => rfl
  | i :: r => by rw [List.map_cons]; unfold intsP; rw [intsP_map r]; rfl
theorem intsP_rep {K : Frg} {ι : Ad} {n : Nat} {H : Hp} : ∀ {xs : List PV} {ys : List V} {ns : List Int}, intsP xs = some ns → RepVs K ι n H xs ys → ys = ns.map V.int ∧ xs = ns.map PV.int
  | [], _, _, h, r => by cases h; cases r; exact ⟨rfl, rfl⟩
  | .int i :: xs, _, ns, h, r => by
    obtain ⟨y, t, rfl, r1, r2⟩ := r
    unfold intsP at h
    obtain ⟨ms, e, rfl⟩ := Option.map_eq_some_iff.mp h
    cases r1
    obtain ⟨e1, e2⟩ := intsP_rep e r2
    exact ⟨by rw [e1]; rfl, by rw [e2]; rfl⟩
  | .non :: _, _, _, h, _ => by cases h
  | .bl _ :: _, _, _, h, _ => by cases h
  | .str _ :: _, _, _, h, _ => by cases h
  | .tup _ :: _, _, _, h, _ => by cases h
  | .lst _ :: _, _, _, h, _ => by cases h
  | .loc _ :: _, _, _, h, _ => by cases h
  | .scr _ :: _, _, _, h, _ => by cases h
def f_lt : Op2 := fun x y μ => match x, y with
  | .int i, .int j => some (.bl (decide (i < j)), μ)
  | .tup xs, .tup ys => match intsP xs, intsP ys with
    | some ns, some ms => some (.bl (HT.lexLt ns ms), μ)
    | _, _ => none
  | _, _ => none
def r_lt (K : Frg) : R2 := fun x y H Q => rI0 (fun i j => .bl (decide (i < j))) x y H Q ∨ rLtT K x y H Q
theorem o_lt {X : Cx} (hu : X.A.units < cLine) : OpR X (compareOp .Lt) (r_lt X.K) := op_lt.or (op_ltT hu)
theorem s_lt {K : Frg} : S2 K (r_lt K) f_lt := by
  intro ι H μ x y v μ' hx hy Q S rx ry h q
  unfold f_lt at h
  split at h
  · cases h; cases rx; cases ry; exact .inl ⟨_, _, rfl, rfl, q.pure S rfl⟩
  · split at h
    · rename_i ns ms e1 e2
      cases h
      obtain ⟨a, us, rfl, ta, ra⟩ := rx
      obtain ⟨b, ws, rfl, tb, rb⟩ := ry
      obtain ⟨rfl, _⟩ := intsP_rep e1 ra
      obtain ⟨rfl, _⟩ := intsP_rep e2 rb
      exact .inr ⟨a, b, ns, ms, rfl, rfl, ta.sq, tb.sq, q.pure S rfl⟩
    · cases h
  · cases h
def f_le : Op2 := fun x y μ => match x, y with
  | .int i, .int j => some (.bl (decide (i ≤ j)), μ)
  | _, _ => none
def f_gt : Op2 := fun x y μ => match x, y with
  | .int i, .int j => some (.bl (decide (j < i)), μ)
  | _, _ => none
def f_ge : Op2 := fun x y μ => match x, y with
  | .int i, .int j => some (.bl (decide (j ≤ i)), μ)
  | _, _ => none
theorem s_le {K : Frg} : S2 K (rI0 fun i j => .bl (decide (i ≤ j))) f_le := by
  intro ι H μ x y v μ' hx hy Q S rx ry h q
  unfold f_le at h
  split at h
  · cases h; cases rx; cases ry; exact ⟨_, _, rfl, rfl, q.pure S rfl⟩
  · cases h
theorem s_gt {K : Frg} : S2 K (rI0 fun i j => .bl (decide (j < i))) f_gt := by
  intro ι H μ x y v μ' hx hy Q S rx ry h q
  unfold f_gt at h
  split at h
  · cases h; cases rx; cases ry; exact ⟨_, _, rfl, rfl, q.pure S rfl⟩
  · cases h
theorem s_ge {K : Frg} : S2 K (rI0 fun i j => .bl (decide (j ≤ i))) f_ge := by
  intro ι H μ x y v μ' hx hy Q S rx ry h q
  unfold f_ge at h
  split at h
  · cases h; cases rx; cases ry; exact ⟨_, _, rfl, rfl, q.pure S rfl⟩
  · cases h

/-! ### == at any depth -/
mutual
def peqv : PV → PV → Bool
  | .non, .non => true
  | .bl a, .bl b => a == b
  | .bl a, .int j => (if a then 1 else 0) == j
  | .int i, .bl b => i == (if b then 1 else 0)
  | .int i, .int j => i == j
  | .str x, .str y => x == y
  | .lst xs, .lst ys => peqvs xs ys
  | .tup xs, .tup ys => peqvs xs ys
  | _, _ => false
def peqvs : List PV → List PV → Bool
  | [], [] => true
  | x :: xs, y :: ys => peqv x y && peqvs xs ys
  | _, _ => false
end
mutual
/-- data of depth at most d -/
def pok : PV → Nat → Bool
  | .non, _ => true
  | .bl _, _ => true
  | .int _, _ => true
  | .str x, _ => PyData.strOk x
  | .tup xs, d => match d with
    | 0 => false
    | d + 1 => poks xs d
  | .lst xs, d => match d with
    | 0 => false
    | d + 1 => poks xs d
  | .loc _, _ => false
  | .scr _, _ => false
def poks : List PV → Nat → Bool
  | [], _ => true
  | x :: xs, d => pok x d && poks xs d
end
mutual
def toD : PV → PyData
  | .non => .none
  | .bl b => .bool b
  | .int i => .int i
  | .str x => .str x
  | .tup xs => .tuple (toDs xs)
  | .lst xs => .list (toDs xs)
  | .loc _ => .none
  | .scr _ => .none
def toDs : List PV → List PyData
  | [] => []
  | x :: xs => toD x :: toDs xs
end
mutual
theorem toD_lay : ∀ (x : PV) (d : Nat), pok x d = true → (toD x).canLay0 = true ∧ (toD x).depth ≤ d
  | .non, d, _ => ⟨rfl, Nat.zero_le _⟩
  | .bl _, d, _ => ⟨rfl, Nat.zero_le _⟩
  | .int _, d, _ => ⟨rfl, Nat.zero_le _⟩
  | .str x, d, h => ⟨h, Nat.zero_le _⟩
  | .tup xs, 0, h => by cases h
  | .tup xs, d + 1, h => ⟨(toDs_lay xs d h).1, Nat.succ_le_succ (toDs_lay xs d h).2⟩
  | .lst xs, 0, h => by cases h
  | .lst xs, d + 1, h => ⟨(toDs_lay xs d h).1, Nat.succ_le_succ (toDs_lay xs d h).2⟩
  | .loc _, d, h => by cases h
  | .scr _, d, h => by cases h
theorem toDs_lay : ∀ (xs : List PV) (d : Nat), poks xs d = true → PyData.canLayAll0 (toDs xs) = true ∧ PyData.depthAll (toDs xs) ≤ d
  | [], d, _ => ⟨rfl, Nat.zero_le _⟩
  | x :: xs, d, h => by
    have h' : (pok x d && poks xs d) = true := h
    rw [Bool.and_eq_true] at h'
    obtain ⟨a1, a2⟩ := toD_lay x d h'.1
    obtain ⟨b1, b2⟩ := toDs_lay xs d h'.2
    refine ⟨?_, ?_⟩
    · show ((toD x).canLay0 && PyData.canLayAll0 (toDs xs)) = true
      rw [a1, b1] <;> rfl
    · show max (toD x).depth (PyData.depthAll (toDs xs)) ≤ d
      exact Nat.max_le.mpr ⟨a2, b2⟩
end
theorem toD_shaped {x : PV} (h : pok x 64 = true) : SeqAt.shaped (toD x) = true := by
  obtain ⟨a, b⟩ := toD_lay x 64 h
  unfold SeqAt.shaped
  rw [a, Bool.true_and]
  exact decide_eq_true b
mutual
theorem toD_eqv : ∀ (x y : PV) (d e : Nat), pok x d = true → pok y e = true → PyData.eqv (toD x) (toD y) = peqv x y
  | .tup xs, .tup ys, d + 1, e + 1, h, g => toDs_eqv xs ys d e h g
  | .lst xs, .lst ys, d + 1, e + 1, h, g => toDs_eqv xs ys d e h g
  | .tup xs, y, 0, _, h, _ => by cases h
  | .lst xs, y, 0, _, h, _ => by cases h
  | x, .tup xs, _, 0, _, h => by cases h
  | x, .lst xs, _, 0, _, h => by cases h
  | .loc _, y, _, _, h, _ => by cases h
  | .scr _, y, _, _, h, _ => by cases h
  | x, .loc _, _, _, _, h => by cases h
  | x, .scr _, _, _, _, h => by cases h
  | .non, .non, _, _, _, _ => rfl
  | .non, .bl _, _, _, _, _ => rfl
  | .non, .int _, _, _, _, _ => rfl
  | .non, .str _, _, _, _, _ => rfl
  | .non, .tup _, _, _, _, _ => rfl
  | .non, .lst _, _, _, _, _ => rfl
  | .bl _, .non, _, _, _, _ => rfl
  | .bl _, .bl _, _, _, _, _ => rfl
  | .bl _, .int _, _, _, _, _ => rfl
  | .bl _, .str _, _, _, _, _ => rfl
  | .bl _, .tup _, _, _, _, _ => rfl
  | .bl _, .lst _, _, _, _, _ => rfl
  | .int _, .non, _, _, _, _ => rfl
  | .int _, .bl _, _, _, _, _ => rfl
  | .int _, .int _, _, _, _, _ => rfl
  | .int _, .str _, _, _, _, _ => rfl
  | .int _, .tup _, _, _, _, _ => rfl
  | .int _, .lst _, _, _, _, _ => rfl
  | .str _, .non, _, _, _, _ => rfl
  | .str _, .bl _, _, _, _, _ => rfl
  | .str _, .int _, _, _, _, _ => rfl
  | .str _, .str _, _, _, _, _ => rfl
  | .str _, .tup _, _, _, _, _ => rfl
  | .str _, .lst _, _, _, _, _ => rfl
  | .tup _, .non, _, _, _, _ => rfl
  | .tup _, .bl _, _, _, _, _ => rfl
  | .tup _, .int _, _, _, _, _ => rfl
  | .tup _, .str _, _, _, _, _ => rfl
  | .tup _, .lst _, _, _, _, _ => rfl
  | .lst _, .non, _, _, _, _ => rfl
  | .lst _, .bl _, _, _, _, _ => rfl
  | .lst _, .int _, _, _, _, _ => rfl
  | .lst _, .str _, _, _, _, _ => rfl
  | .lst _, .tup _, _, _, _, _ => rfl
theorem toDs_eqv : ∀ (xs ys : List PV) (d e : Nat), poks xs d = true → poks ys e = true → PyData.eqvAll (toDs xs) (toDs ys) = peqvs xs ys
  | [], [], _, _, _, _ => rfl
  | [], _ :: _, _, _, _, _ => rfl
  | _ :: _, [], _, _, _, _ => rfl
  | x :: xs, y :: ys, d, e, h, g => by
    have h' : (pok x d && poks xs d) = true := h
    have g' : (pok y e && poks ys e) = true := g
    rw [Bool.and_eq_true] at h' g'
    show (PyData.eqv (toD x) (toD y) && PyData.eqvAll (toDs xs) (toDs ys)) = (peqv x y && peqvs xs ys)
    rw [toD_eqv x y d e h'.1 g'.1, toDs_eqv xs ys d e h'.2 g'.2]
end
/-- a list in the store by its value -/
def rsv (μ : Sto) : PV → PV
  | .loc l => match μ[l]? with
    | some (.lst xs) => .lst xs
    | _ => .loc l
  | x => x
section
variable {K : Frg} {ι : Ad} {n : Nat} {H : Hp}
mutual
theorem dp_rep : ∀ (x : PV) (v : V) (d : Nat), pok x d = true → RepV K ι n H x v → Dp K H v (toD x)
  | .non, _, _, _, r => by cases r; exact .non
  | .bl b, _, _, _, r => by cases r; exact .bl b
  | .int i, _, _, _, r => by cases r; exact .int i
  | .str z, _, _, _, r => by cases r; exact .str z
  | .tup xs, _, 0, h, _ => by cases h
  | .lst xs, _, 0, h, _ => by cases h
  | .tup xs, _, d + 1, h, r => by
    obtain ⟨a, ys, rfl, t, q⟩ := r
    exact .tup t.sq (dps_rep xs ys d h q)
  | .lst xs, _, d + 1, h, r => by
    obtain ⟨a, ys, rfl, ⟨t, _⟩, q⟩ := r
    exact .lst (.of t) (dps_rep xs ys d h q)
  | .loc _, _, _, h, _ => by cases h
  | .scr _, _, _, h, _ => by cases h
theorem dps_rep : ∀ (xs : List PV) (ys : List V) (d : Nat), poks xs d = true → RepVs K ι n H xs ys → DpAll K H ys (toDs xs)
  | [], _, _, _, r => by cases r; exact .nil
  | x :: xs, _, d, h, r => by
    obtain ⟨y, t, rfl, r1, r2⟩ := r
    have h' : (pok x d && poks xs d) = true := h
    rw [Bool.and_eq_true] at h'
    exact .cons (dp_rep x y d h'.1 r1) (dps_rep xs t d h'.2 r2)
end
theorem dp_rsv {μ : Sto} (S : RepS K ι H μ) {x : PV} {v : V} (h : pok (rsv μ x) 64 = true) (r : RepV K ι μ.length H x v) : Dp K H v (toD (rsv μ x)) := by
  cases x with
  | loc l =>
    obtain ⟨hl, rfl⟩ := r
    unfold rsv at h ⊢
    simp only at h ⊢
    split at h
    · rename_i xs e
      obtain ⟨ys, t, q⟩ := S.obj l _ e
      exact .lst (.of t) (dps_rep xs ys 63 h q)
    · cases h
  | _ => exact dp_rep _ v 64 h r
end
def f_eq : Op2 := fun x y μ => match x, y with
  | .int i, .int j => some (.bl (decide (i = j)), μ)
  | .str a, .str b => some (.bl (decide (a = b)), μ)
  | x, y => if (pok (rsv μ x) 64 && pok (rsv μ y) 64) = true then some (.bl (peqv (rsv μ x) (rsv μ y)), μ) else none
def f_ne : Op2 := fun x y μ => match x, y with
  | .int i, .int j => some (.bl (!decide (i = j)), μ)
  | .str a, .str b => some (.bl (!decide (a = b)), μ)
  | x, y => if (pok (rsv μ x) 64 && pok (rsv μ y) 64) = true then some (.bl (!peqv (rsv μ x) (rsv μ y)), μ) else none
def r_eq (K : Frg) : R2 := fun x y H Q => rEq x y H Q ∨ rEqD K x y H Q
def r_ne (K : Frg) : R2 := fun x y H Q => rNe x y H Q ∨ rNeD K x y H Q
theorem o_eq {X : Cx} (hu : X.A.units + 64 < cLine) : OpR X (compareOp .Eq) (r_eq X.K) := op_eq.or (op_eqD hu)
theorem o_ne {X : Cx} (hu : X.A.units + 64 < cLine) : OpR X (compareOp .NotEq) (r_ne X.K) := op_ne.or (op_neD hu)
theorem s_eq {K : Frg} : S2 K (r_eq K) f_eq := by
  intro ι H μ x y v μ' hx hy Q S rx ry h q
  unfold f_eq at h
  split at h
  · cases h; cases rx; cases ry
    refine .inl ⟨rfl, q.pure S ?_⟩
    show V.bl _ = V.bl _
    simp
  · cases h; cases rx; cases ry
    refine .inl ⟨rfl, q.pure S ?_⟩
    show V.bl _ = V.bl _
    simp
  · split at h
    · rename_i hk
      cases h
      rw [Bool.and_eq_true] at hk
      refine .inr ⟨_, _, dp_rsv S hk.1 rx, dp_rsv S hk.2 ry, toD_shaped hk.1, toD_shaped hk.2, q.pure S ?_⟩
      rw [toD_eqv _ _ 64 64 hk.1 hk.2]
      rfl
    · cases h
theorem s_ne {K : Frg} : S2 K (r_ne K) f_ne := by
  intro ι H μ x y v μ' hx hy Q S rx ry h q
  unfold f_ne at h
  split at h
  · cases h; cases rx; cases ry
    refine .inl ⟨rfl, q.pure S ?_⟩
    show V.bl _ = V.bl _
    simp
  · cases h; cases rx; cases ry
    refine .inl ⟨rfl, q.pure S ?_⟩
    show V.bl _ = V.bl _
    simp
  · split at h
    · rename_i hk
      cases h
      rw [Bool.and_eq_true] at hk
      refine .inr ⟨_, _, dp_rsv S hk.1 rx, dp_rsv S hk.2 ry, toD_shaped hk.1, toD_shaped hk.2, q.pure S ?_⟩
      rw [toD_eqv _ _ 64 64 hk.1 hk.2]
      rfl
    · cases h

/-! ### is, is not -/
def isNon : PV → Bool
  | .non => true
  | _ => false
def f_is : Op2 := fun x y μ => match x, y with
  | .bl a, .bl b => some (.bl (decide (a = b)), μ)
  | x, .non => some (.bl (isNon x), μ)
  | _, _ => none
def f_isn : Op2 := fun x y μ => match x, y with
  | .bl a, .bl b => some (.bl (!decide (a = b)), μ)
  | x, .non => some (.bl (!isNon x), μ)
  | _, _ => none
def r_is : R2 := fun x y H Q => rIsB x y H Q ∨ (y = .non ∧ Q (.bl (decide (x = .non))) H)
def r_isn : R2 := fun x y H Q => rNotB x y H Q ∨ (y = .non ∧ Q (.bl (!decide (x = .non))) H)
theorem o_is {X : Cx} : OpR X (compareOp .Is) r_is := op_isBl.or op_isN
theorem o_isn {X : Cx} : OpR X (compareOp .IsNot) r_isn := op_notBl.or op_notN
theorem non_rep {K : Frg} {ι : Ad} {n : Nat} {H : Hp} {x : PV} {v : V} (r : RepV K ι n H x v) : decide (v = .non) = isNon x := by
  cases x with
  | non => cases r; rfl
  | bl _ => cases r; rfl
  | int _ => cases r; rfl
  | str _ => cases r; rfl
  | tup xs => obtain ⟨a, ys, rfl, _⟩ := r; rfl
  | lst xs => obtain ⟨a, ys, rfl, _⟩ := r; rfl
  | loc l => obtain ⟨_, rfl⟩ := r; rfl
  | scr l => obtain ⟨a, rfl, _⟩ := r; rfl
theorem s_is {K : Frg} : S2 K r_is f_is := by
  intro ι H μ x y v μ' hx hy Q S rx ry h q
  unfold f_is at h
  split at h
  · cases h; cases rx; cases ry; exact .inl ⟨_, _, rfl, rfl, q.pure S rfl⟩
  · cases h; cases ry
    exact .inr ⟨rfl, q.pure S (congrArg V.bl (non_rep rx))⟩
  · cases h
theorem s_isn {K : Frg} : S2 K r_isn f_isn := by
  intro ι H μ x y v μ' hx hy Q S rx ry h q
  unfold f_isn at h
  split at h
  · cases h; cases rx; cases ry; exact .inl ⟨_, _, rfl, rfl, q.pure S rfl⟩
  · cases h; cases ry
    exact .inr ⟨rfl, q.pure S (congrArg V.bl (congrArg not (non_rep rx)))⟩
  · cases h

/-! ### subscripts -/
def rdS (μ : Sto) : PV → Option (List PV)
  | .tup xs => some xs
  | x => rdL μ x
theorem RepVs.atI {K : Frg} {ι : Ad} {n : Nat} {H : Hp} {xs : List PV} {ys : List V} (r : RepVs K ι n H xs ys) {i : Int} {x : PV} (h : L2.atI xs i = some x) : ∃ y, L2.atI ys i = some y ∧ RepV K ι n H x y := by
  unfold L2.atI at h ⊢
  rw [← r.length]
  obtain ⟨j, e1, e2⟩ := Option.bind_eq_some_iff.mp h
  obtain ⟨y, h1, h2⟩ := r.get e2
  exact ⟨y, by rw [e1]; exact h1, h2⟩
def f_ix : Op2 := fun x y μ => match x, y with
  | .str z, .int i => if z.length ≤ sizeLine then (L2.atI z.cps.toList i).map fun c => (.str ⟨#[c]⟩, μ) else none
  | x, .int i => (rdS μ x).bind fun xs => (L2.atI xs i).map fun v => (v, μ)
  | _, _ => none
theorem s_ix {K : Frg} : S2 K (rIx K) f_ix := by
  intro ι H μ x y v μ' hx hy Q S rx ry h q
  unfold f_ix at h
  split at h
  · split at h
    · obtain ⟨c, e1, e2⟩ := Option.map_eq_some_iff.mp h
      cases e2; cases rx; cases ry
      exact .inr (.inr ⟨_, _, c, rfl, rfl, by assumption, e1, q.pure S rfl⟩)
    · cases h
  · obtain ⟨xs, e1, e2⟩ := Option.bind_eq_some_iff.mp h
    obtain ⟨w, e3, e4⟩ := Option.map_eq_some_iff.mp e2
    cases e4; cases ry
    unfold rdS at e1
    split at e1
    · cases e1
      obtain ⟨a, us, rfl, ta, ra⟩ := rx
      obtain ⟨z, h1, h2⟩ := ra.atI e3
      exact .inr (.inl ⟨a, us, _, z, rfl, rfl, ta.sq, h1, q.pure S h2⟩)
    · obtain ⟨a, us, rfl, ta, ra⟩ := rdL_rep S rx e1
      obtain ⟨z, h1, h2⟩ := ra.atI e3
      exact .inl ⟨a, us, _, z, rfl, rfl, .of ta, h1, q.pure S h2⟩
  · cases h
section
variable {X : Cx} {a b : Expr} {da db : Den} {pos : Pos}
theorem e_ix (ha : PE X a (tD X.K da)) (hb : PE X b (tD X.K db)) (hs : PlainIx b := by exact fun _ _ => rfl) : PE X (.Subscript a b pos) (tD X.K (d2 f_ix da db)) :=
  (pe_ix ix_seq ha hb hs).weak fun _ _ _ h => t_2 s_ix h
end
/-! slices -/
def DenO := En → Sto → Option (Option Int × Sto)
def tO' (K : Frg) (d : DenO) : TO := fun σ H Q => ∃ ι ρ μ o μ', RepE K ι μ.length H ρ σ ∧ RepS K ι H μ ∧ d ρ μ = some (o, μ') ∧ ∀ ι' H', Ext ι μ.length H ι' μ'.length H' → RepS K ι' H' μ' → Q o H'
def oNo : DenO := fun _ μ => some (none, μ)
def oSo (d : Den) : DenO := fun ρ μ => match d ρ μ with
  | some (.int i, μ') => some (some i, μ')
  | _ => none
section
variable {X : Cx} {e : Expr} {d : Den} {pos p2 : Pos}
theorem PO.weak {e : Option Expr} {t t' : TO} (h : PO X e t) (g : ∀ σ H Q, t' σ H Q → t σ H Q) : PO X e t' := ⟨fun pins s σ H Q I q => h.run pins s σ H Q I (g σ H Q q)⟩
theorem o_no : PO X none (tO' X.K oNo) := PO.weak po_none fun σ H Q h => by
  obtain ⟨ι, ρ, μ, o, μ', E, S, e, q⟩ := h
  cases e
  exact q ι H .refl S
theorem o_so (h : PE X e (tD X.K d)) : PO X (some e) (tO' X.K (oSo d)) := PO.weak (po_some h) fun σ H Q h => by
  obtain ⟨ι, ρ, μ, o, μ', E, S, e, q⟩ := h
  unfold oSo at e
  split at e
  · rename_i i μ1 e1
    cases e
    exact ⟨ι, ρ, μ, _, _, E, S, e1, fun hv ι' H' X R S' => ⟨i, R, q ι' H' X S'⟩⟩
  · cases e
end
def cutP {α : Type} (xs : List α) (lo hi : Option Int) : List α := (xs.drop (HT.sIx xs.length 0 lo)).take (HT.sIx xs.length xs.length hi - HT.sIx xs.length 0 lo)
theorem RepVs.cut {K : Frg} {ι : Ad} {n : Nat} {H : Hp} {xs : List PV} {ys : List V} (r : RepVs K ι n H xs ys) (lo hi : Option Int) : RepVs K ι n H (cutP xs lo hi) (cutV ys lo hi) := by
  unfold cutP cutV
  rw [r.length]
  exact (r.drop _).take _
def f_sl (lo hi : Option Int) : Op1 := fun x μ => match x with
  | .tup xs => some (.tup (cutP xs lo hi), μ)
  | .scr ns => some (.lst ((cutP ns lo hi).map PV.int), μ)
  | x => (rdL μ x).map fun xs => (.lst (cutP xs lo hi), μ)
def r_sl (K : Frg) : V → Option Int → Option Int → Hp → VK → Prop := fun x lo hi H Q => rSlA K x lo hi H Q ∨ rSlL K x lo hi H Q
theorem o_sl {X : Cx} : SlR X (r_sl X.K) := sl_tupA.or sl_list
theorem cut_map {α β : Type} (f : α → β) (xs : List α) (lo hi : Option Int) : cutP (xs.map f) lo hi = (cutP xs lo hi).map f := by
  unfold cutP
  rw [List.length_map, List.map_take, List.map_drop]
theorem repVs_ints {K : Frg} {ι : Ad} {n : Nat} {H : Hp} : ∀ ns : List Int, RepVs K ι n H (ns.map PV.int) (ns.map V.int)
  | [] => rfl
  | i :: r => ⟨.int i, r.map V.int, rfl, rfl, repVs_ints r⟩
theorem s_sl {K : Frg} {lo hi : Option Int} : S1 K (fun x => r_sl K x lo hi) (f_sl lo hi) := by
  intro ι H μ x v μ' hx Q S rx h q
  unfold f_sl at h
  split at h
  · rename_i xs
    cases h
    obtain ⟨a, us, rfl, ta, ra⟩ := rx
    refine .inl ⟨a, us, rfl, ta.sq, fun hw => ?_, fun _ p hp => q.tup S (ra.cut lo hi) hp⟩
    refine q.pure S ⟨a, us, rfl, ta, ?_⟩
    rw [← ra.length] at hw
    have : cutP xs lo hi = xs := by
      unfold cutP
      rw [hw.1, hw.2, List.drop_zero, Nat.sub_zero, List.take_length]
    rw [this]
    exact ra
  · rename_i ns
    cases h
    obtain ⟨a, rfl, t⟩ := rx
    refine .inr ⟨a, _, rfl, t.sq, fun p hp => q.lst S ?_ hp⟩
    have e : cutV (ns.map V.int) lo hi = (cutP ns lo hi).map V.int := cut_map V.int ns lo hi
    rw [e]
    exact repVs_ints _
  · obtain ⟨xs, e1, e2⟩ := Option.map_eq_some_iff.mp h
    cases e2
    obtain ⟨a, us, rfl, ta, ra⟩ := rdL_rep S rx e1
    exact .inr ⟨a, us, rfl, .of ta, fun p hp => q.lst S (ra.cut lo hi) hp⟩
def dSl (d : Den) (lo hi : DenO) : Den := fun ρ μ => (d ρ μ).bind fun p => (lo ρ p.2).bind fun q => (hi ρ q.2).bind fun r => f_sl q.1 r.1 p.1 r.2
section
variable {X : Cx} {e : Expr} {d : Den} {pos p2 : Pos} {lo hi : Option Expr} {dl dh : DenO}
theorem e_sl (he : PE X e (tD X.K d)) (hl : PO X lo (tO' X.K dl)) (hu : PO X hi (tO' X.K dh)) : PE X (.Subscript e (.Slice lo hi none p2) pos) (tD X.K (dSl d dl dh)) :=
  (pe_slice o_sl he hl hu).weak fun σ H Q h => by
    obtain ⟨ι, ρ, μ, v, μ', E, S, e, q⟩ := h
    obtain ⟨⟨x, μ1⟩, e1, e⟩ := Option.bind_eq_some_iff.mp e
    obtain ⟨⟨l, μ2⟩, e2, e⟩ := Option.bind_eq_some_iff.mp e
    obtain ⟨⟨u, μ3⟩, e3, e⟩ := Option.bind_eq_some_iff.mp e
    exact ⟨ι, ρ, μ, x, μ1, E, S, e1, fun hx ι1 H1 X1 R1 S1 => ⟨ι1, ρ, μ1, l, μ2, E.mono X1, S1, e2, fun ι2 H2 X2 S2 => ⟨ι2, ρ, μ2, u, μ3, E.mono (X1.trans X2), S2, e3, fun ι3 H3 X3 S3 =>
      s_sl ι3 H3 μ3 x v μ' hx Q S3 (R1.mono (X2.trans X3)) e (q.mono (X1.trans (X2.trans X3)))⟩⟩⟩
end
end Fd

/-! Fd4: targets, statements, loops. -/
namespace Fd
open PySem PySem.Spec PyProof.Rows L2

inductive Out where
  | nx (ρ : En) (μ : Sto) | rt (v : PV) (μ : Sto) | bk (ρ : En) (μ : Sto) | ct (ρ : En) (μ : Sto)
abbrev DenS := En → Sto → Option Out
abbrev DenG := PV → En → Sto → Option (En × Sto)
def AftR (K : Frg) (ι : Ad) (μ : Sto) (H : Hp) (ρ' : En) (μ' : Sto) (Q : L2.St → Hp → Prop) : Prop := ∀ σ' ι' H', Ext ι μ.length H ι' μ'.length H' → RepE K ι' μ'.length H' ρ' σ' → RepS K ι' H' μ' → Q σ' H'
def AftS (K : Frg) (ι : Ad) (μ : Sto) (H : Hp) (D : Ends) : Out → Prop
  | .nx ρ' μ' => AftR K ι μ H ρ' μ' D.nx
  | .rt v μ' => Aft K ι μ H v μ' D.rt
  | .bk ρ' μ' => AftR K ι μ H ρ' μ' D.bk
  | .ct ρ' μ' => AftR K ι μ H ρ' μ' D.ct
def tS (K : Frg) (d : DenS) : TS := fun D σ H => ∃ ι ρ μ o, RepE K ι μ.length H ρ σ ∧ RepS K ι H μ ∧ d ρ μ = some o ∧ AftS K ι μ H D o
def tG (K : Frg) (g : DenG) : TG := fun v σ H Q => ∃ ι ρ μ pv ρ' μ', RepE K ι μ.length H ρ σ ∧ RepS K ι H μ ∧ RepV K ι μ.length H pv v ∧ g pv ρ μ = some (ρ', μ') ∧ AftR K ι μ H ρ' μ' Q
section
variable {K : Frg} {ι ι1 : Ad} {μ μ1 μ' : Sto} {H H1 : Hp}
theorem AftR.mono {ρ' : En} {Q : L2.St → Hp → Prop} (e : Ext ι μ.length H ι1 μ1.length H1) (q : AftR K ι μ H ρ' μ' Q) : AftR K ι1 μ1 H1 ρ' μ' Q := fun σ' ι' H' X R S => q σ' ι' H' (e.trans X) R S
theorem AftS.mono {D : Ends} {o : Out} (e : Ext ι μ.length H ι1 μ1.length H1) (q : AftS K ι μ H D o) : AftS K ι1 μ1 H1 D o := by
  cases o with
  | nx ρ μ => exact AftR.mono e q
  | rt v μ => exact Aft.mono e q
  | bk ρ μ => exact AftR.mono e q
  | ct ρ μ => exact AftR.mono e q
end
/-! ### blocks -/
def sNil : DenS := fun ρ μ => some (.nx ρ μ)
def sSeq (a b : DenS) : DenS := fun ρ μ => (a ρ μ).bind fun o => match o with
  | .nx ρ' μ' => b ρ' μ'
  | o => some o
def sIf (c : DenT) (a b : DenS) : DenS := fun ρ μ => (c ρ μ).bind fun p => if p.1 = true then a ρ p.2 else b ρ p.2
def sRet (d : Den) : DenS := fun ρ μ => (d ρ μ).map fun p => .rt p.1 p.2
def sRetN : DenS := fun _ μ => some (.rt .non μ)
def sEx (d : Den) : DenS := fun ρ μ => (d ρ μ).map fun p => .nx ρ p.2
def sBk : DenS := fun ρ μ => some (.bk ρ μ)
def sCt : DenS := fun ρ μ => some (.ct ρ μ)
def sNo : DenS := fun _ _ => none
def sAsg (d : Den) (g : DenG) : DenS := fun ρ μ => (d ρ μ).bind fun p => (g p.1 ρ p.2).map fun q => .nx q.1 q.2
section
variable {X : Cx} {st : Stmt} {rest : List Stmt} {t u : DenS} {e : Expr} {d : Den} {pos : Pos}
theorem ss_nil : PSs X [] (tS X.K sNil) := pss_nil.weak fun D σ H h => by
  obtain ⟨ι, ρ, μ, o, E, S, e, q⟩ := h
  cases e
  exact q σ ι H .refl E S
theorem ss_cons (h1 : PS X st (tS X.K t)) (h2 : PSs X rest (tS X.K u)) : PSs X (st :: rest) (tS X.K (sSeq t u)) :=
  (pss_cons h1 h2).weak fun D σ H h => by
    obtain ⟨ι, ρ, μ, o, E, S, e, q⟩ := h
    obtain ⟨o1, e1, e2⟩ := Option.bind_eq_some_iff.mp e
    refine ⟨ι, ρ, μ, o1, E, S, e1, ?_⟩
    cases o1 with
    | nx ρ' μ' => exact fun σ' ι' H' X R S' => ⟨ι', ρ', μ', o, R, S', e2, q.mono X⟩
    | rt v μ' => cases e2; exact q
    | bk ρ' μ' => cases e2; exact q
    | ct ρ' μ' => cases e2; exact q
theorem ss_one (h1 : PS X st (tS X.K t)) : PSs X [st] (tS X.K t) := pss_one h1
theorem ss_never {sts : List Stmt} : PSs X sts (tS X.K sNo) := pss_never.weak fun D σ H h => by
  obtain ⟨ι, ρ, μ, o, E, S, e, q⟩ := h
  cases e
theorem s_never : PS X st (tS X.K sNo) := ps_never.weak fun D σ H h => by
  obtain ⟨ι, ρ, μ, o, E, S, e, q⟩ := h
  cases e
theorem s_pass : PS X (.Pass pos) (tS X.K sNil) := ps_pass.weak fun D σ H h => by
  obtain ⟨ι, ρ, μ, o, E, S, e, q⟩ := h
  cases e
  exact q σ ι H .refl E S
theorem s_bk : PS X (.Break pos) (tS X.K sBk) := ps_break.weak fun D σ H h => by
  obtain ⟨ι, ρ, μ, o, E, S, e, q⟩ := h
  cases e
  exact q σ ι H .refl E S
theorem s_ct : PS X (.Continue pos) (tS X.K sCt) := ps_continue.weak fun D σ H h => by
  obtain ⟨ι, ρ, μ, o, E, S, e, q⟩ := h
  cases e
  exact q σ ι H .refl E S
theorem s_ex (he : PE X e (tD X.K d)) (hs : swapsWith e none pos.line X.env = pure false := by rfl) : PS X (.Expr e pos) (tS X.K (sEx d)) :=
  (ps_expr he hs).weak fun D σ H h => by
    obtain ⟨ι, ρ, μ, o, E, S, e, q⟩ := h
    obtain ⟨⟨v, μ1⟩, e1, e2⟩ := Option.map_eq_some_iff.mp e
    cases e2
    exact ⟨ι, ρ, μ, v, μ1, E, S, e1, fun hv ι' H' X R S' => q σ ι' H' X (E.mono X) S'⟩
theorem s_ret (he : PE X e (tD X.K d)) : PS X (.Return (some e) pos) (tS X.K (sRet d)) :=
  (ps_ret he).weak fun D σ H h => by
    obtain ⟨ι, ρ, μ, o, E, S, e, q⟩ := h
    obtain ⟨⟨v, μ1⟩, e1, e2⟩ := Option.map_eq_some_iff.mp e
    cases e2
    exact ⟨ι, ρ, μ, v, μ1, E, S, e1, q⟩
theorem s_retN : PS X (.Return none pos) (tS X.K sRetN) := ps_retN.weak fun D σ H h => by
  obtain ⟨ι, ρ, μ, o, E, S, e, q⟩ := h
  cases e
  exact q _ ι H .refl rfl S
theorem s_if {c : Expr} {a b : List Stmt} {dc : DenT} (hc : PT X c (tT X.K dc)) (ha : PSs X a (tS X.K t)) (hb : PSs X b (tS X.K u)) : PS X (.If c a b pos) (tS X.K (sIf dc t u)) :=
  (ps_if hc ha hb).weak fun D σ H h => by
    obtain ⟨ι, ρ, μ, o, E, S, e, q⟩ := h
    obtain ⟨⟨b, μ1⟩, e1, e2⟩ := Option.bind_eq_some_iff.mp e
    refine ⟨ι, ρ, μ, b, μ1, E, S, e1, fun ι1 H1 X1 S1 => ?_⟩
    cases b with
    | true => exact ⟨ι1, ρ, μ1, o, E.mono X1, S1, e2, q.mono X1⟩
    | false => exact ⟨ι1, ρ, μ1, o, E.mono X1, S1, e2, q.mono X1⟩
end
/-! ### targets -/
def gNm (i : Nat) : DenG := fun v ρ μ => some (ρ.set i (some v), μ)
abbrev DenGs := List PV → En → Sto → Option (En × Sto)
def gsNil : DenGs := fun vs ρ μ => match vs with
  | [] => some (ρ, μ)
  | _ => none
def gsCons (g : DenG) (r : DenGs) : DenGs := fun vs ρ μ => match vs with
  | v :: vs => (g v ρ μ).bind fun p => r vs p.1 p.2
  | [] => none
def gTu (n : Nat) (r : DenGs) : DenG := fun v ρ μ => match v with
  | .tup xs => if xs.length = n then r xs ρ μ else none
  | _ => none
def tGs (K : Frg) (g : DenGs) : TGs := fun vs σ H Q => ∃ ι ρ μ pvs ρ' μ', RepE K ι μ.length H ρ σ ∧ RepS K ι H μ ∧ RepVs K ι μ.length H pvs vs ∧ g pvs ρ μ = some (ρ', μ') ∧ AftR K ι μ H ρ' μ' Q
section
variable {X : Cx} {e tg : Expr} {es : List Expr} {d : Den} {g : DenG} {gs : DenGs} {pos : Pos}
theorem _root_.L2.PG.weak {t t' : TG} (h : PG X e t) (w : ∀ v σ H Q, t' v σ H Q → t v σ H Q) : PG X e t' := ⟨fun pins s σ H v u Q I r q => h.run pins s σ H v u Q I r (w v σ H Q q)⟩
theorem _root_.L2.PGs.weak {t t' : TGs} (h : PGs X es t) (w : ∀ v σ H Q, t' v σ H Q → t v σ H Q) : PGs X es t' := ⟨fun pins s σ H v u Q I r q => h.run pins s σ H v u Q I r (w v σ H Q q)⟩
theorem g_nm (i : Nat) {x : Str} (hN : X.N.Nodup) (hi : X.N[i]? = some x := by rfl) (hx : Loc X.env.scope x := by first | exact Or.inl rfl | exact Or.inr rfl) (hf : X.fn x = true ∨ X.env.scope.names.lookup x = some .local := by first | exact .inl rfl | exact .inr rfl | assumption) :
    PG X (.Name x pos) (tG X.K (gNm i)) := (pg_name (i := i) hN hi hx hf).weak fun v σ H Q h => by
  obtain ⟨ι, ρ, μ, pv, ρ', μ', E, S, R, e, q⟩ := h
  cases e
  exact q _ ι H .refl (E.set i R) S
theorem gs_nil : PGs X [] (tGs X.K gsNil) := pgs_nil.weak fun v σ H Q h => by
  obtain ⟨ι, ρ, μ, pv, ρ', μ', E, S, R, e, q⟩ := h
  unfold gsNil at e
  split at e
  · cases e; cases R; exact ⟨rfl, q σ ι H .refl E S⟩
  · cases e
theorem gs_cons (h1 : PG X e (tG X.K g)) (h2 : PGs X es (tGs X.K gs)) (hs : (assignEach (e :: es) X.env).map (·.2) = assign e X.env :: (assignEach es X.env).map (·.2) := by rfl) : PGs X (e :: es) (tGs X.K (gsCons g gs)) :=
  (pgs_cons h1 h2 hs).weak fun v σ H Q h => by
    obtain ⟨ι, ρ, μ, pv, ρ', μ', E, S, R, e, q⟩ := h
    unfold gsCons at e
    split at e
    · rename_i w ws
      obtain ⟨y, r, rfl, r1, r2⟩ := R
      obtain ⟨⟨ρ1, μ1⟩, e1, e2⟩ := Option.bind_eq_some_iff.mp e
      exact ⟨y, r, rfl, ι, ρ, μ, w, ρ1, μ1, E, S, r1, e1, fun σ1 ι1 H1 X1 E1 S1 => ⟨ι1, ρ1, μ1, ws, ρ', μ', E1, S1, RepVs.mono X1 r2, e2, q.mono X1⟩⟩
    · cases e
theorem g_tu {k n : Nat} (hc : X.calm = true) (h : PGs X es (tGs X.K gs)) (hn : (assignEach es X.env).length = n := by rfl) (hst : (assignEach es X.env).findIdx? (·.1) = none := by rfl) : PG X (.Tuple es k pos) (tG X.K (gTu n gs)) :=
  (pg_tup hc h hn hst).weak fun v σ H Q h => by
    obtain ⟨ι, ρ, μ, pv, ρ', μ', E, S, R, e, q⟩ := h
    unfold gTu at e
    split at e
    · rename_i xs
      split at e
      · rename_i hl
        obtain ⟨a, ys, rfl, t, r⟩ := R
        exact ⟨a, ys, rfl, t.sq, by rw [← r.length]; exact hl, ι, ρ, μ, xs, ρ', μ', E, S, r, e, q⟩
      · cases e
    · cases e
/-- o[i] = v, o a list of the store -/
def f_set (o i v : PV) (μ : Sto) : Option Sto := match o, i with
  | .loc l, .int k => match μ[l]? with
    | some (.lst xs) => (ixN xs.length k).map fun j => μ.set l (.lst (xs.set j v))
    | _ => none
  | _, _ => none
def gSb (o i : Den) : DenG := fun v ρ μ => (o ρ μ).bind fun p => (i ρ p.2).bind fun q => (f_set p.1 q.1 v q.2).map fun μ' => (ρ, μ')
theorem set_rep {K : Frg} {ι : Ad} {H : Hp} {μ μ' : Sto} {o i v : PV} {ho hi hv : V} {Q : Hp → Prop} (S : RepS K ι H μ) (ro : RepV K ι μ.length H o ho) (ri : RepV K ι μ.length H i hi) (rv : RepV K ι μ.length H v hv)
    (e : f_set o i v μ = some μ') (q : ∀ H', Ext ι μ.length H ι μ'.length H' → RepS K ι H' μ' → Q H') : rSetL ho hi hv H Q := by
  unfold f_set at e
  split at e
  · rename_i l k
    split at e
    · rename_i xs em
      obtain ⟨j, e1, e2⟩ := Option.map_eq_some_iff.mp e
      cases e2; cases ri
      obtain ⟨hl, rfl⟩ := ro
      obtain ⟨ys, t, r⟩ := S.obj l _ em
      refine ⟨ι l, ys, k, j, rfl, rfl, t, by rw [← r.length]; exact e1, ?_⟩
      have X := Ext.put (o := .lst (ys.set j hv)) S hl
      refine q _ ?_ (S.put hl ⟨_, upd_same, (RepVs.mono X r).set j (rv.mono X)⟩)
      rw [List.length_set]
      exact X
    · cases e
  · cases e
theorem g_sb {o i : Expr} {d2 : Den} (ho : PE X o (tD X.K d)) (hi : PE X i (tD X.K d2))
    (ha : ∀ v, assign (.Subscript o i pos) X.env v = (do
      let ov ← holding [v] (eval o X.env)
      let iv ← holding [v, ov] (eval i X.env)
      standAt pos
      holding [v, ov, iv] (setItem ov iv v)
      release [v, ov, iv] []) := by intro _; rfl) : PG X (.Subscript o i pos) (tG X.K (gSb d d2)) :=
  (pg_sub ho hi set_list ha).weak fun v σ H Q h => by
    obtain ⟨ι, ρ, μ, pv, ρ', μ', E, S, R, e, q⟩ := h
    obtain ⟨⟨x, μ1⟩, e1, e⟩ := Option.bind_eq_some_iff.mp e
    obtain ⟨⟨y, μ2⟩, e2, e⟩ := Option.bind_eq_some_iff.mp e
    obtain ⟨μ3, e3, e4⟩ := Option.map_eq_some_iff.mp e
    cases e4
    exact ⟨ι, ρ, μ, x, μ1, E, S, e1, fun hx ι1 H1 X1 R1 S1 => ⟨ι1, ρ, μ1, y, μ2, E.mono X1, S1, e2, fun hy ι2 H2 X2 R2 S2 =>
      set_rep S2 (R1.mono X2) R2 (R.mono (X1.trans X2)) e3 fun H3 X3 S3 => q σ ι2 H3 (X1.trans (X2.trans X3)) (E.mono (X1.trans (X2.trans X3))) S3⟩⟩
/-- target = value -/
theorem s_asg (he : PE X e (tD X.K d)) (hg : PG X tg (tG X.K g)) (hs : swapsWithSole [tg] e pos.line X.env = pure false := by rfl) (hw : swappedStores [tg] e X.env = pure none := by rfl)
    (h1 : (assignEach [tg] X.env).map (·.2) = [assign tg X.env] := by rfl) : PS X (.Assign [tg] e pos) (tS X.K (sAsg d g)) :=
  (ps_asg he hg hs hw h1).weak fun D σ H h => by
    obtain ⟨ι, ρ, μ, o, E, S, e, q⟩ := h
    obtain ⟨⟨v, μ1⟩, e1, e⟩ := Option.bind_eq_some_iff.mp e
    obtain ⟨⟨ρ2, μ2⟩, e2, e3⟩ := Option.map_eq_some_iff.mp e
    cases e3
    exact ⟨ι, ρ, μ, v, μ1, E, S, e1, fun hv ι1 H1 X1 R1 S1 => ⟨ι1, ρ, μ1, v, ρ2, μ2, E.mono X1, S1, R1, e2, AftR.mono X1 q⟩⟩
theorem s_set (i : Nat) {x : Str} {pos' : Pos} (hN : X.N.Nodup) (he : PE X e (tD X.K d)) (hi : X.N[i]? = some x := by rfl) (hx : Loc X.env.scope x := by first | exact Or.inl rfl | exact Or.inr rfl) (hs : swapsWith e (some (.Name x pos')) pos.line X.env = pure false := by rfl)
    (hf : X.fn x = true ∨ X.env.scope.names.lookup x = some .local := by first | exact .inl rfl | exact .inr rfl | assumption) :
    PS X (.Assign [.Name x pos'] e pos) (tS X.K (sAsg d (gNm i))) :=
  (ps_set (i := i) hN hi hx he hs hf).weak fun D σ H h => by
    obtain ⟨ι, ρ, μ, o, E, S, e, q⟩ := h
    obtain ⟨⟨v, μ1⟩, e1, e⟩ := Option.bind_eq_some_iff.mp e
    obtain ⟨⟨ρ2, μ2⟩, e2, e3⟩ := Option.map_eq_some_iff.mp e
    cases e3; cases e2
    exact ⟨ι, ρ, μ, v, μ1, E, S, e1, fun hv ι1 H1 X1 R1 S1 => q _ ι1 H1 X1 ((E.mono X1).set i R1) S1⟩
/-- a, b = x, y, the stores swapped -/
def sPar (i j : Nat) (r : DenA) : DenS := fun ρ μ => match r ρ μ with
  | some ([v, w], μ') => some (.nx ((ρ.set i (some v)).set j (some w)) μ')
  | _ => none
def sPar3 (i j k : Nat) (r : DenA) : DenS := fun ρ μ => match r ρ μ with
  | some ([u, v, w], μ') => some (.nx (((ρ.set i (some u)).set j (some v)).set k (some w)) μ')
  | _ => none
theorem s_par (i j : Nat) {x y : Str} {a b : Expr} {r : DenA} {px py pt : Pos} {kt k2 pt2} (hc : X.calm = true) (hN : X.N.Nodup) (ha : PA X [a, b] (tA X.K r)) (hi : X.N[i]? = some x := by rfl) (hj : X.N[j]? = some y := by rfl) (hij : i ≠ j := by decide)
    (hx : X.env.scope.names.lookup x = some .local := by rfl) (hy : X.env.scope.names.lookup y = some .local := by rfl)
    (hw : swappedStores [.Tuple [.Name x px, .Name y py] kt pt] (.Tuple [a, b] k2 pt2) X.env = pure (some [x, y]) := by rfl)
    (hs : swapsWithSole [.Tuple [.Name x px, .Name y py] kt pt] (.Tuple [a, b] k2 pt2) pos.line X.env = pure false := by rfl) :
    PS X (.Assign [.Tuple [.Name x px, .Name y py] kt pt] (.Tuple [a, b] k2 pt2) pos) (tS X.K (sPar i j r)) :=
  (ps_par (i := i) (j := j) hc hN hi hj hij hx hy ha hw hs).weak fun D σ H h => by
    obtain ⟨ι, ρ, μ, o, E, S, e, q⟩ := h
    unfold sPar at e
    split at e
    · rename_i v w μ1 e1
      cases e
      exact ⟨ι, ρ, μ, _, μ1, E, S, e1, fun hv ι1 H1 X1 R1 S1 => by
        obtain ⟨y1, t1, rfl, r1, y2, t2, rfl, r2, rfl⟩ := R1
        exact ⟨y1, y2, rfl, q _ ι1 H1 X1 (((E.mono X1).set i r1).set j r2) S1⟩⟩
    · cases e
theorem s_par3 (i j l : Nat) {x y z : Str} {a b c : Expr} {r : DenA} {px py pz pt : Pos} {kt k2 pt2} (hc : X.calm = true) (hN : X.N.Nodup) (ha : PA X [a, b, c] (tA X.K r)) (hi : X.N[i]? = some x := by rfl) (hj : X.N[j]? = some y := by rfl) (hl : X.N[l]? = some z := by rfl) (hij : i ≠ j := by decide) (hil : i ≠ l := by decide) (hjl : j ≠ l := by decide)
    (hx : X.env.scope.names.lookup x = some .local := by rfl) (hy : X.env.scope.names.lookup y = some .local := by rfl) (hz : X.env.scope.names.lookup z = some .local := by rfl)
    (hw : swappedStores [.Tuple [.Name x px, .Name y py, .Name z pz] kt pt] (.Tuple [a, b, c] k2 pt2) X.env = pure (some [x, y, z]) := by rfl)
    (hs : swapsWithSole [.Tuple [.Name x px, .Name y py, .Name z pz] kt pt] (.Tuple [a, b, c] k2 pt2) pos.line X.env = pure false := by rfl) :
    PS X (.Assign [.Tuple [.Name x px, .Name y py, .Name z pz] kt pt] (.Tuple [a, b, c] k2 pt2) pos) (tS X.K (sPar3 i j l r)) :=
  (ps_par3 (i := i) (j := j) (l := l) hc hN hi hj hl hij hil hjl hx hy hz ha hw hs).weak fun D σ H h => by
    obtain ⟨ι, ρ, μ, o, E, S, e, q⟩ := h
    unfold sPar3 at e
    split at e
    · rename_i u v w μ1 e1
      cases e
      exact ⟨ι, ρ, μ, _, μ1, E, S, e1, fun hv ι1 H1 X1 R1 S1 => by
        obtain ⟨y1, t1, rfl, r1, y2, t2, rfl, r2, y3, t3, rfl, r3, rfl⟩ := R1
        exact ⟨y1, y2, y3, rfl, q _ ι1 H1 X1 ((((E.mono X1).set i r1).set j r2).set l r3) S1⟩⟩
    · cases e
/-- x op= e -/
def sAug (i : Nat) (f : Op2) (d : Den) : DenS := fun ρ μ => match ρ[i]? with
  | some (some x) => (d ρ μ).bind fun p => (f x p.1 p.2).map fun q => .nx (ρ.set i (some q.1)) q.2
  | _ => none
theorem s_aug (i : Nat) {x : Str} {op : Operator} {r : R2} {f : Op2} {pos' : Pos} (ho : OpR X (inplaceOp op) r) (hr : S2 X.K r f) (hN : X.N.Nodup) (he : PE X e (tD X.K d)) (hi : X.N[i]? = some x := by rfl) (hx : Loc X.env.scope x := by first | exact Or.inl rfl | exact Or.inr rfl)
    (hf : X.fn x = true ∨ X.env.scope.names.lookup x = some .local := by first | exact .inl rfl | exact .inr rfl | assumption) :
    PS X (.AugAssign (.Name x pos') op e pos) (tS X.K (sAug i f d)) :=
  (ps_aug (i := i) hN hi hx he ho hf).weak fun D σ H h => by
    obtain ⟨ι, ρ, μ, o, E, S, e, q⟩ := h
    unfold sAug at e
    split at e
    · rename_i w hw
      obtain ⟨⟨v, μ1⟩, e1, e⟩ := Option.bind_eq_some_iff.mp e
      obtain ⟨⟨z, μ2⟩, e2, e3⟩ := Option.map_eq_some_iff.mp e
      cases e3
      obtain ⟨hw', h1, h2⟩ := E.at_ i _ hw
      exact ⟨hw', h1, ι, ρ, μ, v, μ1, E, S, e1, fun hv ι1 H1 X1 R1 S1 => hr ι1 H1 μ1 w v z μ2 hw' hv _ S1 (h2.mono X1) R1 e2 fun hz ι2 H2 X2 R2 S2 =>
        q _ ι2 H2 (X1.trans X2) ((E.mono (X1.trans X2)).set i R2) S2⟩
    · cases e
end

/-! ### while -/
def whN (c : DenT) (b : DenS) : Nat → DenS
  | 0, _, _ => none
  | n + 1, ρ, μ => (c ρ μ).bind fun p => if p.1 = true then (b ρ p.2).bind fun o => match o with
      | .nx ρ' μ' => whN c b n ρ' μ'
      | .ct ρ' μ' => whN c b n ρ' μ'
      | .bk ρ' μ' => some (.nx ρ' μ')
      | .rt v μ' => some (.rt v μ') else some (.nx ρ p.2)
theorem whN_mono {c : DenT} {b : DenS} : ∀ {n m : Nat} {ρ : En} {μ : Sto} {o : Out}, n ≤ m → whN c b n ρ μ = some o → whN c b m ρ μ = some o
  | 0, _, _, _, _, _, h => by cases h
  | n + 1, 0, _, _, _, hm, _ => by omega
  | n + 1, m + 1, ρ, μ, o, hm, h => by
    unfold whN at h ⊢
    obtain ⟨⟨k, μ1⟩, e1, h⟩ := Option.bind_eq_some_iff.mp h
    rw [e1]
    show (if k = true then _ else _) = _
    have h : (if k = true then _ else _) = some o := h
    cases k with
    | false => exact h
    | true =>
      rw [if_pos rfl] at h ⊢
      obtain ⟨o1, e2, h⟩ := Option.bind_eq_some_iff.mp h
      rw [e2]
      cases o1 with
      | nx ρ' μ' => exact whN_mono (by omega) h
      | ct ρ' μ' => exact whN_mono (by omega) h
      | bk ρ' μ' => exact h
      | rt v μ' => exact h
open Classical in
/-- a while: what any number of turns comes to -/
noncomputable def sWh (c : DenT) (b : DenS) : DenS := fun ρ μ => if h : ∃ o n, whN c b n ρ μ = some o then some (Classical.choose h) else none
theorem sWh_of {c : DenT} {b : DenS} {ρ : En} {μ : Sto} {o : Out} (n : Nat) (h : whN c b n ρ μ = some o) : sWh c b ρ μ = some o := by
  have hh : ∃ o n, whN c b n ρ μ = some o := ⟨o, n, h⟩
  unfold sWh
  rw [dif_pos hh]
  obtain ⟨m, hm⟩ := Classical.choose_spec hh
  have h1 := whN_mono (Nat.le_max_left n m) h
  have h2 := whN_mono (Nat.le_max_right n m) hm
  rw [h1] at h2
  exact h2.symm
theorem sWh_get {c : DenT} {b : DenS} {ρ : En} {μ : Sto} {o : Out} (h : sWh c b ρ μ = some o) : ∃ n, whN c b n ρ μ = some o := by
  unfold sWh at h
  split at h
  · rename_i hh
    cases h
    exact Classical.choose_spec hh
  · cases h
section
variable {X : Cx} {pos : Pos} {c : Expr} {body : List Stmt} {dc : DenT} {db : DenS}
theorem s_wh (hc : PT X c (tT X.K dc)) (hb : PSs X body (tS X.K db)) (hp : PassesOwn (model X.prog X.w) X.A X.env X.xe := by exact PassesOwn.never) : PS X (.While c body [] pos) (tS X.K (sWh dc db)) :=
  (ps_while hp hc hb).weak fun D σ H h => by
    obtain ⟨ι, ρ, μ, o, E, S, e, q⟩ := h
    obtain ⟨n, e⟩ := sWh_get e
    refine ⟨fun m σ' H' => ∃ ι' ρ' μ', RepE X.K ι' μ'.length H' ρ' σ' ∧ RepS X.K ι' H' μ' ∧ whN dc db m ρ' μ' = some o ∧ AftS X.K ι' μ' H' D o, ⟨n, ι, ρ, μ, E, S, e, q⟩, ?_⟩
    rintro m σ1 H1 ⟨ι, ρ, μ, E, S, e, q⟩
    cases m with
    | zero => cases e
    | succ m =>
      unfold whN at e
      obtain ⟨⟨k, μ1⟩, e1, e⟩ := Option.bind_eq_some_iff.mp e
      have e : (if k = true then _ else _) = some o := e
      refine ⟨ι, ρ, μ, k, μ1, E, S, e1, fun ι1 H2 X1 S1 => ?_⟩
      cases k with
      | false =>
        rw [if_neg Bool.false_ne_true] at e ⊢
        cases e
        exact q σ1 ι1 H2 X1 (E.mono X1) S1
      | true =>
        rw [if_pos rfl] at e ⊢
        obtain ⟨o1, e2, e⟩ := Option.bind_eq_some_iff.mp e
        refine ⟨fun σ' H' => ∃ ι' ρ' μ', RepE X.K ι' μ'.length H' ρ' σ' ∧ RepS X.K ι' H' μ' ∧ whN dc db m ρ' μ' = some o ∧ AftS X.K ι' μ' H' D o, fun σ' H' h => ⟨m, Nat.lt_succ_self _, h⟩, ι1, ρ, μ1, o1, E.mono X1, S1, e2, ?_⟩
        cases o1 with
        | nx ρ' μ' => exact fun σ' ι' H' X R S' => ⟨ι', ρ', μ', R, S', e, q.mono (X1.trans X)⟩
        | ct ρ' μ' => exact fun σ' ι' H' X R S' => ⟨ι', ρ', μ', R, S', e, q.mono (X1.trans X)⟩
        | bk ρ' μ' => cases e; exact AftR.mono X1 q
        | rt v μ' => cases e; exact Aft.mono X1 q
end

/-! ### what is walked -/
/-- the lists of the store that a walk reads stand as they stood -/
def ChkOk (ch : List (Nat × List PV)) (μ : Sto) : Prop := ∀ p ∈ ch, μ[p.1]? = some (.lst p.2)
abbrev DenI := En → Sto → Option ((List PV × List (Nat × List PV)) × Sto)
structure ItOk (K : Frg) (J : It) (xs : List PV) (ch : List (Nat × List PV)) (ι : Ad) (n : Nat) (H : Hp) : Prop where
  goes : ∀ (i : Nat) (ι2 : Ad) (μ2 : Sto) (H2 : Hp), i < xs.length → ExtP ι n H ι2 μ2.length H2 → RepS K ι2 H2 μ2 → ChkOk ch μ2 → J.go i H2
  stops : ∀ (ι2 : Ad) (μ2 : Sto) (H2 : Hp), ExtP ι n H ι2 μ2.length H2 → RepS K ι2 H2 μ2 → ChkOk ch μ2 → J.stop xs.length H2
  yields : ∀ (i : Nat) (ι2 : Ad) (μ2 : Sto) (H2 : Hp) (x : V) (H3 : Hp) (z : PV), xs[i]? = some z → ExtP ι n H ι2 μ2.length H2 → RepS K ι2 H2 μ2 → ChkOk ch μ2 → J.yld i H2 x H3 →
    Ext ι2 μ2.length H2 ι2 μ2.length H3 ∧ RepS K ι2 H3 μ2 ∧ RepV K ι2 μ2.length H3 z x
def tI (K : Frg) (d : DenI) : TI := fun σ H R => ∃ ι ρ μ p μ', RepE K ι μ.length H ρ σ ∧ RepS K ι H μ ∧ d ρ μ = some (p, μ') ∧ ChkOk p.2 μ' ∧ ∀ ι' H' J, Ext ι μ.length H ι' μ'.length H' → RepS K ι' H' μ' → ItOk K J p.1 p.2 ι' μ'.length H' → R J H'
section
variable {X : Cx} {tg iter : Expr}
theorem _root_.L2.PI.weak {t t' : TI} (h : PI X tg iter t) (w : ∀ σ H R, t' σ H R → t σ H R) : PI X tg iter t' := ⟨fun pins s σ H R I q => h.run pins s σ H R I (w σ H R q)⟩
/-- a list or a tuple, by what the value is -/
def iSeqA (K : Frg) (tl : TE) : TI := fun σ H R => tl σ H fun x H1 => ∃ a, x = .ref a ∧ (((∃ xs, SqL K H1 a xs) ∧ R (Itl K a) H1) ∨ ((∃ xs, SqT K H1 a xs) ∧ R (Itt K a) H1))
theorem pi_seqA {l : Expr} {tl : TE} (hl : PE X l tl) : PI X tg l (iSeqA X.K tl) := by
  refine ⟨fun pins s σ H R I h => ?_⟩
  refine thn (hl.run pins s σ H _ I h) fun v s1 ⟨x, H1, I1, r1, q1⟩ => ?_
  obtain ⟨a, e, q⟩ := q1
  subst e
  cases r1
  rcases q with ⟨⟨xs, hq⟩, q⟩ | ⟨⟨xs, hq⟩, q⟩
  · obtain ⟨its, rv, p, hz⟩ := I1.list hq
    refine wpAny_pyIter_list p.isList ?_
    refine ⟨s1.heap.objs.size, [s1.heap.objs.size], _, _, H1, rfl, I1.kept (t' := s1.toks) fun b o e => Heap.get?_push_of_some _ e, turn_list a _, ⟨_, Heap.get?_push_size _ rfl, rfl, rfl⟩, fun b hb => ?_, q⟩
    have e : b = s1.heap.objs.size := by simpa using hb
    subst e
    exact I1.fpOk (Nat.le_refl _) (I1.hok.fresh (Nat.le_refl _))
  · obtain ⟨its, rv, p, hz⟩ := I1.tuple hq
    refine wpAny_pyIter_tuple (show s1.heap.IsTuple a its.toArray from p) ?_
    refine ⟨s1.heap.objs.size, [s1.heap.objs.size], _, _, H1, rfl, I1.kept (t' := s1.toks) fun b o e => Heap.get?_push_of_some _ e, turn_tuple a _, ⟨_, Heap.get?_push_size _ rfl, rfl, rfl⟩, fun b hb => ?_, q⟩
    have e : b = s1.heap.objs.size := by simpa using hb
    subst e
    exact I1.fpOk (Nat.le_refl _) (I1.hok.fresh (Nat.le_refl _))
end
/-- the items of a list or tuple; a list of the store must stand -/
def itSeq (d : Den) : DenI := fun ρ μ => (d ρ μ).bind fun p => match p.1 with
  | .tup xs => some ((xs, []), p.2)
  | .lst xs => some ((xs, []), p.2)
  | .loc l => match p.2[l]? with
    | some (.lst xs) => some ((xs, [(l, xs)]), p.2)
    | _ => none
  | _ => none
/-- a list that may be read at later heaps -/
theorem itl_ok {K : Frg} {J : It} {xs : List PV} {ch : List (Nat × List PV)} {ι : Ad} {n : Nat} {H : Hp} {a : Addr} (hJ : J = Itl K a)
    (h : ∀ (ι2 : Ad) (μ2 : Sto) (H2 : Hp), ExtP ι n H ι2 μ2.length H2 → RepS K ι2 H2 μ2 → ChkOk ch μ2 → ∃ ys, SqL K H2 a ys ∧ RepVs K ι2 μ2.length H2 xs ys) : ItOk K J xs ch ι n H := by
  subst hJ
  refine ⟨fun i ι2 μ2 H2 hi e S c => ?_, fun ι2 μ2 H2 e S c => ?_, fun i ι2 μ2 H2 x H3 z hz e S c y => ?_⟩
  · obtain ⟨ys, s, r⟩ := h ι2 μ2 H2 e S c
    exact ⟨ys, ys[i]'(by rw [← r.length]; exact hi), s, by simp⟩
  · obtain ⟨ys, s, r⟩ := h ι2 μ2 H2 e S c
    exact ⟨ys, s, by rw [r.length]; exact Nat.le_refl _⟩
  · obtain ⟨ys, s, r⟩ := h ι2 μ2 H2 e S c
    obtain ⟨e1, y⟩ := y
    subst e1
    obtain ⟨w, h1, h2⟩ := r.get hz
    have := (y ys s).symm.trans h1
    cases this
    exact ⟨.refl, S, h2⟩
theorem itt_ok {K : Frg} {J : It} {xs : List PV} {ch : List (Nat × List PV)} {ι : Ad} {n : Nat} {H : Hp} {a : Addr} (hJ : J = Itt K a)
    (h : ∀ (ι2 : Ad) (μ2 : Sto) (H2 : Hp), ExtP ι n H ι2 μ2.length H2 → RepS K ι2 H2 μ2 → ChkOk ch μ2 → ∃ ys, SqT K H2 a ys ∧ RepVs K ι2 μ2.length H2 xs ys) : ItOk K J xs ch ι n H := by
  subst hJ
  refine ⟨fun i ι2 μ2 H2 hi e S c => ?_, fun ι2 μ2 H2 e S c => ?_, fun i ι2 μ2 H2 x H3 z hz e S c y => ?_⟩
  · obtain ⟨ys, s, r⟩ := h ι2 μ2 H2 e S c
    exact ⟨ys, ys[i]'(by rw [← r.length]; exact hi), s, by simp⟩
  · obtain ⟨ys, s, r⟩ := h ι2 μ2 H2 e S c
    exact ⟨ys, s, by rw [r.length]; exact Nat.le_refl _⟩
  · obtain ⟨ys, s, r⟩ := h ι2 μ2 H2 e S c
    obtain ⟨e1, y⟩ := y
    subst e1
    obtain ⟨w, h1, h2⟩ := r.get hz
    have := (y ys s).symm.trans h1
    cases this
    exact ⟨.refl, S, h2⟩
section
variable {X : Cx} {tg : Expr}
theorem i_seq {l : Expr} {d : Den} (hl : PE X l (tD X.K d)) : PI X tg l (tI X.K (itSeq d)) :=
  (pi_seqA hl).weak fun σ H R h => by
    obtain ⟨ι, ρ, μ, p, μ', E, S, e, c, q⟩ := h
    obtain ⟨⟨x, μ1⟩, e1, e⟩ := Option.bind_eq_some_iff.mp e
    refine ⟨ι, ρ, μ, x, μ1, E, S, e1, fun hx ι1 H1 X1 R1 S1 => ?_⟩
    cases x with
    | tup xs =>
      cases e
      obtain ⟨a, ys, rfl, t, r⟩ := R1
      exact ⟨a, rfl, .inr ⟨⟨ys, t.sq⟩, q ι1 H1 _ X1 S1 (itt_ok rfl fun ι2 μ2 H2 e S c => ⟨ys, (t.monoP e).sq, RepVs.monoP e r⟩)⟩⟩
    | lst xs =>
      cases e
      obtain ⟨a, ys, rfl, ⟨t, g⟩, r⟩ := R1
      exact ⟨a, rfl, .inl ⟨⟨ys, .of t⟩, q ι1 H1 _ X1 S1 (itl_ok rfl fun ι2 μ2 H2 e S c => ⟨ys, .of (e.keep a _ t g.1 g.2), RepVs.monoP e r⟩)⟩⟩
    | loc l =>
      obtain ⟨hl, rfl⟩ := R1
      have e : (match μ1[l]? with
        | some (.lst xs) => some ((xs, [(l, xs)]), μ1)
        | _ => none) = some (p, μ') := e
      split at e
      · rename_i xs em
        cases e
        obtain ⟨ys, t, r⟩ := S1.obj l _ em
        refine ⟨ι1 l, rfl, .inl ⟨⟨ys, .of t⟩, q ι1 H1 _ X1 S1 (itl_ok rfl fun ι2 μ2 H2 e S c => ?_)⟩⟩
        have em2 := c (l, xs) (by simp)
        obtain ⟨ys2, t2, r2⟩ := S.obj l _ em2
        rw [e.same l hl] at t2
        exact ⟨ys2, .of t2, r2⟩
      · cases e
    | _ => cases e
/-- range -/
def rgP (lo : Int) : Nat → List PV
  | 0 => []
  | n + 1 => .int lo :: rgP (lo + 1) n
theorem rgP_length : ∀ (n : Nat) (lo : Int), (rgP lo n).length = n
  | 0, _ => rfl
  | n + 1, lo => by show (rgP (lo + 1) n).length + 1 = n + 1; rw [rgP_length n]
theorem rgP_get : ∀ (n : Nat) (lo : Int) (i : Nat), i < n → (rgP lo n)[i]? = some (.int (lo + i))
  | 0, _, _, h => by omega
  | n + 1, lo, 0, _ => by
    show some (PV.int lo) = _
    simp
  | n + 1, lo, i + 1, h => by
    show (rgP (lo + 1) n)[i]? = _
    rw [rgP_get n (lo + 1) i (by omega)]
    congr 2
    push_cast
    omega
theorem itr_ok {K : Frg} {lo : Int} {k : Nat} {ι : Ad} {n : Nat} {H : Hp} : ItOk K (Itr lo k) (rgP lo k) [] ι n H := by
  refine ⟨fun i ι2 μ2 H2 hi e S c => ?_, fun ι2 μ2 H2 e S c => ?_, fun i ι2 μ2 H2 x H3 z hz e S c y => ?_⟩
  · rw [rgP_length] at hi; exact hi
  · rw [rgP_length]; exact Nat.le_refl _
  · have hi : i < k := by
      have := (List.getElem?_eq_some_iff.mp hz).1
      rw [rgP_length] at this
      exact this
    rw [rgP_get _ _ _ hi] at hz
    cases hz
    obtain ⟨e1, y⟩ := y
    subst e1 y
    exact ⟨.refl, S, rfl⟩
def RgIn (i : Int) : Bool := decide (-(2 ^ 62) ≤ i) && decide (i < 2 ^ 62)
def itRg1 (r : DenA) : DenI := fun ρ μ => match r ρ μ with
  | some ([.int j], μ') => if RgIn j = true then some ((rgP 0 j.toNat, []), μ') else none
  | _ => none
def itRg2 (r : DenA) : DenI := fun ρ μ => match r ρ μ with
  | some ([.int i, .int j], μ') => if (RgIn i && RgIn j) = true then some ((rgP i (j - i).toNat, []), μ') else none
  | _ => none
theorem rgIn {i : Int} (h : RgIn i = true) : -(2 ^ 62) ≤ i ∧ i < 2 ^ 62 := by
  unfold RgIn at h
  rw [Bool.and_eq_true] at h
  exact ⟨of_decide_eq_true h.1, of_decide_eq_true h.2⟩
theorem chk_nil {μ : Sto} : ChkOk [] μ := fun _ h => nomatch h
theorem i_rg1 {a : Expr} {r : DenA} {p pos : Pos} (hm : X.mg "range" = none) (ha : PA X [a] (tA X.K r)) (hg : Gl X "range" := by rfl) (hs : starEach [a] X.env = [(false, eval a X.env)] := by rfl) : PI X tg (.Call (.Name "range" p) [a] [] pos) (tI X.K (itRg1 r)) :=
  (pi_range1 hg hm ha hs).weak fun σ H R h => by
    obtain ⟨ι, ρ, μ, p, μ', E, S, e, c, q⟩ := h
    unfold itRg1 at e
    split at e
    · rename_i j μ1 e1
      split at e
      · rename_i hj
        cases e
        refine ⟨ι, ρ, μ, _, _, E, S, e1, fun hs ι1 H1 X1 R1 S1 => ?_⟩
        obtain ⟨y, t, rfl, r1, rfl⟩ := R1
        cases r1
        exact ⟨j, rfl, (rgIn hj).1, (rgIn hj).2, q ι1 H1 _ X1 S1 itr_ok⟩
      · cases e
    · cases e
theorem i_rg2 {a b : Expr} {r : DenA} {p pos : Pos} (hm : X.mg "range" = none) (ha : PA X [a, b] (tA X.K r)) (hg : Gl X "range" := by rfl) (hs : starEach [a, b] X.env = [(false, eval a X.env), (false, eval b X.env)] := by rfl) (hs2 : starEach [b] X.env = [(false, eval b X.env)] := by rfl) :
    PI X tg (.Call (.Name "range" p) [a, b] [] pos) (tI X.K (itRg2 r)) :=
  (pi_range2 hg hm ha hs hs2).weak fun σ H R h => by
    obtain ⟨ι, ρ, μ, p, μ', E, S, e, c, q⟩ := h
    unfold itRg2 at e
    split at e
    · rename_i i j μ1 e1
      split at e
      · rename_i hj
        cases e
        rw [Bool.and_eq_true] at hj
        refine ⟨ι, ρ, μ, _, _, E, S, e1, fun hs ι1 H1 X1 R1 S1 => ?_⟩
        obtain ⟨y, t, rfl, r1, y2, t2, rfl, r2, rfl⟩ := R1
        cases r1; cases r2
        exact ⟨i, j, rfl, ⟨(rgIn hj.1).1, (rgIn hj.1).2, (rgIn hj.2).1, (rgIn hj.2).2⟩, q ι1 H1 _ X1 S1 itr_ok⟩
      · cases e
    · cases e
end

/-! ### for -/
open Classical in
noncomputable def forL (g : DenG) (b : DenS) (ch : List (Nat × List PV)) : List PV → DenS
  | [], ρ, μ => some (.nx ρ μ)
  | x :: xs, ρ, μ => (g x ρ μ).bind fun p => (b p.1 p.2).bind fun o => match o with
      | .nx ρ' μ' => if ChkOk ch μ' then forL g b ch xs ρ' μ' else none
      | .ct ρ' μ' => if ChkOk ch μ' then forL g b ch xs ρ' μ' else none
      | .bk ρ' μ' => some (.nx ρ' μ')
      | .rt v μ' => some (.rt v μ')
noncomputable def sFor (it : DenI) (g : DenG) (b : DenS) : DenS := fun ρ μ => (it ρ μ).bind fun p => forL g b p.1.2 p.1.1 ρ p.2
section
variable {X : Cx} {pos : Pos} {iter tg : Expr} {body : List Stmt} {di : DenI} {g : DenG} {b : DenS}
open Classical in
theorem s_for (hi : PI X tg iter (tI X.K di)) (hg : PG X tg (tG X.K g)) (hb : PSs X body (tS X.K b)) (hci : ∀ ρ μ p μ', di ρ μ = some (p, μ') → ChkOk p.2 μ') (hp : PassesOwn (model X.prog X.w) X.A X.env X.xe := by exact PassesOwn.never) (hc : X.calm = true := by rfl)
    (hs : ∀ x, foldedSetIterable iter X.env x = pure x := by intro _; rfl) : PS X (.For tg iter body [] pos) (tS X.K (sFor di g b)) :=
  (ps_for hp hc hi hg hb hs).weak fun D σ H h => by
    obtain ⟨ι, ρ, μ, o, E, S, e, q⟩ := h
    obtain ⟨⟨⟨xs, ch⟩, μ1⟩, e1, e⟩ := Option.bind_eq_some_iff.mp e
    have hch := hci _ _ _ _ e1
    refine ⟨ι, ρ, μ, (xs, ch), μ1, E, S, e1, hch, fun ι1 H1 J X1 S1 ok => ?_⟩
    have e : forL g b ch xs ρ μ1 = some o := e
    have hch : ChkOk ch μ1 := hch
    have ok : ItOk X.K J xs ch ι1 μ1.length H1 := ok
    refine ⟨fun i m σ' H' => m = xs.length - i ∧ i ≤ xs.length ∧ ∃ ι' ρ' μ', Ext ι1 μ1.length H1 ι' μ'.length H' ∧ RepE X.K ι' μ'.length H' ρ' σ' ∧ RepS X.K ι' H' μ' ∧ ChkOk ch μ' ∧ forL g b ch (xs.drop i) ρ' μ' = some o ∧ AftS X.K ι' μ' H' D o,
      ⟨xs.length, by simp, Nat.zero_le _, ι1, ρ, μ1, .refl, E.mono X1, S1, hch, e, q.mono X1⟩, ?_⟩
    rintro i m σ2 H2 ⟨rfl, hi, ι2, ρ2, μ2, X2, E2, S2, c2, e2, q2⟩
    by_cases hlt : i < xs.length
    · have hd : xs.drop i = xs[i] :: xs.drop (i + 1) := List.drop_eq_getElem_cons hlt
      rw [hd] at e2
      unfold forL at e2
      obtain ⟨⟨ρ3, μ3⟩, e3, e2⟩ := Option.bind_eq_some_iff.mp e2
      obtain ⟨o1, e4, e2⟩ := Option.bind_eq_some_iff.mp e2
      refine .inr ⟨ok.goes i ι2 μ2 H2 hlt X2.p S2 c2, fun σ' H' => ∃ ι' ρ' μ', Ext ι1 μ1.length H1 ι' μ'.length H' ∧ RepE X.K ι' μ'.length H' ρ' σ' ∧ RepS X.K ι' H' μ' ∧ ChkOk ch μ' ∧ forL g b ch (xs.drop (i + 1)) ρ' μ' = some o ∧ AftS X.K ι' μ' H' D o,
        fun σ' H' h => ⟨xs.length - (i + 1), by omega, rfl, hlt, h⟩, fun x H3 y => ?_⟩
      obtain ⟨X3, S3, R3⟩ := ok.yields i ι2 μ2 H2 x H3 xs[i] (by simp [hlt]) X2.p S2 c2 y
      refine ⟨ι2, ρ2, μ2, xs[i], ρ3, μ3, E2.mono X3, S3, R3, e3, fun σ4 ι4 H4 X4 E4 S4 => ⟨ι4, ρ3, μ3, o1, E4, S4, e4, ?_⟩⟩
      have go : ∀ {ρ' : En} {μ' : Sto}, (if ChkOk ch μ' then forL g b ch (xs.drop (i + 1)) ρ' μ' else none) = some o → AftR X.K ι4 μ3 H4 ρ' μ' fun σ' H' => ∃ ι' ρ' μ', Ext ι1 μ1.length H1 ι' μ'.length H' ∧ RepE X.K ι' μ'.length H' ρ' σ' ∧ RepS X.K ι' H' μ' ∧ ChkOk ch μ' ∧ forL g b ch (xs.drop (i + 1)) ρ' μ' = some o ∧ AftS X.K ι' μ' H' D o := fun {ρ' μ'} z => by
        split at z
        · rename_i hc
          exact fun σ5 ι5 H5 X5 E5 S5 => ⟨ι5, ρ', μ', X2.trans (X3.trans (X4.trans X5)), E5, S5, hc, z, q2.mono (X3.trans (X4.trans X5))⟩
        · cases z
      cases o1 with
      | nx ρ' μ' => exact go e2
      | ct ρ' μ' => exact go e2
      | bk ρ' μ' => cases e2; exact AftR.mono (X3.trans X4) q2
      | rt v μ' => cases e2; exact Aft.mono (X3.trans X4) q2
    · have hi2 : i = xs.length := by omega
      subst hi2
      rw [List.drop_length] at e2
      cases e2
      exact .inl ⟨ok.stops ι2 μ2 H2 X2.p S2 c2, q2 σ2 ι2 H2 .refl E2 S2⟩
end
theorem ci_seq {d : Den} (ρ : En) (μ : Sto) (p : List PV × List (Nat × List PV)) (μ' : Sto) (h : itSeq d ρ μ = some (p, μ')) : ChkOk p.2 μ' := by
  obtain ⟨⟨x, μ1⟩, e1, e⟩ := Option.bind_eq_some_iff.mp h
  cases x with
  | tup xs => cases e; exact chk_nil
  | lst xs => cases e; exact chk_nil
  | loc l =>
    have e : (match μ1[l]? with
      | some (.lst xs) => some ((xs, [(l, xs)]), μ1)
      | _ => none) = some (p, μ') := e
    split at e
    · rename_i xs em
      cases e
      intro q hq
      simp at hq
      subst hq
      exact em
    · cases e
  | _ => cases e
theorem ci_rg1 {r : DenA} (ρ : En) (μ : Sto) (p : List PV × List (Nat × List PV)) (μ' : Sto) (h : itRg1 r ρ μ = some (p, μ')) : ChkOk p.2 μ' := by
  unfold itRg1 at h
  split at h
  · split at h
    · cases h; exact chk_nil
    · cases h
  · cases h
theorem ci_rg2 {r : DenA} (ρ : En) (μ : Sto) (p : List PV × List (Nat × List PV)) (μ' : Sto) (h : itRg2 r ρ μ = some (p, μ')) : ChkOk p.2 μ' := by
  unfold itRg2 at h
  split at h
  · split at h
    · cases h; exact chk_nil
    · cases h
  · cases h
end Fd

/-! Fd5: list comprehensions; defs and their calls. -/
namespace Fd
open PySem PySem.Spec PyProof.Rows L2

/-! ### a private address -/
def addZ (ι : Ad) (D : Addr) : Ad := ⟨ι.f, fun a => ι.Z a ∨ a = D⟩
section
variable {K : Frg} {ι ι1 ι2 : Ad} {n n1 : Nat} {H H1 H2 : Hp} {D : Addr} {o : HO}
theorem Ext.addZ {μ : Sto} (S : RepS K ι H μ) (hD : H D = none) : Ext ι μ.length H (Fd.addZ ι D) μ.length (upd H D o) :=
  let X := Ext.new1 (o := o) S hD
  ⟨X.le, X.same, X.keep, X.dom, X.new, fun _ h => .inl h, fun a h => h.imp id fun e => by rw [e]; exact hD⟩
theorem RepS.addZ {μ : Sto} (S : RepS K ι H μ) (hD : H D = none) : RepS K (Fd.addZ ι D) (upd H D o) μ := by
  refine ⟨S.inj, fun l u h => ?_, fun a z => ?_, fun l hl z => ?_⟩
  · have hl : l < μ.length := (List.getElem?_eq_some_iff.mp h).1
    obtain ⟨w, hw⟩ := S.some hl
    exact (S.obj l u h).mono (Ext.addZ S hD) (upd_ne (ne_of_none hw hD))
  · by_cases e : a = D
    · subst e; rw [upd_same]; exact fun k => nomatch k
    · rw [upd_ne e]; exact z.elim (S.zin a) fun e' => absurd e' e
  · exact z.elim (S.zap l hl) fun e => S.off1 hD l hl e
theorem Ext.privR (X : Ext ι n H ι1 n1 H1) (hD : H D = none) : Ext ι n H ι1 n1 (upd H1 D o) :=
  ⟨X.le, X.same, fun b u h g => by rw [upd_ne (ne_of_none h hD)]; exact X.keep b u h g, fun b h => by
    by_cases e : b = D
    · subst e; exact absurd hD h
    · rw [upd_ne e]; exact X.dom b h, X.new, X.zup, X.zdn⟩
theorem Ext.setR (X : Ext ι n H ι1 n1 H1) : Ext ι n H ⟨ι1.f, ι.Z⟩ n1 H1 := ⟨X.le, X.same, X.keep, X.dom, X.new, fun _ h => h, fun _ h => .inl h⟩
/-- the private list is changed -/
theorem Off.priv {μ : Sto} {a : Addr} {u : HO} (h : Off ι n a) (hz : ι.Z D) : a ≠ D := fun e => h.2 (by rw [e]; exact hz)
mutual
theorem RepV.priv (hz : ι.Z D) : ∀ {x : PV} {v : V}, RepV K ι n H x v → RepV K ι n (upd H D o) x v
  | .non, _, h => h
  | .bl _, _, h => h
  | .int _, _, h => h
  | .str _, _, h => h
  | .tup xs, v, h => by
    obtain ⟨a, ys, rfl, t, r⟩ := h
    rcases t with ⟨t, g⟩ | t
    · exact ⟨a, ys, rfl, .inl ⟨by rw [upd_ne fun e => g.2 (by rw [e]; exact hz)]; exact t, g⟩, RepVs.priv hz r⟩
    · exact ⟨a, ys, rfl, .inr t, RepVs.priv hz r⟩
  | .lst xs, v, h => by
    obtain ⟨a, ys, rfl, ⟨t, g⟩, r⟩ := h
    exact ⟨a, ys, rfl, ⟨by rw [upd_ne fun e => g.2 (by rw [e]; exact hz)]; exact t, g⟩, RepVs.priv hz r⟩
  | .loc l, v, h => h
  | .scr ns, v, h => by
    obtain ⟨a, rfl, ⟨o', s, g⟩ | s⟩ := h
    · exact ⟨a, rfl, .inl ⟨o', by rw [upd_ne fun e => g.2 (by rw [e]; exact hz)]; exact s, g⟩⟩
    · exact ⟨a, rfl, .inr s⟩
theorem RepVs.priv (hz : ι.Z D) : ∀ {xs : List PV} {vs : List V}, RepVs K ι n H xs vs → RepVs K ι n (upd H D o) xs vs
  | [], _, h => h
  | x :: xs, _, h => by
    obtain ⟨y, r, rfl, h1, h2⟩ := h
    exact ⟨y, r, rfl, RepV.priv hz h1, RepVs.priv hz h2⟩
end
theorem RepKs.priv {κ : Type} {key : PV → Option κ} (hz : ι.Z D) : ∀ {xs : List (PV × PV)} {ys : List (κ × V)}, RepKs K ι n H key xs ys → RepKs K ι n (upd H D o) key xs ys
  | [], _, h => h
  | (k, x) :: xs, _, h => by
    obtain ⟨q, y, r, rfl, hk, h1, h2⟩ := h
    exact ⟨q, y, r, rfl, hk, RepV.priv hz h1, RepKs.priv hz h2⟩
theorem RepS.priv {μ : Sto} (S : RepS K ι H μ) (hz : ι.Z D) : RepS K ι (upd H D o) μ := by
  refine ⟨S.inj, fun l u h => ?_, fun a z => ?_, S.zap⟩
  · have hl : l < μ.length := (List.getElem?_eq_some_iff.mp h).1
    have e : upd H D o (ι l) = H (ι l) := upd_ne fun e => S.zap l hl (by rw [e]; exact hz)
    have q := S.obj l u h
    cases u with
    | lst xs => obtain ⟨ys, q, r⟩ := q; exact ⟨ys, e.trans q, RepVs.priv hz r⟩
    | dic t kvs => cases t <;> (obtain ⟨ys, q, r⟩ := q; exact ⟨ys, e.trans q, RepKs.priv hz r⟩)
  · by_cases e : a = D
    · subst e; rw [upd_same]; exact fun k => nomatch k
    · rw [upd_ne e]; exact S.zin a z
/-- the private address is given up -/
def setZ (ι : Ad) (Z : Addr → Prop) : Ad := ⟨ι.f, Z⟩
mutual
theorem RepV.setZ {Z : Addr → Prop} (hz : ∀ a, Z a → ι.Z a) : ∀ {x : PV} {v : V}, RepV K ι n H x v → RepV K (Fd.setZ ι Z) n H x v
  | .non, _, h => h
  | .bl _, _, h => h
  | .int _, _, h => h
  | .str _, _, h => h
  | .tup xs, v, h => by
    obtain ⟨a, ys, rfl, t, r⟩ := h
    rcases t with ⟨t, g⟩ | t
    · exact ⟨a, ys, rfl, .inl ⟨t, g.1, fun z => g.2 (hz a z)⟩, RepVs.setZ hz r⟩
    · exact ⟨a, ys, rfl, .inr t, RepVs.setZ hz r⟩
  | .lst xs, v, h => by
    obtain ⟨a, ys, rfl, ⟨t, g⟩, r⟩ := h
    exact ⟨a, ys, rfl, ⟨t, g.1, fun z => g.2 (hz a z)⟩, RepVs.setZ hz r⟩
  | .loc l, v, h => h
  | .scr ns, v, h => by
    obtain ⟨a, rfl, ⟨o', s, g⟩ | s⟩ := h
    · exact ⟨a, rfl, .inl ⟨o', s, g.1, fun z => g.2 (hz a z)⟩⟩
    · exact ⟨a, rfl, .inr s⟩
theorem RepVs.setZ {Z : Addr → Prop} (hz : ∀ a, Z a → ι.Z a) : ∀ {xs : List PV} {vs : List V}, RepVs K ι n H xs vs → RepVs K (Fd.setZ ι Z) n H xs vs
  | [], _, h => h
  | x :: xs, _, h => by
    obtain ⟨y, r, rfl, h1, h2⟩ := h
    exact ⟨y, r, rfl, RepV.setZ hz h1, RepVs.setZ hz h2⟩
end
theorem RepKs.setZ {κ : Type} {key : PV → Option κ} {Z : Addr → Prop} (hz : ∀ a, Z a → ι.Z a) : ∀ {xs : List (PV × PV)} {ys : List (κ × V)}, RepKs K ι n H key xs ys → RepKs K (Fd.setZ ι Z) n H key xs ys
  | [], _, h => h
  | (k, x) :: xs, _, h => by
    obtain ⟨q, y, r, rfl, hk, h1, h2⟩ := h
    exact ⟨q, y, r, rfl, hk, RepV.setZ hz h1, RepKs.setZ hz h2⟩
theorem RepS.setZ {μ : Sto} {Z : Addr → Prop} (S : RepS K ι H μ) (hz : ∀ a, Z a → ι.Z a) : RepS K (Fd.setZ ι Z) H μ := by
  refine ⟨S.inj, fun l u h => ?_, fun a z => S.zin a (hz a z), fun l hl z => S.zap l hl (hz _ z)⟩
  have q := S.obj l u h
  cases u with
  | lst xs => obtain ⟨ys, q, r⟩ := q; exact ⟨ys, q, RepVs.setZ hz r⟩
  | dic t kvs => cases t <;> (obtain ⟨ys, q, r⟩ := q; exact ⟨ys, q, RepKs.setZ hz r⟩)
end

/-! ### [elt for target in iter if ..] -/
open Classical in
noncomputable def lcL (ρ : En) (g : DenG) (t : DenT) (e : Den) (ch : List (Nat × List PV)) : List PV → List PV → Sto → Option (List PV × Sto)
  | [], acc, μ => some (acc, μ)
  | x :: xs, acc, μ => (g x ρ μ).bind fun p => (t p.1 p.2).bind fun q => if q.1 = true
      then (e p.1 q.2).bind fun r => if ChkOk ch r.2 ∧ acc.length < sizeLine then lcL ρ g t e ch xs (acc ++ [r.1]) r.2 else none
      else if ChkOk ch q.2 then lcL ρ g t e ch xs acc q.2 else none
noncomputable def dLc (vs : List Nat) (it : DenI) (g : DenG) (t : DenT) (e : Den) : Den := fun ρ μ => (it ρ μ).bind fun p => (lcL (wipeE ρ vs) g t e p.1.2 p.1.1 [] p.2).map fun r => (.lst r.1, r.2)
def tAll : DenT := fun _ μ => some (true, μ)
section
variable {X : Cx}
theorem x_nil : PTs X [] (tT X.K tAll) := ⟨fun pins s σ H Q I h => pts_nil.run pins s σ H Q I (by
  obtain ⟨ι, ρ, μ, b, μ', E, S, e, q⟩ := h
  cases e
  exact q ι H .refl S)⟩
theorem x_one {c : Expr} {t : DenT} (h : PT X c (tT X.K t)) : PTs X [c] (tT X.K t) := pts_one h
end
/-- a target whose stores are among the slots vs -/
structure GIn (K : Frg) (tg : TG) (g : DenG) (vs : List Nat) : Prop where
  imp : ∀ (v : V) (σ : L2.St) (H : Hp) (Q : L2.St → Hp → Prop), tG K g v σ H Q → tg v σ H fun σ' H' => L2.wipe σ' vs = L2.wipe σ vs ∧ Q σ' H'
theorem wipe_set1 (σ : L2.St) (i : Nat) (o : Option V) : L2.wipe (σ.set i o) [i] = L2.wipe σ [i] := by
  show (σ.set i o).set i none = σ.set i none
  rw [List.set_set]
theorem gin_nm {K : Frg} (i : Nat) : GIn K (gName i) (gNm i) [i] := ⟨fun v σ H Q h => by
  obtain ⟨ι, ρ, μ, pv, ρ', μ', E, S, R, e, q⟩ := h
  cases e
  exact ⟨wipe_set1 _ _ _, q _ ι H .refl (E.set i R) S⟩⟩
theorem wipe_idem (σ : L2.St) : ∀ vs : List Nat, L2.wipe (L2.wipe σ vs) vs = L2.wipe σ vs := fun vs => by
  apply List.ext_getElem?
  intro i
  have key : ∀ (σ : L2.St) (vs : List Nat) (i : Nat), (L2.wipe σ vs)[i]? = if i ∈ vs ∧ i < σ.length then some none else σ[i]? := by
    intro σ vs
    induction vs with
    | nil => intro i; simp [L2.wipe]
    | cons v vs ih =>
      intro i
      show ((L2.wipe σ vs).set v none)[i]? = _
      by_cases hv : v = i
      · subst hv
        by_cases hl : v < σ.length
        · rw [List.getElem?_set_self (by rw [wipe_length]; exact hl), if_pos ⟨List.mem_cons_self, hl⟩]
        · rw [if_neg fun z => hl z.2, List.getElem?_eq_none (by rw [List.length_set, wipe_length]; omega), List.getElem?_eq_none (by omega)]
      · rw [List.getElem?_set_ne hv, ih i]
        have : (i ∈ v :: vs ∧ i < σ.length) ↔ (i ∈ vs ∧ i < σ.length) := by
          constructor
          · rintro ⟨h1, h2⟩
            rcases List.mem_cons.mp h1 with e | h1
            · exact absurd e.symm hv
            · exact ⟨h1, h2⟩
          · rintro ⟨h1, h2⟩
            exact ⟨List.mem_cons_of_mem _ h1, h2⟩
        by_cases hc : i ∈ vs ∧ i < σ.length
        · rw [if_pos hc, if_pos (this.mpr hc)]
        · rw [if_neg hc, if_neg fun z => hc (this.mp z)]
  rw [key, wipe_length]
  split
  · rename_i h
    rw [key, if_pos h]
  · rfl
section
variable {X : Cx}
open Classical in
theorem lc_core' {K : Frg} {vs : List Nat} {J : It} {xs : List PV} {ch : List (Nat × List PV)} {tg : TG} {g : DenG} {t : DenT} {e : Den} {ι1 : Ad} {μ1 : Sto} {H1 : Hp} {ρ : En} {σ : L2.St} {out : List PV} {μ' : Sto} {Qd : V → Hp → Prop}
    (gi : GIn K tg g vs) (ok : ItOk K J xs ch ι1 μ1.length H1) (E : RepE K ι1 μ1.length H1 ρ σ) (S : RepS K ι1 H1 μ1) (c1 : ChkOk ch μ1) (he : lcL (wipeE ρ vs) g t e ch xs [] μ1 = some (out, μ')) (q : Aft K ι1 μ1 H1 (.lst out) μ' Qd)
    (D : Addr) (hD : H1 D = none) :
    ∃ W : Nat → Nat → Hp → Prop, (∃ m, W 0 m (upd H1 D (.lst []))) ∧ ∀ i m H, W i m H →
      (J.stop i H ∧ Qd (.ref D) H) ∨ (J.go i H ∧ ∃ Nx : Hp → Prop, (∀ H', Nx H' → ∃ m', m' < m ∧ W (i + 1) m' H') ∧ ∀ x H', J.yld i H x H' → tg x (L2.wipe σ vs) H' fun σ2 H2 => L2.wipe σ2 vs = L2.wipe σ vs ∧ tT K t σ2 H2 fun b H3 =>
        if b = true then tD K e σ2 H3 fun y H4 => ∃ acc, H4 D = some (.lst acc) ∧ acc.length < sizeLine ∧ Nx (upd H4 D (.lst (acc ++ [y]))) else Nx H3) := by
  let Pv : Nat → Hp → Prop := fun i H => ∃ ι2 μ2 acc ys, Ext ι1 μ1.length H1 ι2 μ2.length H ∧ ι2.Z D ∧ RepS K ι2 H μ2 ∧ H D = some (.lst ys) ∧ RepVs K ι2 μ2.length H acc ys ∧ ChkOk ch μ2 ∧
    lcL (wipeE ρ vs) g t e ch (xs.drop i) acc μ2 = some (out, μ')
  refine ⟨fun i m H => m = xs.length - i ∧ i ≤ xs.length ∧ Pv i H, ⟨xs.length, by simp, Nat.zero_le _, addZ ι1 D, μ1, [], [], Ext.addZ S hD, .inr rfl, S.addZ hD, upd_same, rfl, c1, he⟩, ?_⟩
  rintro i m H ⟨rfl, hi, ι2, μ2, acc, ys, X2, z2, S2, hDy, R2, c2, e2⟩
  by_cases hlt : i < xs.length
  · have hd : xs.drop i = xs[i] :: xs.drop (i + 1) := List.drop_eq_getElem_cons hlt
    rw [hd] at e2
    unfold lcL at e2
    obtain ⟨⟨ρ3, μ3⟩, e3, e2⟩ := Option.bind_eq_some_iff.mp e2
    obtain ⟨⟨b, μ4⟩, e4, e2⟩ := Option.bind_eq_some_iff.mp e2
    refine .inr ⟨ok.goes i ι2 μ2 H hlt X2.p S2 c2, Pv (i + 1), fun H' h => ⟨xs.length - (i + 1), by omega, rfl, hlt, h⟩, fun x H3 y => ?_⟩
    obtain ⟨X3, S3, R3⟩ := ok.yields i ι2 μ2 H x H3 xs[i] (by simp [hlt]) X2.p S2 c2 y
    have E3 : RepE K ι2 μ2.length H3 (wipeE ρ vs) (L2.wipe σ vs) := (E.wipe vs).mono (X2.trans X3)
    have h0 := gi.imp x (L2.wipe σ vs) H3 (fun σ2 H2 => tT K t σ2 H2 fun b H3 =>
        if b = true then tD K e σ2 H3 fun y H4 => ∃ acc, H4 D = some (.lst acc) ∧ acc.length < sizeLine ∧ Pv (i + 1) (upd H4 D (.lst (acc ++ [y]))) else Pv (i + 1) H3) ?_
    · rw [wipe_idem] at h0
      exact h0
    refine ⟨ι2, wipeE ρ vs, μ2, xs[i], ρ3, μ3, E3, S3, R3, e3, fun σ4 ι4 H4 X4 E4 S4 => ⟨ι4, ρ3, μ3, b, μ4, E4, S4, e4, fun ι5 H5 X5 S5 => ?_⟩⟩
    have e2 : (if b = true then _ else _) = some (out, μ') := e2
    have hoffD : ∀ l, l < μ2.length → ι2 l ≠ D := fun l hl z => S2.zap l hl (by rw [z]; exact z2)
    have X25 := X3.trans (X4.trans X5)
    have hDy5 : H5 D = some (.lst ys) := X25.keep D _ hDy hoffD
    have z5 : ι5.Z D := X25.zup D z2
    cases b with
    | false =>
      rw [if_neg Bool.false_ne_true] at e2
      refine iteF ?_
      split at e2
      · rename_i c5
        exact ⟨ι5, μ4, acc, ys, X2.trans X25, z5, S5, hDy5, RepVs.mono X25 R2, c5, e2⟩
      · cases e2
    | true =>
      rw [if_pos rfl] at e2
      refine iteT ?_
      obtain ⟨⟨w, μ6⟩, e5, e2⟩ := Option.bind_eq_some_iff.mp e2
      refine ⟨ι5, ρ3, μ4, w, μ6, E4.mono X5, S5, e5, fun hw ι6 H6 X6 R6 S6 => ?_⟩
      split at e2
      · rename_i c6
        have X26 := X25.trans X6
        have z6 : ι6.Z D := X6.zup D z5
        have R26 : RepVs K ι6 μ6.length H6 acc ys := RepVs.mono X26 R2
        refine ⟨ys, X26.keep D _ hDy hoffD, by rw [← R2.length]; exact c6.2, ι6, μ6, acc ++ [w], ys ++ [hw], (X2.trans X26).privR hD, z6, S6.priv z6, upd_same, (R26.append (.one R6)).priv z6, c6.1, e2⟩
      · cases e2
  · have hi2 : i = xs.length := by omega
    subst hi2
    rw [List.drop_length] at e2
    cases e2
    have zs : ∀ a, ι1.Z a → ι2.Z a := X2.zup
    refine .inl ⟨ok.stops ι2 _ H X2.p S2 c2, q _ (setZ ι2 ι1.Z) H X2.setR ?_ (S2.setZ zs)⟩
    exact ⟨D, ys, rfl, ⟨hDy, fun l hl z => S2.zap l hl (by have z : ι2 l = D := z; rw [z]; exact z2), fun z => S.zin D z hD⟩, R2.setZ zs⟩
theorem t_lc {K : Frg} {vs : List Nat} {tg : TG} {di : DenI} {g : DenG} {t : DenT} {e : Den} (gi : GIn K tg g vs) (hci : ∀ ρ μ p μ', di ρ μ = some (p, μ') → ChkOk p.2 μ') {σ : L2.St} {H : Hp} {Q : VK} (h : tD K (dLc vs di g t e) σ H Q) :
    tLc (tI K di) tg (tT K t) (tD K e) vs σ H Q := by
  obtain ⟨ι, ρ, μ, v, μ', E, S, e, q⟩ := h
  obtain ⟨⟨⟨xs, ch⟩, μ1⟩, e1, e⟩ := Option.bind_eq_some_iff.mp e
  obtain ⟨⟨out, μ2⟩, e2, e3⟩ := Option.map_eq_some_iff.mp e
  cases e3
  have hch := hci _ _ _ _ e1
  exact ⟨ι, ρ, μ, (xs, ch), μ1, E, S, e1, hch, fun ι1 H1 J X1 S1 ok D hD => lc_core' gi ok (E.mono X1) S1 hch e2 (q.mono X1) D hD⟩
theorem e_lc {elt tg iter : Expr} {ifs : List Expr} {scope : Scope} {own : List (Str × Nat)} {pos : Pos} {di : DenI} {gt : TG} {g : DenG} {t : DenT} {e : Den} (hN : X.N.Nodup) (hi : PI X tg iter (tI X.K di)) (hci : ∀ ρ μ p μ', di ρ μ = some (p, μ') → ChkOk p.2 μ') (ok : BlkOk X.N X.env.scope scope own)
    (gi : GIn X.K gt g (own.map (·.2)))
    (hg : ∀ (s : Shared) (H : Hp) (C : Addr) (cl : List (Str × Addr)) (fp : List Addr), PG (X.blk s H scope (compEnvC scope cl C X.env) fp) tg gt) (ht : ∀ (s : Shared) (H : Hp) (C : Addr) (cl : List (Str × Addr)) (fp : List Addr), PTs (X.blk s H scope (compEnvC scope cl C X.env) fp) ifs (tT X.K t))
    (he : ∀ (s : Shared) (H : Hp) (C : Addr) (cl : List (Str × Addr)) (fp : List Addr), PE (X.blk s H scope (compEnvC scope cl C X.env) fp) elt (tD X.K e)) (hc : X.calm = true := by rfl) (hs : ∀ x, foldedSetIterable iter X.env x = pure x := by intro _; rfl) :
    PE X (.ListComp elt [⟨tg, iter, ifs, 0⟩] scope pos) (tD X.K (dLc (own.map (·.2)) di g t e)) :=
  (pe_lc hc hN hi ok hg ht he hs).weak fun _ _ _ h => t_lc gi hci h
theorem s_setLc (i : Nat) {y : Str} {py : Pos} {elt tg iter : Expr} {ifs : List Expr} {scope : Scope} {own : List (Str × Nat)} {pos spos : Pos} {di : DenI} {gt : TG} {g : DenG} {t : DenT} {e : Den} (hN : X.N.Nodup)
    (hsw : swapsWith (.ListComp elt [⟨tg, iter, ifs, 0⟩] scope pos) (some (.Name y py)) spos.line X.env = pure true) (hi : PI X tg iter (tI X.K di)) (hci : ∀ ρ μ p μ', di ρ μ = some (p, μ') → ChkOk p.2 μ') (ok : BlkOk X.N X.env.scope scope own)
    (gi : GIn X.K gt g (own.map (·.2)))
    (hg : ∀ (s : Shared) (H : Hp) (C : Addr) (cl : List (Str × Addr)) (fp : List Addr), PG (X.blk s H scope (compEnvC scope cl C X.env) fp) tg gt) (ht : ∀ (s : Shared) (H : Hp) (C : Addr) (cl : List (Str × Addr)) (fp : List Addr), PTs (X.blk s H scope (compEnvC scope cl C X.env) fp) ifs (tT X.K t))
    (he : ∀ (s : Shared) (H : Hp) (C : Addr) (cl : List (Str × Addr)) (fp : List Addr), PE (X.blk s H scope (compEnvC scope cl C X.env) fp) elt (tD X.K e)) (hy : X.N[i]? = some y := by rfl) (hyl : X.env.scope.names.lookup y = some .local := by rfl) (hc : X.calm = true := by rfl) (hs : ∀ x, foldedSetIterable iter X.env x = pure x := by intro _; rfl) :
    PS X (.Assign [.Name y py] (.ListComp elt [⟨tg, iter, ifs, 0⟩] scope pos) spos) (tS X.K (sAsg (dLc (own.map (·.2)) di g t e) (gNm i))) :=
  (ps_setLc (i := i) hc hN hy hyl hsw hi ok hg ht he hs).weak fun D σ H h => by
    obtain ⟨ι, ρ, μ, o, E, S, e, q⟩ := h
    obtain ⟨⟨v, μ1⟩, e1, e⟩ := Option.bind_eq_some_iff.mp e
    obtain ⟨⟨ρ2, μ2⟩, e2, e3⟩ := Option.map_eq_some_iff.mp e
    cases e3; cases e2
    exact t_lc gi hci (Q := fun x H1 => gName i x σ H1 D.nx) ⟨ι, ρ, μ, v, μ1, E, S, e1, fun hv ι1 H1 X1 R1 S1 => q _ ι1 H1 X1 ((E.mono X1).set i R1) S1⟩
end
end Fd

/-! Fd6: defs, their calls; built-ins. -/
namespace Fd
open PySem PySem.Spec PyProof.Rows L2

/-! ### values that name no place of the store from n on -/
mutual
def okL (n : Nat) : PV → Bool
  | .tup xs => okLs n xs
  | .lst xs => okLs n xs
  | .loc l => decide (l < n)
  | _ => true
def okLs (n : Nat) : List PV → Bool
  | [] => true
  | x :: xs => okL n x && okLs n xs
end
def okKs (n : Nat) : List (PV × PV) → Bool
  | [] => true
  | (_, x) :: xs => okL n x && okKs n xs
def okO (n : Nat) : Ob → Bool
  | .lst xs => okLs n xs
  | .dic _ kvs => okKs n kvs
section
variable {K : Frg} {ι : Ad} {n m : Nat} {H : Hp}
mutual
theorem RepV.ok : ∀ {x : PV} {v : V}, RepV K ι n H x v → okL n x = true
  | .non, _, _ => rfl
  | .bl _, _, _ => rfl
  | .int _, _, _ => rfl
  | .str _, _, _ => rfl
  | .tup xs, v, h => by obtain ⟨a, ys, rfl, t, r⟩ := h; exact RepVs.ok r
  | .lst xs, v, h => by obtain ⟨a, ys, rfl, t, r⟩ := h; exact RepVs.ok r
  | .loc l, v, h => decide_eq_true h.1
  | .scr _, _, _ => rfl
theorem RepVs.ok : ∀ {xs : List PV} {vs : List V}, RepVs K ι n H xs vs → okLs n xs = true
  | [], _, _ => rfl
  | x :: xs, _, h => by
    obtain ⟨y, r, rfl, h1, h2⟩ := h
    show (okL n x && okLs n xs) = true
    rw [RepV.ok h1, RepVs.ok h2]
    rfl
end
theorem RepKs.ok {κ : Type} {key : PV → Option κ} : ∀ {xs : List (PV × PV)} {ys : List (κ × V)}, RepKs K ι n H key xs ys → okKs n xs = true
  | [], _, _ => rfl
  | (k, x) :: xs, _, h => by
    obtain ⟨q, y, r, rfl, hk, h1, h2⟩ := h
    show (okL n x && okKs n xs) = true
    rw [RepV.ok h1, RepKs.ok h2]
    rfl
theorem RepO.ok {a : Addr} {o : Ob} (h : RepO K ι n H a o) : okO n o = true := by
  cases o with
  | lst xs => obtain ⟨ys, _, r⟩ := h; exact RepVs.ok r
  | dic t kvs => cases t <;> (obtain ⟨ys, _, r⟩ := h; exact RepKs.ok r)
theorem Off.le {a : Addr} (h : Off ι m a) (hm : n ≤ m) : Off ι n a := ⟨fun l hl => h.1 l (Nat.lt_of_lt_of_le hl hm), h.2⟩
mutual
theorem RepV.cut (hm : n ≤ m) : ∀ {x : PV} {v : V}, RepV K ι m H x v → okL n x = true → RepV K ι n H x v
  | .non, _, h, _ => h
  | .bl _, _, h, _ => h
  | .int _, _, h, _ => h
  | .str _, _, h, _ => h
  | .tup xs, v, h, o => by
    obtain ⟨a, ys, rfl, t, r⟩ := h
    exact ⟨a, ys, rfl, t.imp (fun t => ⟨t.1, t.2.le hm⟩) id, RepVs.cut' hm r o⟩
  | .lst xs, v, h, o => by
    obtain ⟨a, ys, rfl, t, r⟩ := h
    exact ⟨a, ys, rfl, ⟨t.1, t.2.le hm⟩, RepVs.cut' hm r o⟩
  | .loc l, v, h, o => ⟨of_decide_eq_true o, h.2⟩
  | .scr ns, v, h, o => by
    obtain ⟨a, rfl, ⟨o', s, g⟩ | s⟩ := h
    · exact ⟨a, rfl, .inl ⟨o', s, g.le hm⟩⟩
    · exact ⟨a, rfl, .inr s⟩
theorem RepVs.cut' (hm : n ≤ m) : ∀ {xs : List PV} {vs : List V}, RepVs K ι m H xs vs → okLs n xs = true → RepVs K ι n H xs vs
  | [], _, h, _ => h
  | x :: xs, _, h, o => by
    obtain ⟨y, r, rfl, h1, h2⟩ := h
    have o : (okL n x && okLs n xs) = true := o
    rw [Bool.and_eq_true] at o
    exact ⟨y, r, rfl, RepV.cut hm h1 o.1, RepVs.cut' hm h2 o.2⟩
end
theorem RepKs.cut {κ : Type} {key : PV → Option κ} (hm : n ≤ m) : ∀ {xs : List (PV × PV)} {ys : List (κ × V)}, RepKs K ι m H key xs ys → okKs n xs = true → RepKs K ι n H key xs ys
  | [], _, h, _ => h
  | (k, x) :: xs, _, h, o => by
    obtain ⟨q, y, r, rfl, hk, h1, h2⟩ := h
    have o : (okL n x && okKs n xs) = true := o
    rw [Bool.and_eq_true] at o
    exact ⟨q, y, r, rfl, hk, RepV.cut hm h1 o.1, RepKs.cut hm h2 o.2⟩
theorem RepO.cut {a : Addr} {o : Ob} (hm : n ≤ m) (h : RepO K ι m H a o) (ok : okO n o = true) : RepO K ι n H a o := by
  cases o with
  | lst xs => obtain ⟨ys, t, r⟩ := h; exact ⟨ys, t, RepVs.cut' hm r ok⟩
  | dic t kvs => cases t <;> (obtain ⟨ys, t, r⟩ := h; exact ⟨ys, t, RepKs.cut hm r ok⟩)
theorem Ext.cut {ι1 : Ad} {n1 : Nat} {H1 : Hp} (X : Ext ι n H ι1 n1 H1) : Ext ι n H ι1 n H1 := ⟨Nat.le_refl _, X.same, X.keep, X.dom, fun _ h1 h2 => absurd h2 (by omega), X.zup, X.zdn⟩
end
/-- how a body's end becomes a call's: what the body laid in the store and nobody names is forgotten -/
inductive Fin (μ : Sto) : Out → PV → Sto → Prop where
  | rt (v : PV) (μ' : Sto) : Fin μ (.rt v μ') v μ'
  | nx (ρ : En) (μ' : Sto) : Fin μ (.nx ρ μ') .non μ'
  | trim (v : PV) (μ1 g : Sto) (hl : μ1.length = μ.length) (hc : ∀ (l : Nat) (o : Ob), μ1[l]? = some o → μ[l]? = some o ∨ okO μ.length o = true) (hv : okL μ.length v = true) : Fin μ (.rt v (μ1 ++ g)) v μ1
  | trimN (ρ : En) (μ1 g : Sto) (hl : μ1.length = μ.length) (hc : ∀ (l : Nat) (o : Ob), μ1[l]? = some o → μ[l]? = some o ∨ okO μ.length o = true) : Fin μ (.nx ρ (μ1 ++ g)) .non μ1
  | frz (l : Nat) (xs : List PV) (μ1 g : Sto) (hl : μ1.length = μ.length) (hc : ∀ (l : Nat) (o : Ob), μ1[l]? = some o → μ[l]? = some o ∨ okO μ.length o = true) (h : (μ1 ++ g)[l]? = some (.lst xs)) (hn : μ.length ≤ l) (hv : okLs μ.length xs = true) :
      Fin μ (.rt (.loc l) (μ1 ++ g)) (.lst xs) μ1
abbrev Fn := List PV → Sto → Option (PV × Sto)
/-- a def's promise by a function of its arguments and the store -/
def spD (K : Frg) (k : Nat) (ψ : Fn) : Sp := fun vs H Q _ => ∃ ι args μ v μ', args.length = k ∧ RepVs K ι μ.length H args vs ∧ RepS K ι H μ ∧ ψ args μ = some (v, μ') ∧ Aft K ι μ H v μ' Q
def init (N : Nat) (args : List PV) : En := args.map some ++ List.replicate (N - args.length) none
theorem init_rep {K : Frg} {ι : Ad} {n : Nat} {H : Hp} {args : List PV} {vs : List V} (r : RepVs K ι n H args vs) {N : List Str} (hN : vs.length ≤ N.length) : RepE K ι n H (init N.length args) (L2.start N vs) := by
  have hl := r.length
  refine ⟨?_, fun i x hx => ?_⟩
  · unfold init L2.start
    simp only [List.length_append, List.length_map, List.length_replicate, hl]
  · unfold init at hx
    by_cases hi : i < args.length
    · rw [List.getElem?_append_left (by simpa using hi), List.getElem?_map] at hx
      cases e : args[i]? with
      | none => rw [e] at hx; cases hx
      | some a =>
        rw [e] at hx
        cases hx
        obtain ⟨y, h1, h2⟩ := r.get e
        refine ⟨y, ?_, h2⟩
        unfold L2.start
        rw [List.getElem?_append_left (by rw [List.length_map, ← hl]; exact hi), List.getElem?_map, h1]
        rfl
    · rw [List.getElem?_append_right (by simpa using hi), List.getElem?_replicate] at hx
      split at hx <;> cases hx
theorem trim_rep {K : Frg} {ι ι' : Ad} {H H' : Hp} {μ μ1 g : Sto} (S : RepS K ι H μ) (X : Ext ι μ.length H ι' (μ1 ++ g).length H') (S' : RepS K ι' H' (μ1 ++ g)) (hl : μ1.length = μ.length) (hc : ∀ (l : Nat) (o : Ob), μ1[l]? = some o → μ[l]? = some o ∨ okO μ.length o = true) :
    RepS K ι' H' μ1 := by
  have hle : μ1.length ≤ (μ1 ++ g).length := by rw [List.length_append]; omega
  refine ⟨fun i j hi hj => S'.inj i j (by omega) (by omega), fun l o h => ?_, S'.zin, fun l h => S'.zap l (by omega)⟩
  have hll : l < μ1.length := (List.getElem?_eq_some_iff.mp h).1
  refine (S'.obj l o (by rw [List.getElem?_append_left hll]; exact h)).cut hle ?_
  rw [hl]
  rcases hc l o h with q | q
  · exact (S.obj l o q).ok
  · exact q
section
variable {P : Program} {w : World} {K : Frg} {mg : Str → Option Value} {base : Heap}
/-- THE RULE for a def -/
theorem fn_ok {x qual : Str} {st : Stmt} {f : Addr} {fd : FuncData} {N ps : List Str} {j : Nat} {d : DenS} {ψ : Fn} (F : L2.Fun K x qual st f fd) (S : FnScope N ps (defScope st))
    (hb : ∀ (cdv : Value) (A : Around) (outer : List Env) (s : Shared) (H : Hp) (E : XK), Room j (A.deeper (envOfC qual (defScope st) s.heap.objs.size f cdv)) → PSs (cxOf CX0 P w K mg base N qual (defScope st) f cdv A outer s H E).nox (defBody st) (tS K d))
    (hψ : ∀ (args : List PV) (μ : Sto) (v : PV) (μ' : Sto), args.length = ps.length → okLs μ.length args = true → ψ args μ = some (v, μ') → ∃ o, d (init N.length args) μ = some o ∧ Fin μ o v μ') : FnOk P w K mg base CX0 (j + 1) f fd ps (spD K ps.length ψ) := by
  refine F.ok S (fun vs H Q E h => ?_) (fun cdv A outer s H vs Q E hr h => ⟨tS K d, hb cdv A outer s H E hr, ?_⟩)
  · obtain ⟨ι, args, μ, v, μ', hl, R, _⟩ := h
    rw [← R.length]; exact hl
  · obtain ⟨ι, args, μ, v, μ', hl, R, S0, e, q⟩ := h
    obtain ⟨o, e2, fin⟩ := hψ args μ v μ' hl R.ok e
    have hpl : ps.length ≤ N.length := by
      have := congrArg List.length S.pre
      rw [List.length_take] at this
      omega
    refine ⟨ι, init N.length args, μ, o, init_rep R (by rw [← R.length, hl]; exact hpl), S0, e2, ?_⟩
    cases fin with
    | rt => exact q
    | nx ρ => exact fun σ' ι' H' X E' S' => q .non ι' H' X rfl S'
    | trim v μ1 g hl1 hc hv =>
      intro hv' ι' H' X R' S'
      have hle : μ'.length ≤ (μ' ++ g).length := by rw [List.length_append]; omega
      refine q hv' ι' H' (by rw [hl1]; exact X.cut) ?_ (trim_rep S0 X S' hl1 hc)
      exact R'.cut hle (by rw [hl1]; exact hv)
    | trimN ρ μ1 g hl1 hc => exact fun σ' ι' H' X E' S' => q .non ι' H' (by rw [hl1]; exact X.cut) rfl (trim_rep S0 X S' hl1 hc)
    | frz l xs μ1 g hl1 hc h hn hv =>
      intro hv' ι' H' X R' S'
      have hle : μ'.length ≤ (μ' ++ g).length := by rw [List.length_append]; omega
      obtain ⟨hlt, rfl⟩ := R'
      obtain ⟨ys, t, r⟩ := S'.obj l _ h
      refine q _ ι' H' (by rw [hl1]; exact X.cut) ⟨ι' l, ys, rfl, ⟨t, fun k hk z => ?_, fun z => S'.zap l hlt z⟩, RepVs.cut' hle r (by rw [hl1]; exact hv)⟩ (trim_rep S0 X S' hl1 hc)
      have := S'.inj k l (by omega) hlt z
      omega
/-- a def as its callers know it -/
structure Callee (P : Program) (w : World) (K : Frg) (mg : Str → Option Value) (base : Heap) (j : Nat) (x : Str) (k : Nat) (ψ : Fn) : Prop where
  ex : ∃ (f : Addr) (fd : FuncData) (ps : List Str), FnOk P w K mg base CX0 j f fd ps (spD K k ψ) ∧ mg x = some (.ref f) ∧ PySem.W.keepIn K (.ref f) = true ∧ Binds K fd ps []
theorem Callee.mono {i j k : Nat} {x : Str} {ψ : Fn} (c : Callee P w K mg base i x k ψ) (h : i ≤ j) : Callee P w K mg base j x k ψ := by
  obtain ⟨f, fd, ps, F, r⟩ := c.ex
  exact ⟨f, fd, ps, F.mono h, r⟩
theorem Callee.imp {j k : Nat} {x : Str} {ψ ψ' : Fn} (c : Callee P w K mg base j x k ψ) (h : ∀ args μ r, ψ' args μ = some r → ψ args μ = some r) : Callee P w K mg base j x k ψ' := by
  obtain ⟨f, fd, ps, F, r⟩ := c.ex
  exact ⟨f, fd, ps, F.imp (fun vs H Q E ⟨ι, args, μ, v, μ', h1, h2, h3, h4, h5⟩ => ⟨ι, args, μ, v, μ', h1, h2, h3, h _ _ _ h4, h5⟩), r⟩
/-- a def that is never called with anything -/
theorem callee_bot {x : Str} {f : Addr} {fd : FuncData} {ps : List Str} {k : Nat} (hg : mg x = some (.ref f)) (hk : PySem.W.keepIn K (.ref f) = true) (hb : Binds K fd ps []) : Callee P w K mg base 0 x k fun _ _ => none :=
  ⟨⟨f, fd, ps, ⟨fun vs H Q E h => (by obtain ⟨ι, args, μ, v, μ', _, _, _, h, _⟩ := h; cases h), fun A outer s H args us vs Q E _ _ _ _ h => (by obtain ⟨ι, args, μ, v, μ', _, _, _, h, _⟩ := h; cases h)⟩, hg, hk, hb⟩⟩
end
def dCall (k : Nat) (ψ : Fn) (r : DenA) : Den := fun ρ μ => (r ρ μ).bind fun p => if p.1.length = k then ψ p.1 p.2 else none
section
variable {X : Cx} {x : Str} {p pos : Pos} {e : Expr} {es : List Expr} {r : DenA} {j k : Nat} {ψ : Fn}
theorem t_call {K : Frg} {σ : L2.St} {H : Hp} {Q : VK} (h : tD K (dCall k ψ r) σ H Q) : tCall (spD K k ψ) [] E0 (tA K r) σ H Q := by
  obtain ⟨ι, ρ, μ, v, μ', E, S, e, q⟩ := h
  obtain ⟨⟨vs, μ1⟩, e1, e2⟩ := Option.bind_eq_some_iff.mp e
  split at e2
  · rename_i hl
    refine ⟨ι, ρ, μ, vs, μ1, E, S, e1, fun hs ι1 H1 X1 R1 S1 => ⟨ι1, vs, μ1, v, μ', hl, ?_, S1, e2, q.mono X1⟩⟩
    rw [List.append_nil]
    exact R1
  · cases e2
theorem e_call (C : Callee X.prog X.w X.K X.mg X.base j x k ψ) (hr : Room j X.A) (ha : PA X (e :: es) (tA X.K r)) (hg : Gl X x := by rfl) (hdb : (x == ("__debug__" : Str)) = false := by decide) (he : starEach (e :: es) X.env = (false, eval e X.env) :: starEach es X.env := by rfl) (hpl : (backTo pos (starEach es X.env)).any (·.1) = false := by rfl) :
    PE X (.Call (.Name x p) (e :: es) [] pos) (tD X.K (dCall k ψ r)) := by
  obtain ⟨f, fd, ps, F, hm, hk, hb⟩ := C.ex
  exact (pe_call F hr hg hm hk hb .nil pass0 ha hdb he hpl).weak fun _ _ _ h => t_call h
theorem e_call0 (C : Callee X.prog X.w X.K X.mg X.base j x k ψ) (hr : Room j X.A) (hg : Gl X x := by rfl) (hdb : (x == ("__debug__" : Str)) = false := by decide) : PE X (.Call (.Name x p) [] [] pos) (tD X.K (dCall k ψ aNil)) := by
  obtain ⟨f, fd, ps, F, hm, hk, hb⟩ := C.ex
  refine (pe_call0 F hr hg hm hk hb .nil pass0 hdb).weak fun σ H Q h => ?_
  obtain ⟨ι, ρ, μ, v, μ', E, S, e, q⟩ := h
  obtain ⟨⟨vs, μ1⟩, e1, e2⟩ := Option.bind_eq_some_iff.mp e
  cases e1
  split at e2
  · rename_i hl
    exact ⟨ι, [], μ, v, μ', hl, rfl, S, e2, q⟩
  · cases e2
end

/-! ### built-ins -/
def SN (K : Frg) (r : List V → Hp → VK → Prop) (f : Fn) : Prop := ∀ ι H μ xs v μ' hs (Q : VK), RepS K ι H μ → RepVs K ι μ.length H xs hs → f xs μ = some (v, μ') → Aft K ι μ H v μ' Q → r hs H Q
def dN (f : Fn) (r : DenA) : Den := fun ρ μ => (r ρ μ).bind fun p => f p.1 p.2
theorem t_n {K : Frg} {σ : L2.St} {H : Hp} {Q : VK} {r : List V → Hp → VK → Prop} {f : Fn} {d : DenA} (hr : SN K r f) (h : tD K (dN f d) σ H Q) : tCB r (tA K d) σ H Q := by
  obtain ⟨ι, ρ, μ, v, μ', E, S, e, q⟩ := h
  obtain ⟨⟨vs, μ1⟩, e1, e2⟩ := Option.bind_eq_some_iff.mp e
  exact ⟨ι, ρ, μ, vs, μ1, E, S, e1, fun hs ι1 H1 X1 R1 S1 => hr ι1 H1 μ1 vs v μ' hs Q S1 R1 e2 (q.mono X1)⟩
section
variable {X : Cx} {x : Str} {p pos : Pos} {e : Expr} {es : List Expr} {d : DenA} {id T : String} {r : List V → Hp → VK → Prop} {f : Fn}
theorem e_callB (hc : CallR X (.builtin id) r) (hr : SN X.K r f) (hm : X.mg x = none) (ha : PA X (e :: es) (tA X.K d)) (hv : bootBuiltins x = some (.builtin id) := by decide +kernel) (hg : Gl X x := by rfl) (hn : x ≠ "__name__" := by decide) (hdb : (x == ("__debug__" : Str)) = false := by decide)
    (he : starEach (e :: es) X.env = (false, eval e X.env) :: starEach es X.env := by rfl) (hpl : (backTo pos (starEach es X.env)).any (·.1) = false := by rfl) : PE X (.Call (.Name x p) (e :: es) [] pos) (tD X.K (dN f d)) :=
  (pe_callB hc hg hm hv ha hn hdb he hpl).weak fun _ _ _ h => t_n hr h
theorem e_callTy (hc : CallR X (.type T) r) (hr : SN X.K r f) (hm : X.mg x = none) (ha : PA X (e :: es) (tA X.K d)) (hv : bootBuiltins x = some (.type T) := by decide +kernel) (hg : Gl X x := by rfl) (hn : x ≠ "__name__" := by decide) (hdb : (x == ("__debug__" : Str)) = false := by decide)
    (he : starEach (e :: es) X.env = (false, eval e X.env) :: starEach es X.env := by rfl) (hpl : (backTo pos (starEach es X.env)).any (·.1) = false := by rfl) : PE X (.Call (.Name x p) (e :: es) [] pos) (tD X.K (dN f d)) :=
  (pe_callTy hc hg hm hv ha hn hdb he hpl).weak fun _ _ _ h => t_n hr h
end
def f_len : Fn := fun xs μ => match xs with
  | [.str z] => if z.length ≤ sizeLine then some (.int z.length, μ) else none
  | [x] => (rdS μ x).map fun ys => (.int ys.length, μ)
  | _ => none
theorem rdS_rep {K : Frg} {ι : Ad} {μ : Sto} {H : Hp} (S : RepS K ι H μ) {x : PV} {v : V} {xs : List PV} (r : RepV K ι μ.length H x v) (h : rdS μ x = some xs) : ∃ a ys, v = .ref a ∧ (SqL K H a ys ∨ SqT K H a ys) ∧ RepVs K ι μ.length H xs ys := by
  unfold rdS at h
  split at h
  · cases h
    obtain ⟨a, us, rfl, ta, ra⟩ := r
    exact ⟨a, us, rfl, .inr ta.sq, ra⟩
  · obtain ⟨a, us, rfl, ta, ra⟩ := rdL_rep S r h
    exact ⟨a, us, rfl, .inl (.of ta), ra⟩
theorem s_len {K : Frg} : SN K (fun xs H Q => ∃ x n, xs = [x] ∧ LenV K x H n ∧ Q (.int n) H) f_len := by
  intro ι H μ xs v μ' hs Q S R h q
  unfold f_len at h
  split at h
  · split at h
    · rename_i z hz
      cases h
      obtain ⟨y, t, rfl, r1, rfl⟩ := R
      cases r1
      exact ⟨_, _, rfl, ⟨hz, rfl⟩, q.pure S rfl⟩
    · cases h
  · obtain ⟨ys, e1, e2⟩ := Option.map_eq_some_iff.mp h
    cases e2
    obtain ⟨y, t, rfl, r1, rfl⟩ := R
    obtain ⟨a, us, rfl, t, ra⟩ := rdS_rep S r1 e1
    refine ⟨_, us.length, rfl, ?_, q.pure S (by rw [ra.length]; rfl)⟩
    exact t.imp (fun t => ⟨us, t, rfl⟩) fun t => ⟨us, t, rfl⟩
  · cases h
def f_abs : Fn := fun xs μ => match xs with
  | [.int i] => some (.int (if i < 0 then -i else i), μ)
  | _ => none
theorem s_abs {K : Frg} : SN K (fun xs H Q => ∃ i, xs = [.int i] ∧ Q (.int (if i < 0 then -i else i)) H) f_abs := by
  intro ι H μ xs v μ' hs Q S R h q
  unfold f_abs at h
  split at h
  · cases h
    obtain ⟨y, t, rfl, r1, rfl⟩ := R
    cases r1
    exact ⟨_, rfl, q.pure S rfl⟩
  · cases h
def f_int : Fn := fun xs μ => match xs with
  | [.int i] => some (.int i, μ)
  | [.bl b] => some (.int (if b then 1 else 0), μ)
  | _ => none
theorem s_int {K : Frg} : SN K (fun xs H Q => (∃ i, xs = [.int i] ∧ Q (.int i) H) ∨ ∃ k, xs = [.bl k] ∧ Q (.int (if k then 1 else 0)) H) f_int := by
  intro ι H μ xs v μ' hs Q S R h q
  unfold f_int at h
  split at h
  · cases h
    obtain ⟨y, t, rfl, r1, rfl⟩ := R
    cases r1
    exact .inl ⟨_, rfl, q.pure S rfl⟩
  · cases h
    obtain ⟨y, t, rfl, r1, rfl⟩ := R
    cases r1
    exact .inr ⟨_, rfl, q.pure S rfl⟩
  · cases h
def f_max2 : Fn := fun xs μ => match xs with
  | [.int i, .int j] => some (.int (if j > i then j else i), μ)
  | _ => none
theorem s_max2 {K : Frg} : SN K (fun xs H Q => ∃ i j, xs = [.int i, .int j] ∧ Q (.int (if j > i then j else i)) H) f_max2 := by
  intro ι H μ xs v μ' hs Q S R h q
  unfold f_max2 at h
  split at h
  · cases h
    obtain ⟨y, t, rfl, r1, y2, t2, rfl, r2, rfl⟩ := R
    cases r1; cases r2
    exact ⟨_, _, rfl, q.pure S rfl⟩
  · cases h
def f_min2 : Fn := fun xs μ => match xs with
  | [.int i, .int j] => some (.int (if j < i then j else i), μ)
  | _ => none
theorem s_min2 {K : Frg} : SN K (fun xs H Q => ∃ i j, xs = [.int i, .int j] ∧ Q (.int (if j < i then j else i)) H) f_min2 := by
  intro ι H μ xs v μ' hs Q S R h q
  unfold f_min2 at h
  split at h
  · cases h
    obtain ⟨y, t, rfl, r1, y2, t2, rfl, r2, rfl⟩ := R
    cases r1; cases r2
    exact ⟨_, _, rfl, q.pure S rfl⟩
  · cases h
def f_sum : Fn := fun xs μ => match xs with
  | [x] => ((rdL μ x).bind intsP).map fun ns => (.int ns.sum, μ)
  | _ => none
theorem s_sum {K : Frg} : SN K (rSum K) f_sum := by
  intro ι H μ xs v μ' hs Q S R h q
  unfold f_sum at h
  split at h
  · obtain ⟨ns, e1, e2⟩ := Option.map_eq_some_iff.mp h
    obtain ⟨ys, e3, e4⟩ := Option.bind_eq_some_iff.mp e1
    cases e2
    obtain ⟨y, t, rfl, r1, rfl⟩ := R
    obtain ⟨a, us, rfl, ta, ra⟩ := rdL_rep S r1 e3
    obtain ⟨rfl, _⟩ := intsP_rep e4 ra
    exact ⟨a, ns, rfl, .of ta, q.pure S rfl⟩
  · cases h
def maxI : List Int → Int
  | [] => 0
  | [i] => i
  | i :: j :: r => if maxI (j :: r) > i then maxI (j :: r) else i
theorem maxI_mem : ∀ {ns : List Int}, 0 < ns.length → maxI ns ∈ ns ∧ ∀ y ∈ ns, y ≤ maxI ns
  | [i], _ => ⟨List.mem_singleton.mpr rfl, fun y hy => by rw [List.mem_singleton.mp hy]; exact Int.le_refl _⟩
  | i :: j :: r, _ => by
    obtain ⟨h1, h2⟩ := maxI_mem (ns := j :: r) (by simp)
    unfold maxI
    split
    · exact ⟨List.mem_cons_of_mem _ h1, fun y hy => (List.mem_cons.mp hy).elim (fun e => by rw [e]; omega) (h2 y)⟩
    · exact ⟨List.mem_cons_self, fun y hy => (List.mem_cons.mp hy).elim (fun e => by rw [e]; omega) fun q => by have := h2 y q; omega⟩
def minI : List Int → Int
  | [] => 0
  | [i] => i
  | i :: j :: r => if minI (j :: r) < i then minI (j :: r) else i
theorem minI_mem : ∀ {ns : List Int}, 0 < ns.length → minI ns ∈ ns ∧ ∀ y ∈ ns, minI ns ≤ y
  | [i], _ => ⟨List.mem_singleton.mpr rfl, fun y hy => by rw [List.mem_singleton.mp hy]; exact Int.le_refl _⟩
  | i :: j :: r, _ => by
    obtain ⟨h1, h2⟩ := minI_mem (ns := j :: r) (by simp)
    unfold minI
    split
    · exact ⟨List.mem_cons_of_mem _ h1, fun y hy => (List.mem_cons.mp hy).elim (fun e => by rw [e]; omega) (h2 y)⟩
    · exact ⟨List.mem_cons_self, fun y hy => (List.mem_cons.mp hy).elim (fun e => by rw [e]; omega) fun q => by have := h2 y q; omega⟩
def f_max : Fn := fun xs μ => match xs with
  | [x] => ((rdL μ x).bind intsP).bind fun ns => if 0 < ns.length then some (.int (maxI ns), μ) else none
  | _ => none
theorem s_max {K : Frg} : SN K (rMax K) f_max := by
  intro ι H μ xs v μ' hs Q S R h q
  unfold f_max at h
  split at h
  · obtain ⟨ns, e1, e2⟩ := Option.bind_eq_some_iff.mp h
    obtain ⟨ys, e3, e4⟩ := Option.bind_eq_some_iff.mp e1
    split at e2
    · rename_i hl
      cases e2
      obtain ⟨y, t, rfl, r1, rfl⟩ := R
      obtain ⟨a, us, rfl, ta, ra⟩ := rdL_rep S r1 e3
      obtain ⟨rfl, _⟩ := intsP_rep e4 ra
      obtain ⟨h1, h2⟩ := maxI_mem hl
      refine ⟨a, ns, rfl, .of ta, hl, fun m m1 m2 => ?_⟩
      have : m = maxI ns := by have := h2 m m1; have := m2 _ h1; omega
      rw [this]
      exact q.pure S rfl
    · cases e2
  · cases h
def f_min : Fn := fun xs μ => match xs with
  | [x] => ((rdL μ x).bind intsP).bind fun ns => if 0 < ns.length then some (.int (minI ns), μ) else none
  | _ => none
theorem s_min {K : Frg} : SN K (rMin K) f_min := by
  intro ι H μ xs v μ' hs Q S R h q
  unfold f_min at h
  split at h
  · obtain ⟨ns, e1, e2⟩ := Option.bind_eq_some_iff.mp h
    obtain ⟨ys, e3, e4⟩ := Option.bind_eq_some_iff.mp e1
    split at e2
    · rename_i hl
      cases e2
      obtain ⟨y, t, rfl, r1, rfl⟩ := R
      obtain ⟨a, us, rfl, ta, ra⟩ := rdL_rep S r1 e3
      obtain ⟨rfl, _⟩ := intsP_rep e4 ra
      obtain ⟨h1, h2⟩ := minI_mem hl
      refine ⟨a, ns, rfl, .of ta, hl, fun m m1 m2 => ?_⟩
      have : m = minI ns := by have := h2 m m1; have := m2 _ h1; omega
      rw [this]
      exact q.pure S rfl
    · cases e2
  · cases h
def f_tuple : Fn := fun xs μ => match xs with
  | [.tup ys] => some (.tup ys, μ)
  | [x] => (rdL μ x).map fun ys => (.tup ys, μ)
  | _ => none
theorem s_tuple {K : Frg} : SN K (fun xs H Q => ∃ p ys, xs = [.ref p] ∧ ((SqL K H p ys ∧ ∀ l, H l = none → Q (.ref l) (upd H l (.tup ys))) ∨ (SqT K H p ys ∧ Q (.ref p) H))) f_tuple := by
  intro ι H μ xs v μ' hs Q S R h q
  unfold f_tuple at h
  split at h
  · cases h
    obtain ⟨y, t, rfl, ⟨a, us, rfl, ta, ra⟩, rfl⟩ := R
    exact ⟨a, us, rfl, .inr ⟨ta.sq, q.pure S ⟨a, us, rfl, ta, ra⟩⟩⟩
  · obtain ⟨ys, e1, e2⟩ := Option.map_eq_some_iff.mp h
    cases e2
    obtain ⟨y, t, rfl, r1, rfl⟩ := R
    obtain ⟨a, us, rfl, ta, ra⟩ := rdL_rep S r1 e1
    exact ⟨a, us, rfl, .inl ⟨.of ta, fun p hp => q.tup S ra hp⟩⟩
  · cases h
/-- a list that nobody changes; one that will be changed -/
def f_list : Fn := fun xs μ => match xs with
  | [x] => (rdS μ x).map fun ys => (.lst ys, μ)
  | _ => none
def f_listM : Fn := fun xs μ => match xs with
  | [x] => (rdS μ x).map fun ys => (.loc μ.length, μ ++ [.lst ys])
  | _ => none
theorem s_list {K : Frg} : SN K (fun xs H Q => ∃ p ys, xs = [.ref p] ∧ (SqL K H p ys ∨ SqT K H p ys) ∧ ∀ l, H l = none → Q (.ref l) (upd H l (.lst ys))) f_list := by
  intro ι H μ xs v μ' hs Q S R h q
  unfold f_list at h
  split at h
  · obtain ⟨ys, e1, e2⟩ := Option.map_eq_some_iff.mp h
    cases e2
    obtain ⟨y, t, rfl, r1, rfl⟩ := R
    obtain ⟨a, us, rfl, ta, ra⟩ := rdS_rep S r1 e1
    exact ⟨a, us, rfl, ta, fun p hp => q.lst S ra hp⟩
  · cases h
theorem s_listM {K : Frg} : SN K (fun xs H Q => ∃ p ys, xs = [.ref p] ∧ (SqL K H p ys ∨ SqT K H p ys) ∧ ∀ l, H l = none → Q (.ref l) (upd H l (.lst ys))) f_listM := by
  intro ι H μ xs v μ' hs Q S R h q
  unfold f_listM at h
  split at h
  · obtain ⟨ys, e1, e2⟩ := Option.map_eq_some_iff.mp h
    cases e2
    obtain ⟨y, t, rfl, r1, rfl⟩ := R
    obtain ⟨a, us, rfl, ta, ra⟩ := rdS_rep S r1 e1
    exact ⟨a, us, rfl, ta, fun p hp => q.loc S ra hp⟩
  · cases h
def blsP : List PV → Option (List Bool)
  | [] => some []
  | .bl b :: r => (blsP r).map (b :: ·)
  | _ :: _ => none
theorem blsP_map : ∀ ns : List Bool, blsP (ns.map PV.bl) = some ns
  | [] => rfl
  | i :: r => by rw [List.map_cons]; unfold blsP; rw [blsP_map r]; rfl
theorem blsP_rep {K : Frg} {ι : Ad} {n : Nat} {H : Hp} : ∀ {xs : List PV} {ys : List V} {ns : List Bool}, blsP xs = some ns → RepVs K ι n H xs ys → ys = ns.map V.bl
  | [], _, _, h, r => by cases h; cases r; rfl
  | .bl i :: xs, _, ns, h, r => by
    obtain ⟨y, t, rfl, r1, r2⟩ := r
    unfold blsP at h
    obtain ⟨ms, e, rfl⟩ := Option.map_eq_some_iff.mp h
    cases r1
    rw [blsP_rep e r2]; rfl
  | .non :: _, _, _, h, _ => by cases h
  | .int _ :: _, _, _, h, _ => by cases h
  | .str _ :: _, _, _, h, _ => by cases h
  | .tup _ :: _, _, _, h, _ => by cases h
  | .lst _ :: _, _, _, h, _ => by cases h
  | .loc _ :: _, _, _, h, _ => by cases h
  | .scr _ :: _, _, _, h, _ => by cases h
def f_all : Fn := fun xs μ => match xs with
  | [x] => ((rdL μ x).bind blsP).map fun ns => (.bl (ns.all id), μ)
  | _ => none
def f_any : Fn := fun xs μ => match xs with
  | [x] => ((rdL μ x).bind blsP).map fun ns => (.bl (ns.any id), μ)
  | _ => none
theorem s_all {K : Frg} : SN K (rAll K) f_all := by
  intro ι H μ xs v μ' hs Q S R h q
  unfold f_all at h
  split at h
  · obtain ⟨ns, e1, e2⟩ := Option.map_eq_some_iff.mp h
    obtain ⟨ys, e3, e4⟩ := Option.bind_eq_some_iff.mp e1
    cases e2
    obtain ⟨y, t, rfl, r1, rfl⟩ := R
    obtain ⟨a, us, rfl, ta, ra⟩ := rdL_rep S r1 e3
    have := blsP_rep e4 ra
    subst this
    exact ⟨a, ns, rfl, .of ta, q.pure S rfl⟩
  · cases h
theorem s_any {K : Frg} : SN K (rAny K) f_any := by
  intro ι H μ xs v μ' hs Q S R h q
  unfold f_any at h
  split at h
  · obtain ⟨ns, e1, e2⟩ := Option.map_eq_some_iff.mp h
    obtain ⟨ys, e3, e4⟩ := Option.bind_eq_some_iff.mp e1
    cases e2
    obtain ⟨y, t, rfl, r1, rfl⟩ := R
    obtain ⟨a, us, rfl, ta, ra⟩ := rdL_rep S r1 e3
    have := blsP_rep e4 ra
    subst this
    exact ⟨a, ns, rfl, .of ta, q.pure S rfl⟩
  · cases h
/-- repr(int), str(int) -/
def f_repr : Fn := fun xs μ => match xs with
  | [.int i] => if i.natAbs.log2 < 1920 then some (.str (toString i), μ) else none
  | _ => none
theorem s_repr {K : Frg} : SN K (fun xs H Q => ∃ i, xs = [.int i] ∧ i.natAbs.log2 < 1920 ∧ Q (.str (toString i)) H) f_repr := by
  intro ι H μ xs v μ' hs Q S R h q
  unfold f_repr at h
  split at h
  · split at h
    · cases h
      obtain ⟨y, t, rfl, r1, rfl⟩ := R
      cases r1
      exact ⟨_, rfl, by assumption, q.pure S rfl⟩
    · cases h
  · cases h

/-! ### isinstance -/
inductive Ty where
  | int | bool | str | tuple | list
def Ty.name : Ty → String
  | .int => "int" | .bool => "bool" | .str => "str" | .tuple => "tuple" | .list => "list"
def tyN (μ : Sto) : PV → Option String
  | .non => some "NoneType"
  | .bl _ => some "bool"
  | .int _ => some "int"
  | .str _ => some "str"
  | .tup _ => some "tuple"
  | .lst _ => some "list"
  | .loc l => match μ[l]? with
    | some (.lst _) => some "list"
    | some (.dic _ _) => some "dict"
    | none => none
  | .scr _ => none
def isT (T : Ty) (s : String) : Bool := match T with
  | .int => s == "int" || s == "bool"
  | t => s == t.name
theorem tyN_rep {K : Frg} {ι : Ad} {μ : Sto} {H : Hp} (S : RepS K ι H μ) {x : PV} {v : V} {s : String} (r : RepV K ι μ.length H x v) (h : tyN μ x = some s) : TyX K H v (.type s) ∧ s ∈ ["NoneType", "bool", "int", "str", "tuple", "list", "dict"] := by
  cases x with
  | non => cases r; cases h; exact ⟨.base .non, by decide⟩
  | bl b => cases r; cases h; exact ⟨.base (.bl b), by decide⟩
  | int i => cases r; cases h; exact ⟨.base (.int i), by decide⟩
  | str z => cases r; cases h; exact ⟨.base (.str z), by decide⟩
  | tup xs =>
    obtain ⟨a, ys, rfl, t, _⟩ := r
    cases h
    rcases t with ⟨t, _⟩ | ⟨o, its, n, hk, hc, _⟩
    · exact ⟨.base (.tup t), by decide⟩
    · exact ⟨.kTuple hk hc, by decide⟩
  | lst xs =>
    obtain ⟨a, ys, rfl, ⟨t, _⟩, _⟩ := r
    cases h
    exact ⟨.base (.lst t), by decide⟩
  | loc l =>
    obtain ⟨hl, rfl⟩ := r
    unfold tyN at h
    simp only at h
    split at h
    · rename_i xs e
      cases h
      obtain ⟨ys, t, _⟩ := S.obj _ _ e
      exact ⟨.base (.lst t), by decide⟩
    · rename_i b kvs e
      cases h
      cases b with
      | false => obtain ⟨ys, t, _⟩ := S.obj _ _ e; exact ⟨.base (.dK t), by decide⟩
      | true => obtain ⟨ys, t, _⟩ := S.obj _ _ e; exact ⟨.base (.dT t), by decide⟩
    · cases h
  | scr _ => cases h
theorem isT_kit : ∀ (T : Ty), ∀ s ∈ ["NoneType", "bool", "int", "str", "tuple", "list", "dict"], kitB s T.name = some (isT T s) := by
  intro T
  cases T <;> decide +kernel
def f_isi (T : Ty) : Op1 := fun x μ => (tyN μ x).map fun s => (.bl (isT T s), μ)
def f_isi2 (T U : Ty) : Op1 := fun x μ => (tyN μ x).map fun s => (.bl (isT T s || isT U s), μ)
section
variable {X : Cx} {a : Expr} {d : Den}
theorem e_isi (T : Ty) {y : Str} {p p2 pos : Pos} (ha : PE X a (tD X.K d)) (hm : X.mg "isinstance" = none) (hm2 : X.mg y = none) (hv2 : bootBuiltins y = some (.type T.name) := by decide +kernel) (hg : Gl X "isinstance" := by rfl) (hg2 : Gl X y := by rfl) (hn2 : y ≠ "__name__" := by decide) (hd2 : (y == ("__debug__" : Str)) = false := by decide)
    (hs : starEach [a, .Name y p2] X.env = (false, eval a X.env) :: starEach [.Name y p2] X.env := by rfl) (hpl : (backTo pos (starEach [.Name y p2] X.env)).any (·.1) = false := by rfl) : PE X (.Call (.Name "isinstance" p) [a, .Name y p2] [] pos) (tD X.K (d1 (f_isi T) d)) :=
  (pe_callB (r := rIsi X.K) call_isi hg hm (by decide +kernel) (pa_cons ha (pa_cons (pe_bltn (v := .ty T.name) hg2 hm2 hv2 rfl hn2 hd2) pa_nil) hs) (by decide) (by decide) hs hpl).weak fun σ H Q h => by
    obtain ⟨ι, ρ, μ, v, μ', E, S, e, q⟩ := h
    obtain ⟨⟨x, μ1⟩, e1, e2⟩ := Option.bind_eq_some_iff.mp e
    obtain ⟨s, e3, e4⟩ := Option.map_eq_some_iff.mp e2
    cases e4
    refine ⟨ι, ρ, μ, x, _, E, S, e1, fun hx ι1 H1 X1 R1 S1 => ?_⟩
    obtain ⟨t1, t2⟩ := tyN_rep S1 R1 e3
    exact ⟨hx, .ty T.name, .type s, .type T.name, _, rfl, .ty _, t1, kit_ty (isT_kit T s t2), q _ ι1 H1 X1 rfl S1⟩
theorem e_isi2 (T U : Ty) {y z : Str} {p p2 p3 pt pos : Pos} {k : Nat} (ha : PE X a (tD X.K d)) (hm : X.mg "isinstance" = none) (hm2 : X.mg y = none) (hm3 : X.mg z = none) (hv2 : bootBuiltins y = some (.type T.name) := by decide +kernel) (hv3 : bootBuiltins z = some (.type U.name) := by decide +kernel) (hg : Gl X "isinstance" := by rfl) (hg2 : Gl X y := by rfl) (hg3 : Gl X z := by rfl)
    (hn2 : y ≠ "__name__" := by decide) (hd2 : (y == ("__debug__" : Str)) = false := by decide) (hn3 : z ≠ "__name__" := by decide) (hd3 : (z == ("__debug__" : Str)) = false := by decide)
    (hs : starEach [a, .Tuple [.Name y p2, .Name z p3] k pt] X.env = (false, eval a X.env) :: starEach [.Tuple [.Name y p2, .Name z p3] k pt] X.env := by rfl) (hpl : (backTo pos (starEach [.Tuple [.Name y p2, .Name z p3] k pt] X.env)).any (·.1) = false := by rfl) :
    PE X (.Call (.Name "isinstance" p) [a, .Tuple [.Name y p2, .Name z p3] k pt] [] pos) (tD X.K (d1 (f_isi2 T U) d)) :=
  (pe_callB (r := rIsiT X.K) call_isiT hg hm (by decide +kernel) (pa_cons ha (pa_cons (pe_tup (pa_cons (pe_bltn (v := .ty T.name) hg2 hm2 hv2 rfl hn2 hd2) (pa_cons (pe_bltn (v := .ty U.name) hg3 hm3 hv3 rfl hn3 hd3) pa_nil))) pa_nil) hs) (by decide) (by decide) hs hpl).weak fun σ H Q h => by
    obtain ⟨ι, ρ, μ, v, μ', E, S, e, q⟩ := h
    obtain ⟨⟨x, μ1⟩, e1, e2⟩ := Option.bind_eq_some_iff.mp e
    obtain ⟨s, e3, e4⟩ := Option.map_eq_some_iff.mp e2
    cases e4
    refine ⟨ι, ρ, μ, x, _, E, S, e1, fun hx ι1 H1 X1 R1 S1 => ⟨by show 2 ≤ sizeLine; decide, fun p hp => ?_⟩⟩
    have X2 := Ext.new1 (o := .tup [.ty T.name, .ty U.name]) S1 hp
    have S2 := S1.new1 (o := .tup [.ty T.name, .ty U.name]) hp
    obtain ⟨t1, t2⟩ := tyN_rep S2 (R1.mono X2) e3
    refine ⟨hx, p, [.ty T.name, .ty U.name], .type s, [.type T.name, .type U.name], _, rfl, upd_same, .cons (.ty _) (.cons (.ty _) .nil), t1, ?_, q _ ι1 _ (X1.trans X2) rfl S2⟩
    refine kitAny_cons (b := isT T s) (kit_ty (isT_kit T s t2)) (fun h => ?_) fun h => by rw [h]; rfl
    refine kitAny_cons (b := isT U s) (kit_ty (isT_kit U s t2)) (fun h2 => by rw [h, h2]; exact kitAny_nil) fun h2 => by rw [h, h2]; rfl
end

/-! ### methods of lists -/
abbrev OpM := PV → List PV → Sto → Option (PV × Sto)
def dM (f : OpM) (d : Den) (r : DenA) : Den := fun ρ μ => (d ρ μ).bind fun p => (r ρ p.2).bind fun q => f p.1 q.1 q.2
def SM (K : Frg) (r : V → List V → Hp → VK → Prop) (f : OpM) : Prop := ∀ ι H μ x xs v μ' hx hs (Q : VK), RepS K ι H μ → RepV K ι μ.length H x hx → RepVs K ι μ.length H xs hs → f x xs μ = some (v, μ') → Aft K ι μ H v μ' Q → r hx hs H Q
/-- the receiver's type is known whatever the heap -/
def isLs (μ : Sto) : PV → Bool
  | .lst _ => true
  | .loc l => match μ[l]? with
    | some (.lst _) => true
    | _ => false
  | _ => false
def dML (f : OpM) (d : Den) (r : DenA) : Den := fun ρ μ => (d ρ μ).bind fun p => if isLs p.2 p.1 = true then (r ρ p.2).bind fun q => f p.1 q.1 q.2 else none
theorem isLs_rep {K : Frg} {ι : Ad} {μ : Sto} {H : Hp} (S : RepS K ι H μ) {x : PV} {v : V} (r : RepV K ι μ.length H x v) (h : isLs μ x = true) : tyV K "list" v H := by
  unfold isLs at h
  split at h
  · obtain ⟨a, ys, rfl, ⟨t, _⟩, _⟩ := r
    exact .inl ⟨rfl, ys, .of t⟩
  · obtain ⟨hl, rfl⟩ := r
    split at h
    · rename_i xs e
      obtain ⟨ys, t, _⟩ := S.obj _ _ e
      exact .inl ⟨rfl, ys, .of t⟩
    · cases h
  · cases h
section
variable {X : Cx} {o e : Expr} {es : List Expr} {d : Den} {r : DenA} {name : Str} {apos cpos : Pos} {id : String} {rr : V → List V → Hp → VK → Prop} {f : OpM}
theorem e_bm (pa : PlainAttrs "list") (slot : Slot "list" name id) (hty : typeOf (.builtin id) = pure (.type "method_descriptor")) (hm : MtR X id rr) (hr : SM X.K rr f) (ho : PE X o (tD X.K d)) (ha : PA X (e :: es) (tA X.K r))
    (hbase : attributeBase o name X.env (eval o X.env) = eval o X.env := by rfl)
    (hfew : ((backTo cpos (starEach (e :: es) X.env)).all (fun x => !x.1) && (backToKw cpos (keywordEach [] X.env)).all (fun x => x.1.isSome)
      && decide ((e :: es).length + ([] : List Keyword).length + (if ([] : List Keyword).isEmpty then 0 else 1) < 30)) = true := by rfl)
    (hline : (apos.endLine == cpos.line) = true := by rfl) (hs : starEach (e :: es) X.env = (false, eval e X.env) :: starEach es X.env := by rfl) (hplain : (backTo cpos (starEach es X.env)).any (·.1) = false := by rfl) :
    PE X (.Call (.Attribute o name apos) (e :: es) [] cpos) (tD X.K (dML f d r)) :=
  (pe_bm pa slot hty hm ho ha hbase hfew hline hs hplain).weak fun σ H Q h => by
    obtain ⟨ι, ρ, μ, v, μ', E, S, e, q⟩ := h
    obtain ⟨⟨x, μ1⟩, e1, e2⟩ := Option.bind_eq_some_iff.mp e
    split at e2
    · rename_i hL
      obtain ⟨⟨vs, μ2⟩, e3, e4⟩ := Option.bind_eq_some_iff.mp e2
      exact ⟨ι, ρ, μ, x, μ1, E, S, e1, fun hx ι1 H1 X1 R1 S1 => ⟨isLs_rep S1 R1 hL, ι1, ρ, μ1, vs, μ2, E.mono X1, S1, e3, fun hs ι2 H2 X2 R2 S2 =>
        hr ι2 H2 μ2 x vs v μ' hx hs Q S2 (R1.mono X2) R2 e4 (q.mono (X1.trans X2))⟩⟩
    · cases e2
theorem e_bm0 (pa : PlainAttrs "list") (slot : Slot "list" name id) (hty : typeOf (.builtin id) = pure (.type "method_descriptor")) (hm : MtR X id rr) (hr : SM X.K rr f) (ho : PE X o (tD X.K d))
    (hbase : attributeBase o name X.env (eval o X.env) = eval o X.env := by rfl) (hline : (apos.endLine == cpos.line) = true := by rfl) :
    PE X (.Call (.Attribute o name apos) [] [] cpos) (tD X.K (dML f d aNil)) :=
  (pe_bm0 pa slot hty hm ho hbase hline).weak fun σ H Q h => by
    obtain ⟨ι, ρ, μ, v, μ', E, S, e, q⟩ := h
    obtain ⟨⟨x, μ1⟩, e1, e2⟩ := Option.bind_eq_some_iff.mp e
    split at e2
    · rename_i hL
      obtain ⟨⟨vs, μ2⟩, e3, e4⟩ := Option.bind_eq_some_iff.mp e2
      cases e3
      exact ⟨ι, ρ, μ, x, μ1, E, S, e1, fun hx ι1 H1 X1 R1 S1 => ⟨isLs_rep S1 R1 hL, hr ι1 H1 μ1 x [] v μ' hx [] Q S1 R1 rfl e4 (q.mono X1)⟩⟩
    · cases e2
end
def f_app : OpM := fun x xs μ => match x, xs with
  | .loc l, [y] => match μ[l]? with
    | some (.lst zs) => if zs.length < sizeLine then some (.non, μ.set l (.lst (zs ++ [y]))) else none
    | _ => none
  | _, _ => none
theorem Aft.put {K : Frg} {ι : Ad} {μ : Sto} {H : Hp} {v : PV} {hv : V} {l : Nat} {xs' : List PV} {ys' : List V} {Q : VK} (S : RepS K ι H μ) (hl : l < μ.length) (q : Aft K ι μ H v (μ.set l (.lst xs')) Q) (r : RepVs K ι μ.length H xs' ys') (rv : RepV K ι μ.length H v hv) :
    Q hv (upd H (ι l) (.lst ys')) := by
  have X := Ext.put (o := .lst ys') S hl
  have hn : (μ.set l (.lst xs')).length = μ.length := List.length_set
  exact q hv ι _ (by rw [hn]; exact X) (by rw [hn]; exact rv.mono X) (S.put hl ⟨_, upd_same, RepVs.mono X r⟩)
theorem s_app {K : Frg} : SM K rAppend f_app := by
  intro ι H μ x xs v μ' hx hs Q S R Rs h q
  unfold f_app at h
  split at h
  · split at h
    · rename_i l y zs e
      split at h
      · rename_i hz
        cases h
        obtain ⟨hl, rfl⟩ := R
        obtain ⟨y', t, rfl, r1, rfl⟩ := Rs
        obtain ⟨us, tu, ru⟩ := S.obj _ _ e
        exact ⟨_, us, y', rfl, rfl, tu, by rw [← ru.length]; exact hz, q.put S hl (ru.append (.one r1)) rfl⟩
      · cases h
    · cases h
  · cases h
def f_ext : OpM := fun x xs μ => match x, xs with
  | .loc l, [y] => match μ[l]?, rdL μ y with
    | some (.lst zs), some ws => if zs.length + ws.length ≤ sizeLine then some (.non, μ.set l (.lst (zs ++ ws))) else none
    | _, _ => none
  | _, _ => none
theorem s_ext {K : Frg} : SM K rExtend f_ext := by
  intro ι H μ x xs v μ' hx hs Q S R Rs h q
  unfold f_ext at h
  split at h
  · split at h
    · rename_i l y zs ws e1 e2
      split at h
      · rename_i hz
        cases h
        obtain ⟨hl, rfl⟩ := R
        obtain ⟨y', t, rfl, r1, rfl⟩ := Rs
        obtain ⟨us, tu, ru⟩ := S.obj _ _ e1
        obtain ⟨b, us2, rfl, tb, rb⟩ := rdL_rep S r1 e2
        exact ⟨_, b, us, us2, rfl, rfl, tu, tb, by rw [← ru.length, ← rb.length]; exact hz, q.put S hl (ru.append rb) rfl⟩
      · cases h
    · cases h
  · cases h
def f_pop : OpM := fun x xs μ => match x, xs with
  | .loc l, [] => match μ[l]? with
    | some (.lst zs) => (zs[zs.length - 1]?).map fun y => (y, μ.set l (.lst zs.dropLast))
    | _ => none
  | _, _ => none
theorem s_pop {K : Frg} : SM K rPop f_pop := by
  intro ι H μ x xs v μ' hx hs Q S R Rs h q
  unfold f_pop at h
  split at h
  · split at h
    · rename_i l zs e
      obtain ⟨y, e1, e2⟩ := Option.map_eq_some_iff.mp h
      cases e2
      obtain ⟨hl, rfl⟩ := R
      cases Rs
      obtain ⟨us, tu, ru⟩ := S.obj _ _ e
      obtain ⟨y', h1, h2⟩ := ru.get e1
      exact ⟨_, us, y', rfl, rfl, tu, by rw [← ru.length]; exact h1, q.put S hl ru.dropLast h2⟩
    · cases h
  · cases h
end Fd

/-! Fd7: chained comparisons, reversed slices, in, two-part targets. -/
namespace Fd
open PySem PySem.Spec PyProof.Rows L2

/-! ### a < b < c -/
def dCh2 (f g : Op2) (da db dc : Den) : Den := fun ρ μ => (da ρ μ).bind fun p => (db ρ p.2).bind fun q => (asB (f p.1 q.1 q.2)).bind fun r => if r.1 = true then (dc ρ r.2).bind fun s => g q.1 s.1 s.2 else some (.bl false, r.2)
def dCh3 (f g h : Op2) (da db dc dd : Den) : Den := fun ρ μ => (da ρ μ).bind fun p => (db ρ p.2).bind fun q => (asB (f p.1 q.1 q.2)).bind fun r => if r.1 = true then (dc ρ r.2).bind fun s => (asB (g q.1 s.1 s.2)).bind fun t => if t.1 = true then (dd ρ t.2).bind fun u => h s.1 u.1 u.2 else some (.bl false, t.2)
  else some (.bl false, r.2)
theorem asB_some {o : Option (PV × Sto)} {b : Bool} {μ : Sto} (h : asB o = some (b, μ)) : o = some (.bl b, μ) := by
  unfold asB at h
  split at h
  · cases h; rfl
  · cases h
def tChain3 (r r' r'' : R2) (ta tb tc td : TE) : TE := fun σ H Q => ta σ H fun x H1 => tb σ H1 fun y H2 => r x y H2 fun z H3 => ∃ k, z = .bl k ∧
  (if k = true then tc σ H3 fun w' H4 => r' y w' H4 fun z2 H5 => ∃ k2, z2 = .bl k2 ∧ (if k2 = true then td σ H5 fun w2 H6 => r'' w' w2 H6 Q else Q (.bl false) H5) else Q (.bl false) H3)
section
variable {X : Cx} {a b c d : Expr} {ta tb tc td : TE} {pos : Pos}
theorem pe_chain3 {op op' op'' : CmpOp} {r r' r'' : R2} (ho : OpR X (compareOp op) r) (ho' : OpR X (compareOp op') r') (ho'' : OpR X (compareOp op'') r'') (ha : PE X a ta) (hb : PE X b tb) (hc : PE X c tc) (hd : PE X d td)
    (hm : lastMarks [op, op', op''] [b, c, d] = false := by with_unfolding_all rfl) : PE X (.Compare a [op, op', op''] [b, c, d] pos) (tChain3 r r' r'' ta tb tc td) := by
  refine ⟨fun pins s σ H Q I h => ?_⟩
  refine Compare_chain (thn (ha.run pins s σ H _ I h) fun v s1 ⟨x, H1, I1, r1, q1⟩ => chain_link (thn (hb.run pins s1 σ H1 _ I1 q1) fun u s2 ⟨y, H2, I2, r2, q2⟩ =>
    thn (ho pins s2 σ H2 x y v u _ I2 r1 r2 q2) fun d s3 ⟨z, H3, I3, r3, k, e, q3⟩ => ?_)) hm
  subst e
  cases r3
  refine wpAny_truthy_bool ?_
  cases k with
  | false => exact ite_ff ⟨.bl false, H3, I3, rfl, q3⟩
  | true =>
    refine ite_tt (chain_link (thn (hc.run pins s3 σ H3 _ I3 q3) fun w' s4 ⟨z', H4, I4, r4, q4⟩ => thn (ho' pins s4 σ H4 y z' u w' _ I4 r2 r4 q4) fun d' s5 ⟨z2, H5, I5, r5, k2, e2, q5⟩ => ?_))
    subst e2
    cases r5
    refine wpAny_truthy_bool ?_
    cases k2 with
    | false => exact ite_ff ⟨.bl false, H5, I5, rfl, q5⟩
    | true => exact ite_tt (chain_last (thn (hd.run pins s5 σ H5 _ I5 q5) fun w2 s6 ⟨z3, H6, I6, r6, q6⟩ => ho'' pins s6 σ H6 z' z3 w' w2 Q I6 r4 r6 q6))
theorem pt_chain3 {op op' op'' : CmpOp} {r r' r'' : R2} (ho : OpR X (compareOp op) r) (ho' : OpR X (compareOp op') r') (ho'' : OpR X (compareOp op'') r'') (ha : PE X a ta) (hb : PE X b tb) (hc : PE X c tc) (hd : PE X d td)
    (hm : lastMarks [op, op', op''] [b, c, d] = false := by with_unfolding_all rfl) : PT X (.Compare a [op, op', op''] [b, c, d] pos) (tTest (tChain3 r r' r'' ta tb tc td)) := by
  refine ⟨fun pins s σ H Q I h => ?_⟩
  refine isTrue_chain (thn (ha.run pins s σ H _ I h) fun v s1 ⟨x, H1, I1, r1, q1⟩ => test_link (thn (hb.run pins s1 σ H1 _ I1 q1) fun u s2 ⟨y, H2, I2, r2, q2⟩ =>
    thn (ho pins s2 σ H2 x y v u _ I2 r1 r2 q2) fun d s3 ⟨z, H3, I3, r3, k, e, q3⟩ => ?_)) hm
  subst e
  cases r3
  refine wpAny_truthy_bool ?_
  cases k with
  | false =>
    obtain ⟨k', e', q'⟩ := q3
    cases e'
    exact ite_ff ⟨H3, I3, q'⟩
  | true =>
    refine ite_tt (test_link (thn (hc.run pins s3 σ H3 _ I3 q3) fun w' s4 ⟨z', H4, I4, r4, q4⟩ => thn (ho' pins s4 σ H4 y z' u w' _ I4 r2 r4 q4) fun d' s5 ⟨z2, H5, I5, r5, k2, e2, q5⟩ => ?_))
    subst e2
    cases r5
    refine wpAny_truthy_bool ?_
    cases k2 with
    | false =>
      obtain ⟨k', e', q'⟩ := q5
      cases e'
      exact ite_ff ⟨H5, I5, q'⟩
    | true =>
      refine ite_tt (test_last (thn (hd.run pins s5 σ H5 _ I5 q5) fun w2 s6 ⟨z3, H6, I6, r6, q6⟩ => thn (ho'' pins s6 σ H6 z' z3 w' w2 _ I6 r4 r6 q6) fun d'' s7 ⟨z4, H7, I7, r7, k3, e3, q7⟩ => ?_))
      subst e3
      cases r7
      exact wpAny_truthy_bool ⟨H7, I7, q7⟩
end
section
variable {K : Frg} {σ : L2.St} {H : Hp} {Q : VK} {f g h : Op2} {r r' r'' : R2} {da db dc dd : Den}
theorem t_ch2 (hf : S2 K r f) (hg : S2 K r' g) (w : tD K (dCh2 f g da db dc) σ H Q) : tChain r r' (tD K da) (tD K db) (tD K dc) σ H Q := by
  obtain ⟨ι, ρ, μ, v, μ', E, S, e, q⟩ := w
  obtain ⟨⟨x, μ1⟩, e1, e⟩ := Option.bind_eq_some_iff.mp e
  obtain ⟨⟨y, μ2⟩, e2, e⟩ := Option.bind_eq_some_iff.mp e
  obtain ⟨⟨k, μ3⟩, e3, e⟩ := Option.bind_eq_some_iff.mp e
  refine ⟨ι, ρ, μ, x, μ1, E, S, e1, fun hx ι1 H1 X1 R1 S1 => ⟨ι1, ρ, μ1, y, μ2, E.mono X1, S1, e2, fun hy ι2 H2 X2 R2 S2 => ?_⟩⟩
  refine hf ι2 H2 μ2 x y (.bl k) μ3 hx hy _ S2 (R1.mono X2) R2 (asB_some e3) fun hz ι3 H3 X3 R3 S3 => ⟨k, R3, ?_⟩
  have e : (if k = true then _ else _) = some (v, μ') := e
  cases k with
  | false => cases e; exact q _ ι3 H3 (X1.trans (X2.trans X3)) rfl S3
  | true =>
    obtain ⟨⟨z, μ4⟩, e4, e⟩ := Option.bind_eq_some_iff.mp e
    exact ⟨ι3, ρ, μ3, z, μ4, E.mono (X1.trans (X2.trans X3)), S3, e4, fun hw ι4 H4 X4 R4 S4 => hg ι4 H4 μ4 y z v μ' hy hw Q S4 (R2.mono (X3.trans X4)) R4 e (q.mono (X1.trans (X2.trans (X3.trans X4))))⟩
theorem t_ch3 (hf : S2 K r f) (hg : S2 K r' g) (hh : S2 K r'' h) (w : tD K (dCh3 f g h da db dc dd) σ H Q) : tChain3 r r' r'' (tD K da) (tD K db) (tD K dc) (tD K dd) σ H Q := by
  obtain ⟨ι, ρ, μ, v, μ', E, S, e, q⟩ := w
  obtain ⟨⟨x, μ1⟩, e1, e⟩ := Option.bind_eq_some_iff.mp e
  obtain ⟨⟨y, μ2⟩, e2, e⟩ := Option.bind_eq_some_iff.mp e
  obtain ⟨⟨k, μ3⟩, e3, e⟩ := Option.bind_eq_some_iff.mp e
  refine ⟨ι, ρ, μ, x, μ1, E, S, e1, fun hx ι1 H1 X1 R1 S1 => ⟨ι1, ρ, μ1, y, μ2, E.mono X1, S1, e2, fun hy ι2 H2 X2 R2 S2 => ?_⟩⟩
  refine hf ι2 H2 μ2 x y (.bl k) μ3 hx hy _ S2 (R1.mono X2) R2 (asB_some e3) fun hz ι3 H3 X3 R3 S3 => ⟨k, R3, ?_⟩
  have e : (if k = true then _ else _) = some (v, μ') := e
  have X13 := X1.trans (X2.trans X3)
  cases k with
  | false => cases e; exact q _ ι3 H3 X13 rfl S3
  | true =>
    obtain ⟨⟨z, μ4⟩, e4, e⟩ := Option.bind_eq_some_iff.mp e
    obtain ⟨⟨k2, μ5⟩, e5, e⟩ := Option.bind_eq_some_iff.mp e
    refine ⟨ι3, ρ, μ3, z, μ4, E.mono X13, S3, e4, fun hw ι4 H4 X4 R4 S4 => hg ι4 H4 μ4 y z (.bl k2) μ5 hy hw _ S4 (R2.mono (X3.trans X4)) R4 (asB_some e5) fun hz2 ι5 H5 X5 R5 S5 => ⟨k2, R5, ?_⟩⟩
    have e : (if k2 = true then _ else _) = some (v, μ') := e
    have X15 := X13.trans (X4.trans X5)
    cases k2 with
    | false => cases e; exact q _ ι5 H5 X15 rfl S5
    | true =>
      obtain ⟨⟨u, μ6⟩, e6, e⟩ := Option.bind_eq_some_iff.mp e
      exact ⟨ι5, ρ, μ5, u, μ6, E.mono X15, S5, e6, fun hu ι6 H6 X6 R6 S6 => hh ι6 H6 μ6 z u v μ' hw hu Q S6 (R4.mono (X5.trans X6)) R6 e (q.mono (X15.trans X6))⟩
end
section
variable {X : Cx} {a b c d : Expr} {da db dc dd : Den} {pos : Pos} {op op' op'' : CmpOp} {r r' r'' : R2} {f g h : Op2}
theorem e_ch2 (ho : OpR X (compareOp op) r) (hf : S2 X.K r f) (ho' : OpR X (compareOp op') r') (hg : S2 X.K r' g) (ha : PE X a (tD X.K da)) (hb : PE X b (tD X.K db)) (hc : PE X c (tD X.K dc)) (hm : lastMarks [op, op'] [b, c] = false := by with_unfolding_all rfl) :
    PE X (.Compare a [op, op'] [b, c] pos) (tD X.K (dCh2 f g da db dc)) := (pe_chain ho ho' ha hb hc hm).weak fun _ _ _ w => t_ch2 hf hg w
theorem x_ch2 (ho : OpR X (compareOp op) r) (hf : S2 X.K r f) (ho' : OpR X (compareOp op') r') (hg : S2 X.K r' g) (ha : PE X a (tD X.K da)) (hb : PE X b (tD X.K db)) (hc : PE X c (tD X.K dc)) (hm : lastMarks [op, op'] [b, c] = false := by with_unfolding_all rfl) :
    PT X (.Compare a [op, op'] [b, c] pos) (tT X.K (tB1 (dCh2 f g da db dc))) := (pt_chain ho ho' ha hb hc hm).weak fun _ _ _ w => t_ch2 hf hg (t_b _ _ _ w)
theorem e_ch3 (ho : OpR X (compareOp op) r) (hf : S2 X.K r f) (ho' : OpR X (compareOp op') r') (hg : S2 X.K r' g) (ho'' : OpR X (compareOp op'') r'') (hh : S2 X.K r'' h) (ha : PE X a (tD X.K da)) (hb : PE X b (tD X.K db)) (hc : PE X c (tD X.K dc)) (hd : PE X d (tD X.K dd))
    (hm : lastMarks [op, op', op''] [b, c, d] = false := by with_unfolding_all rfl) : PE X (.Compare a [op, op', op''] [b, c, d] pos) (tD X.K (dCh3 f g h da db dc dd)) := (pe_chain3 ho ho' ho'' ha hb hc hd hm).weak fun _ _ _ w => t_ch3 hf hg hh w
theorem x_ch3 (ho : OpR X (compareOp op) r) (hf : S2 X.K r f) (ho' : OpR X (compareOp op') r') (hg : S2 X.K r' g) (ho'' : OpR X (compareOp op'') r'') (hh : S2 X.K r'' h) (ha : PE X a (tD X.K da)) (hb : PE X b (tD X.K db)) (hc : PE X c (tD X.K dc)) (hd : PE X d (tD X.K dd))
    (hm : lastMarks [op, op', op''] [b, c, d] = false := by with_unfolding_all rfl) : PT X (.Compare a [op, op', op''] [b, c, d] pos) (tT X.K (tB1 (dCh3 f g h da db dc dd))) := (pt_chain3 ho ho' ho'' ha hb hc hd hm).weak fun _ _ _ w => t_ch3 hf hg hh (t_b _ _ _ w)
end

/-! ### x[::-1] -/
section
variable {prog : Program} {w : World} {A : Around} {E : Value → Shared → Prop} {s : Shared}
theorem sliceApplied_rev {sl : Addr} {vl vu vs : Value} {n : Nat} {Q : Int × Int × Nat → Shared → Prop} (hs : s.heap.IsSliceOf sl vl vu vs) (pl : IsPart vl none) (pu : IsPart vu none) (ps : IsPart vs (some (-1)))
    (h : Q ((n : Int) - 1, -1, n) s) : wpAny (model prog w) A (Builtin.Slice.sliceApplied (.ref sl) (pure (n : Int))) Q E s := by
  obtain ⟨os, hos, hcs, hds⟩ := id hs
  unfold Builtin.Slice.sliceApplied Builtin.Slice.sliceFields
  refine wpAny_bind (wpAny_bind (wpAny_field hos hds (x := vl) rfl (wpAny_bind (wpAny_field hos hds (x := vu) rfl (wpAny_bind (wpAny_field hos hds (x := vs) rfl (wpAny_pure ?_)))))))
  refine wpAny_bind (HT.slicePart_ ps ?_)
  show wpAny _ _ (if ((-1 : Int) == 0) = true then _ else _) _ _ s
  rw [if_neg (by decide)]
  refine wpAny_bind (HT.slicePart_ pl (wpAny_bind (HT.slicePart_ pu (wpAny_bind (wpAny_pure ?_)))))
  show wpAny _ _ (match Builtin.Slice.sliceAdjust none none (-1) (n : Int) with | (lo, hi) => pure (lo, (-1 : Int), Builtin.Slice.slicePlaces lo hi (-1))) _ _ s
  have e1 : Builtin.Slice.sliceAdjust none none (-1) (n : Int) = ((n : Int) - 1, -1) := rfl
  rw [e1]
  show wpAny _ _ (pure ((n : Int) - 1, (-1 : Int), Builtin.Slice.slicePlaces ((n : Int) - 1) (-1) (-1))) _ _ s
  have e2 : Builtin.Slice.slicePlaces ((n : Int) - 1) (-1) (-1) = n := by
    unfold Builtin.Slice.slicePlaces
    rw [if_neg (by decide)]
    split
    · show (((n : Int) - 1 - -1 - 1) / 1 + 1).toNat = n
      rw [Int.ediv_one]
      omega
    · show (0 : Int).toNat = n
      omega
  rw [e2]
  exact wpAny_pure h
theorem pick_rev (xs : Array Value) : ((List.range xs.size).filterMap fun (m : Nat) => xs[((xs.size : Int) - 1 + (m : Int) * -1).toNat]?).toArray = xs.toList.reverse.toArray := by
  congr 1
  have key : ∀ k, k ≤ xs.size → (List.range k).filterMap (fun (m : Nat) => xs[((xs.size : Int) - 1 + (m : Int) * -1).toNat]?) = (xs.toList.reverse).take k := by
    intro k
    induction k with
    | zero => intro _; simp
    | succ k ih =>
      intro hk
      rw [List.range_succ, List.filterMap_append, ih (by omega), List.take_add_one]
      congr 1
      have h1 : ((xs.size : Int) - 1 + (k : Int) * -1).toNat = xs.size - 1 - k := by omega
      have h2 : xs.toList.reverse[k]? = xs.toList[xs.toList.length - 1 - k]? := List.getElem?_reverse (by simp; omega)
      rw [List.filterMap_cons, h1, List.filterMap_nil, h2]
      have h3 : xs.size - 1 - k < xs.size := by omega
      simp [h3]
  rw [key _ (Nat.le_refl _), List.take_of_length_le (by simp)]
theorem getItem_tuple_rev {t sl : Addr} {items : Array Value} {vl vu vs : Value} {Q : Value → Shared → Prop} (ht : IsTup s.heap t items) (hs : s.heap.IsSliceOf sl vl vu vs) (pl : IsPart vl none) (pu : IsPart vu none) (ps : IsPart vs (some (-1)))
    (h : Q (.ref s.heap.objs.size) { s with heap := s.heap.push { cls := .type "tuple", data := .seq items.toList.reverse.toArray } })
    (hsz : items.size ≤ sizeLine) : wpAny (model prog w) A (getItem (.ref t) (.ref sl)) Q E s := by
  have htake : sizeOk (.seq items.toList.reverse.toArray) := by
    show items.toList.reverse.toArray.size ≤ sizeLine
    rw [List.size_toArray, List.length_reverse, Array.length_toList]
    exact hsz
  obtain ⟨os, hos, hcs, hds⟩ := id hs
  have hTs : s.TypeIs (.ref sl) "slice" := ⟨os, hos, hcs⟩
  unfold getItem
  try with_reducible refine wpAny_holding ?_
  first | refine wpAny_bind (wpAny_pure ?_) | skip
  refine wpAny_bind (wpAny_sequenceKey ht.typeIs (by decide) ?_)
  refine wpAny_bind (wpAny_callSpecial?_slot (name := Str.ofString "__getitem__") ht.typeIs PyProof.Rows.slot_tuple_getitem
    (wpAny_call_entry PyProof.Rows.slot_tuple_getitem ht.typeIs entry_tuple_getitem ?_ (args_tuple_getitem _ _)))
  show wpAny _ _ (Builtin.Tuple.tupleItemsOf (.ref t) >>= _) _ _ s
  refine wpAny_bind (tupleItemsOf_ ht ?_)
  refine wpAny_bind (wpAny_typeOf hTs ?_)
  rw [if_pos (by decide)]
  refine wpAny_bind (sliceApplied_rev hs pl pu ps ?_)
  have hno : ¬ ((((items.size : Int) - 1) == 0 && (-1 : Int) == 1 && items.size == items.size) = true) := by
    intro q
    rw [Bool.and_eq_true, Bool.and_eq_true] at q
    exact absurd q.1.2 (by decide)
  show wpAny _ _ (if (((items.size : Int) - 1) == 0 && (-1 : Int) == 1 && items.size == items.size) = true then _ else _) _ _ s
  rw [if_neg hno, pick_rev]
  first
    | exact wpAny_bind (m := Builtin.Tuple.tupleExact _) (wpAny_newObj_type (wpAny_pure ⟨_, rfl, wpAny_pure h⟩) htake)
    | exact wpAny_bind (m := Builtin.Tuple.tupleExact _) (wpAny_newObj_type (wpAny_bind (wpAny_pure (wpAny_pure ⟨_, rfl, wpAny_pure h⟩))) htake)
    | exact wpAny_bind (wpAny_bind (m := Builtin.Tuple.tupleExact _) (wpAny_newObj_type (wpAny_pure (wpAny_pure ⟨_, rfl, wpAny_pure h⟩)) htake))
    | exact wpAny_bind (wpAny_bind (m := Builtin.Tuple.tupleExact _) (wpAny_newObj_type (wpAny_pure ⟨_, rfl, wpAny_pure h⟩) htake))
end
/-- x[::step], the step -1: a tuple or a list -/
def tRevA (K : Frg) (te ts : TE) : TE := fun σ H Q => te σ H fun x H1 => ts σ H1 fun z H2 => ∃ i, z = .int i ∧ some i = some (-1 : Int) ∧ ∃ a xs, x = .ref a ∧ ((SqT K H2 a xs ∧ ∀ p, H2 p = none → Q (.ref p) (upd H2 p (.tup xs.reverse))) ∨ (SqL K H2 a xs ∧ ∀ p, H2 p = none → Q (.ref p) (upd H2 p (.lst xs.reverse))))
theorem pe_revA {X : Cx} {e st : Expr} {te ts : TE} {p3 pos : Pos} (he : PE X e te) (hst : PE X st ts) : PE X (.Subscript e (.Slice none none (some st) p3) pos) (tRevA X.K te ts) := by
  refine ⟨fun pins s σ H Q I h => ?_⟩
  refine Subscript_ (thn (he.run pins s σ H _ I h) fun v s1 ⟨x, H1, I1, r1, q1⟩ => ?_)
  refine wpAny_Slice (thn (po_none.run pins s1 σ H1 (fun o H2 => o = none ∧ H2 = H1) I1 ⟨rfl, rfl⟩) fun vl s2 ⟨l, H2, I2, pl, el, e2⟩ => ?_)
  subst el e2
  refine thn (po_none.run pins s2 σ H2 (fun o H3 => o = none ∧ H3 = H2) I2 ⟨rfl, rfl⟩) fun vu s3 ⟨u, H3, I3, pu, eu, e3⟩ => ?_
  subst eu e3
  have hst' : PO X (some st) (tPart ts) := po_some hst
  refine thn (hst'.run pins s3 σ H3 (fun o H4 => o = some (-1) ∧ ∃ a xs, x = .ref a ∧ ((SqT X.K H4 a xs ∧ ∀ p, H4 p = none → Q (.ref p) (upd H4 p (.tup xs.reverse))) ∨ (SqL X.K H4 a xs ∧ ∀ p, H4 p = none → Q (.ref p) (upd H4 p (.lst xs.reverse))))) I3 ?_) fun vs s4 ⟨o, H4, I4, ps, eo, q4⟩ => ?_
  · exact q1
  subst eo
  have I5 : Inv X pins σ H4 { s4 with heap := s4.heap.push { cls := .type "slice", data := .fields #[vl, vu, vs] } } := I4.kept (t' := s4.toks) fun b ob q => Heap.get?_push_of_some _ q
  obtain ⟨a, xs, ex, hx⟩ := q4
  subst ex
  cases r1
  rcases hx with ⟨hx, q⟩ | ⟨hx, q⟩
  · obtain ⟨its, r, ht, hz⟩ := I5.tuple hx
    have hlen := r.length
    show wpAny (model X.prog X.w) X.A (subscriptTail e (.Slice none none (some st) p3) (.ref a) (.ref s4.heap.objs.size)) (EP X pins σ Q) X.xe { s4 with heap := s4.heap.push { cls := .type "slice", data := .fields #[vl, vu, vs] } }
    refine tail_any (ops := [.ref a, .ref s4.heap.objs.size]) ht.typeIs (PyProof.Rows.slot_tuple_getitem.lookup) ?_ (by with_unfolding_all rfl)
    refine getItem_tuple_rev ht (Heap.IsSliceOf.new _ vl vu vs) pl pu ps ?_ (by rw [List.size_toArray]; omega)
    refine ⟨.ref _, _, I5.laid (t' := s4.toks) (o := .tup xs.reverse) (fun b ob q => Heap.get?_push_of_some _ q) (Nat.le_refl _) ?_, rfl, q _ (I5.hok.fresh (Nat.le_refl _))⟩
    exact ⟨by rw [List.length_reverse]; exact hz, its.reverse, r.reverse, IsTup.new _ _⟩
  · obtain ⟨its, r, ht, hz⟩ := I5.list hx
    have hlen := r.length
    show wpAny (model X.prog X.w) X.A (subscriptTail e (.Slice none none (some st) p3) (.ref a) (.ref s4.heap.objs.size)) (EP X pins σ Q) X.xe { s4 with heap := s4.heap.push { cls := .type "slice", data := .fields #[vl, vu, vs] } }
    refine tail_any (ops := [.ref a, .ref s4.heap.objs.size]) ht.isList.typeIs (PySem.slot_list_getitem.lookup) ?_ (by with_unfolding_all rfl)
    refine wpAny_getItem_list_slice ht.isList (Heap.IsSliceOf.new _ vl vu vs) pl pu ps (by decide) ?_ (by rw [List.size_toArray]; omega)
    rw [PySem.W.krv_pick]
    refine ⟨.ref _, _, I5.laid (t' := s4.toks) (o := .lst xs.reverse) (fun b ob q => Heap.get?_push_of_some _ q) (Nat.le_refl _) ?_, rfl, q _ (I5.hok.fresh (Nat.le_refl _))⟩
    exact ⟨by rw [List.length_reverse]; exact hz, _, 0, r.reverse, Heap.get?_push_size _ rfl⟩
def revP (x : PV) (μ : Sto) : Option (PV × Sto) := match x with
  | .tup xs => some (.tup xs.reverse, μ)
  | x => (rdL μ x).map fun xs => (.lst xs.reverse, μ)
def f_rev : Op2 := fun x y μ => match y with
  | .int i => if i = -1 then revP x μ else none
  | _ => none
theorem f_rev_some {x y v : PV} {μ μ' : Sto} (h : f_rev x y μ = some (v, μ')) : y = .int (-1) ∧ μ' = μ ∧ ((∃ xs, x = .tup xs ∧ v = .tup xs.reverse) ∨ ∃ xs, rdL μ x = some xs ∧ v = .lst xs.reverse) := by
  unfold f_rev at h
  split at h
  · split at h
    · rename_i i hi
      subst hi
      unfold revP at h
      split at h
      · cases h; exact ⟨rfl, rfl, .inl ⟨_, rfl, rfl⟩⟩
      · obtain ⟨xs, e3, e4⟩ := Option.map_eq_some_iff.mp h
        cases e4
        exact ⟨rfl, rfl, .inr ⟨xs, e3, rfl⟩⟩
    · cases h
  · cases h
theorem e_rev {X : Cx} {e st : Expr} {d s : Den} {p3 pos : Pos} (he : PE X e (tD X.K d)) (hst : PE X st (tD X.K s)) : PE X (.Subscript e (.Slice none none (some st) p3) pos) (tD X.K (d2 f_rev d s)) :=
  (pe_revA he hst).weak fun σ H Q w => by
    obtain ⟨ι, ρ, μ, v, μ', E, S, e, q⟩ := w
    obtain ⟨⟨x, μ1⟩, e1, e⟩ := Option.bind_eq_some_iff.mp e
    obtain ⟨⟨y, μ2⟩, e2, e⟩ := Option.bind_eq_some_iff.mp e
    refine ⟨ι, ρ, μ, x, μ1, E, S, e1, fun hx ι1 H1 X1 R1 S1 => ⟨ι1, ρ, μ1, y, μ2, E.mono X1, S1, e2, fun hy ι2 H2 X2 R2 S2 => ?_⟩⟩
    have X12 := X1.trans X2
    have R1 := R1.mono X2
    obtain ⟨rfl, rfl, ⟨xs, rfl, rfl⟩ | ⟨xs, e3, rfl⟩⟩ := f_rev_some e
    · cases R2
      obtain ⟨a, us, rfl, ta, ra⟩ := R1
      exact ⟨-1, rfl, rfl, a, us, rfl, .inl ⟨ta.sq, fun p hp => (q.mono X12).tup S2 ra.reverse hp⟩⟩
    · cases R2
      obtain ⟨a, us, rfl, ta, ra⟩ := rdL_rep S2 R1 e3
      exact ⟨-1, rfl, rfl, a, us, rfl, .inr ⟨.of ta, fun p hp => (q.mono X12).lst S2 ra.reverse hp⟩⟩

/-! ### in, not in -/
def flatP : PV → Bool
  | .non => true
  | .bl _ => true
  | .int _ => true
  | .str _ => true
  | _ => false
theorem flat_rep {K : Frg} {ι : Ad} {n : Nat} {H : Hp} {x : PV} {v : V} (f : flatP x = true) (r : RepV K ι n H x v) : flatV v = true := by
  cases x with
  | non => cases r; rfl
  | bl _ => cases r; rfl
  | int _ => cases r; rfl
  | str _ => cases r; rfl
  | _ => cases f
theorem flats_rep {K : Frg} {ι : Ad} {n : Nat} {H : Hp} : ∀ {xs : List PV} {ys : List V}, xs.all flatP = true → RepVs K ι n H xs ys → ys.all flatV = true
  | [], _, _, r => by cases r; rfl
  | x :: xs, _, f, r => by
    obtain ⟨y, t, rfl, r1, r2⟩ := r
    rw [List.all_cons, Bool.and_eq_true] at f
    rw [List.all_cons, flat_rep f.1 r1, flats_rep f.2 r2]
    rfl
theorem eqV_rep {K : Frg} {ι : Ad} {n : Nat} {H : Hp} {x y : PV} {u v : V} (fx : flatP x = true) (fy : flatP y = true) (rx : RepV K ι n H x u) (ry : RepV K ι n H y v) : eqV u v = peqv x y := by
  cases x <;> cases y <;> first
    | exact absurd (show false = true from fx) Bool.false_ne_true
    | exact absurd (show false = true from fy) Bool.false_ne_true
    | (cases rx; cases ry; rfl)
theorem inV_rep {K : Frg} {ι : Ad} {n : Nat} {H : Hp} {x : PV} {v : V} (fx : flatP x = true) (rx : RepV K ι n H x v) : ∀ {xs : List PV} {ys : List V}, xs.all flatP = true → RepVs K ι n H xs ys → inV v ys = xs.any fun z => peqv z x
  | [], _, _, r => by cases r; rfl
  | z :: xs, _, f, r => by
    obtain ⟨y, t, rfl, r1, r2⟩ := r
    rw [List.all_cons, Bool.and_eq_true] at f
    show (eqV y v || inV v t) = _
    rw [eqV_rep f.1 fx r1 rx, inV_rep fx rx f.2 r2, List.any_cons]
/-- membership: flat items of a list or tuple; data of a list -/
def f_inB (x y : PV) (μ : Sto) : Option Bool := (rdS μ y).bind fun ys =>
  if (flatP x && ys.all flatP) = true then some (ys.any fun z => peqv z x)
  else match y with
    | .tup _ => none
    | _ => if (pok x 64 && pok (.lst ys) 64) = true then some (ys.any fun z => peqv z x) else none
def f_in : Op2 := fun x y μ => (f_inB x y μ).map fun b => (.bl b, μ)
def f_notin : Op2 := fun x y μ => (f_inB x y μ).map fun b => (.bl !b, μ)
def r_in (K : Frg) : R2 := fun x y H Q => rIn K false x y H Q ∨ rInD K x y H Q
def r_notin (K : Frg) : R2 := fun x y H Q => rIn K true x y H Q ∨ rNotInD K x y H Q
theorem o_in {X : Cx} (hu : X.A.units + 65 < cLine) : OpR X (compareOp .In) (r_in X.K) := op_in_seq.or (op_inD hu)
theorem o_notin {X : Cx} (hu : X.A.units + 65 < cLine) : OpR X (compareOp .NotIn) (r_notin X.K) := op_notIn_seq.or (op_notInD hu)
theorem in_deep {K : Frg} {ι : Ad} {μ : Sto} {H : Hp} (S : RepS K ι H μ) {x y : PV} {hx hy : V} {ys : List PV} (rx : RepV K ι μ.length H x hx) (ry : RepV K ι μ.length H y hy) (e : rdL μ y = some ys) (ok : (pok x 64 && pok (.lst ys) 64) = true) :
    Dp K H hx (toD x) ∧ Dp K H hy (.list (toDs ys)) ∧ SeqAt.shaped (toD x) = true ∧ SeqAt.shaped (.list (toDs ys)) = true ∧ ((toDs ys).any fun z => PyData.eqv z (toD x)) = ys.any fun z => peqv z x := by
  rw [Bool.and_eq_true] at ok
  obtain ⟨a, us, rfl, ta, ra⟩ := rdL_rep S ry e
  refine ⟨dp_rep x hx 64 ok.1 rx, .lst (.of ta) (dps_rep ys us 63 ok.2 ra), toD_shaped ok.1, toD_shaped ok.2, ?_⟩
  have key : ∀ ys : List PV, poks ys 63 = true → ((toDs ys).any fun z => PyData.eqv z (toD x)) = ys.any fun z => peqv z x := by
    intro ys
    induction ys with
    | nil => intro _; rfl
    | cons z zs ih =>
      intro h
      have h : (pok z 63 && poks zs 63) = true := h
      rw [Bool.and_eq_true] at h
      show (PyData.eqv (toD z) (toD x) || _) = _
      rw [List.any_cons, toD_eqv z x 63 64 h.1 ok.1, ← ih h.2]
  exact key ys ok.2
theorem s_in {K : Frg} : S2 K (r_in K) f_in := by
  intro ι H μ x y v μ' hx hy Q S rx ry h q
  obtain ⟨b, e, e2⟩ := Option.map_eq_some_iff.mp h
  cases e2
  obtain ⟨ys, e1, e2⟩ := Option.bind_eq_some_iff.mp e
  split at e2
  · rename_i hf
    cases e2
    rw [Bool.and_eq_true] at hf
    obtain ⟨a, us, rfl, ta, ra⟩ := rdS_rep S ry e1
    exact .inl ⟨a, us, rfl, ta, flat_rep hf.1 rx, flats_rep hf.2 ra, q.pure S (congrArg V.bl (inV_rep hf.1 rx hf.2 ra))⟩
  · split at e2
    · cases e2
    · rename_i hn
      split at e2
      · rename_i ok
        cases e2
        have e1 : rdL μ y = some ys := by
          unfold rdS at e1
          split at e1
          · rename_i xs; exact absurd rfl (hn xs)
          · exact e1
        obtain ⟨d1, d2, d3, d4, d5⟩ := in_deep S rx ry e1 ok
        exact .inr ⟨_, _, d1, d2, d3, d4, q.pure S (congrArg V.bl d5)⟩
      · cases e2
theorem s_notin {K : Frg} : S2 K (r_notin K) f_notin := by
  intro ι H μ x y v μ' hx hy Q S rx ry h q
  obtain ⟨b, e, e2⟩ := Option.map_eq_some_iff.mp h
  cases e2
  obtain ⟨ys, e1, e2⟩ := Option.bind_eq_some_iff.mp e
  split at e2
  · rename_i hf
    cases e2
    rw [Bool.and_eq_true] at hf
    obtain ⟨a, us, rfl, ta, ra⟩ := rdS_rep S ry e1
    exact .inl ⟨a, us, rfl, ta, flat_rep hf.1 rx, flats_rep hf.2 ra, q.pure S (congrArg V.bl (congrArg not (inV_rep hf.1 rx hf.2 ra)))⟩
  · split at e2
    · cases e2
    · rename_i hn
      split at e2
      · rename_i ok
        cases e2
        have e1 : rdL μ y = some ys := by
          unfold rdS at e1
          split at e1
          · rename_i xs; exact absurd rfl (hn xs)
          · exact e1
        obtain ⟨d1, d2, d3, d4, d5⟩ := in_deep S rx ry e1 ok
        exact .inr ⟨_, _, d1, d2, d3, d4, q.pure S (congrArg V.bl (congrArg not d5))⟩
      · cases e2

/-! ### targets of comprehensions that unpack -/
theorem wipe_set2 (σ : L2.St) (i j : Nat) (o p : Option V) : L2.wipe ((σ.set i o).set j p) [i, j] = L2.wipe σ [i, j] := by
  show (((σ.set i o).set j p).set j none).set i none = (σ.set j none).set i none
  rw [List.set_set]
  by_cases h : i = j
  · subst h; rw [List.set_set, List.set_set, List.set_set]
  · rw [List.set_comm _ _ (show i ≠ j from h), List.set_set]
theorem gin_tu2 {K : Frg} (i j : Nat) : GIn K (gTup K 2 (gCons (gName i) (gCons (gName j) gNil))) (gTu 2 (gsCons (gNm i) (gsCons (gNm j) gsNil))) [i, j] := ⟨fun v σ H Q h => by
  obtain ⟨ι, ρ, μ, pv, ρ', μ', E, S, R, e, q⟩ := h
  unfold gTu at e
  split at e
  · rename_i xs
    split at e
    · rename_i hl
      match xs, hl with
      | [x, y], _ =>
        cases e
        obtain ⟨a, ys, rfl, t, u, r1, rfl, h1, w, r2, rfl, h2, rfl⟩ := R
        exact ⟨a, [u, w], rfl, t.sq, rfl, u, [w], rfl, w, [], rfl, rfl, wipe_set2 _ _ _ _ _, q _ ι H .refl ((E.set i h1).set j h2) S⟩
    · cases e
  · cases e⟩
end Fd

/-! Fd8: what a def's denotation promises; facts of the head. -/
namespace Fd
open PySem PySem.Spec PyProof.Rows L2
theorem hu65 {k : Nat} {A : Around} (r : Room k A) : A.units + 65 < cLine := by have := r.un; omega
/-- what the body's denotation has to come to for the def to be ψ -/
def Den.Does (n k : Nat) (d : DenS) (ψ : Fn) : Prop := ∀ (args : List PV) (μ : Sto) (v : PV) (μ' : Sto), args.length = k → okLs μ.length args = true → ψ args μ = some (v, μ') → ∃ o, d (init n args) μ = some o ∧ Fin μ o v μ'
theorem fun_of {K : Frg} {x qual : Str} {st : Stmt} {f : Addr} {fd : FuncData} (F : FunD K x qual (defArgs st) (defBody st) (defScope st) [] [] f fd) : L2.Fun K x qual st f fd := by
  obtain ⟨oc, od, dV, kV, doc, pm, an, cdv, ct, osl, e, lk, hcd, hD, hK⟩ := F.ex
  rcases hD with ⟨_, rfl⟩ | ⟨h, _⟩
  · exact ⟨⟨oc, od, kV, doc, pm, an, cdv, ct, osl, e, lk, hcd⟩, F.kp⟩
  · exact absurd rfl h
end Fd

/-! Fd9: running a denotation, step by step. -/
namespace Fd
open PySem PySem.Spec PyProof.Rows L2

/-! ### what a def's body comes to, as a function -/
def runF (n : Nat) (d : DenS) : Fn := fun args μ => match d (init n args) μ with
  | some (.rt v μ') => some (v, μ')
  | some (.nx _ μ') => some (.non, μ')
  | _ => none
theorem runF_does {n k : Nat} {d : DenS} : Den.Does n k d (runF n d) := fun args μ v μ' _ _ h => by
  unfold runF at h
  split at h
  · rename_i w ν e; cases h; exact ⟨_, e, .rt _ _⟩
  · rename_i ρ ν e; cases h; exact ⟨_, e, .nx _ _⟩
  · cases h
theorem runF_rt {n : Nat} {d : DenS} {args : List PV} {ρ : En} {μ μ' : Sto} {v : PV} (hi : init n args = ρ) (h : d ρ μ = some (.rt v μ')) : runF n d args μ = some (v, μ') := by
  unfold runF; rw [hi, h]
theorem runF_nx {n : Nat} {d : DenS} {args : List PV} {ρ ρ' : En} {μ μ' : Sto} (hi : init n args = ρ) (h : d ρ μ = some (.nx ρ' μ')) : runF n d args μ = some (.non, μ') := by
  unfold runF; rw [hi, h]
/-- the same for a def that lays lists in the store and gives none of them away but one, whole -/
def outV (μ : Sto) : Out → Option (PV × Sto)
  | .rt (.loc l) μ' => if l < μ.length then some (.loc l, μ') else match μ'[l]? with
    | some (.lst xs) => some (.lst xs, μ')
    | _ => none
  | .rt v μ' => some (v, μ')
  | .nx _ μ' => some (.non, μ')
  | _ => none
open Classical in
noncomputable def runZ (n : Nat) (d : DenS) : Fn := fun args μ => (d (init n args) μ).bind fun o => (outV μ o).bind fun p =>
  if (∃ g, p.2 = μ ++ g) ∧ okL μ.length p.1 = true then some (p.1, μ) else none
theorem runZ_does {n k : Nat} {d : DenS} : Den.Does n k d (runZ n d) := fun args μ v μ' _ _ h => by
  unfold runZ at h
  obtain ⟨o, e1, h⟩ := Option.bind_eq_some_iff.mp h
  obtain ⟨⟨w, ν⟩, e2, h⟩ := Option.bind_eq_some_iff.mp h
  split at h
  · rename_i hc
    cases h
    obtain ⟨⟨g, hg⟩, hv⟩ := hc
    have hg : ν = μ ++ g := hg
    subst hg
    have hc : ∀ (l : Nat) (o : Ob), μ[l]? = some o → μ[l]? = some o ∨ okO μ.length o = true := fun _ _ h => .inl h
    refine ⟨o, e1, ?_⟩
    unfold outV at e2
    split at e2
    · rename_i l μ1
      split at e2
      · cases e2; exact .trim _ _ _ rfl hc hv
      · rename_i hl
        split at e2
        · rename_i xs ex
          cases e2
          exact .frz l xs μ g rfl hc ex (by omega) hv
        · cases e2
    · cases e2; exact .trim _ _ _ rfl hc hv
    · cases e2; exact .trimN _ _ _ rfl hc
    · cases e2
  · cases h
theorem runZ_rt {n : Nat} {d : DenS} {args : List PV} {ρ : En} {μ g : Sto} {l : Nat} {xs : List PV} (hi : init n args = ρ) (h : d ρ μ = some (.rt (.loc l) (μ ++ g))) (hl : μ.length ≤ l) (hx : (μ ++ g)[l]? = some (.lst xs)) (ok : okLs μ.length xs = true) : runZ n d args μ = some (.lst xs, μ) := by
  unfold runZ
  rw [hi, h]
  have e : outV μ (.rt (.loc l) (μ ++ g)) = some (.lst xs, μ ++ g) := by
    show (if l < μ.length then _ else _) = _
    rw [if_neg (by omega), hx]
  show (outV μ (.rt (.loc l) (μ ++ g))).bind _ = _
  rw [e]
  exact if_pos ⟨⟨g, rfl⟩, ok⟩
theorem runZ_v {n : Nat} {d : DenS} {args : List PV} {ρ : En} {μ g : Sto} {v : PV} (hi : init n args = ρ) (h : d ρ μ = some (.rt v (μ ++ g))) (hv : ∀ l, v ≠ .loc l) (ok : okL μ.length v = true) : runZ n d args μ = some (v, μ) := by
  unfold runZ
  rw [hi, h]
  show (outV μ (.rt v (μ ++ g))).bind _ = _
  have : outV μ (.rt v (μ ++ g)) = some (v, μ ++ g) := by
    cases v with
    | loc l => exact absurd rfl (hv l)
    | _ => rfl
  rw [this]
  exact if_pos ⟨⟨g, rfl⟩, ok⟩

/-! ### steps: expressions -/
section
variable {ρ ρ' ρ1 : En} {μ μ' μ1 μ2 μ3 : Sto} {v x y z : PV} {r : PV × Sto}
theorem ev_var {i : Nat} (h : ρ[i]? = some (some v)) : cVar i ρ μ = some (v, μ) := by unfold cVar; rw [h]
theorem ev_K : cK v ρ μ = some (v, μ) := rfl
theorem ev_d1 {f : Op1} {da : Den} (ha : da ρ μ = some (x, μ1)) (hf : f x μ1 = some r) : d1 f da ρ μ = some r := by unfold d1; rw [ha]; exact hf
theorem ev_d2 {f : Op2} {da db : Den} (ha : da ρ μ = some (x, μ1)) (hb : db ρ μ1 = some (y, μ2)) (hf : f x y μ2 = some r) : d2 f da db ρ μ = some r := by unfold d2; rw [ha]; show Option.bind (db ρ μ1) _ = _; rw [hb]; exact hf
theorem ev_aNil : aNil ρ μ = some ([], μ) := rfl
theorem ev_aCons {d : Den} {a : DenA} {vs : List PV} (hd : d ρ μ = some (x, μ1)) (ha : a ρ μ1 = some (vs, μ2)) : aCons d a ρ μ = some (x :: vs, μ2) := by unfold aCons; rw [hd]; show Option.bind (a ρ μ1) _ = _; rw [ha]; rfl
theorem ev_dN {f : Fn} {a : DenA} {vs : List PV} (ha : a ρ μ = some (vs, μ1)) (hf : f vs μ1 = some r) : dN f a ρ μ = some r := by unfold dN; rw [ha]; exact hf
theorem ev_dCall {k : Nat} {f : Fn} {a : DenA} {vs : List PV} (ha : a ρ μ = some (vs, μ1)) (hf : f vs μ1 = some r) (hl : vs.length = k) : dCall k f a ρ μ = some r := by unfold dCall; rw [ha]; show (if _ then _ else _) = _; rw [if_pos hl]; exact hf
theorem ev_dTup {a : DenA} {vs : List PV} (ha : a ρ μ = some (vs, μ1)) (hl : vs.length ≤ sizeLine) : dTup a ρ μ = some (.tup vs, μ1) := by unfold dTup; rw [ha]; show (if _ then _ else _) = _; rw [if_pos hl]
theorem ev_dLst {a : DenA} {vs : List PV} (ha : a ρ μ = some (vs, μ1)) (hl : vs.length ≤ sizeLine) : dLst a ρ μ = some (.lst vs, μ1) := by unfold dLst; rw [ha]; show (if _ then _ else _) = _; rw [if_pos hl]
theorem ev_dLoc {a : DenA} {vs : List PV} (ha : a ρ μ = some (vs, μ1)) (hl : vs.length ≤ sizeLine) : dLoc a ρ μ = some (.loc μ1.length, μ1 ++ [.lst vs]) := by unfold dLoc; rw [ha]; show (if _ then _ else _) = _; rw [if_pos hl]
theorem ev_if_t {c : DenT} {da db : Den} (hc : c ρ μ = some (true, μ1)) (h : da ρ μ1 = some r) : dIf c da db ρ μ = some r := by unfold dIf; rw [hc]; exact h
theorem ev_if_f {c : DenT} {da db : Den} (hc : c ρ μ = some (false, μ1)) (h : db ρ μ1 = some r) : dIf c da db ρ μ = some r := by unfold dIf; rw [hc]; exact h
theorem ev_an_t {da db : Den} (ha : da ρ μ = some (x, μ1)) (ht : truP x μ1 = some true) (h : db ρ μ1 = some r) : dAn da db ρ μ = some r := by unfold dAn; rw [ha]; simp only [Option.bind_some, ht]; exact h
theorem ev_an_f {da db : Den} (ha : da ρ μ = some (x, μ1)) (ht : truP x μ1 = some false) : dAn da db ρ μ = some (x, μ1) := by unfold dAn; rw [ha]; simp only [Option.bind_some, ht]
theorem ev_or_f {da db : Den} (ha : da ρ μ = some (x, μ1)) (ht : truP x μ1 = some false) (h : db ρ μ1 = some r) : dOr da db ρ μ = some r := by unfold dOr; rw [ha]; simp only [Option.bind_some, ht]; exact h
theorem ev_or_t {da db : Den} (ha : da ρ μ = some (x, μ1)) (ht : truP x μ1 = some true) : dOr da db ρ μ = some (x, μ1) := by unfold dOr; rw [ha]; simp only [Option.bind_some, ht]
theorem ev_no {da : Den} {b : Bool} (ha : da ρ μ = some (x, μ1)) (ht : truP x μ1 = some b) : dNo da ρ μ = some (.bl !b, μ1) := by unfold dNo; rw [ha]; show Option.map _ (truP x μ1) = _; rw [ht]; rfl
theorem ev_sl {d : Den} {lo hi : DenO} {a b : Option Int} (hd : d ρ μ = some (x, μ1)) (hl : lo ρ μ1 = some (a, μ2)) (hu : hi ρ μ2 = some (b, μ3)) (hf : f_sl a b x μ3 = some r) : dSl d lo hi ρ μ = some r := by
  unfold dSl; rw [hd]; show Option.bind (lo ρ μ1) _ = _; rw [hl]; show Option.bind (hi ρ μ2) _ = _; rw [hu]; exact hf
theorem ev_oNo : oNo ρ μ = some (none, μ) := rfl
theorem ev_oSo {d : Den} {i : Int} (h : d ρ μ = some (.int i, μ1)) : oSo d ρ μ = some (some i, μ1) := by unfold oSo; rw [h]
theorem ev_ch2 {f g : Op2} {da db dc : Den} {b : Bool} (ha : da ρ μ = some (x, μ1)) (hb : db ρ μ1 = some (y, μ2)) (hf : f x y μ2 = some (.bl true, μ3)) (h : ((dc ρ μ3).bind fun s => g y s.1 s.2) = some r) : dCh2 f g da db dc ρ μ = some r := by
  unfold dCh2; rw [ha]; show Option.bind (db ρ μ1) _ = _; rw [hb]; show Option.bind (asB (f x y μ2)) _ = _; rw [hf]; exact h
theorem ev_ch2_f {f g : Op2} {da db dc : Den} (ha : da ρ μ = some (x, μ1)) (hb : db ρ μ1 = some (y, μ2)) (hf : f x y μ2 = some (.bl false, μ3)) : dCh2 f g da db dc ρ μ = some (.bl false, μ3) := by
  unfold dCh2; rw [ha]; show Option.bind (db ρ μ1) _ = _; rw [hb]; show Option.bind (asB (f x y μ2)) _ = _; rw [hf]; rfl
theorem ev_bnd {d : Den} {g : PV → Sto → Option (PV × Sto)} (hd : d ρ μ = some (x, μ1)) (h : g x μ1 = some r) : ((d ρ μ).bind fun s => g s.1 s.2) = some r := by rw [hd]; exact h
/-- a chain whose two tests are both reckoned -/
theorem ev_ch2b {f g : Op2} {da db dc : Den} {b c : Bool} (ha : da ρ μ = some (x, μ)) (hb : db ρ μ = some (y, μ)) (hf : f x y μ = some (.bl b, μ)) (hc : dc ρ μ = some (z, μ)) (hg : g y z μ = some (.bl c, μ)) : dCh2 f g da db dc ρ μ = some (.bl (b && c), μ) := by
  cases b with
  | true => exact ev_ch2 (b := true) ha hb hf (ev_bnd hc hg)
  | false => exact ev_ch2_f ha hb hf
theorem ev_ch3b {f g h : Op2} {da db dc dd : Den} {b c d : Bool} {u : PV} (ha : da ρ μ = some (x, μ)) (hb : db ρ μ = some (y, μ)) (hf : f x y μ = some (.bl b, μ)) (hc : dc ρ μ = some (z, μ)) (hg : g y z μ = some (.bl c, μ)) (hd : dd ρ μ = some (u, μ)) (hh : h z u μ = some (.bl d, μ)) : dCh3 f g h da db dc dd ρ μ = some (.bl (b && (c && d)), μ) := by
  unfold dCh3; rw [ha]; show Option.bind (db ρ μ) _ = _; rw [hb]; show Option.bind (asB (f x y μ)) _ = _; rw [hf]
  cases b with
  | false => rfl
  | true =>
    show Option.bind (dc ρ μ) _ = _; rw [hc]; show Option.bind (asB (g y z μ)) _ = _; rw [hg]
    cases c with
    | false => rfl
    | true => show Option.bind (dd ρ μ) _ = _; rw [hd]; exact hh
theorem ev_dML {f : OpM} {d : Den} {a : DenA} {vs : List PV} (hd : d ρ μ = some (x, μ1)) (hL : isLs μ1 x = true) (ha : a ρ μ1 = some (vs, μ2)) (hf : f x vs μ2 = some r) : dML f d a ρ μ = some r := by
  unfold dML; rw [hd]; show (if _ then _ else _) = _; rw [if_pos hL, ha]; exact hf
/-! tests -/
theorem ev_tB {d : Den} {b : Bool} (h : d ρ μ = some (.bl b, μ1)) : tB1 d ρ μ = some (b, μ1) := by unfold tB1; rw [h]; rfl
theorem ev_tTru {d : Den} {b : Bool} (h : d ρ μ = some (x, μ1)) (ht : truP x μ1 = some b) : tTru d ρ μ = some (b, μ1) := by unfold tTru; rw [h]; show Option.map _ (truP x μ1) = _; rw [ht]; rfl
theorem ev_tAn_t {c d : DenT} {p : Bool × Sto} (h : c ρ μ = some (true, μ1)) (h2 : d ρ μ1 = some p) : tAn c d ρ μ = some p := by unfold tAn; rw [h]; exact h2
theorem ev_tAn_f {c d : DenT} (h : c ρ μ = some (false, μ1)) : tAn c d ρ μ = some (false, μ1) := by unfold tAn; rw [h]; rfl
theorem ev_tOr_f {c d : DenT} {p : Bool × Sto} (h : c ρ μ = some (false, μ1)) (h2 : d ρ μ1 = some p) : tOr' c d ρ μ = some p := by unfold tOr'; rw [h]; exact h2
theorem ev_tOr_t {c d : DenT} (h : c ρ μ = some (true, μ1)) : tOr' c d ρ μ = some (true, μ1) := by unfold tOr'; rw [h]; rfl
theorem ev_tNo {c : DenT} {b b' : Bool} (h : c ρ μ = some (b, μ1)) (hb : (!b) = b') : tNo c ρ μ = some (b', μ1) := by unfold tNo; rw [h, ← hb]; rfl
theorem ev_tAll : tAll ρ μ = some (true, μ) := rfl
/-- both reckoned -/
theorem ev_tAnb {c d : DenT} {b b' : Bool} (h : c ρ μ = some (b, μ)) (h2 : d ρ μ = some (b', μ)) : tAn c d ρ μ = some (b && b', μ) := by
  cases b with
  | true => exact ev_tAn_t h h2
  | false => exact ev_tAn_f h
theorem ev_tOrb {c d : DenT} {b b' : Bool} (h : c ρ μ = some (b, μ)) (h2 : d ρ μ = some (b', μ)) : tOr' c d ρ μ = some (b || b', μ) := by
  cases b with
  | false => exact ev_tOr_f h h2
  | true => exact ev_tOr_t h
end
/-! ### steps: statements -/
section
variable {ρ ρ' ρ1 : En} {μ μ' μ1 μ2 μ3 : Sto} {v x y z : PV} {o : Out}
theorem ev_seq {a b : DenS} (ha : a ρ μ = some (.nx ρ' μ')) (hb : b ρ' μ' = some o) : sSeq a b ρ μ = some o := by unfold sSeq; rw [ha]; exact hb
theorem ev_seq_rt {a b : DenS} (ha : a ρ μ = some (.rt v μ')) : sSeq a b ρ μ = some (.rt v μ') := by unfold sSeq; rw [ha]; rfl
theorem ev_seq_bk {a b : DenS} (ha : a ρ μ = some (.bk ρ' μ')) : sSeq a b ρ μ = some (.bk ρ' μ') := by unfold sSeq; rw [ha]; rfl
theorem ev_seq_ct {a b : DenS} (ha : a ρ μ = some (.ct ρ' μ')) : sSeq a b ρ μ = some (.ct ρ' μ') := by unfold sSeq; rw [ha]; rfl
theorem ev_sNil : sNil ρ μ = some (.nx ρ μ) := rfl
theorem ev_sIf_t {c : DenT} {a b : DenS} (hc : c ρ μ = some (true, μ1)) (h : a ρ μ1 = some o) : sIf c a b ρ μ = some o := by unfold sIf; rw [hc]; exact h
theorem ev_sIf_f {c : DenT} {a b : DenS} (hc : c ρ μ = some (false, μ1)) (h : b ρ μ1 = some o) : sIf c a b ρ μ = some o := by unfold sIf; rw [hc]; exact h
theorem ev_ret {d : Den} (h : d ρ μ = some (v, μ1)) : sRet d ρ μ = some (.rt v μ1) := by unfold sRet; rw [h]; rfl
theorem ev_ex {d : Den} (h : d ρ μ = some (v, μ1)) : sEx d ρ μ = some (.nx ρ μ1) := by unfold sEx; rw [h]; rfl
theorem ev_set {d : Den} {i : Nat} (h : d ρ μ = some (v, μ1)) (e : ρ.set i (some v) = ρ') : sAsg d (gNm i) ρ μ = some (.nx ρ' μ1) := by unfold sAsg; rw [h, ← e]; rfl
theorem ev_asg {d : Den} {g : DenG} (h : d ρ μ = some (v, μ1)) (hg : g v ρ μ1 = some (ρ', μ2)) : sAsg d g ρ μ = some (.nx ρ' μ2) := by unfold sAsg; rw [h]; show Option.map _ (g v ρ μ1) = _; rw [hg]; rfl
theorem ev_par {i j : Nat} {a : DenA} (h : a ρ μ = some ([x, y], μ1)) (e : (ρ.set i (some x)).set j (some y) = ρ') : sPar i j a ρ μ = some (.nx ρ' μ1) := by unfold sPar; rw [h, ← e]
theorem ev_par3 {i j k : Nat} {a : DenA} (h : a ρ μ = some ([x, y, z], μ1)) (e : ((ρ.set i (some x)).set j (some y)).set k (some z) = ρ') : sPar3 i j k a ρ μ = some (.nx ρ' μ1) := by unfold sPar3; rw [h, ← e]
theorem ev_aug {i : Nat} {f : Op2} {d : Den} (h0 : ρ[i]? = some (some x)) (h : d ρ μ = some (y, μ1)) (hf : f x y μ1 = some (z, μ2)) (e : ρ.set i (some z) = ρ') : sAug i f d ρ μ = some (.nx ρ' μ2) := by
  unfold sAug; rw [h0]; show Option.bind (d ρ μ) _ = _; rw [h]; show Option.map _ (f x y μ1) = _; rw [hf, ← e]; rfl
theorem ev_gNm {i : Nat} (e : ρ.set i (some v) = ρ') : gNm i v ρ μ = some (ρ', μ) := by rw [← e]; rfl
theorem ev_gTu {n : Nat} {g : DenGs} {xs : List PV} (hl : xs.length = n) (h : g xs ρ μ = some (ρ', μ')) : gTu n g (.tup xs) ρ μ = some (ρ', μ') := by show (if _ then _ else _) = _; rw [if_pos hl]; exact h
theorem ev_gsN : gsNil [] ρ μ = some (ρ, μ) := rfl
theorem ev_gsC {g : DenG} {r : DenGs} {vs : List PV} (h : g v ρ μ = some (ρ1, μ1)) (h2 : r vs ρ1 μ1 = some (ρ', μ')) : gsCons g r (v :: vs) ρ μ = some (ρ', μ') := by show Option.bind (g v ρ μ) _ = _; rw [h]; exact h2
theorem ev_gSb {o i : Den} (ho : o ρ μ = some (x, μ1)) (hi : i ρ μ1 = some (y, μ2)) (hs : f_set x y v μ2 = some μ3) : gSb o i v ρ μ = some (ρ, μ3) := by
  unfold gSb; rw [ho]; show Option.bind (i ρ μ1) _ = _; rw [hi]; show Option.map _ (f_set x y v μ2) = _; rw [hs]; rfl
/-! while -/
theorem wh_step {c : DenT} {b : DenS} (hc : c ρ μ = some (true, μ1)) (hb : b ρ μ1 = some (.nx ρ' μ')) (h : sWh c b ρ' μ' = some o) : sWh c b ρ μ = some o := by
  obtain ⟨n, hn⟩ := sWh_get h
  refine sWh_of (n + 1) ?_
  unfold whN
  simp only [hc, hb, Option.bind_some, if_true]
  exact hn
theorem wh_done {c : DenT} {b : DenS} (hc : c ρ μ = some (false, μ1)) : sWh c b ρ μ = some (.nx ρ μ1) := by
  refine sWh_of 1 ?_
  unfold whN
  rw [hc]
  rfl
theorem wh_rt {c : DenT} {b : DenS} (hc : c ρ μ = some (true, μ1)) (hb : b ρ μ1 = some (.rt v μ')) : sWh c b ρ μ = some (.rt v μ') := by
  refine sWh_of 1 ?_
  unfold whN
  simp only [hc, hb, Option.bind_some, if_true]
theorem wh_bk {c : DenT} {b : DenS} (hc : c ρ μ = some (true, μ1)) (hb : b ρ μ1 = some (.bk ρ' μ')) : sWh c b ρ μ = some (.nx ρ' μ') := by
  refine sWh_of 1 ?_
  unfold whN
  simp only [hc, hb, Option.bind_some, if_true]
/-! for -/
theorem ev_for {it : DenI} {g : DenG} {b : DenS} {xs : List PV} {ch : List (Nat × List PV)} (hi : it ρ μ = some ((xs, ch), μ1)) (h : forL g b ch xs ρ μ1 = some o) : sFor it g b ρ μ = some o := by unfold sFor; rw [hi]; exact h
theorem for_nil {g : DenG} {b : DenS} {ch : List (Nat × List PV)} : forL g b ch [] ρ μ = some (.nx ρ μ) := by unfold forL; rfl
theorem for_step {g : DenG} {b : DenS} {ch : List (Nat × List PV)} {xs : List PV} (hg : g x ρ μ = some (ρ1, μ1)) (hb : b ρ1 μ1 = some (.nx ρ' μ')) (hc : ChkOk ch μ') (h : forL g b ch xs ρ' μ' = some o) : forL g b ch (x :: xs) ρ μ = some o := by
  unfold forL; simp only [hg, hb, Option.bind_some, if_pos hc]; exact h
theorem for_ct {g : DenG} {b : DenS} {ch : List (Nat × List PV)} {xs : List PV} (hg : g x ρ μ = some (ρ1, μ1)) (hb : b ρ1 μ1 = some (.ct ρ' μ')) (hc : ChkOk ch μ') (h : forL g b ch xs ρ' μ' = some o) : forL g b ch (x :: xs) ρ μ = some o := by
  unfold forL; simp only [hg, hb, Option.bind_some, if_pos hc]; exact h
theorem for_rt {g : DenG} {b : DenS} {ch : List (Nat × List PV)} {xs : List PV} (hg : g x ρ μ = some (ρ1, μ1)) (hb : b ρ1 μ1 = some (.rt v μ')) : forL g b ch (x :: xs) ρ μ = some (.rt v μ') := by
  unfold forL; rw [hg]; show Option.bind (b ρ1 μ1) _ = _; rw [hb]; rfl
theorem for_bk {g : DenG} {b : DenS} {ch : List (Nat × List PV)} {xs : List PV} (hg : g x ρ μ = some (ρ1, μ1)) (hb : b ρ1 μ1 = some (.bk ρ' μ')) : forL g b ch (x :: xs) ρ μ = some (.nx ρ' μ') := by
  unfold forL; rw [hg]; show Option.bind (b ρ1 μ1) _ = _; rw [hb]; rfl
theorem it_tup {d : Den} {xs : List PV} (h : d ρ μ = some (.tup xs, μ1)) : itSeq d ρ μ = some ((xs, []), μ1) := by unfold itSeq; rw [h]; rfl
theorem it_lst {d : Den} {xs : List PV} (h : d ρ μ = some (.lst xs, μ1)) : itSeq d ρ μ = some ((xs, []), μ1) := by unfold itSeq; rw [h]; rfl
theorem it_loc {d : Den} {l : Nat} {xs : List PV} (h : d ρ μ = some (.loc l, μ1)) (hl : μ1[l]? = some (.lst xs)) : itSeq d ρ μ = some ((xs, [(l, xs)]), μ1) := by
  unfold itSeq; rw [h]; show (match μ1[l]? with | some (.lst xs) => _ | _ => _) = _; rw [hl]
theorem it_rg1 {a : DenA} {j : Int} {n : Nat} (h : a ρ μ = some ([.int j], μ1)) (hj : RgIn j = true) (hn : j.toNat = n) : itRg1 a ρ μ = some ((rgP 0 n, []), μ1) := by
  unfold itRg1; rw [h]; show (if _ then _ else _) = _; rw [if_pos hj, hn]
theorem it_rg2 {a : DenA} {i j : Int} {n : Nat} (h : a ρ μ = some ([.int i, .int j], μ1)) (hi : RgIn i = true) (hj : RgIn j = true) (hn : (j - i).toNat = n) : itRg2 a ρ μ = some ((rgP i n, []), μ1) := by
  unfold itRg2; rw [h]; show (if _ then _ else _) = _; rw [if_pos (by rw [hi, hj]; rfl), hn]
theorem rgIn_of {i : Int} (h0 : -(2 ^ 62) ≤ i) (h : i < 2 ^ 62) : RgIn i = true := by
  unfold RgIn; rw [decide_eq_true h0, decide_eq_true h]; rfl
/-! comprehensions: no changes of the store, no test -/
theorem lc_nil {g : DenG} {t : DenT} {e : Den} {ch : List (Nat × List PV)} {acc : List PV} : lcL ρ g t e ch [] acc μ = some (acc, μ) := by unfold lcL; rfl
theorem lc_yes {g : DenG} {t : DenT} {e : Den} {ch : List (Nat × List PV)} {xs acc : List PV} {r : List PV × Sto} (hg : g x ρ μ = some (ρ1, μ1)) (ht : t ρ1 μ1 = some (true, μ2)) (he : e ρ1 μ2 = some (y, μ3)) (hc : ChkOk ch μ3) (hl : acc.length < sizeLine)
    (h : lcL ρ g t e ch xs (acc ++ [y]) μ3 = some r) : lcL ρ g t e ch (x :: xs) acc μ = some r := by
  unfold lcL; simp only [hg, ht, he, Option.bind_some, if_true]; rw [if_pos ⟨hc, hl⟩]; exact h
theorem lc_no {g : DenG} {t : DenT} {e : Den} {ch : List (Nat × List PV)} {xs acc : List PV} {r : List PV × Sto} (hg : g x ρ μ = some (ρ1, μ1)) (ht : t ρ1 μ1 = some (false, μ2)) (hc : ChkOk ch μ2)
    (h : lcL ρ g t e ch xs acc μ2 = some r) : lcL ρ g t e ch (x :: xs) acc μ = some r := by
  unfold lcL; simp only [hg, ht, Option.bind_some, Bool.false_eq_true, if_false, if_pos hc]; exact h
theorem ev_lc {vs : List Nat} {it : DenI} {g : DenG} {t : DenT} {e : Den} {xs : List PV} {ch : List (Nat × List PV)} {out : List PV} (hi : it ρ μ = some ((xs, ch), μ1)) (hw : wipeE ρ vs = ρ') (h : lcL ρ' g t e ch xs [] μ1 = some (out, μ2)) : dLc vs it g t e ρ μ = some (.lst out, μ2) := by
  unfold dLc; rw [hi]; show Option.map _ (lcL (wipeE ρ vs) g t e ch xs [] μ1) = _; rw [hw, h]; rfl
/-- all items, one by one; the test p, the item f -/
theorem lc_all {g : DenG} {t : DenT} {e : Den} {ch : List (Nat × List PV)} (p : PV → Bool) (f : PV → PV) : ∀ (xs acc : List PV), ChkOk ch μ → acc.length + xs.length ≤ sizeLine →
    (∀ x ∈ xs, ∃ ρ1, g x ρ μ = some (ρ1, μ) ∧ t ρ1 μ = some (p x, μ) ∧ (p x = true → e ρ1 μ = some (f x, μ))) → lcL ρ g t e ch xs acc μ = some (acc ++ (xs.filter p).map f, μ)
  | [], acc, _, _, _ => by rw [lc_nil]; simp
  | x :: xs, acc, hc, hl, h => by
    have hl' : acc.length + (xs.length + 1) ≤ sizeLine := hl
    obtain ⟨ρ1, h1, h2, h3⟩ := h x List.mem_cons_self
    cases hp : p x with
    | true =>
      rw [hp] at h2
      refine lc_yes h1 h2 (h3 hp) hc (by omega) ?_
      rw [lc_all p f xs (acc ++ [f x]) hc (by rw [List.length_append]; simp only [List.length_cons, List.length_nil]; omega) fun y hy => h y (List.mem_cons_of_mem _ hy)]
      rw [List.filter_cons_of_pos hp]
      simp
    | false =>
      rw [hp] at h2
      refine lc_no h1 h2 hc ?_
      rw [lc_all p f xs acc hc (by omega) fun y hy => h y (List.mem_cons_of_mem _ hy)]
      rw [List.filter_cons_of_neg (by rw [hp]; exact Bool.false_ne_true)]
end

/-! ### steps: operators -/
section
variable {μ : Sto} {i j : Int} {x y : PV} {b : Bool}
theorem mul_ii (h : okMul i j = true) : f_mul (.int i) (.int j) μ = some (.int (i * j), μ) := by show (if _ then _ else _) = _; rw [if_pos h]
theorem mod_ii (h : 0 < j) : f_mod (.int i) (.int j) μ = some (.int (i % j), μ) := by show (if _ then _ else _) = _; rw [if_pos h]
theorem mod_ni (h : j < 0) : f_mod (.int i) (.int j) μ = some (.int (i.fmod j), μ) := by show (if _ then _ else _) = _; rw [if_neg (by omega), if_pos h]
theorem fdiv_ii (h : 0 < j) (h2 : j.natAbs < 2 ^ 100) : f_fdiv (.int i) (.int j) μ = some (.int (i / j), μ) := by
  have hh : j.natAbs.log2 < 9000 := Nat.lt_trans ((Nat.log2_lt (n := j.natAbs) (k := 100) (by omega)).mpr h2) (by decide)
  show (if _ then _ else _) = _
  rw [if_pos ⟨h, hh⟩]
theorem fdiv_ni (h : j < 0) (h2 : j.natAbs < 2 ^ 100) : f_fdiv (.int i) (.int j) μ = some (.int (i.fdiv j), μ) := by
  have hh : j.natAbs.log2 < 9000 := Nat.lt_trans ((Nat.log2_lt (n := j.natAbs) (k := 100) (by omega)).mpr h2) (by decide)
  show (if _ then _ else _) = _
  rw [if_neg (by omega), if_pos ⟨h, hh⟩]
theorem pow_ii (h : 0 ≤ j) (h2 : j ≤ 1000000) (h3 : i.natAbs < 2 ^ 64) : f_pow (.int i) (.int j) μ = some (.int (i ^ j.toNat), μ) := by show (if _ then _ else _) = _; rw [if_pos ⟨h, h2, h3⟩]
theorem add_ii : f_add (.int i) (.int j) μ = some (.int (i + j), μ) := rfl
theorem sub_ii : f_sub (.int i) (.int j) μ = some (.int (i - j), μ) := rfl
theorem neg_i : f_neg (.int i) μ = some (.int (-i), μ) := rfl
theorem lt_ii (h : decide (i < j) = b) : f_lt (.int i) (.int j) μ = some (.bl b, μ) := by rw [← h]; rfl
theorem le_ii (h : decide (i ≤ j) = b) : f_le (.int i) (.int j) μ = some (.bl b, μ) := by rw [← h]; rfl
theorem gt_ii (h : decide (j < i) = b) : f_gt (.int i) (.int j) μ = some (.bl b, μ) := by rw [← h]; rfl
theorem ge_ii (h : decide (j ≤ i) = b) : f_ge (.int i) (.int j) μ = some (.bl b, μ) := by rw [← h]; rfl
theorem eq_ii (h : decide (i = j) = b) : f_eq (.int i) (.int j) μ = some (.bl b, μ) := by rw [← h]; rfl
theorem ne_ii (h : (!decide (i = j)) = b) : f_ne (.int i) (.int j) μ = some (.bl b, μ) := by rw [← h]; rfl
theorem eq_ss {s t : Str} (h : decide (s = t) = b) : f_eq (.str s) (.str t) μ = some (.bl b, μ) := by rw [← h]; rfl
theorem ne_t (h : i ≠ j) : (!decide (i = j)) = true := by rw [decide_eq_false h]; rfl
theorem ne_f (h : i = j) : (!decide (i = j)) = false := by rw [decide_eq_true h]; rfl
theorem isn_non : f_is .non .non μ = some (.bl true, μ) := rfl
theorem ix_tup {xs : List PV} {v : PV} (h : L2.atI xs i = some v) : f_ix (.tup xs) (.int i) μ = some (v, μ) := by show Option.map _ (L2.atI xs i) = _; rw [h]; rfl
theorem ix_lst {xs : List PV} {v : PV} (h : L2.atI xs i = some v) : f_ix (.lst xs) (.int i) μ = some (v, μ) := by show Option.map _ (L2.atI xs i) = _; rw [h]; rfl
theorem ix_loc {l : Nat} {xs : List PV} {v : PV} (hl : μ[l]? = some (.lst xs)) (h : L2.atI xs i = some v) : f_ix (.loc l) (.int i) μ = some (v, μ) := by
  have e : rdS μ (.loc l) = some xs := by unfold rdS; simp only; unfold rdL; simp only [hl]
  show Option.bind (rdS μ (.loc l)) _ = _
  rw [e]; show Option.map _ (L2.atI xs i) = _; rw [h]; rfl
theorem tru_int (h : (i != 0) = b) : truP (.int i) μ = some b := by rw [← h]; rfl
theorem set_loc {l : Nat} {xs : List PV} {v : PV} {k : Nat} {μ' : Sto} (hl : μ[l]? = some (.lst xs)) (hk : ixN xs.length i = some k) (he : μ.set l (.lst (xs.set k v)) = μ') : f_set (.loc l) (.int i) v μ = some μ' := by
  show (match μ[l]? with | some (.lst xs) => _ | _ => _) = _
  rw [hl]
  show Option.map _ (ixN xs.length i) = _
  rw [hk, ← he]; rfl
theorem atI_nat {α : Type} {xs : List α} {k : Nat} {v : α} (h : xs[k]? = some v) : L2.atI xs (k : Int) = some v := L2.atI_nat h
end
end Fd

/-! FdZ: the law's promise at its call. -/
namespace Fd
open PySem PySem.Spec PyProof.Rows L2
def spLaw (K : Frg) : Sp := fun vs H Q _ => ∃ (a : Addr) (ns : List Int), vs = [.ref a] ∧ Only H ∧ SqL K H a (ns.map V.int) ∧ ns.length ≤ 63 ∧ ∀ H', Q (.bl true) H'
theorem spLaw_of {K : Frg} {ψ : Fn} (h : ∀ ns : List Int, ns.length ≤ 63 → ∃ μ', ψ [.scr ns] [] = some (.bl true, μ')) (vs : List V) (H : Hp) (Q : VK) (E : XK) (q : spLaw K vs H Q E) : spD K 1 ψ vs H Q E := by
  obtain ⟨a, ns, rfl, ho, hs, hl, hq⟩ := q
  obtain ⟨μ', e⟩ := h ns hl
  refine ⟨⟨fun _ => a, fun _ => False⟩, [.scr ns], [], .bl true, μ', rfl, ⟨.ref a, [], rfl, ⟨a, rfl, ?_⟩, rfl⟩, ⟨fun i j hi => absurd hi (Nat.not_lt_zero i), fun l o h => (nomatch h), fun a h => h.elim, fun l hl => absurd hl (Nat.not_lt_zero l)⟩, e, fun hv ι' H' X R S => ?_⟩
  · rcases hs with hs | hs
    · rcases hs with hs | ⟨o, hs⟩
      · rcases ho a with z | ⟨o, xs, z⟩
        · rw [hs] at z; cases z
        · rw [hs] at z; cases z
      · exact .inl ⟨o, hs, fun l hl => absurd hl (Nat.not_lt_zero l), fun z => z.elim⟩
    · exact .inr hs
  · cases R
    exact hq H'
end Fd

/-! FdL: the laws' own helpers: start, fill, take. -/
namespace Fd
open PySem PySem.Spec PyProof.Rows L2
theorem len_ok {α : Type} {vs : List α} {n : Nat} (h : vs.length = n) (h2 : n ≤ 1000) : vs.length ≤ sizeLine := by rw [h]; exact Nat.le_of_lt (small1000 h2)
theorem len_le {n : Nat} (h : n ≤ 1000) : n ≤ sizeLine := Nat.le_of_lt (small1000 h)
/-- what the drawing's list holds -/
structure Dr where
  (cells : List Int) (i acc turn : Int)
def Dr.xs (s : Dr) : List PV := [.lst (s.cells.map .int), .int s.i, .int s.acc, .int s.turn, .int 20]
abbrev Dr.ob (s : Dr) : Ob := .lst s.xs
structure Dr.Ok (s : Dr) (n : Nat) : Prop where
  i0 : 0 ≤ s.i
  t0 : 0 ≤ s.turn
  tn : s.turn + n ≤ 2 ^ 60
  cl : s.cells.length ≤ 63
theorem Dr.Ok.le {s : Dr} {n m : Nat} (h : s.Ok n) (hm : m ≤ n) : s.Ok m := ⟨h.i0, h.t0, by have := h.tn; omega, h.cl⟩
section
variable {μ : Sto} {l : Nat} {s : Dr}
theorem dr_get {o o' : Ob} (h : μ[l]? = some o) : (μ.set l o')[l]? = some o' := by
  rw [List.getElem?_set_self]
  exact (List.getElem?_eq_some_iff.mp h).1
theorem dr_ix0 (h : μ[l]? = some s.ob) : f_ix (.loc l) (.int 0) μ = some (.lst (s.cells.map .int), μ) := ix_loc h rfl
theorem dr_ix1 (h : μ[l]? = some s.ob) : f_ix (.loc l) (.int 1) μ = some (.int s.i, μ) := ix_loc h rfl
theorem dr_ix2 (h : μ[l]? = some s.ob) : f_ix (.loc l) (.int 2) μ = some (.int s.acc, μ) := ix_loc h rfl
theorem dr_ix3 (h : μ[l]? = some s.ob) : f_ix (.loc l) (.int 3) μ = some (.int s.turn, μ) := ix_loc h rfl
theorem dr_set1 {v : Int} (h : μ[l]? = some s.ob) : f_set (.loc l) (.int 1) (.int v) μ = some (μ.set l ({ s with i := v } : Dr).ob) := set_loc h rfl rfl
theorem dr_set2 {v : Int} (h : μ[l]? = some s.ob) : f_set (.loc l) (.int 2) (.int v) μ = some (μ.set l ({ s with acc := v } : Dr).ob) := set_loc h rfl rfl
theorem dr_set3 {v : Int} (h : μ[l]? = some s.ob) : f_set (.loc l) (.int 3) (.int v) μ = some (μ.set l ({ s with turn := v } : Dr).ob) := set_loc h rfl rfl
end
theorem lenL {xs : List PV} {μ : Sto} : f_len [.lst xs] μ = some (.int xs.length, μ) := rfl
theorem lenT {xs : List PV} {μ : Sto} : f_len [.tup xs] μ = some (.int xs.length, μ) := rfl

def dFillR : DenS :=
  (sSeq (sIf (tAn (tTru (d2 f_ix (cVar 0) (cK (.int 0)))) (tB1 (d2 f_ge (d2 f_ix (cVar 0) (cK (.int 1))) (dN f_len (aCons (d2 f_ix (cVar 0) (cK (.int 0))) aNil))))) (sAsg (d2 f_add (cVar 1) (d2 f_mod (dN f_int (aCons (d2 f_ix (d2 f_ix (cVar 0) (cK (.int 0))) (d1 f_neg (cK (.int 1)))) aNil)) (cK (.int 1000003)))) (gNm 1)) sNil)
  (sSeq (sAsg (d2 f_mod (dN f_int (aCons (d2 f_add (d2 f_mul (cVar 1) (cK (.int 48271))) (d2 f_mul (d2 f_ix (cVar 0) (cK (.int 3))) (cK (.int 69621)))) aNil)) (cK (.int 2147483647))) (gNm 1))
  (sRet (d2 f_add (d2 f_fdiv (dN f_int (aCons (d2 f_add (d2 f_add (d2 f_mul (cVar 1) (cVar 1)) (d2 f_mul (d2 f_ix (cVar 0) (cK (.int 3))) (cK (.int 7919)))) (cK (.int 11))) aNil)) (cK (.int 64))) (cK (.int 36028797018963968))))))
def dFill : DenS :=
  (sSeq (sAsg (d2 f_add (d2 f_ix (cVar 0) (cK (.int 3))) (cK (.int 1))) (gSb (cVar 0) (cK (.int 3))))
  (sSeq (sAsg (d2 f_add (d2 f_mul (d2 f_ix (cVar 0) (cK (.int 3))) (cK (.int 69621))) (cK (.int 12345))) (gNm 1))
  (sSeq (sIf (tB1 (d2 f_lt (d2 f_ix (cVar 0) (cK (.int 1))) (dN f_len (aCons (d2 f_ix (cVar 0) (cK (.int 0))) aNil)))) (sSeq (sAsg (d2 f_ix (d2 f_ix (cVar 0) (cK (.int 0))) (d2 f_ix (cVar 0) (cK (.int 1)))) (gNm 1))
  (sSeq (sAsg (d2 f_add (d2 f_ix (cVar 0) (cK (.int 1))) (cK (.int 1))) (gSb (cVar 0) (cK (.int 1))))
  (sSeq (sIf (tB1 (d2 f_lt (cVar 1) (cK (.int 0)))) (sAsg (d2 f_sub (d2 f_sub (cK (.int 0)) (cK (.int 1))) (cVar 1)) (gNm 1)) sNil)
  (sIf (tB1 (d2 f_ge (cVar 1) (d2 f_pow (cK (.int 10)) (cK (.int 18))))) (sRet (cVar 1)) sNil)))) sNil)
  dFillR)))
theorem fillR_ok {s : Dr} {n : Nat} {μ : Sto} {l : Nat} {k : Int} (ok : s.Ok n) (h : μ[l]? = some s.ob) (hk : k.natAbs < 2 ^ 100) : ∃ r : Int, dFillR [some (.loc l), some (.int k)] μ = some (.rt (.int r) μ) := by
  have h0 := dr_ix0 h; have h1 := dr_ix1 h; have h3 := dr_ix3 h
  have ht := ok.t0
  have ht2 := ok.tn
  have hi := ok.i0
  have hlen : ((s.cells.map PV.int).length : Int) = s.cells.length := by rw [List.length_map]
  suffices hh : ∃ k' : Int, k'.natAbs < 2 ^ 101 ∧ sIf (tAn (tTru (d2 f_ix (cVar 0) (cK (.int 0)))) (tB1 (d2 f_ge (d2 f_ix (cVar 0) (cK (.int 1))) (dN f_len (aCons (d2 f_ix (cVar 0) (cK (.int 0))) aNil))))) (sAsg (d2 f_add (cVar 1) (d2 f_mod (dN f_int (aCons (d2 f_ix (d2 f_ix (cVar 0) (cK (.int 0))) (d1 f_neg (cK (.int 1)))) aNil)) (cK (.int 1000003)))) (gNm 1)) sNil [some (.loc l), some (.int k)] μ = some (.nx [some (.loc l), some (.int k')] μ) by
    obtain ⟨k', hk', e⟩ := hh
    apply Exists.intro
    apply ev_seq e
    (apply ev_seq; case' ha => ((first | with_reducible apply ev_set | with_reducible apply ev_par | with_reducible apply ev_par3 | with_reducible apply ev_asg | with_reducible apply ev_ex | with_reducible apply ev_ret | with_reducible exact ev_sNil | (with_reducible apply ev_aug; exact rfl)) <;> (repeat' first | (with_reducible apply ev_var; exact rfl) | with_reducible exact ev_K | with_reducible exact h3 | with_reducible exact ev_aNil | with_reducible exact ev_oNo | with_reducible exact ev_tAll | with_reducible exact ev_gsN | with_reducible apply ev_aCons | with_reducible apply ev_d2 | with_reducible apply ev_d1 | with_reducible apply ev_dN | with_reducible apply ev_dCall | with_reducible apply ev_dTup | with_reducible apply ev_dLst | with_reducible apply ev_dLoc | with_reducible apply ev_sl | with_reducible apply ev_oSo | with_reducible apply ev_ch2b | with_reducible apply ev_ch3b | with_reducible apply ev_tB | with_reducible apply ev_tTru | with_reducible apply ev_tNo | with_reducible apply ev_no | with_reducible apply ev_dML | with_reducible apply ev_gTu | with_reducible apply ev_gsC | with_reducible apply ev_gSb | with_reducible apply ev_gNm | (simp only [List.length_cons, List.length_nil]; exact len_le (by decide)) | exact decide_eq_true (by omega) | exact decide_eq_false (by omega) | exact ne_t (by omega) | exact ne_f (by omega) | with_reducible apply lt_ii | with_reducible apply le_ii | with_reducible apply gt_ii | with_reducible apply ge_ii | with_reducible apply eq_ii | with_reducible apply ne_ii | with_reducible apply eq_ss | with_reducible exact add_ii | with_reducible exact sub_ii | with_reducible exact neg_i | with_reducible apply mul_ii | exact okMul_small (by omega) (by omega) | exact mod_ii (by omega) | exact fdiv_ii (by omega) (by omega) | exact mod_ni (by omega) | exact fdiv_ni (by omega) (by omega) | exact pow_ii (by omega) (by omega) (by omega) | with_reducible apply ix_tup | with_reducible apply ix_lst | (simp only [List.set_cons_succ, List.set_cons_zero]; rfl) | exact rfl | exact h3)))
    ((first | with_reducible apply ev_set | with_reducible apply ev_par | with_reducible apply ev_par3 | with_reducible apply ev_asg | with_reducible apply ev_ex | with_reducible apply ev_ret | with_reducible exact ev_sNil | (with_reducible apply ev_aug; exact rfl)) <;> (repeat' first | (with_reducible apply ev_var; exact rfl) | with_reducible exact ev_K | with_reducible exact h3 | with_reducible exact ev_aNil | with_reducible exact ev_oNo | with_reducible exact ev_tAll | with_reducible exact ev_gsN | with_reducible apply ev_aCons | with_reducible apply ev_d2 | with_reducible apply ev_d1 | with_reducible apply ev_dN | with_reducible apply ev_dCall | with_reducible apply ev_dTup | with_reducible apply ev_dLst | with_reducible apply ev_dLoc | with_reducible apply ev_sl | with_reducible apply ev_oSo | with_reducible apply ev_ch2b | with_reducible apply ev_ch3b | with_reducible apply ev_tB | with_reducible apply ev_tTru | with_reducible apply ev_tNo | with_reducible apply ev_no | with_reducible apply ev_dML | with_reducible apply ev_gTu | with_reducible apply ev_gsC | with_reducible apply ev_gSb | with_reducible apply ev_gNm | (simp only [List.length_cons, List.length_nil]; exact len_le (by decide)) | exact decide_eq_true (by omega) | exact decide_eq_false (by omega) | exact ne_t (by omega) | exact ne_f (by omega) | with_reducible apply lt_ii | with_reducible apply le_ii | with_reducible apply gt_ii | with_reducible apply ge_ii | with_reducible apply eq_ii | with_reducible apply ne_ii | with_reducible apply eq_ss | with_reducible exact add_ii | with_reducible exact sub_ii | with_reducible exact neg_i | with_reducible apply mul_ii | exact okMul_small (by omega) (by omega) | exact mod_ii (by omega) | exact fdiv_ii (by omega) (by omega) | exact mod_ni (by omega) | exact fdiv_ni (by omega) (by omega) | exact pow_ii (by omega) (by omega) (by omega) | with_reducible apply ix_tup | with_reducible apply ix_lst | (simp only [List.set_cons_succ, List.set_cons_zero]; rfl) | exact rfl | exact h3))
  by_cases hz : s.cells = []
  · refine ⟨k, by omega, ?_⟩
    apply ev_sIf_f
    case h => exact ev_sNil
    apply ev_tAn_f
    (repeat' first | (with_reducible apply ev_var; exact rfl) | with_reducible exact ev_K | with_reducible exact h0 | with_reducible exact ev_aNil | with_reducible exact ev_oNo | with_reducible exact ev_tAll | with_reducible exact ev_gsN | with_reducible apply ev_aCons | with_reducible apply ev_d2 | with_reducible apply ev_d1 | with_reducible apply ev_dN | with_reducible apply ev_dCall | with_reducible apply ev_dTup | with_reducible apply ev_dLst | with_reducible apply ev_dLoc | with_reducible apply ev_sl | with_reducible apply ev_oSo | with_reducible apply ev_ch2b | with_reducible apply ev_ch3b | with_reducible apply ev_tB | with_reducible apply ev_tTru | with_reducible apply ev_tNo | with_reducible apply ev_no | with_reducible apply ev_dML | with_reducible apply ev_gTu | with_reducible apply ev_gsC | with_reducible apply ev_gSb | with_reducible apply ev_gNm | (simp only [List.length_cons, List.length_nil]; exact len_le (by decide)) | exact decide_eq_true (by omega) | exact decide_eq_false (by omega) | exact ne_t (by omega) | exact ne_f (by omega) | with_reducible apply lt_ii | with_reducible apply le_ii | with_reducible apply gt_ii | with_reducible apply ge_ii | with_reducible apply eq_ii | with_reducible apply ne_ii | with_reducible apply eq_ss | with_reducible exact add_ii | with_reducible exact sub_ii | with_reducible exact neg_i | with_reducible apply mul_ii | exact okMul_small (by omega) (by omega) | exact mod_ii (by omega) | exact fdiv_ii (by omega) (by omega) | exact mod_ni (by omega) | exact fdiv_ni (by omega) (by omega) | exact pow_ii (by omega) (by omega) (by omega) | with_reducible apply ix_tup | with_reducible apply ix_lst | (simp only [List.set_cons_succ, List.set_cons_zero]; rfl) | exact rfl | exact h0)
    show some _ = _
    rw [hz]
    rfl
  · have hb : (!(s.cells.map PV.int).isEmpty) = true := by
      cases e : s.cells with
      | nil => exact absurd e hz
      | cons a r => rfl
    by_cases hg : (s.cells.length : Int) ≤ s.i
    · obtain ⟨z, hzz⟩ : ∃ z : Int, L2.atI (s.cells.map PV.int) (-1) = some (.int z) := by
        have hl : 0 < s.cells.length := List.length_pos_iff.mpr hz
        refine ⟨s.cells[s.cells.length - 1], ?_⟩
        unfold L2.atI
        have : ixN (s.cells.map PV.int).length (-1) = some (s.cells.length - 1) := by
          unfold ixN
          rw [List.length_map]
          rw [if_neg (by omega), if_pos (by omega)]
          congr 1
          omega
        rw [this]
        show (s.cells.map PV.int)[s.cells.length - 1]? = _
        rw [List.getElem?_map, List.getElem?_eq_getElem (by omega)]
        rfl
      have h9 : f_ix (.lst (s.cells.map PV.int)) (.int (-1)) μ = some (.int z, μ) := ix_lst hzz
      refine ⟨k + z % 1000003, by omega, ?_⟩
      apply ev_sIf_t
      case hc =>
        apply ev_tAn_t
        case h => (repeat' first | (with_reducible apply ev_var; exact rfl) | with_reducible exact ev_K | with_reducible exact h0 | with_reducible exact (show some (!(s.cells.map PV.int).isEmpty) = _ from by rw [hb]) | with_reducible exact ev_aNil | with_reducible exact ev_oNo | with_reducible exact ev_tAll | with_reducible exact ev_gsN | with_reducible apply ev_aCons | with_reducible apply ev_d2 | with_reducible apply ev_d1 | with_reducible apply ev_dN | with_reducible apply ev_dCall | with_reducible apply ev_dTup | with_reducible apply ev_dLst | with_reducible apply ev_dLoc | with_reducible apply ev_sl | with_reducible apply ev_oSo | with_reducible apply ev_ch2b | with_reducible apply ev_ch3b | with_reducible apply ev_tB | with_reducible apply ev_tTru | with_reducible apply ev_tNo | with_reducible apply ev_no | with_reducible apply ev_dML | with_reducible apply ev_gTu | with_reducible apply ev_gsC | with_reducible apply ev_gSb | with_reducible apply ev_gNm | (simp only [List.length_cons, List.length_nil]; exact len_le (by decide)) | exact decide_eq_true (by omega) | exact decide_eq_false (by omega) | exact ne_t (by omega) | exact ne_f (by omega) | with_reducible apply lt_ii | with_reducible apply le_ii | with_reducible apply gt_ii | with_reducible apply ge_ii | with_reducible apply eq_ii | with_reducible apply ne_ii | with_reducible apply eq_ss | with_reducible exact add_ii | with_reducible exact sub_ii | with_reducible exact neg_i | with_reducible apply mul_ii | exact okMul_small (by omega) (by omega) | exact mod_ii (by omega) | exact fdiv_ii (by omega) (by omega) | exact mod_ni (by omega) | exact fdiv_ni (by omega) (by omega) | exact pow_ii (by omega) (by omega) (by omega) | with_reducible apply ix_tup | with_reducible apply ix_lst | (simp only [List.set_cons_succ, List.set_cons_zero]; rfl) | exact rfl | exact h0 | exact (show some (!(s.cells.map PV.int).isEmpty) = _ from by rw [hb]))
        (repeat' first | (with_reducible apply ev_var; exact rfl) | with_reducible exact ev_K | with_reducible exact h0 | with_reducible exact h1 | with_reducible exact ev_aNil | with_reducible exact ev_oNo | with_reducible exact ev_tAll | with_reducible exact ev_gsN | with_reducible apply ev_aCons | with_reducible apply ev_d2 | with_reducible apply ev_d1 | with_reducible apply ev_dN | with_reducible apply ev_dCall | with_reducible apply ev_dTup | with_reducible apply ev_dLst | with_reducible apply ev_dLoc | with_reducible apply ev_sl | with_reducible apply ev_oSo | with_reducible apply ev_ch2b | with_reducible apply ev_ch3b | with_reducible apply ev_tB | with_reducible apply ev_tTru | with_reducible apply ev_tNo | with_reducible apply ev_no | with_reducible apply ev_dML | with_reducible apply ev_gTu | with_reducible apply ev_gsC | with_reducible apply ev_gSb | with_reducible apply ev_gNm | (simp only [List.length_cons, List.length_nil]; exact len_le (by decide)) | exact decide_eq_true (by omega) | exact decide_eq_false (by omega) | exact ne_t (by omega) | exact ne_f (by omega) | with_reducible apply lt_ii | with_reducible apply le_ii | with_reducible apply gt_ii | with_reducible apply ge_ii | with_reducible apply eq_ii | with_reducible apply ne_ii | with_reducible apply eq_ss | with_reducible exact add_ii | with_reducible exact sub_ii | with_reducible exact neg_i | with_reducible apply mul_ii | exact okMul_small (by omega) (by omega) | exact mod_ii (by omega) | exact fdiv_ii (by omega) (by omega) | exact mod_ni (by omega) | exact fdiv_ni (by omega) (by omega) | exact pow_ii (by omega) (by omega) (by omega) | with_reducible apply ix_tup | with_reducible apply ix_lst | (simp only [List.set_cons_succ, List.set_cons_zero]; rfl) | exact rfl | exact h0 | exact h1)
      ((first | with_reducible apply ev_set | with_reducible apply ev_par | with_reducible apply ev_par3 | with_reducible apply ev_asg | with_reducible apply ev_ex | with_reducible apply ev_ret | with_reducible exact ev_sNil | (with_reducible apply ev_aug; exact rfl)) <;> (repeat' first | (with_reducible apply ev_var; exact rfl) | with_reducible exact ev_K | with_reducible exact h0 | with_reducible exact h9 | with_reducible exact ev_aNil | with_reducible exact ev_oNo | with_reducible exact ev_tAll | with_reducible exact ev_gsN | with_reducible apply ev_aCons | with_reducible apply ev_d2 | with_reducible apply ev_d1 | with_reducible apply ev_dN | with_reducible apply ev_dCall | with_reducible apply ev_dTup | with_reducible apply ev_dLst | with_reducible apply ev_dLoc | with_reducible apply ev_sl | with_reducible apply ev_oSo | with_reducible apply ev_ch2b | with_reducible apply ev_ch3b | with_reducible apply ev_tB | with_reducible apply ev_tTru | with_reducible apply ev_tNo | with_reducible apply ev_no | with_reducible apply ev_dML | with_reducible apply ev_gTu | with_reducible apply ev_gsC | with_reducible apply ev_gSb | with_reducible apply ev_gNm | (simp only [List.length_cons, List.length_nil]; exact len_le (by decide)) | exact decide_eq_true (by omega) | exact decide_eq_false (by omega) | exact ne_t (by omega) | exact ne_f (by omega) | with_reducible apply lt_ii | with_reducible apply le_ii | with_reducible apply gt_ii | with_reducible apply ge_ii | with_reducible apply eq_ii | with_reducible apply ne_ii | with_reducible apply eq_ss | with_reducible exact add_ii | with_reducible exact sub_ii | with_reducible exact neg_i | with_reducible apply mul_ii | exact okMul_small (by omega) (by omega) | exact mod_ii (by omega) | exact fdiv_ii (by omega) (by omega) | exact mod_ni (by omega) | exact fdiv_ni (by omega) (by omega) | exact pow_ii (by omega) (by omega) (by omega) | with_reducible apply ix_tup | with_reducible apply ix_lst | (simp only [List.set_cons_succ, List.set_cons_zero]; rfl) | exact rfl | exact h0 | exact h9))
    · refine ⟨k, by omega, ?_⟩
      apply ev_sIf_f
      case h => exact ev_sNil
      apply ev_tAn_t
      case h => (repeat' first | (with_reducible apply ev_var; exact rfl) | with_reducible exact ev_K | with_reducible exact h0 | with_reducible exact (show some (!(s.cells.map PV.int).isEmpty) = _ from by rw [hb]) | with_reducible exact ev_aNil | with_reducible exact ev_oNo | with_reducible exact ev_tAll | with_reducible exact ev_gsN | with_reducible apply ev_aCons | with_reducible apply ev_d2 | with_reducible apply ev_d1 | with_reducible apply ev_dN | with_reducible apply ev_dCall | with_reducible apply ev_dTup | with_reducible apply ev_dLst | with_reducible apply ev_dLoc | with_reducible apply ev_sl | with_reducible apply ev_oSo | with_reducible apply ev_ch2b | with_reducible apply ev_ch3b | with_reducible apply ev_tB | with_reducible apply ev_tTru | with_reducible apply ev_tNo | with_reducible apply ev_no | with_reducible apply ev_dML | with_reducible apply ev_gTu | with_reducible apply ev_gsC | with_reducible apply ev_gSb | with_reducible apply ev_gNm | (simp only [List.length_cons, List.length_nil]; exact len_le (by decide)) | exact decide_eq_true (by omega) | exact decide_eq_false (by omega) | exact ne_t (by omega) | exact ne_f (by omega) | with_reducible apply lt_ii | with_reducible apply le_ii | with_reducible apply gt_ii | with_reducible apply ge_ii | with_reducible apply eq_ii | with_reducible apply ne_ii | with_reducible apply eq_ss | with_reducible exact add_ii | with_reducible exact sub_ii | with_reducible exact neg_i | with_reducible apply mul_ii | exact okMul_small (by omega) (by omega) | exact mod_ii (by omega) | exact fdiv_ii (by omega) (by omega) | exact mod_ni (by omega) | exact fdiv_ni (by omega) (by omega) | exact pow_ii (by omega) (by omega) (by omega) | with_reducible apply ix_tup | with_reducible apply ix_lst | (simp only [List.set_cons_succ, List.set_cons_zero]; rfl) | exact rfl | exact h0 | exact (show some (!(s.cells.map PV.int).isEmpty) = _ from by rw [hb]))
      (repeat' first | (with_reducible apply ev_var; exact rfl) | with_reducible exact ev_K | with_reducible exact h0 | with_reducible exact h1 | with_reducible exact ev_aNil | with_reducible exact ev_oNo | with_reducible exact ev_tAll | with_reducible exact ev_gsN | with_reducible apply ev_aCons | with_reducible apply ev_d2 | with_reducible apply ev_d1 | with_reducible apply ev_dN | with_reducible apply ev_dCall | with_reducible apply ev_dTup | with_reducible apply ev_dLst | with_reducible apply ev_dLoc | with_reducible apply ev_sl | with_reducible apply ev_oSo | with_reducible apply ev_ch2b | with_reducible apply ev_ch3b | with_reducible apply ev_tB | with_reducible apply ev_tTru | with_reducible apply ev_tNo | with_reducible apply ev_no | with_reducible apply ev_dML | with_reducible apply ev_gTu | with_reducible apply ev_gsC | with_reducible apply ev_gSb | with_reducible apply ev_gNm | (simp only [List.length_cons, List.length_nil]; exact len_le (by decide)) | exact decide_eq_true (by omega) | exact decide_eq_false (by omega) | exact ne_t (by omega) | exact ne_f (by omega) | with_reducible apply lt_ii | with_reducible apply le_ii | with_reducible apply gt_ii | with_reducible apply ge_ii | with_reducible apply eq_ii | with_reducible apply ne_ii | with_reducible apply eq_ss | with_reducible exact add_ii | with_reducible exact sub_ii | with_reducible exact neg_i | with_reducible apply mul_ii | exact okMul_small (by omega) (by omega) | exact mod_ii (by omega) | exact fdiv_ii (by omega) (by omega) | exact mod_ni (by omega) | exact fdiv_ni (by omega) (by omega) | exact pow_ii (by omega) (by omega) (by omega) | with_reducible apply ix_tup | with_reducible apply ix_lst | (simp only [List.set_cons_succ, List.set_cons_zero]; rfl) | exact rfl | exact h0 | exact h1)
theorem fill_ok {s : Dr} {n : Nat} {μ : Sto} {l : Nat} (ok : s.Ok (n + 1)) (h : μ[l]? = some s.ob) : ∃ (k : Int) (s' : Dr), s'.Ok n ∧ dFill [some (.loc l), none] μ = some (.rt (.int k) (μ.set l s'.ob)) := by
  have h3 := dr_ix3 h
  have ht := ok.t0
  have ht2 := ok.tn
  have hi := ok.i0
  let s1 : Dr := { s with turn := s.turn + 1 }
  have e1 := dr_set3 (v := s.turn + 1) h
  have g1 : (μ.set l s1.ob)[l]? = some s1.ob := dr_get h
  have g10 := dr_ix0 g1; have g11 := dr_ix1 g1; have g13 := dr_ix3 g1
  have ok1 : s1.Ok n := ⟨hi, by show 0 ≤ s.turn + 1; omega, by show s.turn + 1 + n ≤ _; omega, ok.cl⟩
  have hlen : ((s.cells.map PV.int).length : Int) = s.cells.length := by rw [List.length_map]
  have hs1 : s1.turn = s.turn + 1 := rfl
  by_cases hg : s.i < (s.cells.length : Int)
  · obtain ⟨z, hz⟩ : ∃ z : Int, L2.atI (s.cells.map PV.int) s.i = some (.int z) := by
      obtain ⟨m, hm⟩ := Int.eq_ofNat_of_zero_le hi
      rw [hm]
      refine ⟨s.cells[m], atI_nat ?_⟩
      rw [List.getElem?_map, List.getElem?_eq_getElem (by omega)]
      rfl
    have g1z : f_ix (.lst (s1.cells.map PV.int)) (.int s1.i) (μ.set l s1.ob) = some (.int z, μ.set l s1.ob) := ix_lst hz
    let s2 : Dr := { s1 with i := s.i + 1 }
    have e2 : f_set (.loc l) (.int 1) (.int (s1.i + 1)) (μ.set l s1.ob) = some (μ.set l s2.ob) := by
      have := dr_set1 (v := s1.i + 1) g1
      rw [List.set_set] at this
      exact this
    have g2 : (μ.set l s2.ob)[l]? = some s2.ob := dr_get h
    have ok2 : s2.Ok n := ⟨by show 0 ≤ s.i + 1; omega, ok1.t0, ok1.tn, ok1.cl⟩
    have hlt : decide (s1.i < ((s1.cells.map PV.int).length : Int)) = true := decide_eq_true (by rw [List.length_map]; exact hg)
    let k : Int := if z < 0 then 0 - 1 - z else z
    have hpow : ((10 : Int) ^ (18 : Int).toNat) = 1000000000000000000 := by decide
    have step : sIf (tB1 (d2 f_lt (cVar 1) (cK (.int 0)))) (sAsg (d2 f_sub (d2 f_sub (cK (.int 0)) (cK (.int 1))) (cVar 1)) (gNm 1)) sNil [some (.loc l), some (.int z)] (μ.set l s2.ob) = some (.nx [some (.loc l), some (.int k)] (μ.set l s2.ob)) := by
      by_cases hn : z < 0
      · have hk : k = 0 - 1 - z := if_pos hn
        rw [hk]
        (apply ev_sIf_t; case' hc => (repeat' first | (with_reducible apply ev_var; exact rfl) | with_reducible exact ev_K | with_reducible exact ev_aNil | with_reducible exact ev_oNo | with_reducible exact ev_tAll | with_reducible exact ev_gsN | with_reducible apply ev_aCons | with_reducible apply ev_d2 | with_reducible apply ev_d1 | with_reducible apply ev_dN | with_reducible apply ev_dCall | with_reducible apply ev_dTup | with_reducible apply ev_dLst | with_reducible apply ev_dLoc | with_reducible apply ev_sl | with_reducible apply ev_oSo | with_reducible apply ev_ch2b | with_reducible apply ev_ch3b | with_reducible apply ev_tB | with_reducible apply ev_tTru | with_reducible apply ev_tNo | with_reducible apply ev_no | with_reducible apply ev_dML | with_reducible apply ev_gTu | with_reducible apply ev_gsC | with_reducible apply ev_gSb | with_reducible apply ev_gNm | (simp only [List.length_cons, List.length_nil]; exact len_le (by decide)) | exact decide_eq_true (by omega) | exact decide_eq_false (by omega) | exact ne_t (by omega) | exact ne_f (by omega) | with_reducible apply lt_ii | with_reducible apply le_ii | with_reducible apply gt_ii | with_reducible apply ge_ii | with_reducible apply eq_ii | with_reducible apply ne_ii | with_reducible apply eq_ss | with_reducible exact add_ii | with_reducible exact sub_ii | with_reducible exact neg_i | with_reducible apply mul_ii | exact okMul_small (by omega) (by omega) | exact mod_ii (by omega) | exact fdiv_ii (by omega) (by omega) | exact mod_ni (by omega) | exact fdiv_ni (by omega) (by omega) | exact pow_ii (by omega) (by omega) (by omega) | with_reducible apply ix_tup | with_reducible apply ix_lst | (simp only [List.set_cons_succ, List.set_cons_zero]; rfl) | exact rfl))
        ((first | with_reducible apply ev_set | with_reducible apply ev_par | with_reducible apply ev_par3 | with_reducible apply ev_asg | with_reducible apply ev_ex | with_reducible apply ev_ret | with_reducible exact ev_sNil | (with_reducible apply ev_aug; exact rfl)) <;> (repeat' first | (with_reducible apply ev_var; exact rfl) | with_reducible exact ev_K | with_reducible exact ev_aNil | with_reducible exact ev_oNo | with_reducible exact ev_tAll | with_reducible exact ev_gsN | with_reducible apply ev_aCons | with_reducible apply ev_d2 | with_reducible apply ev_d1 | with_reducible apply ev_dN | with_reducible apply ev_dCall | with_reducible apply ev_dTup | with_reducible apply ev_dLst | with_reducible apply ev_dLoc | with_reducible apply ev_sl | with_reducible apply ev_oSo | with_reducible apply ev_ch2b | with_reducible apply ev_ch3b | with_reducible apply ev_tB | with_reducible apply ev_tTru | with_reducible apply ev_tNo | with_reducible apply ev_no | with_reducible apply ev_dML | with_reducible apply ev_gTu | with_reducible apply ev_gsC | with_reducible apply ev_gSb | with_reducible apply ev_gNm | (simp only [List.length_cons, List.length_nil]; exact len_le (by decide)) | exact decide_eq_true (by omega) | exact decide_eq_false (by omega) | exact ne_t (by omega) | exact ne_f (by omega) | with_reducible apply lt_ii | with_reducible apply le_ii | with_reducible apply gt_ii | with_reducible apply ge_ii | with_reducible apply eq_ii | with_reducible apply ne_ii | with_reducible apply eq_ss | with_reducible exact add_ii | with_reducible exact sub_ii | with_reducible exact neg_i | with_reducible apply mul_ii | exact okMul_small (by omega) (by omega) | exact mod_ii (by omega) | exact fdiv_ii (by omega) (by omega) | exact mod_ni (by omega) | exact fdiv_ni (by omega) (by omega) | exact pow_ii (by omega) (by omega) (by omega) | with_reducible apply ix_tup | with_reducible apply ix_lst | (simp only [List.set_cons_succ, List.set_cons_zero]; rfl) | exact rfl))
      · have hk : k = z := if_neg hn
        rw [hk]
        (apply ev_sIf_f; case' hc => (repeat' first | (with_reducible apply ev_var; exact rfl) | with_reducible exact ev_K | with_reducible exact ev_aNil | with_reducible exact ev_oNo | with_reducible exact ev_tAll | with_reducible exact ev_gsN | with_reducible apply ev_aCons | with_reducible apply ev_d2 | with_reducible apply ev_d1 | with_reducible apply ev_dN | with_reducible apply ev_dCall | with_reducible apply ev_dTup | with_reducible apply ev_dLst | with_reducible apply ev_dLoc | with_reducible apply ev_sl | with_reducible apply ev_oSo | with_reducible apply ev_ch2b | with_reducible apply ev_ch3b | with_reducible apply ev_tB | with_reducible apply ev_tTru | with_reducible apply ev_tNo | with_reducible apply ev_no | with_reducible apply ev_dML | with_reducible apply ev_gTu | with_reducible apply ev_gsC | with_reducible apply ev_gSb | with_reducible apply ev_gNm | (simp only [List.length_cons, List.length_nil]; exact len_le (by decide)) | exact decide_eq_true (by omega) | exact decide_eq_false (by omega) | exact ne_t (by omega) | exact ne_f (by omega) | with_reducible apply lt_ii | with_reducible apply le_ii | with_reducible apply gt_ii | with_reducible apply ge_ii | with_reducible apply eq_ii | with_reducible apply ne_ii | with_reducible apply eq_ss | with_reducible exact add_ii | with_reducible exact sub_ii | with_reducible exact neg_i | with_reducible apply mul_ii | exact okMul_small (by omega) (by omega) | exact mod_ii (by omega) | exact fdiv_ii (by omega) (by omega) | exact mod_ni (by omega) | exact fdiv_ni (by omega) (by omega) | exact pow_ii (by omega) (by omega) (by omega) | with_reducible apply ix_tup | with_reducible apply ix_lst | (simp only [List.set_cons_succ, List.set_cons_zero]; rfl) | exact rfl))
        ((first | with_reducible apply ev_set | with_reducible apply ev_par | with_reducible apply ev_par3 | with_reducible apply ev_asg | with_reducible apply ev_ex | with_reducible apply ev_ret | with_reducible exact ev_sNil | (with_reducible apply ev_aug; exact rfl)) <;> (repeat' first | (with_reducible apply ev_var; exact rfl) | with_reducible exact ev_K | with_reducible exact ev_aNil | with_reducible exact ev_oNo | with_reducible exact ev_tAll | with_reducible exact ev_gsN | with_reducible apply ev_aCons | with_reducible apply ev_d2 | with_reducible apply ev_d1 | with_reducible apply ev_dN | with_reducible apply ev_dCall | with_reducible apply ev_dTup | with_reducible apply ev_dLst | with_reducible apply ev_dLoc | with_reducible apply ev_sl | with_reducible apply ev_oSo | with_reducible apply ev_ch2b | with_reducible apply ev_ch3b | with_reducible apply ev_tB | with_reducible apply ev_tTru | with_reducible apply ev_tNo | with_reducible apply ev_no | with_reducible apply ev_dML | with_reducible apply ev_gTu | with_reducible apply ev_gsC | with_reducible apply ev_gSb | with_reducible apply ev_gNm | (simp only [List.length_cons, List.length_nil]; exact len_le (by decide)) | exact decide_eq_true (by omega) | exact decide_eq_false (by omega) | exact ne_t (by omega) | exact ne_f (by omega) | with_reducible apply lt_ii | with_reducible apply le_ii | with_reducible apply gt_ii | with_reducible apply ge_ii | with_reducible apply eq_ii | with_reducible apply ne_ii | with_reducible apply eq_ss | with_reducible exact add_ii | with_reducible exact sub_ii | with_reducible exact neg_i | with_reducible apply mul_ii | exact okMul_small (by omega) (by omega) | exact mod_ii (by omega) | exact fdiv_ii (by omega) (by omega) | exact mod_ni (by omega) | exact fdiv_ni (by omega) (by omega) | exact pow_ii (by omega) (by omega) (by omega) | with_reducible apply ix_tup | with_reducible apply ix_lst | (simp only [List.set_cons_succ, List.set_cons_zero]; rfl) | exact rfl))
    by_cases hb : 1000000000000000000 ≤ k
    · refine ⟨k, s2, ok2, ?_⟩
      (apply ev_seq; case' ha => ((first | with_reducible apply ev_set | with_reducible apply ev_par | with_reducible apply ev_par3 | with_reducible apply ev_asg | with_reducible apply ev_ex | with_reducible apply ev_ret | with_reducible exact ev_sNil | (with_reducible apply ev_aug; exact rfl)) <;> (repeat' first | (with_reducible apply ev_var; exact rfl) | with_reducible exact ev_K | with_reducible exact h3 | with_reducible exact e1 | with_reducible exact ev_aNil | with_reducible exact ev_oNo | with_reducible exact ev_tAll | with_reducible exact ev_gsN | with_reducible apply ev_aCons | with_reducible apply ev_d2 | with_reducible apply ev_d1 | with_reducible apply ev_dN | with_reducible apply ev_dCall | with_reducible apply ev_dTup | with_reducible apply ev_dLst | with_reducible apply ev_dLoc | with_reducible apply ev_sl | with_reducible apply ev_oSo | with_reducible apply ev_ch2b | with_reducible apply ev_ch3b | with_reducible apply ev_tB | with_reducible apply ev_tTru | with_reducible apply ev_tNo | with_reducible apply ev_no | with_reducible apply ev_dML | with_reducible apply ev_gTu | with_reducible apply ev_gsC | with_reducible apply ev_gSb | with_reducible apply ev_gNm | (simp only [List.length_cons, List.length_nil]; exact len_le (by decide)) | exact decide_eq_true (by omega) | exact decide_eq_false (by omega) | exact ne_t (by omega) | exact ne_f (by omega) | with_reducible apply lt_ii | with_reducible apply le_ii | with_reducible apply gt_ii | with_reducible apply ge_ii | with_reducible apply eq_ii | with_reducible apply ne_ii | with_reducible apply eq_ss | with_reducible exact add_ii | with_reducible exact sub_ii | with_reducible exact neg_i | with_reducible apply mul_ii | exact okMul_small (by omega) (by omega) | exact mod_ii (by omega) | exact fdiv_ii (by omega) (by omega) | exact mod_ni (by omega) | exact fdiv_ni (by omega) (by omega) | exact pow_ii (by omega) (by omega) (by omega) | with_reducible apply ix_tup | with_reducible apply ix_lst | (simp only [List.set_cons_succ, List.set_cons_zero]; rfl) | exact rfl | exact h3 | exact e1)))
      (apply ev_seq; case' ha => ((first | with_reducible apply ev_set | with_reducible apply ev_par | with_reducible apply ev_par3 | with_reducible apply ev_asg | with_reducible apply ev_ex | with_reducible apply ev_ret | with_reducible exact ev_sNil | (with_reducible apply ev_aug; exact rfl)) <;> (repeat' first | (with_reducible apply ev_var; exact rfl) | with_reducible exact ev_K | with_reducible exact g13 | with_reducible exact ev_aNil | with_reducible exact ev_oNo | with_reducible exact ev_tAll | with_reducible exact ev_gsN | with_reducible apply ev_aCons | with_reducible apply ev_d2 | with_reducible apply ev_d1 | with_reducible apply ev_dN | with_reducible apply ev_dCall | with_reducible apply ev_dTup | with_reducible apply ev_dLst | with_reducible apply ev_dLoc | with_reducible apply ev_sl | with_reducible apply ev_oSo | with_reducible apply ev_ch2b | with_reducible apply ev_ch3b | with_reducible apply ev_tB | with_reducible apply ev_tTru | with_reducible apply ev_tNo | with_reducible apply ev_no | with_reducible apply ev_dML | with_reducible apply ev_gTu | with_reducible apply ev_gsC | with_reducible apply ev_gSb | with_reducible apply ev_gNm | (simp only [List.length_cons, List.length_nil]; exact len_le (by decide)) | exact decide_eq_true (by omega) | exact decide_eq_false (by omega) | exact ne_t (by omega) | exact ne_f (by omega) | with_reducible apply lt_ii | with_reducible apply le_ii | with_reducible apply gt_ii | with_reducible apply ge_ii | with_reducible apply eq_ii | with_reducible apply ne_ii | with_reducible apply eq_ss | with_reducible exact add_ii | with_reducible exact sub_ii | with_reducible exact neg_i | with_reducible apply mul_ii | exact okMul_small (by omega) (by omega) | exact mod_ii (by omega) | exact fdiv_ii (by omega) (by omega) | exact mod_ni (by omega) | exact fdiv_ni (by omega) (by omega) | exact pow_ii (by omega) (by omega) (by omega) | with_reducible apply ix_tup | with_reducible apply ix_lst | (simp only [List.set_cons_succ, List.set_cons_zero]; rfl) | exact rfl | exact g13)))
      apply ev_seq_rt
      (apply ev_sIf_t; case' hc => (repeat' first | (with_reducible apply ev_var; exact rfl) | with_reducible exact ev_K | with_reducible exact g10 | with_reducible exact g11 | with_reducible exact hlt | with_reducible exact lenL | with_reducible exact ev_aNil | with_reducible exact ev_oNo | with_reducible exact ev_tAll | with_reducible exact ev_gsN | with_reducible apply ev_aCons | with_reducible apply ev_d2 | with_reducible apply ev_d1 | with_reducible apply ev_dN | with_reducible apply ev_dCall | with_reducible apply ev_dTup | with_reducible apply ev_dLst | with_reducible apply ev_dLoc | with_reducible apply ev_sl | with_reducible apply ev_oSo | with_reducible apply ev_ch2b | with_reducible apply ev_ch3b | with_reducible apply ev_tB | with_reducible apply ev_tTru | with_reducible apply ev_tNo | with_reducible apply ev_no | with_reducible apply ev_dML | with_reducible apply ev_gTu | with_reducible apply ev_gsC | with_reducible apply ev_gSb | with_reducible apply ev_gNm | (simp only [List.length_cons, List.length_nil]; exact len_le (by decide)) | exact decide_eq_true (by omega) | exact decide_eq_false (by omega) | exact ne_t (by omega) | exact ne_f (by omega) | with_reducible apply lt_ii | with_reducible apply le_ii | with_reducible apply gt_ii | with_reducible apply ge_ii | with_reducible apply eq_ii | with_reducible apply ne_ii | with_reducible apply eq_ss | with_reducible exact add_ii | with_reducible exact sub_ii | with_reducible exact neg_i | with_reducible apply mul_ii | exact okMul_small (by omega) (by omega) | exact mod_ii (by omega) | exact fdiv_ii (by omega) (by omega) | exact mod_ni (by omega) | exact fdiv_ni (by omega) (by omega) | exact pow_ii (by omega) (by omega) (by omega) | with_reducible apply ix_tup | with_reducible apply ix_lst | (simp only [List.set_cons_succ, List.set_cons_zero]; rfl) | exact rfl | exact g10 | exact g11 | exact hlt | exact lenL))
      (apply ev_seq; case' ha => ((first | with_reducible apply ev_set | with_reducible apply ev_par | with_reducible apply ev_par3 | with_reducible apply ev_asg | with_reducible apply ev_ex | with_reducible apply ev_ret | with_reducible exact ev_sNil | (with_reducible apply ev_aug; exact rfl)) <;> (repeat' first | (with_reducible apply ev_var; exact rfl) | with_reducible exact ev_K | with_reducible exact g10 | with_reducible exact g11 | with_reducible exact g1z | with_reducible exact ev_aNil | with_reducible exact ev_oNo | with_reducible exact ev_tAll | with_reducible exact ev_gsN | with_reducible apply ev_aCons | with_reducible apply ev_d2 | with_reducible apply ev_d1 | with_reducible apply ev_dN | with_reducible apply ev_dCall | with_reducible apply ev_dTup | with_reducible apply ev_dLst | with_reducible apply ev_dLoc | with_reducible apply ev_sl | with_reducible apply ev_oSo | with_reducible apply ev_ch2b | with_reducible apply ev_ch3b | with_reducible apply ev_tB | with_reducible apply ev_tTru | with_reducible apply ev_tNo | with_reducible apply ev_no | with_reducible apply ev_dML | with_reducible apply ev_gTu | with_reducible apply ev_gsC | with_reducible apply ev_gSb | with_reducible apply ev_gNm | (simp only [List.length_cons, List.length_nil]; exact len_le (by decide)) | exact decide_eq_true (by omega) | exact decide_eq_false (by omega) | exact ne_t (by omega) | exact ne_f (by omega) | with_reducible apply lt_ii | with_reducible apply le_ii | with_reducible apply gt_ii | with_reducible apply ge_ii | with_reducible apply eq_ii | with_reducible apply ne_ii | with_reducible apply eq_ss | with_reducible exact add_ii | with_reducible exact sub_ii | with_reducible exact neg_i | with_reducible apply mul_ii | exact okMul_small (by omega) (by omega) | exact mod_ii (by omega) | exact fdiv_ii (by omega) (by omega) | exact mod_ni (by omega) | exact fdiv_ni (by omega) (by omega) | exact pow_ii (by omega) (by omega) (by omega) | with_reducible apply ix_tup | with_reducible apply ix_lst | (simp only [List.set_cons_succ, List.set_cons_zero]; rfl) | exact rfl | exact g10 | exact g11 | exact g1z)))
      (apply ev_seq; case' ha => ((first | with_reducible apply ev_set | with_reducible apply ev_par | with_reducible apply ev_par3 | with_reducible apply ev_asg | with_reducible apply ev_ex | with_reducible apply ev_ret | with_reducible exact ev_sNil | (with_reducible apply ev_aug; exact rfl)) <;> (repeat' first | (with_reducible apply ev_var; exact rfl) | with_reducible exact ev_K | with_reducible exact g11 | with_reducible exact e2 | with_reducible exact ev_aNil | with_reducible exact ev_oNo | with_reducible exact ev_tAll | with_reducible exact ev_gsN | with_reducible apply ev_aCons | with_reducible apply ev_d2 | with_reducible apply ev_d1 | with_reducible apply ev_dN | with_reducible apply ev_dCall | with_reducible apply ev_dTup | with_reducible apply ev_dLst | with_reducible apply ev_dLoc | with_reducible apply ev_sl | with_reducible apply ev_oSo | with_reducible apply ev_ch2b | with_reducible apply ev_ch3b | with_reducible apply ev_tB | with_reducible apply ev_tTru | with_reducible apply ev_tNo | with_reducible apply ev_no | with_reducible apply ev_dML | with_reducible apply ev_gTu | with_reducible apply ev_gsC | with_reducible apply ev_gSb | with_reducible apply ev_gNm | (simp only [List.length_cons, List.length_nil]; exact len_le (by decide)) | exact decide_eq_true (by omega) | exact decide_eq_false (by omega) | exact ne_t (by omega) | exact ne_f (by omega) | with_reducible apply lt_ii | with_reducible apply le_ii | with_reducible apply gt_ii | with_reducible apply ge_ii | with_reducible apply eq_ii | with_reducible apply ne_ii | with_reducible apply eq_ss | with_reducible exact add_ii | with_reducible exact sub_ii | with_reducible exact neg_i | with_reducible apply mul_ii | exact okMul_small (by omega) (by omega) | exact mod_ii (by omega) | exact fdiv_ii (by omega) (by omega) | exact mod_ni (by omega) | exact fdiv_ni (by omega) (by omega) | exact pow_ii (by omega) (by omega) (by omega) | with_reducible apply ix_tup | with_reducible apply ix_lst | (simp only [List.set_cons_succ, List.set_cons_zero]; rfl) | exact rfl | exact g11 | exact e2)))
      apply ev_seq step
      apply ev_sIf_t
      case hc => (repeat' first | (with_reducible apply ev_var; exact rfl) | with_reducible exact ev_K | with_reducible exact decide_eq_true (by rw [hpow]; omega) | with_reducible exact ev_aNil | with_reducible exact ev_oNo | with_reducible exact ev_tAll | with_reducible exact ev_gsN | with_reducible apply ev_aCons | with_reducible apply ev_d2 | with_reducible apply ev_d1 | with_reducible apply ev_dN | with_reducible apply ev_dCall | with_reducible apply ev_dTup | with_reducible apply ev_dLst | with_reducible apply ev_dLoc | with_reducible apply ev_sl | with_reducible apply ev_oSo | with_reducible apply ev_ch2b | with_reducible apply ev_ch3b | with_reducible apply ev_tB | with_reducible apply ev_tTru | with_reducible apply ev_tNo | with_reducible apply ev_no | with_reducible apply ev_dML | with_reducible apply ev_gTu | with_reducible apply ev_gsC | with_reducible apply ev_gSb | with_reducible apply ev_gNm | (simp only [List.length_cons, List.length_nil]; exact len_le (by decide)) | exact decide_eq_true (by omega) | exact decide_eq_false (by omega) | exact ne_t (by omega) | exact ne_f (by omega) | with_reducible apply lt_ii | with_reducible apply le_ii | with_reducible apply gt_ii | with_reducible apply ge_ii | with_reducible apply eq_ii | with_reducible apply ne_ii | with_reducible apply eq_ss | with_reducible exact add_ii | with_reducible exact sub_ii | with_reducible exact neg_i | with_reducible apply mul_ii | exact okMul_small (by omega) (by omega) | exact mod_ii (by omega) | exact fdiv_ii (by omega) (by omega) | exact mod_ni (by omega) | exact fdiv_ni (by omega) (by omega) | exact pow_ii (by omega) (by omega) (by omega) | with_reducible apply ix_tup | with_reducible apply ix_lst | (simp only [List.set_cons_succ, List.set_cons_zero]; rfl) | exact rfl | exact decide_eq_true (by rw [hpow]; omega))
      ((first | with_reducible apply ev_set | with_reducible apply ev_par | with_reducible apply ev_par3 | with_reducible apply ev_asg | with_reducible apply ev_ex | with_reducible apply ev_ret | with_reducible exact ev_sNil | (with_reducible apply ev_aug; exact rfl)) <;> (repeat' first | (with_reducible apply ev_var; exact rfl) | with_reducible exact ev_K | with_reducible exact ev_aNil | with_reducible exact ev_oNo | with_reducible exact ev_tAll | with_reducible exact ev_gsN | with_reducible apply ev_aCons | with_reducible apply ev_d2 | with_reducible apply ev_d1 | with_reducible apply ev_dN | with_reducible apply ev_dCall | with_reducible apply ev_dTup | with_reducible apply ev_dLst | with_reducible apply ev_dLoc | with_reducible apply ev_sl | with_reducible apply ev_oSo | with_reducible apply ev_ch2b | with_reducible apply ev_ch3b | with_reducible apply ev_tB | with_reducible apply ev_tTru | with_reducible apply ev_tNo | with_reducible apply ev_no | with_reducible apply ev_dML | with_reducible apply ev_gTu | with_reducible apply ev_gsC | with_reducible apply ev_gSb | with_reducible apply ev_gNm | (simp only [List.length_cons, List.length_nil]; exact len_le (by decide)) | exact decide_eq_true (by omega) | exact decide_eq_false (by omega) | exact ne_t (by omega) | exact ne_f (by omega) | with_reducible apply lt_ii | with_reducible apply le_ii | with_reducible apply gt_ii | with_reducible apply ge_ii | with_reducible apply eq_ii | with_reducible apply ne_ii | with_reducible apply eq_ss | with_reducible exact add_ii | with_reducible exact sub_ii | with_reducible exact neg_i | with_reducible apply mul_ii | exact okMul_small (by omega) (by omega) | exact mod_ii (by omega) | exact fdiv_ii (by omega) (by omega) | exact mod_ni (by omega) | exact fdiv_ni (by omega) (by omega) | exact pow_ii (by omega) (by omega) (by omega) | with_reducible apply ix_tup | with_reducible apply ix_lst | (simp only [List.set_cons_succ, List.set_cons_zero]; rfl) | exact rfl))
    · have hk : k.natAbs < 2 ^ 100 := by
        show (if z < 0 then 0 - 1 - z else z).natAbs < _
        have hb : ¬ 1000000000000000000 ≤ (if z < 0 then 0 - 1 - z else z) := hb
        split at hb <;> split <;> omega
      obtain ⟨r, hr⟩ := fillR_ok ok2 g2 hk
      refine ⟨r, s2, ok2, ?_⟩
      (apply ev_seq; case' ha => ((first | with_reducible apply ev_set | with_reducible apply ev_par | with_reducible apply ev_par3 | with_reducible apply ev_asg | with_reducible apply ev_ex | with_reducible apply ev_ret | with_reducible exact ev_sNil | (with_reducible apply ev_aug; exact rfl)) <;> (repeat' first | (with_reducible apply ev_var; exact rfl) | with_reducible exact ev_K | with_reducible exact h3 | with_reducible exact e1 | with_reducible exact ev_aNil | with_reducible exact ev_oNo | with_reducible exact ev_tAll | with_reducible exact ev_gsN | with_reducible apply ev_aCons | with_reducible apply ev_d2 | with_reducible apply ev_d1 | with_reducible apply ev_dN | with_reducible apply ev_dCall | with_reducible apply ev_dTup | with_reducible apply ev_dLst | with_reducible apply ev_dLoc | with_reducible apply ev_sl | with_reducible apply ev_oSo | with_reducible apply ev_ch2b | with_reducible apply ev_ch3b | with_reducible apply ev_tB | with_reducible apply ev_tTru | with_reducible apply ev_tNo | with_reducible apply ev_no | with_reducible apply ev_dML | with_reducible apply ev_gTu | with_reducible apply ev_gsC | with_reducible apply ev_gSb | with_reducible apply ev_gNm | (simp only [List.length_cons, List.length_nil]; exact len_le (by decide)) | exact decide_eq_true (by omega) | exact decide_eq_false (by omega) | exact ne_t (by omega) | exact ne_f (by omega) | with_reducible apply lt_ii | with_reducible apply le_ii | with_reducible apply gt_ii | with_reducible apply ge_ii | with_reducible apply eq_ii | with_reducible apply ne_ii | with_reducible apply eq_ss | with_reducible exact add_ii | with_reducible exact sub_ii | with_reducible exact neg_i | with_reducible apply mul_ii | exact okMul_small (by omega) (by omega) | exact mod_ii (by omega) | exact fdiv_ii (by omega) (by omega) | exact mod_ni (by omega) | exact fdiv_ni (by omega) (by omega) | exact pow_ii (by omega) (by omega) (by omega) | with_reducible apply ix_tup | with_reducible apply ix_lst | (simp only [List.set_cons_succ, List.set_cons_zero]; rfl) | exact rfl | exact h3 | exact e1)))
      (apply ev_seq; case' ha => ((first | with_reducible apply ev_set | with_reducible apply ev_par | with_reducible apply ev_par3 | with_reducible apply ev_asg | with_reducible apply ev_ex | with_reducible apply ev_ret | with_reducible exact ev_sNil | (with_reducible apply ev_aug; exact rfl)) <;> (repeat' first | (with_reducible apply ev_var; exact rfl) | with_reducible exact ev_K | with_reducible exact g13 | with_reducible exact ev_aNil | with_reducible exact ev_oNo | with_reducible exact ev_tAll | with_reducible exact ev_gsN | with_reducible apply ev_aCons | with_reducible apply ev_d2 | with_reducible apply ev_d1 | with_reducible apply ev_dN | with_reducible apply ev_dCall | with_reducible apply ev_dTup | with_reducible apply ev_dLst | with_reducible apply ev_dLoc | with_reducible apply ev_sl | with_reducible apply ev_oSo | with_reducible apply ev_ch2b | with_reducible apply ev_ch3b | with_reducible apply ev_tB | with_reducible apply ev_tTru | with_reducible apply ev_tNo | with_reducible apply ev_no | with_reducible apply ev_dML | with_reducible apply ev_gTu | with_reducible apply ev_gsC | with_reducible apply ev_gSb | with_reducible apply ev_gNm | (simp only [List.length_cons, List.length_nil]; exact len_le (by decide)) | exact decide_eq_true (by omega) | exact decide_eq_false (by omega) | exact ne_t (by omega) | exact ne_f (by omega) | with_reducible apply lt_ii | with_reducible apply le_ii | with_reducible apply gt_ii | with_reducible apply ge_ii | with_reducible apply eq_ii | with_reducible apply ne_ii | with_reducible apply eq_ss | with_reducible exact add_ii | with_reducible exact sub_ii | with_reducible exact neg_i | with_reducible apply mul_ii | exact okMul_small (by omega) (by omega) | exact mod_ii (by omega) | exact fdiv_ii (by omega) (by omega) | exact mod_ni (by omega) | exact fdiv_ni (by omega) (by omega) | exact pow_ii (by omega) (by omega) (by omega) | with_reducible apply ix_tup | with_reducible apply ix_lst | (simp only [List.set_cons_succ, List.set_cons_zero]; rfl) | exact rfl | exact g13)))
      apply ev_seq
      case hb => exact hr
      (apply ev_sIf_t; case' hc => (repeat' first | (with_reducible apply ev_var; exact rfl) | with_reducible exact ev_K | with_reducible exact g10 | with_reducible exact g11 | with_reducible exact hlt | with_reducible exact lenL | with_reducible exact ev_aNil | with_reducible exact ev_oNo | with_reducible exact ev_tAll | with_reducible exact ev_gsN | with_reducible apply ev_aCons | with_reducible apply ev_d2 | with_reducible apply ev_d1 | with_reducible apply ev_dN | with_reducible apply ev_dCall | with_reducible apply ev_dTup | with_reducible apply ev_dLst | with_reducible apply ev_dLoc | with_reducible apply ev_sl | with_reducible apply ev_oSo | with_reducible apply ev_ch2b | with_reducible apply ev_ch3b | with_reducible apply ev_tB | with_reducible apply ev_tTru | with_reducible apply ev_tNo | with_reducible apply ev_no | with_reducible apply ev_dML | with_reducible apply ev_gTu | with_reducible apply ev_gsC | with_reducible apply ev_gSb | with_reducible apply ev_gNm | (simp only [List.length_cons, List.length_nil]; exact len_le (by decide)) | exact decide_eq_true (by omega) | exact decide_eq_false (by omega) | exact ne_t (by omega) | exact ne_f (by omega) | with_reducible apply lt_ii | with_reducible apply le_ii | with_reducible apply gt_ii | with_reducible apply ge_ii | with_reducible apply eq_ii | with_reducible apply ne_ii | with_reducible apply eq_ss | with_reducible exact add_ii | with_reducible exact sub_ii | with_reducible exact neg_i | with_reducible apply mul_ii | exact okMul_small (by omega) (by omega) | exact mod_ii (by omega) | exact fdiv_ii (by omega) (by omega) | exact mod_ni (by omega) | exact fdiv_ni (by omega) (by omega) | exact pow_ii (by omega) (by omega) (by omega) | with_reducible apply ix_tup | with_reducible apply ix_lst | (simp only [List.set_cons_succ, List.set_cons_zero]; rfl) | exact rfl | exact g10 | exact g11 | exact hlt | exact lenL))
      (apply ev_seq; case' ha => ((first | with_reducible apply ev_set | with_reducible apply ev_par | with_reducible apply ev_par3 | with_reducible apply ev_asg | with_reducible apply ev_ex | with_reducible apply ev_ret | with_reducible exact ev_sNil | (with_reducible apply ev_aug; exact rfl)) <;> (repeat' first | (with_reducible apply ev_var; exact rfl) | with_reducible exact ev_K | with_reducible exact g10 | with_reducible exact g11 | with_reducible exact g1z | with_reducible exact ev_aNil | with_reducible exact ev_oNo | with_reducible exact ev_tAll | with_reducible exact ev_gsN | with_reducible apply ev_aCons | with_reducible apply ev_d2 | with_reducible apply ev_d1 | with_reducible apply ev_dN | with_reducible apply ev_dCall | with_reducible apply ev_dTup | with_reducible apply ev_dLst | with_reducible apply ev_dLoc | with_reducible apply ev_sl | with_reducible apply ev_oSo | with_reducible apply ev_ch2b | with_reducible apply ev_ch3b | with_reducible apply ev_tB | with_reducible apply ev_tTru | with_reducible apply ev_tNo | with_reducible apply ev_no | with_reducible apply ev_dML | with_reducible apply ev_gTu | with_reducible apply ev_gsC | with_reducible apply ev_gSb | with_reducible apply ev_gNm | (simp only [List.length_cons, List.length_nil]; exact len_le (by decide)) | exact decide_eq_true (by omega) | exact decide_eq_false (by omega) | exact ne_t (by omega) | exact ne_f (by omega) | with_reducible apply lt_ii | with_reducible apply le_ii | with_reducible apply gt_ii | with_reducible apply ge_ii | with_reducible apply eq_ii | with_reducible apply ne_ii | with_reducible apply eq_ss | with_reducible exact add_ii | with_reducible exact sub_ii | with_reducible exact neg_i | with_reducible apply mul_ii | exact okMul_small (by omega) (by omega) | exact mod_ii (by omega) | exact fdiv_ii (by omega) (by omega) | exact mod_ni (by omega) | exact fdiv_ni (by omega) (by omega) | exact pow_ii (by omega) (by omega) (by omega) | with_reducible apply ix_tup | with_reducible apply ix_lst | (simp only [List.set_cons_succ, List.set_cons_zero]; rfl) | exact rfl | exact g10 | exact g11 | exact g1z)))
      (apply ev_seq; case' ha => ((first | with_reducible apply ev_set | with_reducible apply ev_par | with_reducible apply ev_par3 | with_reducible apply ev_asg | with_reducible apply ev_ex | with_reducible apply ev_ret | with_reducible exact ev_sNil | (with_reducible apply ev_aug; exact rfl)) <;> (repeat' first | (with_reducible apply ev_var; exact rfl) | with_reducible exact ev_K | with_reducible exact g11 | with_reducible exact e2 | with_reducible exact ev_aNil | with_reducible exact ev_oNo | with_reducible exact ev_tAll | with_reducible exact ev_gsN | with_reducible apply ev_aCons | with_reducible apply ev_d2 | with_reducible apply ev_d1 | with_reducible apply ev_dN | with_reducible apply ev_dCall | with_reducible apply ev_dTup | with_reducible apply ev_dLst | with_reducible apply ev_dLoc | with_reducible apply ev_sl | with_reducible apply ev_oSo | with_reducible apply ev_ch2b | with_reducible apply ev_ch3b | with_reducible apply ev_tB | with_reducible apply ev_tTru | with_reducible apply ev_tNo | with_reducible apply ev_no | with_reducible apply ev_dML | with_reducible apply ev_gTu | with_reducible apply ev_gsC | with_reducible apply ev_gSb | with_reducible apply ev_gNm | (simp only [List.length_cons, List.length_nil]; exact len_le (by decide)) | exact decide_eq_true (by omega) | exact decide_eq_false (by omega) | exact ne_t (by omega) | exact ne_f (by omega) | with_reducible apply lt_ii | with_reducible apply le_ii | with_reducible apply gt_ii | with_reducible apply ge_ii | with_reducible apply eq_ii | with_reducible apply ne_ii | with_reducible apply eq_ss | with_reducible exact add_ii | with_reducible exact sub_ii | with_reducible exact neg_i | with_reducible apply mul_ii | exact okMul_small (by omega) (by omega) | exact mod_ii (by omega) | exact fdiv_ii (by omega) (by omega) | exact mod_ni (by omega) | exact fdiv_ni (by omega) (by omega) | exact pow_ii (by omega) (by omega) (by omega) | with_reducible apply ix_tup | with_reducible apply ix_lst | (simp only [List.set_cons_succ, List.set_cons_zero]; rfl) | exact rfl | exact g11 | exact e2)))
      apply ev_seq step
      apply ev_sIf_f
      case hc => (repeat' first | (with_reducible apply ev_var; exact rfl) | with_reducible exact ev_K | with_reducible exact decide_eq_false (by rw [hpow]; omega) | with_reducible exact ev_aNil | with_reducible exact ev_oNo | with_reducible exact ev_tAll | with_reducible exact ev_gsN | with_reducible apply ev_aCons | with_reducible apply ev_d2 | with_reducible apply ev_d1 | with_reducible apply ev_dN | with_reducible apply ev_dCall | with_reducible apply ev_dTup | with_reducible apply ev_dLst | with_reducible apply ev_dLoc | with_reducible apply ev_sl | with_reducible apply ev_oSo | with_reducible apply ev_ch2b | with_reducible apply ev_ch3b | with_reducible apply ev_tB | with_reducible apply ev_tTru | with_reducible apply ev_tNo | with_reducible apply ev_no | with_reducible apply ev_dML | with_reducible apply ev_gTu | with_reducible apply ev_gsC | with_reducible apply ev_gSb | with_reducible apply ev_gNm | (simp only [List.length_cons, List.length_nil]; exact len_le (by decide)) | exact decide_eq_true (by omega) | exact decide_eq_false (by omega) | exact ne_t (by omega) | exact ne_f (by omega) | with_reducible apply lt_ii | with_reducible apply le_ii | with_reducible apply gt_ii | with_reducible apply ge_ii | with_reducible apply eq_ii | with_reducible apply ne_ii | with_reducible apply eq_ss | with_reducible exact add_ii | with_reducible exact sub_ii | with_reducible exact neg_i | with_reducible apply mul_ii | exact okMul_small (by omega) (by omega) | exact mod_ii (by omega) | exact fdiv_ii (by omega) (by omega) | exact mod_ni (by omega) | exact fdiv_ni (by omega) (by omega) | exact pow_ii (by omega) (by omega) (by omega) | with_reducible apply ix_tup | with_reducible apply ix_lst | (simp only [List.set_cons_succ, List.set_cons_zero]; rfl) | exact rfl | exact decide_eq_false (by rw [hpow]; omega))
      exact ev_sNil
  · have hlt : decide (s1.i < ((s1.cells.map PV.int).length : Int)) = false := decide_eq_false (by rw [List.length_map]; exact hg)
    obtain ⟨r, hr⟩ := fillR_ok (k := s1.turn * 69621 + 12345) ok1 g1 (by omega)
    refine ⟨r, s1, ok1, ?_⟩
    (apply ev_seq; case' ha => ((first | with_reducible apply ev_set | with_reducible apply ev_par | with_reducible apply ev_par3 | with_reducible apply ev_asg | with_reducible apply ev_ex | with_reducible apply ev_ret | with_reducible exact ev_sNil | (with_reducible apply ev_aug; exact rfl)) <;> (repeat' first | (with_reducible apply ev_var; exact rfl) | with_reducible exact ev_K | with_reducible exact h3 | with_reducible exact e1 | with_reducible exact ev_aNil | with_reducible exact ev_oNo | with_reducible exact ev_tAll | with_reducible exact ev_gsN | with_reducible apply ev_aCons | with_reducible apply ev_d2 | with_reducible apply ev_d1 | with_reducible apply ev_dN | with_reducible apply ev_dCall | with_reducible apply ev_dTup | with_reducible apply ev_dLst | with_reducible apply ev_dLoc | with_reducible apply ev_sl | with_reducible apply ev_oSo | with_reducible apply ev_ch2b | with_reducible apply ev_ch3b | with_reducible apply ev_tB | with_reducible apply ev_tTru | with_reducible apply ev_tNo | with_reducible apply ev_no | with_reducible apply ev_dML | with_reducible apply ev_gTu | with_reducible apply ev_gsC | with_reducible apply ev_gSb | with_reducible apply ev_gNm | (simp only [List.length_cons, List.length_nil]; exact len_le (by decide)) | exact decide_eq_true (by omega) | exact decide_eq_false (by omega) | exact ne_t (by omega) | exact ne_f (by omega) | with_reducible apply lt_ii | with_reducible apply le_ii | with_reducible apply gt_ii | with_reducible apply ge_ii | with_reducible apply eq_ii | with_reducible apply ne_ii | with_reducible apply eq_ss | with_reducible exact add_ii | with_reducible exact sub_ii | with_reducible exact neg_i | with_reducible apply mul_ii | exact okMul_small (by omega) (by omega) | exact mod_ii (by omega) | exact fdiv_ii (by omega) (by omega) | exact mod_ni (by omega) | exact fdiv_ni (by omega) (by omega) | exact pow_ii (by omega) (by omega) (by omega) | with_reducible apply ix_tup | with_reducible apply ix_lst | (simp only [List.set_cons_succ, List.set_cons_zero]; rfl) | exact rfl | exact h3 | exact e1)))
    (apply ev_seq; case' ha => ((first | with_reducible apply ev_set | with_reducible apply ev_par | with_reducible apply ev_par3 | with_reducible apply ev_asg | with_reducible apply ev_ex | with_reducible apply ev_ret | with_reducible exact ev_sNil | (with_reducible apply ev_aug; exact rfl)) <;> (repeat' first | (with_reducible apply ev_var; exact rfl) | with_reducible exact ev_K | with_reducible exact g13 | with_reducible exact ev_aNil | with_reducible exact ev_oNo | with_reducible exact ev_tAll | with_reducible exact ev_gsN | with_reducible apply ev_aCons | with_reducible apply ev_d2 | with_reducible apply ev_d1 | with_reducible apply ev_dN | with_reducible apply ev_dCall | with_reducible apply ev_dTup | with_reducible apply ev_dLst | with_reducible apply ev_dLoc | with_reducible apply ev_sl | with_reducible apply ev_oSo | with_reducible apply ev_ch2b | with_reducible apply ev_ch3b | with_reducible apply ev_tB | with_reducible apply ev_tTru | with_reducible apply ev_tNo | with_reducible apply ev_no | with_reducible apply ev_dML | with_reducible apply ev_gTu | with_reducible apply ev_gsC | with_reducible apply ev_gSb | with_reducible apply ev_gNm | (simp only [List.length_cons, List.length_nil]; exact len_le (by decide)) | exact decide_eq_true (by omega) | exact decide_eq_false (by omega) | exact ne_t (by omega) | exact ne_f (by omega) | with_reducible apply lt_ii | with_reducible apply le_ii | with_reducible apply gt_ii | with_reducible apply ge_ii | with_reducible apply eq_ii | with_reducible apply ne_ii | with_reducible apply eq_ss | with_reducible exact add_ii | with_reducible exact sub_ii | with_reducible exact neg_i | with_reducible apply mul_ii | exact okMul_small (by omega) (by omega) | exact mod_ii (by omega) | exact fdiv_ii (by omega) (by omega) | exact mod_ni (by omega) | exact fdiv_ni (by omega) (by omega) | exact pow_ii (by omega) (by omega) (by omega) | with_reducible apply ix_tup | with_reducible apply ix_lst | (simp only [List.set_cons_succ, List.set_cons_zero]; rfl) | exact rfl | exact g13)))
    apply ev_seq
    case hb => exact hr
    (apply ev_sIf_f; case' hc => (repeat' first | (with_reducible apply ev_var; exact rfl) | with_reducible exact ev_K | with_reducible exact g10 | with_reducible exact g11 | with_reducible exact hlt | with_reducible exact lenL | with_reducible exact ev_aNil | with_reducible exact ev_oNo | with_reducible exact ev_tAll | with_reducible exact ev_gsN | with_reducible apply ev_aCons | with_reducible apply ev_d2 | with_reducible apply ev_d1 | with_reducible apply ev_dN | with_reducible apply ev_dCall | with_reducible apply ev_dTup | with_reducible apply ev_dLst | with_reducible apply ev_dLoc | with_reducible apply ev_sl | with_reducible apply ev_oSo | with_reducible apply ev_ch2b | with_reducible apply ev_ch3b | with_reducible apply ev_tB | with_reducible apply ev_tTru | with_reducible apply ev_tNo | with_reducible apply ev_no | with_reducible apply ev_dML | with_reducible apply ev_gTu | with_reducible apply ev_gsC | with_reducible apply ev_gSb | with_reducible apply ev_gNm | (simp only [List.length_cons, List.length_nil]; exact len_le (by decide)) | exact decide_eq_true (by omega) | exact decide_eq_false (by omega) | exact ne_t (by omega) | exact ne_f (by omega) | with_reducible apply lt_ii | with_reducible apply le_ii | with_reducible apply gt_ii | with_reducible apply ge_ii | with_reducible apply eq_ii | with_reducible apply ne_ii | with_reducible apply eq_ss | with_reducible exact add_ii | with_reducible exact sub_ii | with_reducible exact neg_i | with_reducible apply mul_ii | exact okMul_small (by omega) (by omega) | exact mod_ii (by omega) | exact fdiv_ii (by omega) (by omega) | exact mod_ni (by omega) | exact fdiv_ni (by omega) (by omega) | exact pow_ii (by omega) (by omega) (by omega) | with_reducible apply ix_tup | with_reducible apply ix_lst | (simp only [List.set_cons_succ, List.set_cons_zero]; rfl) | exact rfl | exact g10 | exact g11 | exact hlt | exact lenL))
    exact ev_sNil

/-- the other wording -/
def dFill2 : DenS :=
  (sSeq (sAsg (d2 f_add (d2 f_ix (cVar 0) (cK (.int 3))) (cK (.int 1))) (gSb (cVar 0) (cK (.int 3))))
  (sSeq (sAsg (d2 f_add (d2 f_mul (d2 f_ix (cVar 0) (cK (.int 3))) (cK (.int 69621))) (cK (.int 12345))) (gNm 1))
  (sSeq (sIf (tB1 (d2 f_lt (d2 f_ix (cVar 0) (cK (.int 1))) (dN f_len (aCons (d2 f_ix (cVar 0) (cK (.int 0))) aNil)))) (sSeq (sAsg (dN f_max2 (aCons (d2 f_ix (d2 f_ix (cVar 0) (cK (.int 0))) (d2 f_ix (cVar 0) (cK (.int 1)))) (aCons (d2 f_sub (d2 f_sub (cK (.int 0)) (cK (.int 1))) (d2 f_ix (d2 f_ix (cVar 0) (cK (.int 0))) (d2 f_ix (cVar 0) (cK (.int 1))))) aNil))) (gNm 1))
  (sSeq (sAsg (d2 f_add (d2 f_ix (cVar 0) (cK (.int 1))) (cK (.int 1))) (gSb (cVar 0) (cK (.int 1))))
  (sIf (tB1 (d2 f_ge (cVar 1) (d2 f_pow (cK (.int 10)) (cK (.int 18))))) (sRet (cVar 1)) sNil))) sNil)
  dFillR)))
theorem fill2_ok {s : Dr} {n : Nat} {μ : Sto} {l : Nat} (ok : s.Ok (n + 1)) (h : μ[l]? = some s.ob) : ∃ (k : Int) (s' : Dr), s'.Ok n ∧ dFill2 [some (.loc l), none] μ = some (.rt (.int k) (μ.set l s'.ob)) := by
  have h3 := dr_ix3 h
  have ht := ok.t0
  have ht2 := ok.tn
  have hi := ok.i0
  let s1 : Dr := { s with turn := s.turn + 1 }
  have e1 := dr_set3 (v := s.turn + 1) h
  have g1 : (μ.set l s1.ob)[l]? = some s1.ob := dr_get h
  have g10 := dr_ix0 g1; have g11 := dr_ix1 g1; have g13 := dr_ix3 g1
  have ok1 : s1.Ok n := ⟨hi, by show 0 ≤ s.turn + 1; omega, by show s.turn + 1 + n ≤ _; omega, ok.cl⟩
  have hlen : ((s.cells.map PV.int).length : Int) = s.cells.length := by rw [List.length_map]
  have hs1 : s1.turn = s.turn + 1 := rfl
  by_cases hg : s.i < (s.cells.length : Int)
  · obtain ⟨z, hz⟩ : ∃ z : Int, L2.atI (s.cells.map PV.int) s.i = some (.int z) := by
      obtain ⟨m, hm⟩ := Int.eq_ofNat_of_zero_le hi
      rw [hm]
      refine ⟨s.cells[m], atI_nat ?_⟩
      rw [List.getElem?_map, List.getElem?_eq_getElem (by omega)]
      rfl
    have g1z : f_ix (.lst (s1.cells.map PV.int)) (.int s1.i) (μ.set l s1.ob) = some (.int z, μ.set l s1.ob) := ix_lst hz
    let s2 : Dr := { s1 with i := s.i + 1 }
    have e2 : f_set (.loc l) (.int 1) (.int (s1.i + 1)) (μ.set l s1.ob) = some (μ.set l s2.ob) := by
      have := dr_set1 (v := s1.i + 1) g1
      rw [List.set_set] at this
      exact this
    have g2 : (μ.set l s2.ob)[l]? = some s2.ob := dr_get h
    have ok2 : s2.Ok n := ⟨by show 0 ≤ s.i + 1; omega, ok1.t0, ok1.tn, ok1.cl⟩
    have hlt : decide (s1.i < ((s1.cells.map PV.int).length : Int)) = true := decide_eq_true (by rw [List.length_map]; exact hg)
    let k : Int := if 0 - 1 - z > z then 0 - 1 - z else z
    have hpow : ((10 : Int) ^ (18 : Int).toNat) = 1000000000000000000 := by decide
    have hmax : f_max2 [.int z, .int (0 - 1 - z)] (μ.set l s1.ob) = some (.int k, μ.set l s1.ob) := rfl
    by_cases hb : 1000000000000000000 ≤ k
    · refine ⟨k, s2, ok2, ?_⟩
      (apply ev_seq; case' ha => ((first | with_reducible apply ev_set | with_reducible apply ev_par | with_reducible apply ev_par3 | with_reducible apply ev_asg | with_reducible apply ev_ex | with_reducible apply ev_ret | with_reducible exact ev_sNil | (with_reducible apply ev_aug; exact rfl)) <;> (repeat' first | (with_reducible apply ev_var; exact rfl) | with_reducible exact ev_K | with_reducible exact h3 | with_reducible exact e1 | with_reducible exact ev_aNil | with_reducible exact ev_oNo | with_reducible exact ev_tAll | with_reducible exact ev_gsN | with_reducible apply ev_aCons | with_reducible apply ev_d2 | with_reducible apply ev_d1 | with_reducible apply ev_dN | with_reducible apply ev_dCall | with_reducible apply ev_dTup | with_reducible apply ev_dLst | with_reducible apply ev_dLoc | with_reducible apply ev_sl | with_reducible apply ev_oSo | with_reducible apply ev_ch2b | with_reducible apply ev_ch3b | with_reducible apply ev_tB | with_reducible apply ev_tTru | with_reducible apply ev_tNo | with_reducible apply ev_no | with_reducible apply ev_dML | with_reducible apply ev_gTu | with_reducible apply ev_gsC | with_reducible apply ev_gSb | with_reducible apply ev_gNm | (simp only [List.length_cons, List.length_nil]; exact len_le (by decide)) | exact decide_eq_true (by omega) | exact decide_eq_false (by omega) | exact ne_t (by omega) | exact ne_f (by omega) | with_reducible apply lt_ii | with_reducible apply le_ii | with_reducible apply gt_ii | with_reducible apply ge_ii | with_reducible apply eq_ii | with_reducible apply ne_ii | with_reducible apply eq_ss | with_reducible exact add_ii | with_reducible exact sub_ii | with_reducible exact neg_i | with_reducible apply mul_ii | exact okMul_small (by omega) (by omega) | exact mod_ii (by omega) | exact fdiv_ii (by omega) (by omega) | exact mod_ni (by omega) | exact fdiv_ni (by omega) (by omega) | exact pow_ii (by omega) (by omega) (by omega) | with_reducible apply ix_tup | with_reducible apply ix_lst | (simp only [List.set_cons_succ, List.set_cons_zero]; rfl) | exact rfl | exact h3 | exact e1)))
      (apply ev_seq; case' ha => ((first | with_reducible apply ev_set | with_reducible apply ev_par | with_reducible apply ev_par3 | with_reducible apply ev_asg | with_reducible apply ev_ex | with_reducible apply ev_ret | with_reducible exact ev_sNil | (with_reducible apply ev_aug; exact rfl)) <;> (repeat' first | (with_reducible apply ev_var; exact rfl) | with_reducible exact ev_K | with_reducible exact g13 | with_reducible exact ev_aNil | with_reducible exact ev_oNo | with_reducible exact ev_tAll | with_reducible exact ev_gsN | with_reducible apply ev_aCons | with_reducible apply ev_d2 | with_reducible apply ev_d1 | with_reducible apply ev_dN | with_reducible apply ev_dCall | with_reducible apply ev_dTup | with_reducible apply ev_dLst | with_reducible apply ev_dLoc | with_reducible apply ev_sl | with_reducible apply ev_oSo | with_reducible apply ev_ch2b | with_reducible apply ev_ch3b | with_reducible apply ev_tB | with_reducible apply ev_tTru | with_reducible apply ev_tNo | with_reducible apply ev_no | with_reducible apply ev_dML | with_reducible apply ev_gTu | with_reducible apply ev_gsC | with_reducible apply ev_gSb | with_reducible apply ev_gNm | (simp only [List.length_cons, List.length_nil]; exact len_le (by decide)) | exact decide_eq_true (by omega) | exact decide_eq_false (by omega) | exact ne_t (by omega) | exact ne_f (by omega) | with_reducible apply lt_ii | with_reducible apply le_ii | with_reducible apply gt_ii | with_reducible apply ge_ii | with_reducible apply eq_ii | with_reducible apply ne_ii | with_reducible apply eq_ss | with_reducible exact add_ii | with_reducible exact sub_ii | with_reducible exact neg_i | with_reducible apply mul_ii | exact okMul_small (by omega) (by omega) | exact mod_ii (by omega) | exact fdiv_ii (by omega) (by omega) | exact mod_ni (by omega) | exact fdiv_ni (by omega) (by omega) | exact pow_ii (by omega) (by omega) (by omega) | with_reducible apply ix_tup | with_reducible apply ix_lst | (simp only [List.set_cons_succ, List.set_cons_zero]; rfl) | exact rfl | exact g13)))
      apply ev_seq_rt
      (apply ev_sIf_t; case' hc => (repeat' first | (with_reducible apply ev_var; exact rfl) | with_reducible exact ev_K | with_reducible exact g10 | with_reducible exact g11 | with_reducible exact hlt | with_reducible exact lenL | with_reducible exact ev_aNil | with_reducible exact ev_oNo | with_reducible exact ev_tAll | with_reducible exact ev_gsN | with_reducible apply ev_aCons | with_reducible apply ev_d2 | with_reducible apply ev_d1 | with_reducible apply ev_dN | with_reducible apply ev_dCall | with_reducible apply ev_dTup | with_reducible apply ev_dLst | with_reducible apply ev_dLoc | with_reducible apply ev_sl | with_reducible apply ev_oSo | with_reducible apply ev_ch2b | with_reducible apply ev_ch3b | with_reducible apply ev_tB | with_reducible apply ev_tTru | with_reducible apply ev_tNo | with_reducible apply ev_no | with_reducible apply ev_dML | with_reducible apply ev_gTu | with_reducible apply ev_gsC | with_reducible apply ev_gSb | with_reducible apply ev_gNm | (simp only [List.length_cons, List.length_nil]; exact len_le (by decide)) | exact decide_eq_true (by omega) | exact decide_eq_false (by omega) | exact ne_t (by omega) | exact ne_f (by omega) | with_reducible apply lt_ii | with_reducible apply le_ii | with_reducible apply gt_ii | with_reducible apply ge_ii | with_reducible apply eq_ii | with_reducible apply ne_ii | with_reducible apply eq_ss | with_reducible exact add_ii | with_reducible exact sub_ii | with_reducible exact neg_i | with_reducible apply mul_ii | exact okMul_small (by omega) (by omega) | exact mod_ii (by omega) | exact fdiv_ii (by omega) (by omega) | exact mod_ni (by omega) | exact fdiv_ni (by omega) (by omega) | exact pow_ii (by omega) (by omega) (by omega) | with_reducible apply ix_tup | with_reducible apply ix_lst | (simp only [List.set_cons_succ, List.set_cons_zero]; rfl) | exact rfl | exact g10 | exact g11 | exact hlt | exact lenL))
      (apply ev_seq; case' ha => ((first | with_reducible apply ev_set | with_reducible apply ev_par | with_reducible apply ev_par3 | with_reducible apply ev_asg | with_reducible apply ev_ex | with_reducible apply ev_ret | with_reducible exact ev_sNil | (with_reducible apply ev_aug; exact rfl)) <;> (repeat' first | (with_reducible apply ev_var; exact rfl) | with_reducible exact ev_K | with_reducible exact g10 | with_reducible exact g11 | with_reducible exact g1z | with_reducible exact hmax | with_reducible exact ev_aNil | with_reducible exact ev_oNo | with_reducible exact ev_tAll | with_reducible exact ev_gsN | with_reducible apply ev_aCons | with_reducible apply ev_d2 | with_reducible apply ev_d1 | with_reducible apply ev_dN | with_reducible apply ev_dCall | with_reducible apply ev_dTup | with_reducible apply ev_dLst | with_reducible apply ev_dLoc | with_reducible apply ev_sl | with_reducible apply ev_oSo | with_reducible apply ev_ch2b | with_reducible apply ev_ch3b | with_reducible apply ev_tB | with_reducible apply ev_tTru | with_reducible apply ev_tNo | with_reducible apply ev_no | with_reducible apply ev_dML | with_reducible apply ev_gTu | with_reducible apply ev_gsC | with_reducible apply ev_gSb | with_reducible apply ev_gNm | (simp only [List.length_cons, List.length_nil]; exact len_le (by decide)) | exact decide_eq_true (by omega) | exact decide_eq_false (by omega) | exact ne_t (by omega) | exact ne_f (by omega) | with_reducible apply lt_ii | with_reducible apply le_ii | with_reducible apply gt_ii | with_reducible apply ge_ii | with_reducible apply eq_ii | with_reducible apply ne_ii | with_reducible apply eq_ss | with_reducible exact add_ii | with_reducible exact sub_ii | with_reducible exact neg_i | with_reducible apply mul_ii | exact okMul_small (by omega) (by omega) | exact mod_ii (by omega) | exact fdiv_ii (by omega) (by omega) | exact mod_ni (by omega) | exact fdiv_ni (by omega) (by omega) | exact pow_ii (by omega) (by omega) (by omega) | with_reducible apply ix_tup | with_reducible apply ix_lst | (simp only [List.set_cons_succ, List.set_cons_zero]; rfl) | exact rfl | exact g10 | exact g11 | exact g1z | exact hmax)))
      (apply ev_seq; case' ha => ((first | with_reducible apply ev_set | with_reducible apply ev_par | with_reducible apply ev_par3 | with_reducible apply ev_asg | with_reducible apply ev_ex | with_reducible apply ev_ret | with_reducible exact ev_sNil | (with_reducible apply ev_aug; exact rfl)) <;> (repeat' first | (with_reducible apply ev_var; exact rfl) | with_reducible exact ev_K | with_reducible exact g11 | with_reducible exact e2 | with_reducible exact ev_aNil | with_reducible exact ev_oNo | with_reducible exact ev_tAll | with_reducible exact ev_gsN | with_reducible apply ev_aCons | with_reducible apply ev_d2 | with_reducible apply ev_d1 | with_reducible apply ev_dN | with_reducible apply ev_dCall | with_reducible apply ev_dTup | with_reducible apply ev_dLst | with_reducible apply ev_dLoc | with_reducible apply ev_sl | with_reducible apply ev_oSo | with_reducible apply ev_ch2b | with_reducible apply ev_ch3b | with_reducible apply ev_tB | with_reducible apply ev_tTru | with_reducible apply ev_tNo | with_reducible apply ev_no | with_reducible apply ev_dML | with_reducible apply ev_gTu | with_reducible apply ev_gsC | with_reducible apply ev_gSb | with_reducible apply ev_gNm | (simp only [List.length_cons, List.length_nil]; exact len_le (by decide)) | exact decide_eq_true (by omega) | exact decide_eq_false (by omega) | exact ne_t (by omega) | exact ne_f (by omega) | with_reducible apply lt_ii | with_reducible apply le_ii | with_reducible apply gt_ii | with_reducible apply ge_ii | with_reducible apply eq_ii | with_reducible apply ne_ii | with_reducible apply eq_ss | with_reducible exact add_ii | with_reducible exact sub_ii | with_reducible exact neg_i | with_reducible apply mul_ii | exact okMul_small (by omega) (by omega) | exact mod_ii (by omega) | exact fdiv_ii (by omega) (by omega) | exact mod_ni (by omega) | exact fdiv_ni (by omega) (by omega) | exact pow_ii (by omega) (by omega) (by omega) | with_reducible apply ix_tup | with_reducible apply ix_lst | (simp only [List.set_cons_succ, List.set_cons_zero]; rfl) | exact rfl | exact g11 | exact e2)))
      apply ev_sIf_t
      case hc => (repeat' first | (with_reducible apply ev_var; exact rfl) | with_reducible exact ev_K | with_reducible exact decide_eq_true (by rw [hpow]; omega) | with_reducible exact ev_aNil | with_reducible exact ev_oNo | with_reducible exact ev_tAll | with_reducible exact ev_gsN | with_reducible apply ev_aCons | with_reducible apply ev_d2 | with_reducible apply ev_d1 | with_reducible apply ev_dN | with_reducible apply ev_dCall | with_reducible apply ev_dTup | with_reducible apply ev_dLst | with_reducible apply ev_dLoc | with_reducible apply ev_sl | with_reducible apply ev_oSo | with_reducible apply ev_ch2b | with_reducible apply ev_ch3b | with_reducible apply ev_tB | with_reducible apply ev_tTru | with_reducible apply ev_tNo | with_reducible apply ev_no | with_reducible apply ev_dML | with_reducible apply ev_gTu | with_reducible apply ev_gsC | with_reducible apply ev_gSb | with_reducible apply ev_gNm | (simp only [List.length_cons, List.length_nil]; exact len_le (by decide)) | exact decide_eq_true (by omega) | exact decide_eq_false (by omega) | exact ne_t (by omega) | exact ne_f (by omega) | with_reducible apply lt_ii | with_reducible apply le_ii | with_reducible apply gt_ii | with_reducible apply ge_ii | with_reducible apply eq_ii | with_reducible apply ne_ii | with_reducible apply eq_ss | with_reducible exact add_ii | with_reducible exact sub_ii | with_reducible exact neg_i | with_reducible apply mul_ii | exact okMul_small (by omega) (by omega) | exact mod_ii (by omega) | exact fdiv_ii (by omega) (by omega) | exact mod_ni (by omega) | exact fdiv_ni (by omega) (by omega) | exact pow_ii (by omega) (by omega) (by omega) | with_reducible apply ix_tup | with_reducible apply ix_lst | (simp only [List.set_cons_succ, List.set_cons_zero]; rfl) | exact rfl | exact decide_eq_true (by rw [hpow]; omega))
      ((first | with_reducible apply ev_set | with_reducible apply ev_par | with_reducible apply ev_par3 | with_reducible apply ev_asg | with_reducible apply ev_ex | with_reducible apply ev_ret | with_reducible exact ev_sNil | (with_reducible apply ev_aug; exact rfl)) <;> (repeat' first | (with_reducible apply ev_var; exact rfl) | with_reducible exact ev_K | with_reducible exact ev_aNil | with_reducible exact ev_oNo | with_reducible exact ev_tAll | with_reducible exact ev_gsN | with_reducible apply ev_aCons | with_reducible apply ev_d2 | with_reducible apply ev_d1 | with_reducible apply ev_dN | with_reducible apply ev_dCall | with_reducible apply ev_dTup | with_reducible apply ev_dLst | with_reducible apply ev_dLoc | with_reducible apply ev_sl | with_reducible apply ev_oSo | with_reducible apply ev_ch2b | with_reducible apply ev_ch3b | with_reducible apply ev_tB | with_reducible apply ev_tTru | with_reducible apply ev_tNo | with_reducible apply ev_no | with_reducible apply ev_dML | with_reducible apply ev_gTu | with_reducible apply ev_gsC | with_reducible apply ev_gSb | with_reducible apply ev_gNm | (simp only [List.length_cons, List.length_nil]; exact len_le (by decide)) | exact decide_eq_true (by omega) | exact decide_eq_false (by omega) | exact ne_t (by omega) | exact ne_f (by omega) | with_reducible apply lt_ii | with_reducible apply le_ii | with_reducible apply gt_ii | with_reducible apply ge_ii | with_reducible apply eq_ii | with_reducible apply ne_ii | with_reducible apply eq_ss | with_reducible exact add_ii | with_reducible exact sub_ii | with_reducible exact neg_i | with_reducible apply mul_ii | exact okMul_small (by omega) (by omega) | exact mod_ii (by omega) | exact fdiv_ii (by omega) (by omega) | exact mod_ni (by omega) | exact fdiv_ni (by omega) (by omega) | exact pow_ii (by omega) (by omega) (by omega) | with_reducible apply ix_tup | with_reducible apply ix_lst | (simp only [List.set_cons_succ, List.set_cons_zero]; rfl) | exact rfl))
    · have hk : k.natAbs < 2 ^ 100 := by
        show (if 0 - 1 - z > z then 0 - 1 - z else z).natAbs < _
        have hb : ¬ 1000000000000000000 ≤ (if 0 - 1 - z > z then 0 - 1 - z else z) := hb
        split at hb <;> split <;> omega
      obtain ⟨r, hr⟩ := fillR_ok ok2 g2 hk
      refine ⟨r, s2, ok2, ?_⟩
      (apply ev_seq; case' ha => ((first | with_reducible apply ev_set | with_reducible apply ev_par | with_reducible apply ev_par3 | with_reducible apply ev_asg | with_reducible apply ev_ex | with_reducible apply ev_ret | with_reducible exact ev_sNil | (with_reducible apply ev_aug; exact rfl)) <;> (repeat' first | (with_reducible apply ev_var; exact rfl) | with_reducible exact ev_K | with_reducible exact h3 | with_reducible exact e1 | with_reducible exact ev_aNil | with_reducible exact ev_oNo | with_reducible exact ev_tAll | with_reducible exact ev_gsN | with_reducible apply ev_aCons | with_reducible apply ev_d2 | with_reducible apply ev_d1 | with_reducible apply ev_dN | with_reducible apply ev_dCall | with_reducible apply ev_dTup | with_reducible apply ev_dLst | with_reducible apply ev_dLoc | with_reducible apply ev_sl | with_reducible apply ev_oSo | with_reducible apply ev_ch2b | with_reducible apply ev_ch3b | with_reducible apply ev_tB | with_reducible apply ev_tTru | with_reducible apply ev_tNo | with_reducible apply ev_no | with_reducible apply ev_dML | with_reducible apply ev_gTu | with_reducible apply ev_gsC | with_reducible apply ev_gSb | with_reducible apply ev_gNm | (simp only [List.length_cons, List.length_nil]; exact len_le (by decide)) | exact decide_eq_true (by omega) | exact decide_eq_false (by omega) | exact ne_t (by omega) | exact ne_f (by omega) | with_reducible apply lt_ii | with_reducible apply le_ii | with_reducible apply gt_ii | with_reducible apply ge_ii | with_reducible apply eq_ii | with_reducible apply ne_ii | with_reducible apply eq_ss | with_reducible exact add_ii | with_reducible exact sub_ii | with_reducible exact neg_i | with_reducible apply mul_ii | exact okMul_small (by omega) (by omega) | exact mod_ii (by omega) | exact fdiv_ii (by omega) (by omega) | exact mod_ni (by omega) | exact fdiv_ni (by omega) (by omega) | exact pow_ii (by omega) (by omega) (by omega) | with_reducible apply ix_tup | with_reducible apply ix_lst | (simp only [List.set_cons_succ, List.set_cons_zero]; rfl) | exact rfl | exact h3 | exact e1)))
      (apply ev_seq; case' ha => ((first | with_reducible apply ev_set | with_reducible apply ev_par | with_reducible apply ev_par3 | with_reducible apply ev_asg | with_reducible apply ev_ex | with_reducible apply ev_ret | with_reducible exact ev_sNil | (with_reducible apply ev_aug; exact rfl)) <;> (repeat' first | (with_reducible apply ev_var; exact rfl) | with_reducible exact ev_K | with_reducible exact g13 | with_reducible exact ev_aNil | with_reducible exact ev_oNo | with_reducible exact ev_tAll | with_reducible exact ev_gsN | with_reducible apply ev_aCons | with_reducible apply ev_d2 | with_reducible apply ev_d1 | with_reducible apply ev_dN | with_reducible apply ev_dCall | with_reducible apply ev_dTup | with_reducible apply ev_dLst | with_reducible apply ev_dLoc | with_reducible apply ev_sl | with_reducible apply ev_oSo | with_reducible apply ev_ch2b | with_reducible apply ev_ch3b | with_reducible apply ev_tB | with_reducible apply ev_tTru | with_reducible apply ev_tNo | with_reducible apply ev_no | with_reducible apply ev_dML | with_reducible apply ev_gTu | with_reducible apply ev_gsC | with_reducible apply ev_gSb | with_reducible apply ev_gNm | (simp only [List.length_cons, List.length_nil]; exact len_le (by decide)) | exact decide_eq_true (by omega) | exact decide_eq_false (by omega) | exact ne_t (by omega) | exact ne_f (by omega) | with_reducible apply lt_ii | with_reducible apply le_ii | with_reducible apply gt_ii | with_reducible apply ge_ii | with_reducible apply eq_ii | with_reducible apply ne_ii | with_reducible apply eq_ss | with_reducible exact add_ii | with_reducible exact sub_ii | with_reducible exact neg_i | with_reducible apply mul_ii | exact okMul_small (by omega) (by omega) | exact mod_ii (by omega) | exact fdiv_ii (by omega) (by omega) | exact mod_ni (by omega) | exact fdiv_ni (by omega) (by omega) | exact pow_ii (by omega) (by omega) (by omega) | with_reducible apply ix_tup | with_reducible apply ix_lst | (simp only [List.set_cons_succ, List.set_cons_zero]; rfl) | exact rfl | exact g13)))
      apply ev_seq
      case hb => exact hr
      (apply ev_sIf_t; case' hc => (repeat' first | (with_reducible apply ev_var; exact rfl) | with_reducible exact ev_K | with_reducible exact g10 | with_reducible exact g11 | with_reducible exact hlt | with_reducible exact lenL | with_reducible exact ev_aNil | with_reducible exact ev_oNo | with_reducible exact ev_tAll | with_reducible exact ev_gsN | with_reducible apply ev_aCons | with_reducible apply ev_d2 | with_reducible apply ev_d1 | with_reducible apply ev_dN | with_reducible apply ev_dCall | with_reducible apply ev_dTup | with_reducible apply ev_dLst | with_reducible apply ev_dLoc | with_reducible apply ev_sl | with_reducible apply ev_oSo | with_reducible apply ev_ch2b | with_reducible apply ev_ch3b | with_reducible apply ev_tB | with_reducible apply ev_tTru | with_reducible apply ev_tNo | with_reducible apply ev_no | with_reducible apply ev_dML | with_reducible apply ev_gTu | with_reducible apply ev_gsC | with_reducible apply ev_gSb | with_reducible apply ev_gNm | (simp only [List.length_cons, List.length_nil]; exact len_le (by decide)) | exact decide_eq_true (by omega) | exact decide_eq_false (by omega) | exact ne_t (by omega) | exact ne_f (by omega) | with_reducible apply lt_ii | with_reducible apply le_ii | with_reducible apply gt_ii | with_reducible apply ge_ii | with_reducible apply eq_ii | with_reducible apply ne_ii | with_reducible apply eq_ss | with_reducible exact add_ii | with_reducible exact sub_ii | with_reducible exact neg_i | with_reducible apply mul_ii | exact okMul_small (by omega) (by omega) | exact mod_ii (by omega) | exact fdiv_ii (by omega) (by omega) | exact mod_ni (by omega) | exact fdiv_ni (by omega) (by omega) | exact pow_ii (by omega) (by omega) (by omega) | with_reducible apply ix_tup | with_reducible apply ix_lst | (simp only [List.set_cons_succ, List.set_cons_zero]; rfl) | exact rfl | exact g10 | exact g11 | exact hlt | exact lenL))
      (apply ev_seq; case' ha => ((first | with_reducible apply ev_set | with_reducible apply ev_par | with_reducible apply ev_par3 | with_reducible apply ev_asg | with_reducible apply ev_ex | with_reducible apply ev_ret | with_reducible exact ev_sNil | (with_reducible apply ev_aug; exact rfl)) <;> (repeat' first | (with_reducible apply ev_var; exact rfl) | with_reducible exact ev_K | with_reducible exact g10 | with_reducible exact g11 | with_reducible exact g1z | with_reducible exact hmax | with_reducible exact ev_aNil | with_reducible exact ev_oNo | with_reducible exact ev_tAll | with_reducible exact ev_gsN | with_reducible apply ev_aCons | with_reducible apply ev_d2 | with_reducible apply ev_d1 | with_reducible apply ev_dN | with_reducible apply ev_dCall | with_reducible apply ev_dTup | with_reducible apply ev_dLst | with_reducible apply ev_dLoc | with_reducible apply ev_sl | with_reducible apply ev_oSo | with_reducible apply ev_ch2b | with_reducible apply ev_ch3b | with_reducible apply ev_tB | with_reducible apply ev_tTru | with_reducible apply ev_tNo | with_reducible apply ev_no | with_reducible apply ev_dML | with_reducible apply ev_gTu | with_reducible apply ev_gsC | with_reducible apply ev_gSb | with_reducible apply ev_gNm | (simp only [List.length_cons, List.length_nil]; exact len_le (by decide)) | exact decide_eq_true (by omega) | exact decide_eq_false (by omega) | exact ne_t (by omega) | exact ne_f (by omega) | with_reducible apply lt_ii | with_reducible apply le_ii | with_reducible apply gt_ii | with_reducible apply ge_ii | with_reducible apply eq_ii | with_reducible apply ne_ii | with_reducible apply eq_ss | with_reducible exact add_ii | with_reducible exact sub_ii | with_reducible exact neg_i | with_reducible apply mul_ii | exact okMul_small (by omega) (by omega) | exact mod_ii (by omega) | exact fdiv_ii (by omega) (by omega) | exact mod_ni (by omega) | exact fdiv_ni (by omega) (by omega) | exact pow_ii (by omega) (by omega) (by omega) | with_reducible apply ix_tup | with_reducible apply ix_lst | (simp only [List.set_cons_succ, List.set_cons_zero]; rfl) | exact rfl | exact g10 | exact g11 | exact g1z | exact hmax)))
      (apply ev_seq; case' ha => ((first | with_reducible apply ev_set | with_reducible apply ev_par | with_reducible apply ev_par3 | with_reducible apply ev_asg | with_reducible apply ev_ex | with_reducible apply ev_ret | with_reducible exact ev_sNil | (with_reducible apply ev_aug; exact rfl)) <;> (repeat' first | (with_reducible apply ev_var; exact rfl) | with_reducible exact ev_K | with_reducible exact g11 | with_reducible exact e2 | with_reducible exact ev_aNil | with_reducible exact ev_oNo | with_reducible exact ev_tAll | with_reducible exact ev_gsN | with_reducible apply ev_aCons | with_reducible apply ev_d2 | with_reducible apply ev_d1 | with_reducible apply ev_dN | with_reducible apply ev_dCall | with_reducible apply ev_dTup | with_reducible apply ev_dLst | with_reducible apply ev_dLoc | with_reducible apply ev_sl | with_reducible apply ev_oSo | with_reducible apply ev_ch2b | with_reducible apply ev_ch3b | with_reducible apply ev_tB | with_reducible apply ev_tTru | with_reducible apply ev_tNo | with_reducible apply ev_no | with_reducible apply ev_dML | with_reducible apply ev_gTu | with_reducible apply ev_gsC | with_reducible apply ev_gSb | with_reducible apply ev_gNm | (simp only [List.length_cons, List.length_nil]; exact len_le (by decide)) | exact decide_eq_true (by omega) | exact decide_eq_false (by omega) | exact ne_t (by omega) | exact ne_f (by omega) | with_reducible apply lt_ii | with_reducible apply le_ii | with_reducible apply gt_ii | with_reducible apply ge_ii | with_reducible apply eq_ii | with_reducible apply ne_ii | with_reducible apply eq_ss | with_reducible exact add_ii | with_reducible exact sub_ii | with_reducible exact neg_i | with_reducible apply mul_ii | exact okMul_small (by omega) (by omega) | exact mod_ii (by omega) | exact fdiv_ii (by omega) (by omega) | exact mod_ni (by omega) | exact fdiv_ni (by omega) (by omega) | exact pow_ii (by omega) (by omega) (by omega) | with_reducible apply ix_tup | with_reducible apply ix_lst | (simp only [List.set_cons_succ, List.set_cons_zero]; rfl) | exact rfl | exact g11 | exact e2)))
      apply ev_sIf_f
      case hc => (repeat' first | (with_reducible apply ev_var; exact rfl) | with_reducible exact ev_K | with_reducible exact decide_eq_false (by rw [hpow]; omega) | with_reducible exact ev_aNil | with_reducible exact ev_oNo | with_reducible exact ev_tAll | with_reducible exact ev_gsN | with_reducible apply ev_aCons | with_reducible apply ev_d2 | with_reducible apply ev_d1 | with_reducible apply ev_dN | with_reducible apply ev_dCall | with_reducible apply ev_dTup | with_reducible apply ev_dLst | with_reducible apply ev_dLoc | with_reducible apply ev_sl | with_reducible apply ev_oSo | with_reducible apply ev_ch2b | with_reducible apply ev_ch3b | with_reducible apply ev_tB | with_reducible apply ev_tTru | with_reducible apply ev_tNo | with_reducible apply ev_no | with_reducible apply ev_dML | with_reducible apply ev_gTu | with_reducible apply ev_gsC | with_reducible apply ev_gSb | with_reducible apply ev_gNm | (simp only [List.length_cons, List.length_nil]; exact len_le (by decide)) | exact decide_eq_true (by omega) | exact decide_eq_false (by omega) | exact ne_t (by omega) | exact ne_f (by omega) | with_reducible apply lt_ii | with_reducible apply le_ii | with_reducible apply gt_ii | with_reducible apply ge_ii | with_reducible apply eq_ii | with_reducible apply ne_ii | with_reducible apply eq_ss | with_reducible exact add_ii | with_reducible exact sub_ii | with_reducible exact neg_i | with_reducible apply mul_ii | exact okMul_small (by omega) (by omega) | exact mod_ii (by omega) | exact fdiv_ii (by omega) (by omega) | exact mod_ni (by omega) | exact fdiv_ni (by omega) (by omega) | exact pow_ii (by omega) (by omega) (by omega) | with_reducible apply ix_tup | with_reducible apply ix_lst | (simp only [List.set_cons_succ, List.set_cons_zero]; rfl) | exact rfl | exact decide_eq_false (by rw [hpow]; omega))
      exact ev_sNil
  · have hlt : decide (s1.i < ((s1.cells.map PV.int).length : Int)) = false := decide_eq_false (by rw [List.length_map]; exact hg)
    obtain ⟨r, hr⟩ := fillR_ok (k := s1.turn * 69621 + 12345) ok1 g1 (by omega)
    refine ⟨r, s1, ok1, ?_⟩
    (apply ev_seq; case' ha => ((first | with_reducible apply ev_set | with_reducible apply ev_par | with_reducible apply ev_par3 | with_reducible apply ev_asg | with_reducible apply ev_ex | with_reducible apply ev_ret | with_reducible exact ev_sNil | (with_reducible apply ev_aug; exact rfl)) <;> (repeat' first | (with_reducible apply ev_var; exact rfl) | with_reducible exact ev_K | with_reducible exact h3 | with_reducible exact e1 | with_reducible exact ev_aNil | with_reducible exact ev_oNo | with_reducible exact ev_tAll | with_reducible exact ev_gsN | with_reducible apply ev_aCons | with_reducible apply ev_d2 | with_reducible apply ev_d1 | with_reducible apply ev_dN | with_reducible apply ev_dCall | with_reducible apply ev_dTup | with_reducible apply ev_dLst | with_reducible apply ev_dLoc | with_reducible apply ev_sl | with_reducible apply ev_oSo | with_reducible apply ev_ch2b | with_reducible apply ev_ch3b | with_reducible apply ev_tB | with_reducible apply ev_tTru | with_reducible apply ev_tNo | with_reducible apply ev_no | with_reducible apply ev_dML | with_reducible apply ev_gTu | with_reducible apply ev_gsC | with_reducible apply ev_gSb | with_reducible apply ev_gNm | (simp only [List.length_cons, List.length_nil]; exact len_le (by decide)) | exact decide_eq_true (by omega) | exact decide_eq_false (by omega) | exact ne_t (by omega) | exact ne_f (by omega) | with_reducible apply lt_ii | with_reducible apply le_ii | with_reducible apply gt_ii | with_reducible apply ge_ii | with_reducible apply eq_ii | with_reducible apply ne_ii | with_reducible apply eq_ss | with_reducible exact add_ii | with_reducible exact sub_ii | with_reducible exact neg_i | with_reducible apply mul_ii | exact okMul_small (by omega) (by omega) | exact mod_ii (by omega) | exact fdiv_ii (by omega) (by omega) | exact mod_ni (by omega) | exact fdiv_ni (by omega) (by omega) | exact pow_ii (by omega) (by omega) (by omega) | with_reducible apply ix_tup | with_reducible apply ix_lst | (simp only [List.set_cons_succ, List.set_cons_zero]; rfl) | exact rfl | exact h3 | exact e1)))
    (apply ev_seq; case' ha => ((first | with_reducible apply ev_set | with_reducible apply ev_par | with_reducible apply ev_par3 | with_reducible apply ev_asg | with_reducible apply ev_ex | with_reducible apply ev_ret | with_reducible exact ev_sNil | (with_reducible apply ev_aug; exact rfl)) <;> (repeat' first | (with_reducible apply ev_var; exact rfl) | with_reducible exact ev_K | with_reducible exact g13 | with_reducible exact ev_aNil | with_reducible exact ev_oNo | with_reducible exact ev_tAll | with_reducible exact ev_gsN | with_reducible apply ev_aCons | with_reducible apply ev_d2 | with_reducible apply ev_d1 | with_reducible apply ev_dN | with_reducible apply ev_dCall | with_reducible apply ev_dTup | with_reducible apply ev_dLst | with_reducible apply ev_dLoc | with_reducible apply ev_sl | with_reducible apply ev_oSo | with_reducible apply ev_ch2b | with_reducible apply ev_ch3b | with_reducible apply ev_tB | with_reducible apply ev_tTru | with_reducible apply ev_tNo | with_reducible apply ev_no | with_reducible apply ev_dML | with_reducible apply ev_gTu | with_reducible apply ev_gsC | with_reducible apply ev_gSb | with_reducible apply ev_gNm | (simp only [List.length_cons, List.length_nil]; exact len_le (by decide)) | exact decide_eq_true (by omega) | exact decide_eq_false (by omega) | exact ne_t (by omega) | exact ne_f (by omega) | with_reducible apply lt_ii | with_reducible apply le_ii | with_reducible apply gt_ii | with_reducible apply ge_ii | with_reducible apply eq_ii | with_reducible apply ne_ii | with_reducible apply eq_ss | with_reducible exact add_ii | with_reducible exact sub_ii | with_reducible exact neg_i | with_reducible apply mul_ii | exact okMul_small (by omega) (by omega) | exact mod_ii (by omega) | exact fdiv_ii (by omega) (by omega) | exact mod_ni (by omega) | exact fdiv_ni (by omega) (by omega) | exact pow_ii (by omega) (by omega) (by omega) | with_reducible apply ix_tup | with_reducible apply ix_lst | (simp only [List.set_cons_succ, List.set_cons_zero]; rfl) | exact rfl | exact g13)))
    apply ev_seq
    case hb => exact hr
    (apply ev_sIf_f; case' hc => (repeat' first | (with_reducible apply ev_var; exact rfl) | with_reducible exact ev_K | with_reducible exact g10 | with_reducible exact g11 | with_reducible exact hlt | with_reducible exact lenL | with_reducible exact ev_aNil | with_reducible exact ev_oNo | with_reducible exact ev_tAll | with_reducible exact ev_gsN | with_reducible apply ev_aCons | with_reducible apply ev_d2 | with_reducible apply ev_d1 | with_reducible apply ev_dN | with_reducible apply ev_dCall | with_reducible apply ev_dTup | with_reducible apply ev_dLst | with_reducible apply ev_dLoc | with_reducible apply ev_sl | with_reducible apply ev_oSo | with_reducible apply ev_ch2b | with_reducible apply ev_ch3b | with_reducible apply ev_tB | with_reducible apply ev_tTru | with_reducible apply ev_tNo | with_reducible apply ev_no | with_reducible apply ev_dML | with_reducible apply ev_gTu | with_reducible apply ev_gsC | with_reducible apply ev_gSb | with_reducible apply ev_gNm | (simp only [List.length_cons, List.length_nil]; exact len_le (by decide)) | exact decide_eq_true (by omega) | exact decide_eq_false (by omega) | exact ne_t (by omega) | exact ne_f (by omega) | with_reducible apply lt_ii | with_reducible apply le_ii | with_reducible apply gt_ii | with_reducible apply ge_ii | with_reducible apply eq_ii | with_reducible apply ne_ii | with_reducible apply eq_ss | with_reducible exact add_ii | with_reducible exact sub_ii | with_reducible exact neg_i | with_reducible apply mul_ii | exact okMul_small (by omega) (by omega) | exact mod_ii (by omega) | exact fdiv_ii (by omega) (by omega) | exact mod_ni (by omega) | exact fdiv_ni (by omega) (by omega) | exact pow_ii (by omega) (by omega) (by omega) | with_reducible apply ix_tup | with_reducible apply ix_lst | (simp only [List.set_cons_succ, List.set_cons_zero]; rfl) | exact rfl | exact g10 | exact g11 | exact hlt | exact lenL))
    exact ev_sNil
/-! ### take -/
def FillOk (p : Fn) : Prop := ∀ (s : Dr) (n : Nat) (μ : Sto) (l : Nat), s.Ok (n + 1) → μ[l]? = some s.ob → ∃ (k : Int) (s' : Dr), s'.Ok n ∧ p [.loc l] μ = some (.int k, μ.set l s'.ob)
theorem fillOk1 : FillOk (runF 2 dFill) := fun s n μ l ok h => by
  obtain ⟨k, s', ok', e⟩ := fill_ok ok h
  exact ⟨k, s', ok', runF_rt rfl e⟩
theorem fillOk2 : FillOk (runF 2 dFill2) := fun s n μ l ok h => by
  obtain ⟨k, s', ok', e⟩ := fill2_ok ok h
  exact ⟨k, s', ok', runF_rt rfl e⟩
def dTake (p__law_fill : Fn) : DenS :=
  (sSeq (sIf (tB1 (d2 f_lt (d2 f_ix (cVar 0) (cK (.int 2))) (cVar 1))) (sAsg (dCall 1 p__law_fill (aCons (cVar 0) aNil)) (gSb (cVar 0) (cK (.int 2)))) sNil)
  (sSeq (sAsg (d2 f_mod (dN f_int (aCons (d2 f_ix (cVar 0) (cK (.int 2))) aNil)) (cVar 1)) (gNm 2))
  (sSeq (sAsg (d2 f_fdiv (d2 f_ix (cVar 0) (cK (.int 2))) (cVar 1)) (gSb (cVar 0) (cK (.int 2))))
  (sRet (cVar 2)))))
/-- what a drawing gives: some digit, the list in its place turned on -/
def TakeOk (p : Fn) : Prop := ∀ (s : Dr) (n : Nat) (μ : Sto) (l : Nat) (many : Int), s.Ok (n + 1) → μ[l]? = some s.ob → 0 < many → many < 2 ^ 99 → ∃ (d : Int) (s' : Dr), 0 ≤ d ∧ d < many ∧ s'.Ok n ∧ p [.loc l, .int many] μ = some (.int d, μ.set l s'.ob)
theorem takeOk {p : Fn} (hp : FillOk p) : TakeOk (runF 3 (dTake p)) := fun s n μ l many ok h hm hm2 => by
  have h2 := dr_ix2 h
  suffices hh : ∃ s1 : Dr, s1.Ok n ∧ sIf (tB1 (d2 f_lt (d2 f_ix (cVar 0) (cK (.int 2))) (cVar 1))) (sAsg (dCall 1 p (aCons (cVar 0) aNil)) (gSb (cVar 0) (cK (.int 2)))) sNil [some (.loc l), some (.int many), none] μ = some (.nx [some (.loc l), some (.int many), none] (μ.set l s1.ob)) by
    obtain ⟨s1, ok1, e⟩ := hh
    have g : (μ.set l s1.ob)[l]? = some s1.ob := dr_get h
    have g2 := dr_ix2 g
    let s2 : Dr := { s1 with acc := s1.acc / many }
    have e2 : f_set (.loc l) (.int 2) (.int (s1.acc / many)) (μ.set l s1.ob) = some (μ.set l s2.ob) := by
      have := dr_set2 (v := s1.acc / many) g
      rw [List.set_set] at this
      exact this
    refine ⟨s1.acc % many, s2, Int.emod_nonneg _ (by omega), Int.emod_lt_of_pos _ hm, ⟨ok1.i0, ok1.t0, ok1.tn, ok1.cl⟩, ?_⟩
    refine runF_rt (ρ := [some (.loc l), some (.int many), none]) rfl ?_
    apply ev_seq e
    (apply ev_seq; case' ha => ((first | with_reducible apply ev_set | with_reducible apply ev_par | with_reducible apply ev_par3 | with_reducible apply ev_asg | with_reducible apply ev_ex | with_reducible apply ev_ret | with_reducible exact ev_sNil | (with_reducible apply ev_aug; exact rfl)) <;> (repeat' first | (with_reducible apply ev_var; exact rfl) | with_reducible exact ev_K | with_reducible exact g2 | with_reducible exact ev_aNil | with_reducible exact ev_oNo | with_reducible exact ev_tAll | with_reducible exact ev_gsN | with_reducible apply ev_aCons | with_reducible apply ev_d2 | with_reducible apply ev_d1 | with_reducible apply ev_dN | with_reducible apply ev_dCall | with_reducible apply ev_dTup | with_reducible apply ev_dLst | with_reducible apply ev_dLoc | with_reducible apply ev_sl | with_reducible apply ev_oSo | with_reducible apply ev_ch2b | with_reducible apply ev_ch3b | with_reducible apply ev_tB | with_reducible apply ev_tTru | with_reducible apply ev_tNo | with_reducible apply ev_no | with_reducible apply ev_dML | with_reducible apply ev_gTu | with_reducible apply ev_gsC | with_reducible apply ev_gSb | with_reducible apply ev_gNm | (simp only [List.length_cons, List.length_nil]; exact len_le (by decide)) | exact decide_eq_true (by omega) | exact decide_eq_false (by omega) | exact ne_t (by omega) | exact ne_f (by omega) | with_reducible apply lt_ii | with_reducible apply le_ii | with_reducible apply gt_ii | with_reducible apply ge_ii | with_reducible apply eq_ii | with_reducible apply ne_ii | with_reducible apply eq_ss | with_reducible exact add_ii | with_reducible exact sub_ii | with_reducible exact neg_i | with_reducible apply mul_ii | exact okMul_small (by omega) (by omega) | exact mod_ii (by omega) | exact fdiv_ii (by omega) (by omega) | exact mod_ni (by omega) | exact fdiv_ni (by omega) (by omega) | exact pow_ii (by omega) (by omega) (by omega) | with_reducible apply ix_tup | with_reducible apply ix_lst | (simp only [List.set_cons_succ, List.set_cons_zero]; rfl) | exact rfl | exact g2)))
    (apply ev_seq; case' ha => ((first | with_reducible apply ev_set | with_reducible apply ev_par | with_reducible apply ev_par3 | with_reducible apply ev_asg | with_reducible apply ev_ex | with_reducible apply ev_ret | with_reducible exact ev_sNil | (with_reducible apply ev_aug; exact rfl)) <;> (repeat' first | (with_reducible apply ev_var; exact rfl) | with_reducible exact ev_K | with_reducible exact g2 | with_reducible exact e2 | with_reducible exact ev_aNil | with_reducible exact ev_oNo | with_reducible exact ev_tAll | with_reducible exact ev_gsN | with_reducible apply ev_aCons | with_reducible apply ev_d2 | with_reducible apply ev_d1 | with_reducible apply ev_dN | with_reducible apply ev_dCall | with_reducible apply ev_dTup | with_reducible apply ev_dLst | with_reducible apply ev_dLoc | with_reducible apply ev_sl | with_reducible apply ev_oSo | with_reducible apply ev_ch2b | with_reducible apply ev_ch3b | with_reducible apply ev_tB | with_reducible apply ev_tTru | with_reducible apply ev_tNo | with_reducible apply ev_no | with_reducible apply ev_dML | with_reducible apply ev_gTu | with_reducible apply ev_gsC | with_reducible apply ev_gSb | with_reducible apply ev_gNm | (simp only [List.length_cons, List.length_nil]; exact len_le (by decide)) | exact decide_eq_true (by omega) | exact decide_eq_false (by omega) | exact ne_t (by omega) | exact ne_f (by omega) | with_reducible apply lt_ii | with_reducible apply le_ii | with_reducible apply gt_ii | with_reducible apply ge_ii | with_reducible apply eq_ii | with_reducible apply ne_ii | with_reducible apply eq_ss | with_reducible exact add_ii | with_reducible exact sub_ii | with_reducible exact neg_i | with_reducible apply mul_ii | exact okMul_small (by omega) (by omega) | exact mod_ii (by omega) | exact fdiv_ii (by omega) (by omega) | exact mod_ni (by omega) | exact fdiv_ni (by omega) (by omega) | exact pow_ii (by omega) (by omega) (by omega) | with_reducible apply ix_tup | with_reducible apply ix_lst | (simp only [List.set_cons_succ, List.set_cons_zero]; rfl) | exact rfl | exact g2 | exact e2)))
    ((first | with_reducible apply ev_set | with_reducible apply ev_par | with_reducible apply ev_par3 | with_reducible apply ev_asg | with_reducible apply ev_ex | with_reducible apply ev_ret | with_reducible exact ev_sNil | (with_reducible apply ev_aug; exact rfl)) <;> (repeat' first | (with_reducible apply ev_var; exact rfl) | with_reducible exact ev_K | with_reducible exact ev_aNil | with_reducible exact ev_oNo | with_reducible exact ev_tAll | with_reducible exact ev_gsN | with_reducible apply ev_aCons | with_reducible apply ev_d2 | with_reducible apply ev_d1 | with_reducible apply ev_dN | with_reducible apply ev_dCall | with_reducible apply ev_dTup | with_reducible apply ev_dLst | with_reducible apply ev_dLoc | with_reducible apply ev_sl | with_reducible apply ev_oSo | with_reducible apply ev_ch2b | with_reducible apply ev_ch3b | with_reducible apply ev_tB | with_reducible apply ev_tTru | with_reducible apply ev_tNo | with_reducible apply ev_no | with_reducible apply ev_dML | with_reducible apply ev_gTu | with_reducible apply ev_gsC | with_reducible apply ev_gSb | with_reducible apply ev_gNm | (simp only [List.length_cons, List.length_nil]; exact len_le (by decide)) | exact decide_eq_true (by omega) | exact decide_eq_false (by omega) | exact ne_t (by omega) | exact ne_f (by omega) | with_reducible apply lt_ii | with_reducible apply le_ii | with_reducible apply gt_ii | with_reducible apply ge_ii | with_reducible apply eq_ii | with_reducible apply ne_ii | with_reducible apply eq_ss | with_reducible exact add_ii | with_reducible exact sub_ii | with_reducible exact neg_i | with_reducible apply mul_ii | exact okMul_small (by omega) (by omega) | exact mod_ii (by omega) | exact fdiv_ii (by omega) (by omega) | exact mod_ni (by omega) | exact fdiv_ni (by omega) (by omega) | exact pow_ii (by omega) (by omega) (by omega) | with_reducible apply ix_tup | with_reducible apply ix_lst | (simp only [List.set_cons_succ, List.set_cons_zero]; rfl) | exact rfl))
  by_cases hlt : s.acc < many
  · obtain ⟨k, s1, ok1, e⟩ := hp s n μ l ok h
    have g : (μ.set l s1.ob)[l]? = some s1.ob := dr_get h
    let s2 : Dr := { s1 with acc := k }
    have e2 : f_set (.loc l) (.int 2) (.int k) (μ.set l s1.ob) = some (μ.set l s2.ob) := by
      have := dr_set2 (v := k) g
      rw [List.set_set] at this
      exact this
    refine ⟨s2, ⟨ok1.i0, ok1.t0, ok1.tn, ok1.cl⟩, ?_⟩
    (apply ev_sIf_t; case' hc => (repeat' first | (with_reducible apply ev_var; exact rfl) | with_reducible exact ev_K | with_reducible exact h2 | with_reducible exact ev_aNil | with_reducible exact ev_oNo | with_reducible exact ev_tAll | with_reducible exact ev_gsN | with_reducible apply ev_aCons | with_reducible apply ev_d2 | with_reducible apply ev_d1 | with_reducible apply ev_dN | with_reducible apply ev_dCall | with_reducible apply ev_dTup | with_reducible apply ev_dLst | with_reducible apply ev_dLoc | with_reducible apply ev_sl | with_reducible apply ev_oSo | with_reducible apply ev_ch2b | with_reducible apply ev_ch3b | with_reducible apply ev_tB | with_reducible apply ev_tTru | with_reducible apply ev_tNo | with_reducible apply ev_no | with_reducible apply ev_dML | with_reducible apply ev_gTu | with_reducible apply ev_gsC | with_reducible apply ev_gSb | with_reducible apply ev_gNm | (simp only [List.length_cons, List.length_nil]; exact len_le (by decide)) | exact decide_eq_true (by omega) | exact decide_eq_false (by omega) | exact ne_t (by omega) | exact ne_f (by omega) | with_reducible apply lt_ii | with_reducible apply le_ii | with_reducible apply gt_ii | with_reducible apply ge_ii | with_reducible apply eq_ii | with_reducible apply ne_ii | with_reducible apply eq_ss | with_reducible exact add_ii | with_reducible exact sub_ii | with_reducible exact neg_i | with_reducible apply mul_ii | exact okMul_small (by omega) (by omega) | exact mod_ii (by omega) | exact fdiv_ii (by omega) (by omega) | exact mod_ni (by omega) | exact fdiv_ni (by omega) (by omega) | exact pow_ii (by omega) (by omega) (by omega) | with_reducible apply ix_tup | with_reducible apply ix_lst | (simp only [List.set_cons_succ, List.set_cons_zero]; rfl) | exact rfl | exact h2))
    ((first | with_reducible apply ev_set | with_reducible apply ev_par | with_reducible apply ev_par3 | with_reducible apply ev_asg | with_reducible apply ev_ex | with_reducible apply ev_ret | with_reducible exact ev_sNil | (with_reducible apply ev_aug; exact rfl)) <;> (repeat' first | (with_reducible apply ev_var; exact rfl) | with_reducible exact ev_K | with_reducible exact e | with_reducible exact e2 | with_reducible exact ev_aNil | with_reducible exact ev_oNo | with_reducible exact ev_tAll | with_reducible exact ev_gsN | with_reducible apply ev_aCons | with_reducible apply ev_d2 | with_reducible apply ev_d1 | with_reducible apply ev_dN | with_reducible apply ev_dCall | with_reducible apply ev_dTup | with_reducible apply ev_dLst | with_reducible apply ev_dLoc | with_reducible apply ev_sl | with_reducible apply ev_oSo | with_reducible apply ev_ch2b | with_reducible apply ev_ch3b | with_reducible apply ev_tB | with_reducible apply ev_tTru | with_reducible apply ev_tNo | with_reducible apply ev_no | with_reducible apply ev_dML | with_reducible apply ev_gTu | with_reducible apply ev_gsC | with_reducible apply ev_gSb | with_reducible apply ev_gNm | (simp only [List.length_cons, List.length_nil]; exact len_le (by decide)) | exact decide_eq_true (by omega) | exact decide_eq_false (by omega) | exact ne_t (by omega) | exact ne_f (by omega) | with_reducible apply lt_ii | with_reducible apply le_ii | with_reducible apply gt_ii | with_reducible apply ge_ii | with_reducible apply eq_ii | with_reducible apply ne_ii | with_reducible apply eq_ss | with_reducible exact add_ii | with_reducible exact sub_ii | with_reducible exact neg_i | with_reducible apply mul_ii | exact okMul_small (by omega) (by omega) | exact mod_ii (by omega) | exact fdiv_ii (by omega) (by omega) | exact mod_ni (by omega) | exact fdiv_ni (by omega) (by omega) | exact pow_ii (by omega) (by omega) (by omega) | with_reducible apply ix_tup | with_reducible apply ix_lst | (simp only [List.set_cons_succ, List.set_cons_zero]; rfl) | exact rfl | exact e | exact e2))
  · refine ⟨s, ok.le (by omega), ?_⟩
    have : μ.set l s.ob = μ := by
      apply List.ext_getElem?
      intro i
      by_cases hi : l = i
      · subst hi; rw [dr_get h, h]
      · rw [List.getElem?_set_ne hi]
    rw [this]
    (apply ev_sIf_f; case' hc => (repeat' first | (with_reducible apply ev_var; exact rfl) | with_reducible exact ev_K | with_reducible exact h2 | with_reducible exact ev_aNil | with_reducible exact ev_oNo | with_reducible exact ev_tAll | with_reducible exact ev_gsN | with_reducible apply ev_aCons | with_reducible apply ev_d2 | with_reducible apply ev_d1 | with_reducible apply ev_dN | with_reducible apply ev_dCall | with_reducible apply ev_dTup | with_reducible apply ev_dLst | with_reducible apply ev_dLoc | with_reducible apply ev_sl | with_reducible apply ev_oSo | with_reducible apply ev_ch2b | with_reducible apply ev_ch3b | with_reducible apply ev_tB | with_reducible apply ev_tTru | with_reducible apply ev_tNo | with_reducible apply ev_no | with_reducible apply ev_dML | with_reducible apply ev_gTu | with_reducible apply ev_gsC | with_reducible apply ev_gSb | with_reducible apply ev_gNm | (simp only [List.length_cons, List.length_nil]; exact len_le (by decide)) | exact decide_eq_true (by omega) | exact decide_eq_false (by omega) | exact ne_t (by omega) | exact ne_f (by omega) | with_reducible apply lt_ii | with_reducible apply le_ii | with_reducible apply gt_ii | with_reducible apply ge_ii | with_reducible apply eq_ii | with_reducible apply ne_ii | with_reducible apply eq_ss | with_reducible exact add_ii | with_reducible exact sub_ii | with_reducible exact neg_i | with_reducible apply mul_ii | exact okMul_small (by omega) (by omega) | exact mod_ii (by omega) | exact fdiv_ii (by omega) (by omega) | exact mod_ni (by omega) | exact fdiv_ni (by omega) (by omega) | exact pow_ii (by omega) (by omega) (by omega) | with_reducible apply ix_tup | with_reducible apply ix_lst | (simp only [List.set_cons_succ, List.set_cons_zero]; rfl) | exact rfl | exact h2))
    exact ev_sNil
/-! ### start -/
noncomputable def dStart : DenS :=
  (sRet (dLoc (aCons (dLc [1] (itSeq (dSl (cVar 0) oNo (oSo (cK (.int 63))))) (gNm 1) tAll (dN f_int (aCons (cVar 1) aNil))) (aCons (cK (.int 0)) (aCons (cK (.int 0)) (aCons (cK (.int 0)) (aCons (cK (.int 20)) aNil)))))))
theorem start_ok {ns : List Int} {μ : Sto} (hn : ns.length ≤ 63) : ∃ s : Dr, s.Ok (2 ^ 59) ∧ runF 2 dStart [.scr ns] μ = some (.loc μ.length, μ ++ [s.ob]) := by
  let cs : List Int := cutP ns none (some 63)
  have hc : cs.length ≤ 63 := by
    show (cutP ns none (some 63)).length ≤ 63
    unfold cutP
    rw [List.length_take, List.length_drop]
    omega
  have hit : itSeq (dSl (cVar 0) oNo (oSo (cK (.int 63)))) [some (.scr ns), none] μ = some ((cs.map PV.int, []), μ) := by
    apply it_lst
    (repeat' first | (with_reducible apply ev_var; exact rfl) | with_reducible exact ev_K | with_reducible exact ev_aNil | with_reducible exact ev_oNo | with_reducible exact ev_tAll | with_reducible exact ev_gsN | with_reducible apply ev_aCons | with_reducible apply ev_d2 | with_reducible apply ev_d1 | with_reducible apply ev_dN | with_reducible apply ev_dCall | with_reducible apply ev_dTup | with_reducible apply ev_dLst | with_reducible apply ev_dLoc | with_reducible apply ev_sl | with_reducible apply ev_oSo | with_reducible apply ev_ch2b | with_reducible apply ev_ch3b | with_reducible apply ev_tB | with_reducible apply ev_tTru | with_reducible apply ev_tNo | with_reducible apply ev_no | with_reducible apply ev_dML | with_reducible apply ev_gTu | with_reducible apply ev_gsC | with_reducible apply ev_gSb | with_reducible apply ev_gNm | (simp only [List.length_cons, List.length_nil]; exact len_le (by decide)) | exact decide_eq_true (by omega) | exact decide_eq_false (by omega) | exact ne_t (by omega) | exact ne_f (by omega) | with_reducible apply lt_ii | with_reducible apply le_ii | with_reducible apply gt_ii | with_reducible apply ge_ii | with_reducible apply eq_ii | with_reducible apply ne_ii | with_reducible apply eq_ss | with_reducible exact add_ii | with_reducible exact sub_ii | with_reducible exact neg_i | with_reducible apply mul_ii | exact okMul_small (by omega) (by omega) | exact mod_ii (by omega) | exact fdiv_ii (by omega) (by omega) | exact mod_ni (by omega) | exact fdiv_ni (by omega) (by omega) | exact pow_ii (by omega) (by omega) (by omega) | with_reducible apply ix_tup | with_reducible apply ix_lst | (simp only [List.set_cons_succ, List.set_cons_zero]; rfl) | exact rfl)
  have hl : dLc [1] (itSeq (dSl (cVar 0) oNo (oSo (cK (.int 63))))) (gNm 1) tAll (dN f_int (aCons (cVar 1) aNil)) [some (.scr ns), none] μ = some (.lst (cs.map PV.int), μ) := by
    refine ev_lc hit rfl ?_
    have := lc_all (ρ := wipeE [some (.scr ns), none] [1]) (μ := μ) (g := gNm 1) (t := tAll) (e := dN f_int (aCons (cVar 1) aNil)) (ch := []) (fun _ => true) id (cs.map PV.int) [] chk_nil (Nat.le_of_lt (small1000 (by rw [List.length_map]; show 0 + _ ≤ _; omega))) (fun x hx => by
      obtain ⟨i, _, rfl⟩ := List.mem_map.mp hx
      exact ⟨[some (.scr ns), some (.int i)], rfl, rfl, fun _ => rfl⟩)
    rw [this, List.filter_eq_self.mpr (fun _ _ => rfl), List.map_id, List.nil_append]
  refine ⟨⟨cs, 0, 0, 0⟩, ⟨Int.le_refl _, Int.le_refl _, by show (0 : Int) + ((2 ^ 59 : Nat) : Int) ≤ 2 ^ 60; decide, hc⟩, ?_⟩
  refine runF_rt (ρ := [some (.scr ns), none]) rfl ?_
  exact ev_ret (ev_dLoc (ev_aCons hl (ev_aCons ev_K (ev_aCons ev_K (ev_aCons ev_K (ev_aCons ev_K ev_aNil))))) (len_ok (n := 5) rfl (by decide)))
end Fd

/-! FdM: the laws' own helpers for papers: is_int, alike, spoilt, bent. -/
namespace Fd
open PySem PySem.Spec PyProof.Rows L2
theorem atI_some {α : Type} {xs : List α} {i : Int} (h0 : 0 ≤ i) (h : i < xs.length) : ∃ v ∈ xs, L2.atI xs i = some v := by
  obtain ⟨m, hm⟩ := Int.eq_ofNat_of_zero_le h0
  subst hm
  have hm : m < xs.length := by omega
  exact ⟨xs[m], List.getElem_mem hm, L2.atI_nat (by simp [hm])⟩
theorem set_back {μ : Sto} {l : Nat} {o : Ob} (h : μ[l]? = some o) : μ.set l o = μ := by
  apply List.ext_getElem?
  intro i
  by_cases hi : l = i
  · subst hi; rw [dr_get h, h]
  · rw [List.getElem?_set_ne hi]
/-! ### trees: no places of the store, at most n items each, at most d deep -/
mutual
def tre (n : Nat) : PV → Nat → Bool
  | .non, _ => true
  | .bl _, _ => true
  | .int i, _ => decide (i.natAbs < 2 ^ 58)
  | .str x, _ => PyData.strOk x
  | .tup xs, d => match d with
    | 0 => false
    | d + 1 => decide (xs.length ≤ n) && tres n xs d
  | .lst xs, d => match d with
    | 0 => false
    | d + 1 => decide (xs.length ≤ n) && tres n xs d
  | .loc _, _ => false
  | .scr _, _ => false
def tres (n : Nat) : List PV → Nat → Bool
  | [], _ => true
  | x :: xs, d => tre n x d && tres n xs d
end
theorem tres_iff {n d : Nat} : ∀ {xs : List PV}, tres n xs d = true ↔ ∀ x ∈ xs, tre n x d = true
  | [] => ⟨fun _ => (fun _ h => nomatch h), fun _ => rfl⟩
  | x :: xs => by
    show (tre n x d && tres n xs d) = true ↔ _
    rw [Bool.and_eq_true, tres_iff, List.forall_mem_cons]
theorem tre_tup {n d : Nat} {xs : List PV} : tre n (.tup xs) (d + 1) = true ↔ xs.length ≤ n ∧ ∀ x ∈ xs, tre n x d = true := by
  show (decide (xs.length ≤ n) && tres n xs d) = true ↔ _
  rw [Bool.and_eq_true, tres_iff, decide_eq_true_eq]
theorem tre_lst {n d : Nat} {xs : List PV} : tre n (.lst xs) (d + 1) = true ↔ xs.length ≤ n ∧ ∀ x ∈ xs, tre n x d = true := by
  show (decide (xs.length ≤ n) && tres n xs d) = true ↔ _
  rw [Bool.and_eq_true, tres_iff, decide_eq_true_eq]
mutual
theorem tre_mono {n m : Nat} (h : n ≤ m) : ∀ (x : PV) (d : Nat), tre n x d = true → tre m x d = true
  | .non, _, _ => rfl
  | .bl _, _, _ => rfl
  | .int _, _, q => q
  | .str x, _, q => q
  | .tup xs, 0, q => nomatch q
  | .lst xs, 0, q => nomatch q
  | .tup xs, d + 1, q => by
    have q : (decide (xs.length ≤ n) && tres n xs d) = true := q
    show (decide (xs.length ≤ m) && tres m xs d) = true
    rw [Bool.and_eq_true, decide_eq_true_eq] at q ⊢
    exact ⟨Nat.le_trans q.1 h, tres_mono h xs d q.2⟩
  | .lst xs, d + 1, q => by
    have q : (decide (xs.length ≤ n) && tres n xs d) = true := q
    show (decide (xs.length ≤ m) && tres m xs d) = true
    rw [Bool.and_eq_true, decide_eq_true_eq] at q ⊢
    exact ⟨Nat.le_trans q.1 h, tres_mono h xs d q.2⟩
  | .loc _, _, q => nomatch q
  | .scr _, _, q => nomatch q
theorem tres_mono {n m : Nat} (h : n ≤ m) : ∀ (xs : List PV) (d : Nat), tres n xs d = true → tres m xs d = true
  | [], _, _ => rfl
  | x :: xs, d, q => by
    have q : (tre n x d && tres n xs d) = true := q
    show (tre m x d && tres m xs d) = true
    rw [Bool.and_eq_true] at q ⊢
    exact ⟨tre_mono h x d q.1, tres_mono h xs d q.2⟩
end
mutual
theorem tre_pok {n : Nat} : ∀ (x : PV) (d : Nat), tre n x d = true → pok x d = true
  | .non, _, _ => rfl
  | .bl _, _, _ => rfl
  | .int _, _, _ => rfl
  | .str x, _, q => q
  | .tup xs, 0, q => nomatch q
  | .lst xs, 0, q => nomatch q
  | .tup xs, d + 1, q => by
    have q : (decide (xs.length ≤ n) && tres n xs d) = true := q
    rw [Bool.and_eq_true] at q
    exact tres_pok xs d q.2
  | .lst xs, d + 1, q => by
    have q : (decide (xs.length ≤ n) && tres n xs d) = true := q
    rw [Bool.and_eq_true] at q
    exact tres_pok xs d q.2
  | .loc _, _, q => nomatch q
  | .scr _, _, q => nomatch q
theorem tres_pok {n : Nat} : ∀ (xs : List PV) (d : Nat), tres n xs d = true → poks xs d = true
  | [], _, _ => rfl
  | x :: xs, d, q => by
    have q : (tre n x d && tres n xs d) = true := q
    show (pok x d && poks xs d) = true
    rw [Bool.and_eq_true] at q ⊢
    exact ⟨tre_pok x d q.1, tres_pok xs d q.2⟩
end
mutual
theorem tre_deep {n : Nat} : ∀ (x : PV) (d e : Nat), d ≤ e → tre n x d = true → tre n x e = true
  | .non, _, _, _, _ => rfl
  | .bl _, _, _, _, _ => rfl
  | .int _, _, _, _, q => q
  | .str x, _, _, _, q => q
  | .tup xs, 0, _, _, q => nomatch q
  | .lst xs, 0, _, _, q => nomatch q
  | .tup xs, d + 1, 0, h, _ => absurd h (by omega)
  | .lst xs, d + 1, 0, h, _ => absurd h (by omega)
  | .tup xs, d + 1, e + 1, h, q => by
    have q : (decide (xs.length ≤ n) && tres n xs d) = true := q
    show (decide (xs.length ≤ n) && tres n xs e) = true
    rw [Bool.and_eq_true] at q ⊢
    exact ⟨q.1, tres_deep xs d e (by omega) q.2⟩
  | .lst xs, d + 1, e + 1, h, q => by
    have q : (decide (xs.length ≤ n) && tres n xs d) = true := q
    show (decide (xs.length ≤ n) && tres n xs e) = true
    rw [Bool.and_eq_true] at q ⊢
    exact ⟨q.1, tres_deep xs d e (by omega) q.2⟩
  | .loc _, _, _, _, q => nomatch q
  | .scr _, _, _, _, q => nomatch q
theorem tres_deep {n : Nat} : ∀ (xs : List PV) (d e : Nat), d ≤ e → tres n xs d = true → tres n xs e = true
  | [], _, _, _, _ => rfl
  | x :: xs, d, e, h, q => by
    have q : (tre n x d && tres n xs d) = true := q
    show (tre n x e && tres n xs e) = true
    rw [Bool.and_eq_true] at q ⊢
    exact ⟨tre_deep x d e h q.1, tres_deep xs d e h q.2⟩
end
theorem tre_len {n d : Nat} {xs : List PV} (h : tre n (.tup xs) d = true) : xs.length ≤ n := by
  cases d with
  | zero => cases h
  | succ d => exact (tre_tup.mp h).1
theorem sz {n : Nat} (h : n ≤ 1000) : n ≤ sizeLine := Nat.le_of_lt (small1000 h)
theorem mem_cut {xs : List PV} {lo hi : Option Int} {x : PV} (h : x ∈ cutP xs lo hi) : x ∈ xs := List.mem_of_mem_drop (List.mem_of_mem_take h)
theorem len_cut {xs : List PV} {lo hi : Option Int} : (cutP xs lo hi).length ≤ xs.length := by
  unfold cutP; rw [List.length_take, List.length_drop]; omega
theorem tre_cut {n d : Nat} {xs : List PV} {lo hi : Option Int} (h : tre n (.tup xs) d = true) : tre n (.tup (cutP xs lo hi)) d = true := by
  cases d with
  | zero => cases h
  | succ d =>
    have h := tre_tup.mp h
    exact tre_tup.mpr ⟨Nat.le_trans len_cut h.1, fun x hx => h.2 x (mem_cut hx)⟩
theorem tre_app {n m d : Nat} {xs ys : List PV} (h : tre n (.tup xs) (d + 1) = true) (h2 : ∀ y ∈ ys, tre m y d = true) (hn : n ≤ m) (hl : xs.length + ys.length ≤ m) : tre m (.tup (xs ++ ys)) (d + 1) = true := by
  have h := tre_tup.mp (tre_mono hn _ _ h)
  refine tre_tup.mpr ⟨by rw [List.length_append]; exact hl, fun x hx => ?_⟩
  rcases List.mem_append.mp hx with q | q
  · exact h.2 x q
  · exact h2 x q
theorem add_tt {xs ys : List PV} {μ : Sto} (h : xs.length + ys.length ≤ 1000) : f_add (.tup xs) (.tup ys) μ = some (.tup (xs ++ ys), μ) := by
  show (if _ then _ else _) = _
  rw [if_pos (sz h)]
theorem sl_t {xs : List PV} {lo hi : Option Int} {μ : Sto} : f_sl lo hi (.tup xs) μ = some (.tup (cutP xs lo hi), μ) := rfl

theorem sif_true {c : DenT} {a b : DenS} {ρ : En} {μ μ1 : Sto} (h : c ρ μ = some (true, μ1)) : sIf c a b ρ μ = a ρ μ1 := by unfold sIf; rw [h]; rfl
/-! ### spoilt -/
noncomputable def dSpoilt (p__law_take : Fn) (p__law_spoilt : Fn) : DenS :=
  (sSeq (sIf (tTru (d1 (f_isi .str) (cVar 1))) (sRet (d2 f_ix (dLst (aCons (cK (.str (Str.ofString ""))) (aCons (cK (.str (Str.ofString "joined"))) (aCons (cK (.str (Str.ofString "apart"))) (aCons (cK (.str (Str.ofString "prime"))) (aCons (cK (.str (Str.ofString "factors"))) (aCons (cK (.str (Str.ofString "order"))) (aCons (cK (.str (Str.ofString "none"))) (aCons (cK (.str (Str.ofString "square"))) (aCons (cK (.str (Str.ofString "parts"))) (aCons (cK (.str (Str.ofString "same"))) (aCons (cK (.str (Str.ofString "norm"))) aNil)))))))))))) (dCall 2 p__law_take (aCons (cVar 0) (aCons (cK (.int 11)) aNil))))) sNil)
  (sSeq (sIf (tNo (tTru (d1 (f_isi .tuple) (cVar 1)))) (sRet (d2 f_ix (dLst (aCons (cK (.int 0)) (aCons (cK (.int 1)) (aCons (cK (.int 2)) (aCons (d1 f_neg (cK (.int 1))) (aCons (cK (.bl true)) (aCons (cK .non) (aCons (cK (.int 3)) aNil)))))))) (dCall 2 p__law_take (aCons (cVar 0) (aCons (cK (.int 7)) aNil))))) sNil)
  (sSeq (sIf (tOr' (tNo (tTru (cVar 1))) (tB1 (d2 f_eq (dCall 2 p__law_take (aCons (cVar 0) (aCons (cK (.int 5)) aNil))) (cK (.int 0))))) (sRet (d2 f_ix (dLst (aCons (dSl (cVar 1) (oSo (cK (.int 1))) oNo) (aCons (dSl (cVar 1) oNo (oSo (d1 f_neg (cK (.int 1))))) (aCons (d2 f_add (cVar 1) (dSl (cVar 1) (oSo (d1 f_neg (cK (.int 1)))) oNo)) (aCons (d2 f_rev (cVar 1) (d1 f_neg (cK (.int 1)))) (aCons (dN f_list (aCons (cVar 1) aNil)) (aCons (d2 f_add (cVar 1) (dTup (aCons (cK (.int 0)) aNil))) (aCons (dTup aNil) (aCons (dTup (aCons (cK (.int 1)) (aCons (cK (.int 0)) aNil))) aNil))))))))) (dCall 2 p__law_take (aCons (cVar 0) (aCons (cK (.int 8)) aNil))))) sNil)
  (sSeq (sAsg (dCall 2 p__law_take (aCons (cVar 0) (aCons (dN f_len (aCons (cVar 1) aNil)) aNil))) (gNm 2))
  (sRet (d2 f_add (d2 f_add (dSl (cVar 1) oNo (oSo (cVar 2))) (dTup (aCons (dCall 2 p__law_spoilt (aCons (cVar 0) (aCons (d2 f_ix (cVar 1) (cVar 2)) aNil))) aNil))) (dSl (cVar 1) (oSo (d2 f_add (cVar 2) (cK (.int 1)))) oNo)))))))
noncomputable def pSpoilt (pt : Fn) : Nat → Fn
  | 0 => fun _ _ => none
  | k + 1 => runF 3 (dSpoilt pt (pSpoilt pt k))
def cutStrs : List PV := [.str (Str.ofString ""), .str (Str.ofString "joined"), .str (Str.ofString "apart"), .str (Str.ofString "prime"), .str (Str.ofString "factors"), .str (Str.ofString "order"), .str (Str.ofString "none"), .str (Str.ofString "square"), .str (Str.ofString "parts"), .str (Str.ofString "same"), .str (Str.ofString "norm")]
theorem cutStrs_ok (n d : Nat) : ∀ x ∈ cutStrs, tre n x d = true := by
  rw [← tres_iff]
  simp only [cutStrs, tres, tre, Bool.and_true]
  decide +kernel
theorem spoilt_flat {pt : Fn} (ht : TakeOk pt) (j d n m : Nat) (x : PV) (s : Dr) (μ : Sto) (l : Nat) (hx : tre n x 0 = true) (ok : s.Ok (m + 1)) (h : μ[l]? = some s.ob) :
    ∃ (y : PV) (s' : Dr), tre (2 * n + 2) y d = true ∧ s'.Ok m ∧ pSpoilt pt (j + 1) [.loc l, x] μ = some (y, μ.set l s'.ob) := by
  have atom : tTru (d1 (f_isi .tuple) (cVar 1)) [some (.loc l), some x, none] μ = some (false, μ) → tTru (d1 (f_isi .str) (cVar 1)) [some (.loc l), some x, none] μ = some (false, μ) →
      ∃ (y : PV) (s' : Dr), tre (2 * n + 2) y d = true ∧ s'.Ok m ∧ pSpoilt pt (j + 1) [.loc l, x] μ = some (y, μ.set l s'.ob) := fun h1 h2 => by
    obtain ⟨k, s', k0, k1, ok', e⟩ := ht s m μ l 7 ok h (by decide) (by decide)
    obtain ⟨y, hy, ey⟩ := atI_some (xs := [PV.int 0, .int 1, .int 2, .int (-1), .bl true, .non, .int 3]) k0 k1
    refine ⟨y, s', ?_, ok'.le (by omega), ?_⟩
    · have : ∀ z ∈ [PV.int 0, .int 1, .int 2, .int (-1), .bl true, .non, .int 3], tre (2 * n + 2) z d = true := by rw [← tres_iff]; rfl
      exact this y hy
    · refine runF_rt (ρ := [some (.loc l), some x, none]) rfl ?_
      apply ev_seq
      case ha => exact ev_sIf_f h2 ev_sNil
      apply ev_seq_rt
      apply ev_sIf_t
      case hc => exact ev_tNo h1 rfl
      ((first | with_reducible apply ev_set | with_reducible apply ev_par | with_reducible apply ev_par3 | with_reducible apply ev_asg | with_reducible apply ev_ex | with_reducible apply ev_ret | with_reducible exact ev_sNil | (with_reducible apply ev_aug; exact rfl)) <;> (repeat' first | (with_reducible apply ev_var; exact rfl) | with_reducible exact ev_K | with_reducible exact e | with_reducible exact ey | with_reducible exact ev_aNil | with_reducible exact ev_oNo | with_reducible exact ev_tAll | with_reducible exact ev_gsN | with_reducible apply ev_aCons | with_reducible apply ev_d2 | with_reducible apply ev_d1 | with_reducible apply ev_dN | with_reducible apply ev_dCall | with_reducible apply ev_dTup | with_reducible apply ev_dLst | with_reducible apply ev_dLoc | with_reducible apply ev_sl | with_reducible apply ev_oSo | with_reducible apply ev_ch2b | with_reducible apply ev_ch3b | with_reducible apply ev_tB | with_reducible apply ev_tTru | with_reducible apply ev_tNo | with_reducible apply ev_no | with_reducible apply ev_dML | with_reducible apply ev_gTu | with_reducible apply ev_gsC | with_reducible apply ev_gSb | with_reducible apply ev_gNm | (simp only [List.length_cons, List.length_nil]; exact len_le (by decide)) | exact decide_eq_true (by omega) | exact decide_eq_false (by omega) | exact ne_t (by omega) | exact ne_f (by omega) | with_reducible apply lt_ii | with_reducible apply le_ii | with_reducible apply gt_ii | with_reducible apply ge_ii | with_reducible apply eq_ii | with_reducible apply ne_ii | with_reducible apply eq_ss | with_reducible exact add_ii | with_reducible exact sub_ii | with_reducible exact neg_i | with_reducible apply mul_ii | exact okMul_small (by omega) (by omega) | exact mod_ii (by omega) | exact fdiv_ii (by omega) (by omega) | exact mod_ni (by omega) | exact fdiv_ni (by omega) (by omega) | exact pow_ii (by omega) (by omega) (by omega) | with_reducible apply ix_tup | with_reducible apply ix_lst | (simp only [List.set_cons_succ, List.set_cons_zero]; rfl) | exact rfl | exact e | exact ey))
  cases x with
  | str z =>
    obtain ⟨k, s', k0, k1, ok', e⟩ := ht s m μ l 11 ok h (by decide) (by decide)
    obtain ⟨y, hy, ey⟩ := atI_some (xs := cutStrs) k0 k1
    refine ⟨y, s', cutStrs_ok _ _ y hy, ok'.le (by omega), ?_⟩
    refine runF_rt (ρ := [some (.loc l), some (.str z), none]) rfl ?_
    apply ev_seq_rt
    (apply ev_sIf_t; case' hc => (repeat' first | (with_reducible apply ev_var; exact rfl) | with_reducible exact ev_K | with_reducible exact ev_aNil | with_reducible exact ev_oNo | with_reducible exact ev_tAll | with_reducible exact ev_gsN | with_reducible apply ev_aCons | with_reducible apply ev_d2 | with_reducible apply ev_d1 | with_reducible apply ev_dN | with_reducible apply ev_dCall | with_reducible apply ev_dTup | with_reducible apply ev_dLst | with_reducible apply ev_dLoc | with_reducible apply ev_sl | with_reducible apply ev_oSo | with_reducible apply ev_ch2b | with_reducible apply ev_ch3b | with_reducible apply ev_tB | with_reducible apply ev_tTru | with_reducible apply ev_tNo | with_reducible apply ev_no | with_reducible apply ev_dML | with_reducible apply ev_gTu | with_reducible apply ev_gsC | with_reducible apply ev_gSb | with_reducible apply ev_gNm | (simp only [List.length_cons, List.length_nil]; exact len_le (by decide)) | exact decide_eq_true (by omega) | exact decide_eq_false (by omega) | exact ne_t (by omega) | exact ne_f (by omega) | with_reducible apply lt_ii | with_reducible apply le_ii | with_reducible apply gt_ii | with_reducible apply ge_ii | with_reducible apply eq_ii | with_reducible apply ne_ii | with_reducible apply eq_ss | with_reducible exact add_ii | with_reducible exact sub_ii | with_reducible exact neg_i | with_reducible apply mul_ii | exact okMul_small (by omega) (by omega) | exact mod_ii (by omega) | exact fdiv_ii (by omega) (by omega) | exact mod_ni (by omega) | exact fdiv_ni (by omega) (by omega) | exact pow_ii (by omega) (by omega) (by omega) | with_reducible apply ix_tup | with_reducible apply ix_lst | (simp only [List.set_cons_succ, List.set_cons_zero]; rfl) | exact rfl))
    ((first | with_reducible apply ev_set | with_reducible apply ev_par | with_reducible apply ev_par3 | with_reducible apply ev_asg | with_reducible apply ev_ex | with_reducible apply ev_ret | with_reducible exact ev_sNil | (with_reducible apply ev_aug; exact rfl)) <;> (repeat' first | (with_reducible apply ev_var; exact rfl) | with_reducible exact ev_K | with_reducible exact e | with_reducible exact ey | with_reducible exact ev_aNil | with_reducible exact ev_oNo | with_reducible exact ev_tAll | with_reducible exact ev_gsN | with_reducible apply ev_aCons | with_reducible apply ev_d2 | with_reducible apply ev_d1 | with_reducible apply ev_dN | with_reducible apply ev_dCall | with_reducible apply ev_dTup | with_reducible apply ev_dLst | with_reducible apply ev_dLoc | with_reducible apply ev_sl | with_reducible apply ev_oSo | with_reducible apply ev_ch2b | with_reducible apply ev_ch3b | with_reducible apply ev_tB | with_reducible apply ev_tTru | with_reducible apply ev_tNo | with_reducible apply ev_no | with_reducible apply ev_dML | with_reducible apply ev_gTu | with_reducible apply ev_gsC | with_reducible apply ev_gSb | with_reducible apply ev_gNm | (simp only [List.length_cons, List.length_nil]; exact len_le (by decide)) | exact decide_eq_true (by omega) | exact decide_eq_false (by omega) | exact ne_t (by omega) | exact ne_f (by omega) | with_reducible apply lt_ii | with_reducible apply le_ii | with_reducible apply gt_ii | with_reducible apply ge_ii | with_reducible apply eq_ii | with_reducible apply ne_ii | with_reducible apply eq_ss | with_reducible exact add_ii | with_reducible exact sub_ii | with_reducible exact neg_i | with_reducible apply mul_ii | exact okMul_small (by omega) (by omega) | exact mod_ii (by omega) | exact fdiv_ii (by omega) (by omega) | exact mod_ni (by omega) | exact fdiv_ni (by omega) (by omega) | exact pow_ii (by omega) (by omega) (by omega) | with_reducible apply ix_tup | with_reducible apply ix_lst | (simp only [List.set_cons_succ, List.set_cons_zero]; rfl) | exact rfl | exact e | exact ey))
  | non => exact atom rfl rfl
  | bl b => exact atom (by cases b <;> rfl) rfl
  | int i => exact atom rfl rfl
  | _ => cases hx
theorem spoilt_ok {pt : Fn} (ht : TakeOk pt) : ∀ (d n m : Nat) (x : PV) (s : Dr) (μ : Sto) (l : Nat), tre n x d = true → n ≤ 300 → s.Ok (m + (2 * d + 2)) → μ[l]? = some s.ob →
    ∃ (y : PV) (s' : Dr), tre (2 * n + 2) y d = true ∧ s'.Ok m ∧ pSpoilt pt (d + 1) [.loc l, x] μ = some (y, μ.set l s'.ob) := by
  intro d
  induction d with
  | zero =>
    intro n m x s μ l hx hn ok h
    exact spoilt_flat ht 0 0 n m x s μ l hx (ok.le (by omega)) h
  | succ d ih =>
    intro n m x s μ l hx hn ok h
    cases x with
    | tup xs =>
      have hl : xs.length ≤ n := tre_len hx
      have hx' := (tre_tup.mp hx).2
      -- the row of eight
      have pick : ∀ (s1 : Dr) (hd : sIf (tOr' (tNo (tTru (cVar 1))) (tB1 (d2 f_eq (dCall 2 pt (aCons (cVar 0) (aCons (cK (.int 5)) aNil))) (cK (.int 0))))) (sRet (d2 f_ix (dLst (aCons (dSl (cVar 1) (oSo (cK (.int 1))) oNo) (aCons (dSl (cVar 1) oNo (oSo (d1 f_neg (cK (.int 1))))) (aCons (d2 f_add (cVar 1) (dSl (cVar 1) (oSo (d1 f_neg (cK (.int 1)))) oNo)) (aCons (d2 f_rev (cVar 1) (d1 f_neg (cK (.int 1)))) (aCons (dN f_list (aCons (cVar 1) aNil)) (aCons (d2 f_add (cVar 1) (dTup (aCons (cK (.int 0)) aNil))) (aCons (dTup aNil) (aCons (dTup (aCons (cK (.int 1)) (aCons (cK (.int 0)) aNil))) aNil))))))))) (dCall 2 pt (aCons (cVar 0) (aCons (cK (.int 8)) aNil))))) sNil [some (.loc l), some (.tup xs), none] μ = 
            (sRet (d2 f_ix (dLst (aCons (dSl (cVar 1) (oSo (cK (.int 1))) oNo) (aCons (dSl (cVar 1) oNo (oSo (d1 f_neg (cK (.int 1))))) (aCons (d2 f_add (cVar 1) (dSl (cVar 1) (oSo (d1 f_neg (cK (.int 1)))) oNo)) (aCons (d2 f_rev (cVar 1) (d1 f_neg (cK (.int 1)))) (aCons (dN f_list (aCons (cVar 1) aNil)) (aCons (d2 f_add (cVar 1) (dTup (aCons (cK (.int 0)) aNil))) (aCons (dTup aNil) (aCons (dTup (aCons (cK (.int 1)) (aCons (cK (.int 0)) aNil))) aNil))))))))) (dCall 2 pt (aCons (cVar 0) (aCons (cK (.int 8)) aNil))))) [some (.loc l), some (.tup xs), none] (μ.set l s1.ob)),
          s1.Ok (m + 1) → ∃ (y : PV) (s' : Dr), tre (2 * n + 2) y (d + 1) = true ∧ s'.Ok m ∧ pSpoilt pt (d + 1 + 1) [.loc l, .tup xs] μ = some (y, μ.set l s'.ob) := fun s1 hd ok1 => by
        have g1 : (μ.set l s1.ob)[l]? = some s1.ob := dr_get h
        obtain ⟨k, s', k0, k1, ok', e⟩ := ht s1 m (μ.set l s1.ob) l 8 ok1 g1 (by decide) (by decide)
        rw [List.set_set] at e
        let ys : List PV := [.tup (cutP xs (some 1) none), .tup (cutP xs none (some (-1))), .tup (xs ++ cutP xs (some (-1)) none), .tup xs.reverse, .lst xs, .tup (xs ++ [.int 0]), .tup [], .tup [.int 1, .int 0]]
        have hlc : (cutP xs (some (-1)) none).length ≤ n := Nat.le_trans len_cut hl
        obtain ⟨y, hy, ey⟩ := atI_some (xs := ys) k0 k1
        have hm : n ≤ 2 * n + 2 := by omega
        have e5 : f_add (.tup xs) (.tup (cutP xs (some (-1)) none)) (μ.set l s1.ob) = some (.tup (xs ++ cutP xs (some (-1)) none), μ.set l s1.ob) := add_tt (by omega)
        have e6 : f_add (.tup xs) (.tup [.int 0]) (μ.set l s1.ob) = some (.tup (xs ++ [.int 0]), μ.set l s1.ob) := add_tt (by simp only [List.length_cons, List.length_nil]; omega)
        have all : ∀ z ∈ ys, tre (2 * n + 2) z (d + 1) = true := by
          intro z hz
          simp only [ys, List.mem_cons, List.not_mem_nil, or_false] at hz
          rcases hz with rfl | rfl | rfl | rfl | rfl | rfl | rfl | rfl
          · exact tre_mono hm _ _ (tre_cut hx)
          · exact tre_mono hm _ _ (tre_cut hx)
          · exact tre_app hx (fun y hy => tre_mono hm _ _ (hx' y (mem_cut hy))) hm (by omega)
          · exact tre_mono hm _ _ (tre_tup.mpr ⟨by rw [List.length_reverse]; exact hl, fun x q => hx' x (List.mem_reverse.mp q)⟩)
          · exact tre_mono hm _ _ (tre_lst.mpr ⟨hl, hx'⟩)
          · refine tre_app hx (fun y hy => ?_) hm (by simp only [List.length_cons, List.length_nil]; omega)
            simp only [List.mem_cons, List.not_mem_nil, or_false] at hy
            subst hy
            rfl
          · exact tre_tup.mpr ⟨Nat.zero_le _, fun _ q => nomatch q⟩
          · refine tre_tup.mpr ⟨by show 2 ≤ _; omega, fun y hy => ?_⟩
            simp only [List.mem_cons, List.not_mem_nil, or_false] at hy
            rcases hy with rfl | rfl <;> rfl
        refine ⟨y, s', all y hy, ok', ?_⟩
        refine runF_rt (ρ := [some (.loc l), some (.tup xs), none]) rfl ?_
        apply ev_seq
        case ha => exact ev_sIf_f (ev_tTru (b := false) rfl rfl) ev_sNil
        apply ev_seq
        case ha => exact ev_sIf_f (ev_tNo (b := true) (ev_tTru (b := true) rfl rfl) rfl) ev_sNil
        apply ev_seq_rt
        rw [hd]
        ((first | with_reducible apply ev_set | with_reducible apply ev_par | with_reducible apply ev_par3 | with_reducible apply ev_asg | with_reducible apply ev_ex | with_reducible apply ev_ret | with_reducible exact ev_sNil | (with_reducible apply ev_aug; exact rfl)) <;> (repeat' first | (with_reducible apply ev_var; exact rfl) | with_reducible exact ev_K | with_reducible exact e | with_reducible exact ey | with_reducible exact e5 | with_reducible exact e6 | with_reducible exact ev_aNil | with_reducible exact ev_oNo | with_reducible exact ev_tAll | with_reducible exact ev_gsN | with_reducible apply ev_aCons | with_reducible apply ev_d2 | with_reducible apply ev_d1 | with_reducible apply ev_dN | with_reducible apply ev_dCall | with_reducible apply ev_dTup | with_reducible apply ev_dLst | with_reducible apply ev_dLoc | with_reducible apply ev_sl | with_reducible apply ev_oSo | with_reducible apply ev_ch2b | with_reducible apply ev_ch3b | with_reducible apply ev_tB | with_reducible apply ev_tTru | with_reducible apply ev_tNo | with_reducible apply ev_no | with_reducible apply ev_dML | with_reducible apply ev_gTu | with_reducible apply ev_gsC | with_reducible apply ev_gSb | with_reducible apply ev_gNm | (simp only [List.length_cons, List.length_nil]; exact len_le (by decide)) | exact decide_eq_true (by omega) | exact decide_eq_false (by omega) | exact ne_t (by omega) | exact ne_f (by omega) | with_reducible apply lt_ii | with_reducible apply le_ii | with_reducible apply gt_ii | with_reducible apply ge_ii | with_reducible apply eq_ii | with_reducible apply ne_ii | with_reducible apply eq_ss | with_reducible exact add_ii | with_reducible exact sub_ii | with_reducible exact neg_i | with_reducible apply mul_ii | exact okMul_small (by omega) (by omega) | exact mod_ii (by omega) | exact fdiv_ii (by omega) (by omega) | exact mod_ni (by omega) | exact fdiv_ni (by omega) (by omega) | exact pow_ii (by omega) (by omega) (by omega) | with_reducible apply ix_tup | with_reducible apply ix_lst | (simp only [List.set_cons_succ, List.set_cons_zero]; rfl) | exact rfl | exact e | exact ey | exact e5 | exact e6))
      by_cases hz : xs = []
      · refine pick s ?_ (ok.le (by omega))
        rw [set_back h]
        exact sif_true (ev_tOr_t (ev_tNo (b := false) (ev_tTru (b := false) rfl (by subst hz; rfl)) rfl))
      · have hb : (!xs.isEmpty) = true := by
          cases e : xs with
          | nil => exact absurd e hz
          | cons a r => rfl
        obtain ⟨k5, s5, k50, k51, ok5, e5⟩ := ht s (m + 1 + (2 * d + 2)) μ l 5 (ok.le (by omega)) h (by decide) (by decide)
        have g5 : (μ.set l s5.ob)[l]? = some s5.ob := dr_get h
        have test : ∀ b, decide (k5 = 0) = b → tOr' (tNo (tTru (cVar 1))) (tB1 (d2 f_eq (dCall 2 pt (aCons (cVar 0) (aCons (cK (.int 5)) aNil))) (cK (.int 0)))) [some (.loc l), some (.tup xs), none] μ = some (b, μ.set l s5.ob) := fun b hb' => by
          apply ev_tOr_f
          case h => exact ev_tNo (b := true) (ev_tTru (b := true) rfl (by show some (!xs.isEmpty) = _; rw [hb])) rfl
          (repeat' first | (with_reducible apply ev_var; exact rfl) | with_reducible exact ev_K | with_reducible exact e5 | with_reducible exact hb' | with_reducible exact ev_aNil | with_reducible exact ev_oNo | with_reducible exact ev_tAll | with_reducible exact ev_gsN | with_reducible apply ev_aCons | with_reducible apply ev_d2 | with_reducible apply ev_d1 | with_reducible apply ev_dN | with_reducible apply ev_dCall | with_reducible apply ev_dTup | with_reducible apply ev_dLst | with_reducible apply ev_dLoc | with_reducible apply ev_sl | with_reducible apply ev_oSo | with_reducible apply ev_ch2b | with_reducible apply ev_ch3b | with_reducible apply ev_tB | with_reducible apply ev_tTru | with_reducible apply ev_tNo | with_reducible apply ev_no | with_reducible apply ev_dML | with_reducible apply ev_gTu | with_reducible apply ev_gsC | with_reducible apply ev_gSb | with_reducible apply ev_gNm | (simp only [List.length_cons, List.length_nil]; exact len_le (by decide)) | exact decide_eq_true (by omega) | exact decide_eq_false (by omega) | exact ne_t (by omega) | exact ne_f (by omega) | with_reducible apply lt_ii | with_reducible apply le_ii | with_reducible apply gt_ii | with_reducible apply ge_ii | with_reducible apply eq_ii | with_reducible apply ne_ii | with_reducible apply eq_ss | with_reducible exact add_ii | with_reducible exact sub_ii | with_reducible exact neg_i | with_reducible apply mul_ii | exact okMul_small (by omega) (by omega) | exact mod_ii (by omega) | exact fdiv_ii (by omega) (by omega) | exact mod_ni (by omega) | exact fdiv_ni (by omega) (by omega) | exact pow_ii (by omega) (by omega) (by omega) | with_reducible apply ix_tup | with_reducible apply ix_lst | (simp only [List.set_cons_succ, List.set_cons_zero]; rfl) | exact rfl | exact e5 | exact hb')
        by_cases h5 : k5 = 0
        · refine pick s5 ?_ (ok5.le (by omega))
          exact sif_true (test true (decide_eq_true h5))
        · have hp : 0 < xs.length := List.length_pos_iff.mpr hz
          obtain ⟨k, s6, k0, k1, ok6, e6⟩ := ht s5 (m + (2 * d + 2)) (μ.set l s5.ob) l xs.length (ok5.le (by omega)) g5 (by omega) (by omega)
          rw [List.set_set] at e6
          have g6 : (μ.set l s6.ob)[l]? = some s6.ob := dr_get h
          obtain ⟨z, hzm, ez⟩ := atI_some (xs := xs) k0 k1
          obtain ⟨y, s7, ty, ok7, e7⟩ := ih n m z s6 (μ.set l s6.ob) l (hx' z hzm) hn ok6 g6
          rw [List.set_set] at e7
          refine ⟨.tup (cutP xs none (some k) ++ [y] ++ cutP xs (some (k + 1)) none), s7, ?_, ok7, ?_⟩
          · have l1 : (cutP xs none (some k)).length ≤ n := Nat.le_trans len_cut hl
            have l2 : (cutP xs (some (k + 1)) none).length + (cutP xs none (some k)).length ≤ xs.length := by
              unfold cutP
              rw [List.length_take, List.length_take, List.length_drop, List.length_drop]
              have : HT.sIx xs.length xs.length (some k) ≤ HT.sIx xs.length 0 (some (k + 1)) := by
                unfold HT.sIx
                simp only
                split <;> split <;> omega
              have e0 : HT.sIx xs.length 0 none = 0 := rfl
              omega
            refine tre_tup.mpr ⟨by rw [List.length_append, List.length_append]; simp only [List.length_cons, List.length_nil]; omega, fun w hw => ?_⟩
            have hm : n ≤ 2 * n + 2 := by omega
            rcases List.mem_append.mp hw with q | q
            · rcases List.mem_append.mp q with q | q
              · exact tre_mono hm _ _ (hx' w (mem_cut q))
              · rw [List.mem_singleton.mp q]; exact ty
            · exact tre_mono hm _ _ (hx' w (mem_cut q))
          · have l1 : (cutP xs none (some k)).length ≤ n := Nat.le_trans len_cut hl
            have l3 : (cutP xs (some (k + 1)) none).length ≤ n := Nat.le_trans len_cut hl
            have a1 : f_add (.tup (cutP xs none (some k))) (.tup [y]) (μ.set l s7.ob) = some (.tup (cutP xs none (some k) ++ [y]), μ.set l s7.ob) := add_tt (by simp only [List.length_cons, List.length_nil]; omega)
            have a2 : f_add (.tup (cutP xs none (some k) ++ [y])) (.tup (cutP xs (some (k + 1)) none)) (μ.set l s7.ob) = some (.tup (cutP xs none (some k) ++ [y] ++ cutP xs (some (k + 1)) none), μ.set l s7.ob) := add_tt (by rw [List.length_append]; simp only [List.length_cons, List.length_nil]; omega)
            refine runF_rt (ρ := [some (.loc l), some (.tup xs), none]) rfl ?_
            apply ev_seq
            case ha => exact ev_sIf_f (ev_tTru (b := false) rfl rfl) ev_sNil
            apply ev_seq
            case ha => exact ev_sIf_f (ev_tNo (b := true) (ev_tTru (b := true) rfl rfl) rfl) ev_sNil
            apply ev_seq
            case ha => exact ev_sIf_f (test false (decide_eq_false h5)) ev_sNil
            (apply ev_seq; case' ha => ((first | with_reducible apply ev_set | with_reducible apply ev_par | with_reducible apply ev_par3 | with_reducible apply ev_asg | with_reducible apply ev_ex | with_reducible apply ev_ret | with_reducible exact ev_sNil | (with_reducible apply ev_aug; exact rfl)) <;> (repeat' first | (with_reducible apply ev_var; exact rfl) | with_reducible exact ev_K | with_reducible exact e6 | with_reducible exact ev_aNil | with_reducible exact ev_oNo | with_reducible exact ev_tAll | with_reducible exact ev_gsN | with_reducible apply ev_aCons | with_reducible apply ev_d2 | with_reducible apply ev_d1 | with_reducible apply ev_dN | with_reducible apply ev_dCall | with_reducible apply ev_dTup | with_reducible apply ev_dLst | with_reducible apply ev_dLoc | with_reducible apply ev_sl | with_reducible apply ev_oSo | with_reducible apply ev_ch2b | with_reducible apply ev_ch3b | with_reducible apply ev_tB | with_reducible apply ev_tTru | with_reducible apply ev_tNo | with_reducible apply ev_no | with_reducible apply ev_dML | with_reducible apply ev_gTu | with_reducible apply ev_gsC | with_reducible apply ev_gSb | with_reducible apply ev_gNm | (simp only [List.length_cons, List.length_nil]; exact len_le (by decide)) | exact decide_eq_true (by omega) | exact decide_eq_false (by omega) | exact ne_t (by omega) | exact ne_f (by omega) | with_reducible apply lt_ii | with_reducible apply le_ii | with_reducible apply gt_ii | with_reducible apply ge_ii | with_reducible apply eq_ii | with_reducible apply ne_ii | with_reducible apply eq_ss | with_reducible exact add_ii | with_reducible exact sub_ii | with_reducible exact neg_i | with_reducible apply mul_ii | exact okMul_small (by omega) (by omega) | exact mod_ii (by omega) | exact fdiv_ii (by omega) (by omega) | exact mod_ni (by omega) | exact fdiv_ni (by omega) (by omega) | exact pow_ii (by omega) (by omega) (by omega) | with_reducible apply ix_tup | with_reducible apply ix_lst | (simp only [List.set_cons_succ, List.set_cons_zero]; rfl) | exact rfl | exact e6)))
            ((first | with_reducible apply ev_set | with_reducible apply ev_par | with_reducible apply ev_par3 | with_reducible apply ev_asg | with_reducible apply ev_ex | with_reducible apply ev_ret | with_reducible exact ev_sNil | (with_reducible apply ev_aug; exact rfl)) <;> (repeat' first | (with_reducible apply ev_var; exact rfl) | with_reducible exact ev_K | with_reducible exact e7 | with_reducible exact a1 | with_reducible exact a2 | with_reducible exact ez | with_reducible exact ev_aNil | with_reducible exact ev_oNo | with_reducible exact ev_tAll | with_reducible exact ev_gsN | with_reducible apply ev_aCons | with_reducible apply ev_d2 | with_reducible apply ev_d1 | with_reducible apply ev_dN | with_reducible apply ev_dCall | with_reducible apply ev_dTup | with_reducible apply ev_dLst | with_reducible apply ev_dLoc | with_reducible apply ev_sl | with_reducible apply ev_oSo | with_reducible apply ev_ch2b | with_reducible apply ev_ch3b | with_reducible apply ev_tB | with_reducible apply ev_tTru | with_reducible apply ev_tNo | with_reducible apply ev_no | with_reducible apply ev_dML | with_reducible apply ev_gTu | with_reducible apply ev_gsC | with_reducible apply ev_gSb | with_reducible apply ev_gNm | (simp only [List.length_cons, List.length_nil]; exact len_le (by decide)) | exact decide_eq_true (by omega) | exact decide_eq_false (by omega) | exact ne_t (by omega) | exact ne_f (by omega) | with_reducible apply lt_ii | with_reducible apply le_ii | with_reducible apply gt_ii | with_reducible apply ge_ii | with_reducible apply eq_ii | with_reducible apply ne_ii | with_reducible apply eq_ss | with_reducible exact add_ii | with_reducible exact sub_ii | with_reducible exact neg_i | with_reducible apply mul_ii | exact okMul_small (by omega) (by omega) | exact mod_ii (by omega) | exact fdiv_ii (by omega) (by omega) | exact mod_ni (by omega) | exact fdiv_ni (by omega) (by omega) | exact pow_ii (by omega) (by omega) (by omega) | with_reducible apply ix_tup | with_reducible apply ix_lst | (simp only [List.set_cons_succ, List.set_cons_zero]; rfl) | exact rfl | exact e7 | exact a1 | exact a2 | exact ez))
    | lst xs =>
      obtain ⟨k, s', k0, k1, ok', e⟩ := ht s (m + 1) μ l 7 (ok.le (by omega)) h (by decide) (by decide)
      obtain ⟨y, hy, ey⟩ := atI_some (xs := [PV.int 0, .int 1, .int 2, .int (-1), .bl true, .non, .int 3]) k0 k1
      refine ⟨y, s', ?_, ok'.le (by omega), ?_⟩
      · have : ∀ z ∈ [PV.int 0, .int 1, .int 2, .int (-1), .bl true, .non, .int 3], tre (2 * n + 2) z (d + 1) = true := by rw [← tres_iff]; rfl
        exact this y hy
      · refine runF_rt (ρ := [some (.loc l), some (.lst xs), none]) rfl ?_
        apply ev_seq
        case ha => exact ev_sIf_f (ev_tTru (b := false) rfl rfl) ev_sNil
        apply ev_seq_rt
        apply ev_sIf_t
        case hc => exact ev_tNo (b := false) (ev_tTru (b := false) rfl rfl) rfl
        ((first | with_reducible apply ev_set | with_reducible apply ev_par | with_reducible apply ev_par3 | with_reducible apply ev_asg | with_reducible apply ev_ex | with_reducible apply ev_ret | with_reducible exact ev_sNil | (with_reducible apply ev_aug; exact rfl)) <;> (repeat' first | (with_reducible apply ev_var; exact rfl) | with_reducible exact ev_K | with_reducible exact e | with_reducible exact ey | with_reducible exact ev_aNil | with_reducible exact ev_oNo | with_reducible exact ev_tAll | with_reducible exact ev_gsN | with_reducible apply ev_aCons | with_reducible apply ev_d2 | with_reducible apply ev_d1 | with_reducible apply ev_dN | with_reducible apply ev_dCall | with_reducible apply ev_dTup | with_reducible apply ev_dLst | with_reducible apply ev_dLoc | with_reducible apply ev_sl | with_reducible apply ev_oSo | with_reducible apply ev_ch2b | with_reducible apply ev_ch3b | with_reducible apply ev_tB | with_reducible apply ev_tTru | with_reducible apply ev_tNo | with_reducible apply ev_no | with_reducible apply ev_dML | with_reducible apply ev_gTu | with_reducible apply ev_gsC | with_reducible apply ev_gSb | with_reducible apply ev_gNm | (simp only [List.length_cons, List.length_nil]; exact len_le (by decide)) | exact decide_eq_true (by omega) | exact decide_eq_false (by omega) | exact ne_t (by omega) | exact ne_f (by omega) | with_reducible apply lt_ii | with_reducible apply le_ii | with_reducible apply gt_ii | with_reducible apply ge_ii | with_reducible apply eq_ii | with_reducible apply ne_ii | with_reducible apply eq_ss | with_reducible exact add_ii | with_reducible exact sub_ii | with_reducible exact neg_i | with_reducible apply mul_ii | exact okMul_small (by omega) (by omega) | exact mod_ii (by omega) | exact fdiv_ii (by omega) (by omega) | exact mod_ni (by omega) | exact fdiv_ni (by omega) (by omega) | exact pow_ii (by omega) (by omega) (by omega) | with_reducible apply ix_tup | with_reducible apply ix_lst | (simp only [List.set_cons_succ, List.set_cons_zero]; rfl) | exact rfl | exact e | exact ey))
    | loc _ => cases hx
    | scr _ => cases hx
    | str z => exact spoilt_flat ht _ _ n m _ s μ l hx (ok.le (by omega)) h
    | non => exact spoilt_flat ht _ _ n m _ s μ l hx (ok.le (by omega)) h
    | bl b => exact spoilt_flat ht _ _ n m _ s μ l hx (ok.le (by omega)) h
    | int i => exact spoilt_flat ht _ _ n m _ s μ l hx (ok.le (by omega)) h
/-! ### bent -/
noncomputable def dBent (p__law_take : Fn) (p__law_spoilt : Fn) : DenS :=
  (sSeq (sFor (itRg1 (aCons (d2 f_mul (dN f_int (aCons (d2 f_gt (cVar 2) (cK (.int 0))) aNil)) (d2 f_add (cK (.int 1)) (dCall 2 p__law_take (aCons (cVar 0) (aCons (cK (.int 2)) aNil))))) aNil)) (gNm 3) (sAsg (dCall 2 p__law_spoilt (aCons (cVar 0) (aCons (cVar 1) aNil))) (gNm 1)))
  (sRet (cVar 1)))
theorem bent_ok {pt : Fn} (ht : TakeOk pt) (d n m : Nat) (x : PV) (s : Dr) (μ : Sto) (l : Nat) (turn : Int) (hx : tre n x d = true) (hn : n ≤ 100) (ok : s.Ok (m + (4 * d + 5))) (h : μ[l]? = some s.ob) :
    ∃ (y : PV) (s' : Dr), tre (4 * n + 6) y d = true ∧ s'.Ok m ∧ runF 4 (dBent pt (pSpoilt pt (d + 1))) [.loc l, x, .int turn] μ = some (y, μ.set l s'.ob) := by
  obtain ⟨k, s1, k0, k1, ok1, e⟩ := ht s (m + (4 * d + 4)) μ l 2 ok h (by decide) (by decide)
  have g1 : (μ.set l s1.ob)[l]? = some s1.ob := dr_get h
  have fin : ∀ (y : PV) (s' : Dr) (ρ' : En), ρ'[1]? = some (some y) → sFor (itRg1 (aCons (d2 f_mul (dN f_int (aCons (d2 f_gt (cVar 2) (cK (.int 0))) aNil)) (d2 f_add (cK (.int 1)) (dCall 2 pt (aCons (cVar 0) (aCons (cK (.int 2)) aNil))))) aNil)) (gNm 3) (sAsg (dCall 2 (pSpoilt pt (d + 1)) (aCons (cVar 0) (aCons (cVar 1) aNil))) (gNm 1)) [some (.loc l), some x, some (.int turn), none] μ = some (.nx ρ' (μ.set l s'.ob)) →
      runF 4 (dBent pt (pSpoilt pt (d + 1))) [.loc l, x, .int turn] μ = some (y, μ.set l s'.ob) := fun y s' ρ' h1 h2 => by
    refine runF_rt (ρ := [some (.loc l), some x, some (.int turn), none]) rfl ?_
    exact ev_seq h2 (ev_ret (ev_var h1))
  by_cases htu : 0 < turn
  · have hit : ∀ c : Nat, 1 + k = c → itRg1 (aCons (d2 f_mul (dN f_int (aCons (d2 f_gt (cVar 2) (cK (.int 0))) aNil)) (d2 f_add (cK (.int 1)) (dCall 2 pt (aCons (cVar 0) (aCons (cK (.int 2)) aNil))))) aNil) [some (.loc l), some x, some (.int turn), none] μ = some ((rgP 0 c, []), μ.set l s1.ob) := fun c hc => by
      refine it_rg1 (j := 1 * (1 + k)) ?_ (rgIn_of (by omega) (by omega)) (by omega)
      have hi : f_int [.bl true] μ = some (.int 1, μ) := rfl
      (repeat' first | (with_reducible apply ev_var; exact rfl) | with_reducible exact ev_K | with_reducible exact e | with_reducible exact hi | with_reducible exact ev_aNil | with_reducible exact ev_oNo | with_reducible exact ev_tAll | with_reducible exact ev_gsN | with_reducible apply ev_aCons | with_reducible apply ev_d2 | with_reducible apply ev_d1 | with_reducible apply ev_dN | with_reducible apply ev_dCall | with_reducible apply ev_dTup | with_reducible apply ev_dLst | with_reducible apply ev_dLoc | with_reducible apply ev_sl | with_reducible apply ev_oSo | with_reducible apply ev_ch2b | with_reducible apply ev_ch3b | with_reducible apply ev_tB | with_reducible apply ev_tTru | with_reducible apply ev_tNo | with_reducible apply ev_no | with_reducible apply ev_dML | with_reducible apply ev_gTu | with_reducible apply ev_gsC | with_reducible apply ev_gSb | with_reducible apply ev_gNm | (simp only [List.length_cons, List.length_nil]; exact len_le (by decide)) | exact decide_eq_true (by omega) | exact decide_eq_false (by omega) | exact ne_t (by omega) | exact ne_f (by omega) | with_reducible apply lt_ii | with_reducible apply le_ii | with_reducible apply gt_ii | with_reducible apply ge_ii | with_reducible apply eq_ii | with_reducible apply ne_ii | with_reducible apply eq_ss | with_reducible exact add_ii | with_reducible exact sub_ii | with_reducible exact neg_i | with_reducible apply mul_ii | exact okMul_small (by omega) (by omega) | exact mod_ii (by omega) | exact fdiv_ii (by omega) (by omega) | exact mod_ni (by omega) | exact fdiv_ni (by omega) (by omega) | exact pow_ii (by omega) (by omega) (by omega) | with_reducible apply ix_tup | with_reducible apply ix_lst | (simp only [List.set_cons_succ, List.set_cons_zero]; rfl) | exact rfl | exact e | exact hi)
    obtain ⟨y, s2, ty, ok2, e2⟩ := spoilt_ok ht d n (m + (2 * d + 2)) x s1 (μ.set l s1.ob) l hx (by omega) (ok1.le (by omega)) g1
    rw [List.set_set] at e2
    have g2 : (μ.set l s2.ob)[l]? = some s2.ob := dr_get h
    by_cases hk : k = 0
    · refine ⟨y, s2, tre_mono (by omega) _ _ ty, ok2.le (by omega), fin y s2 [some (.loc l), some y, some (.int turn), some (.int 0)] rfl ?_⟩
      refine ev_for (hit 1 (by omega)) ?_
      refine for_step rfl (ρ' := [some (.loc l), some y, some (.int turn), some (.int 0)]) (μ' := μ.set l s2.ob) ?_ chk_nil for_nil
      ((first | with_reducible apply ev_set | with_reducible apply ev_par | with_reducible apply ev_par3 | with_reducible apply ev_asg | with_reducible apply ev_ex | with_reducible apply ev_ret | with_reducible exact ev_sNil | (with_reducible apply ev_aug; exact rfl)) <;> (repeat' first | (with_reducible apply ev_var; exact rfl) | with_reducible exact ev_K | with_reducible exact e2 | with_reducible exact ev_aNil | with_reducible exact ev_oNo | with_reducible exact ev_tAll | with_reducible exact ev_gsN | with_reducible apply ev_aCons | with_reducible apply ev_d2 | with_reducible apply ev_d1 | with_reducible apply ev_dN | with_reducible apply ev_dCall | with_reducible apply ev_dTup | with_reducible apply ev_dLst | with_reducible apply ev_dLoc | with_reducible apply ev_sl | with_reducible apply ev_oSo | with_reducible apply ev_ch2b | with_reducible apply ev_ch3b | with_reducible apply ev_tB | with_reducible apply ev_tTru | with_reducible apply ev_tNo | with_reducible apply ev_no | with_reducible apply ev_dML | with_reducible apply ev_gTu | with_reducible apply ev_gsC | with_reducible apply ev_gSb | with_reducible apply ev_gNm | (simp only [List.length_cons, List.length_nil]; exact len_le (by decide)) | exact decide_eq_true (by omega) | exact decide_eq_false (by omega) | exact ne_t (by omega) | exact ne_f (by omega) | with_reducible apply lt_ii | with_reducible apply le_ii | with_reducible apply gt_ii | with_reducible apply ge_ii | with_reducible apply eq_ii | with_reducible apply ne_ii | with_reducible apply eq_ss | with_reducible exact add_ii | with_reducible exact sub_ii | with_reducible exact neg_i | with_reducible apply mul_ii | exact okMul_small (by omega) (by omega) | exact mod_ii (by omega) | exact fdiv_ii (by omega) (by omega) | exact mod_ni (by omega) | exact fdiv_ni (by omega) (by omega) | exact pow_ii (by omega) (by omega) (by omega) | with_reducible apply ix_tup | with_reducible apply ix_lst | (simp only [List.set_cons_succ, List.set_cons_zero]; rfl) | exact rfl | exact e2))
    · obtain ⟨z, s3, tz, ok3, e3⟩ := spoilt_ok ht d (2 * n + 2) m y s2 (μ.set l s2.ob) l ty (by omega) ok2 g2
      rw [List.set_set] at e3
      refine ⟨z, s3, tre_mono (by omega) _ _ tz, ok3, fin z s3 [some (.loc l), some z, some (.int turn), some (.int 1)] rfl ?_⟩
      refine ev_for (hit 2 (by omega)) ?_
      refine for_step rfl (ρ' := [some (.loc l), some y, some (.int turn), some (.int 0)]) (μ' := μ.set l s2.ob) ?_ chk_nil ?_
      · ((first | with_reducible apply ev_set | with_reducible apply ev_par | with_reducible apply ev_par3 | with_reducible apply ev_asg | with_reducible apply ev_ex | with_reducible apply ev_ret | with_reducible exact ev_sNil | (with_reducible apply ev_aug; exact rfl)) <;> (repeat' first | (with_reducible apply ev_var; exact rfl) | with_reducible exact ev_K | with_reducible exact e2 | with_reducible exact ev_aNil | with_reducible exact ev_oNo | with_reducible exact ev_tAll | with_reducible exact ev_gsN | with_reducible apply ev_aCons | with_reducible apply ev_d2 | with_reducible apply ev_d1 | with_reducible apply ev_dN | with_reducible apply ev_dCall | with_reducible apply ev_dTup | with_reducible apply ev_dLst | with_reducible apply ev_dLoc | with_reducible apply ev_sl | with_reducible apply ev_oSo | with_reducible apply ev_ch2b | with_reducible apply ev_ch3b | with_reducible apply ev_tB | with_reducible apply ev_tTru | with_reducible apply ev_tNo | with_reducible apply ev_no | with_reducible apply ev_dML | with_reducible apply ev_gTu | with_reducible apply ev_gsC | with_reducible apply ev_gSb | with_reducible apply ev_gNm | (simp only [List.length_cons, List.length_nil]; exact len_le (by decide)) | exact decide_eq_true (by omega) | exact decide_eq_false (by omega) | exact ne_t (by omega) | exact ne_f (by omega) | with_reducible apply lt_ii | with_reducible apply le_ii | with_reducible apply gt_ii | with_reducible apply ge_ii | with_reducible apply eq_ii | with_reducible apply ne_ii | with_reducible apply eq_ss | with_reducible exact add_ii | with_reducible exact sub_ii | with_reducible exact neg_i | with_reducible apply mul_ii | exact okMul_small (by omega) (by omega) | exact mod_ii (by omega) | exact fdiv_ii (by omega) (by omega) | exact mod_ni (by omega) | exact fdiv_ni (by omega) (by omega) | exact pow_ii (by omega) (by omega) (by omega) | with_reducible apply ix_tup | with_reducible apply ix_lst | (simp only [List.set_cons_succ, List.set_cons_zero]; rfl) | exact rfl | exact e2))
      refine for_step rfl (ρ' := [some (.loc l), some z, some (.int turn), some (.int 1)]) (μ' := μ.set l s3.ob) ?_ chk_nil for_nil
      ((first | with_reducible apply ev_set | with_reducible apply ev_par | with_reducible apply ev_par3 | with_reducible apply ev_asg | with_reducible apply ev_ex | with_reducible apply ev_ret | with_reducible exact ev_sNil | (with_reducible apply ev_aug; exact rfl)) <;> (repeat' first | (with_reducible apply ev_var; exact rfl) | with_reducible exact ev_K | with_reducible exact e3 | with_reducible exact ev_aNil | with_reducible exact ev_oNo | with_reducible exact ev_tAll | with_reducible exact ev_gsN | with_reducible apply ev_aCons | with_reducible apply ev_d2 | with_reducible apply ev_d1 | with_reducible apply ev_dN | with_reducible apply ev_dCall | with_reducible apply ev_dTup | with_reducible apply ev_dLst | with_reducible apply ev_dLoc | with_reducible apply ev_sl | with_reducible apply ev_oSo | with_reducible apply ev_ch2b | with_reducible apply ev_ch3b | with_reducible apply ev_tB | with_reducible apply ev_tTru | with_reducible apply ev_tNo | with_reducible apply ev_no | with_reducible apply ev_dML | with_reducible apply ev_gTu | with_reducible apply ev_gsC | with_reducible apply ev_gSb | with_reducible apply ev_gNm | (simp only [List.length_cons, List.length_nil]; exact len_le (by decide)) | exact decide_eq_true (by omega) | exact decide_eq_false (by omega) | exact ne_t (by omega) | exact ne_f (by omega) | with_reducible apply lt_ii | with_reducible apply le_ii | with_reducible apply gt_ii | with_reducible apply ge_ii | with_reducible apply eq_ii | with_reducible apply ne_ii | with_reducible apply eq_ss | with_reducible exact add_ii | with_reducible exact sub_ii | with_reducible exact neg_i | with_reducible apply mul_ii | exact okMul_small (by omega) (by omega) | exact mod_ii (by omega) | exact fdiv_ii (by omega) (by omega) | exact mod_ni (by omega) | exact fdiv_ni (by omega) (by omega) | exact pow_ii (by omega) (by omega) (by omega) | with_reducible apply ix_tup | with_reducible apply ix_lst | (simp only [List.set_cons_succ, List.set_cons_zero]; rfl) | exact rfl | exact e3))
  · refine ⟨x, s1, tre_mono (by omega) _ _ hx, ok1.le (by omega), fin x s1 [some (.loc l), some x, some (.int turn), none] rfl ?_⟩
    refine ev_for (xs := []) (ch := []) (μ1 := μ.set l s1.ob) ?_ for_nil
    refine it_rg1 (j := 0 * (1 + k)) (n := 0) ?_ (rgIn_of (by omega) (by omega)) (by omega)
    have hi : f_int [.bl false] μ = some (.int 0, μ) := rfl
    (repeat' first | (with_reducible apply ev_var; exact rfl) | with_reducible exact ev_K | with_reducible exact e | with_reducible exact hi | with_reducible exact ev_aNil | with_reducible exact ev_oNo | with_reducible exact ev_tAll | with_reducible exact ev_gsN | with_reducible apply ev_aCons | with_reducible apply ev_d2 | with_reducible apply ev_d1 | with_reducible apply ev_dN | with_reducible apply ev_dCall | with_reducible apply ev_dTup | with_reducible apply ev_dLst | with_reducible apply ev_dLoc | with_reducible apply ev_sl | with_reducible apply ev_oSo | with_reducible apply ev_ch2b | with_reducible apply ev_ch3b | with_reducible apply ev_tB | with_reducible apply ev_tTru | with_reducible apply ev_tNo | with_reducible apply ev_no | with_reducible apply ev_dML | with_reducible apply ev_gTu | with_reducible apply ev_gsC | with_reducible apply ev_gSb | with_reducible apply ev_gNm | (simp only [List.length_cons, List.length_nil]; exact len_le (by decide)) | exact decide_eq_true (by omega) | exact decide_eq_false (by omega) | exact ne_t (by omega) | exact ne_f (by omega) | with_reducible apply lt_ii | with_reducible apply le_ii | with_reducible apply gt_ii | with_reducible apply ge_ii | with_reducible apply eq_ii | with_reducible apply ne_ii | with_reducible apply eq_ss | with_reducible exact add_ii | with_reducible exact sub_ii | with_reducible exact neg_i | with_reducible apply mul_ii | exact okMul_small (by omega) (by omega) | exact mod_ii (by omega) | exact fdiv_ii (by omega) (by omega) | exact mod_ni (by omega) | exact fdiv_ni (by omega) (by omega) | exact pow_ii (by omega) (by omega) (by omega) | with_reducible apply ix_tup | with_reducible apply ix_lst | (simp only [List.set_cons_succ, List.set_cons_zero]; rfl) | exact rfl | exact e | exact hi)
/-! ### is_int, alike -/
def dIsInt : DenS := (sRet (dAn (d1 (f_isi .int) (cVar 0)) (dNo (d1 (f_isi .bool) (cVar 0)))))
def isIntP : PV → Bool
  | .int _ => true
  | _ => false
theorem isInt_ok {x : PV} {μ : Sto} (hx : ∀ l, x ≠ .loc l) (hs : ∀ l, x ≠ .scr l) : runF 1 dIsInt [x] μ = some (.bl (isIntP x), μ) := by
  refine runF_rt (ρ := [some x]) rfl ?_
  apply ev_ret
  cases x with
  | loc l => exact absurd rfl (hx l)
  | scr l => exact absurd rfl (hs l)
  | _ => rfl
mutual
def plain : PV → Nat → Bool
  | .non, _ => true
  | .int _, _ => true
  | .str _, _ => true
  | .tup xs, d => match d with
    | 0 => false
    | d + 1 => decide (xs.length ≤ 900) && plains xs d
  | _, _ => false
def plains : List PV → Nat → Bool
  | [], _ => true
  | x :: xs, d => plain x d && plains xs d
end
theorem plains_iff {d : Nat} : ∀ {xs : List PV}, plains xs d = true ↔ ∀ x ∈ xs, plain x d = true
  | [] => ⟨fun _ => (fun _ h => nomatch h), fun _ => rfl⟩
  | x :: xs => by
    show (plain x d && plains xs d) = true ↔ _
    rw [Bool.and_eq_true, plains_iff, List.forall_mem_cons]
noncomputable def dAlike (p__law_alike : Fn) : DenS :=
  (sSeq (sIf (tTru (d1 (f_isi .tuple) (cVar 1))) (sRet (dAn (d1 (f_isi .tuple) (cVar 0)) (dAn (d2 f_eq (dN f_len (aCons (cVar 0) aNil)) (dN f_len (aCons (cVar 1) aNil))) (dN f_all (aCons (dLc [2] (itRg1 (aCons (dN f_len (aCons (cVar 1) aNil)) aNil)) (gNm 2) tAll (dCall 2 p__law_alike (aCons (d2 f_ix (cVar 0) (cVar 2)) (aCons (d2 f_ix (cVar 1) (cVar 2)) aNil)))) aNil))))) sNil)
  (sSeq (sIf (tB1 (d2 f_is (cVar 1) (cK .non))) (sRet (d2 f_is (cVar 0) (cK .non))) sNil)
  (sSeq (sIf (tOr' (tTru (d1 (f_isi .bool) (cVar 0))) (tB1 (d2 f_ne (d1 (f_isi .str) (cVar 0)) (d1 (f_isi .str) (cVar 1))))) (sRet (cK (.bl false))) sNil)
  (sRet (dAn (d1 (f_isi2 .int .str) (cVar 0)) (d2 f_eq (cVar 0) (cVar 1)))))))
noncomputable def pAlike : Nat → Fn
  | 0 => fun _ _ => none
  | k + 1 => runF 3 (dAlike (pAlike k))
theorem mem_rgP : ∀ {n : Nat} {lo : Int} {x : PV}, x ∈ rgP lo n → ∃ k : Nat, k < n ∧ x = .int (lo + k)
  | 0, _, _, h => nomatch h
  | n + 1, lo, x, h => by
    rcases List.mem_cons.mp h with e | h
    · exact ⟨0, by omega, by rw [e]; simp⟩
    · obtain ⟨k, hk, e⟩ := mem_rgP h
      exact ⟨k + 1, by omega, by rw [e]; congr 1; push_cast; omega⟩
theorem all_true {l : List PV} {μ : Sto} : f_all [.lst (l.map fun _ => .bl true)] μ = some (.bl true, μ) := by
  have : l.map (fun _ => PV.bl true) = (l.map fun _ => true).map PV.bl := by rw [List.map_map]; rfl
  show Option.map _ ((some (l.map fun _ => PV.bl true)).bind blsP) = _
  rw [this]
  show Option.map _ (blsP _) = _
  rw [blsP_map]
  show some (PV.bl ((l.map fun _ => true).all id), μ) = _
  congr 3
  rw [List.all_eq_true]
  intro x hx
  obtain ⟨_, _, rfl⟩ := List.mem_map.mp hx
  rfl
theorem alike_refl : ∀ (d : Nat) (x : PV) (μ : Sto), plain x d = true → pAlike (d + 1) [x, x] μ = some (.bl true, μ) := by
  intro d
  induction d with
  | zero =>
    intro x μ h
    refine runF_rt (ρ := [some x, some x, none]) rfl ?_
    cases x with
    | non => rfl
    | int i =>
      apply ev_seq
      case ha => exact ev_sIf_f (ev_tTru (b := false) rfl rfl) ev_sNil
      apply ev_seq
      case ha => exact ev_sIf_f (b := sNil) (ev_tB rfl) ev_sNil
      apply ev_seq
      case ha => exact ev_sIf_f (ev_tOr_f (ev_tTru (b := false) rfl rfl) (ev_tB (b := false) rfl)) ev_sNil
      apply ev_ret
      exact ev_an_t (x := .bl true) rfl rfl (ev_d2 rfl rfl (eq_ii (decide_eq_true rfl)))
    | str z =>
      apply ev_seq
      case ha => exact ev_sIf_f (ev_tTru (b := false) rfl rfl) ev_sNil
      apply ev_seq
      case ha => exact ev_sIf_f (b := sNil) (ev_tB rfl) ev_sNil
      apply ev_seq
      case ha => exact ev_sIf_f (ev_tOr_f (ev_tTru (b := false) rfl rfl) (ev_tB (b := false) rfl)) ev_sNil
      apply ev_ret
      exact ev_an_t (x := .bl true) rfl rfl (ev_d2 rfl rfl (eq_ss (decide_eq_true rfl)))
    | _ => cases h
  | succ d ih =>
    intro x μ h
    refine runF_rt (ρ := [some x, some x, none]) rfl ?_
    cases x with
    | non => rfl
    | int i =>
      apply ev_seq
      case ha => exact ev_sIf_f (ev_tTru (b := false) rfl rfl) ev_sNil
      apply ev_seq
      case ha => exact ev_sIf_f (b := sNil) (ev_tB rfl) ev_sNil
      apply ev_seq
      case ha => exact ev_sIf_f (ev_tOr_f (ev_tTru (b := false) rfl rfl) (ev_tB (b := false) rfl)) ev_sNil
      apply ev_ret
      exact ev_an_t (x := .bl true) rfl rfl (ev_d2 rfl rfl (eq_ii (decide_eq_true rfl)))
    | str z =>
      apply ev_seq
      case ha => exact ev_sIf_f (ev_tTru (b := false) rfl rfl) ev_sNil
      apply ev_seq
      case ha => exact ev_sIf_f (b := sNil) (ev_tB rfl) ev_sNil
      apply ev_seq
      case ha => exact ev_sIf_f (ev_tOr_f (ev_tTru (b := false) rfl rfl) (ev_tB (b := false) rfl)) ev_sNil
      apply ev_ret
      exact ev_an_t (x := .bl true) rfl rfl (ev_d2 rfl rfl (eq_ss (decide_eq_true rfl)))
    | tup xs =>
      have h : (decide (xs.length ≤ 900) && plains xs d) = true := h
      rw [Bool.and_eq_true, decide_eq_true_eq, plains_iff] at h
      apply ev_seq_rt
      apply ev_sIf_t
      case hc => exact ev_tTru (b := true) rfl rfl
      apply ev_ret
      apply ev_an_t (x := .bl true) rfl rfl
      apply ev_an_t (x := .bl true) (ev_d2 rfl rfl (eq_ii (decide_eq_true rfl))) rfl
      apply ev_dN (ev_aCons (ev_lc (xs := rgP 0 xs.length) (it_rg1 (j := xs.length) rfl (rgIn_of (by omega) (by omega)) (by omega)) rfl
        (lc_all (fun _ => true) (fun _ => .bl true) _ _ chk_nil (by rw [rgP_length]; exact sz (by show 0 + _ ≤ _; omega)) fun y hy => ?_)) ev_aNil)
      · rw [List.filter_eq_self.mpr (fun _ _ => rfl), List.nil_append]
        exact all_true
      · obtain ⟨k, hk, rfl⟩ := mem_rgP hy
        refine ⟨[some (.tup xs), some (.tup xs), some (.int (0 + k))], rfl, rfl, fun _ => ?_⟩
        have hix : f_ix (.tup xs) (.int (0 + k)) μ = some (xs[k], μ) := ix_tup (by rw [Int.zero_add]; exact L2.atI_nat (by simp [hk]))
        exact ev_dCall (ev_aCons (ev_d2 rfl rfl hix) (ev_aCons (ev_d2 rfl rfl hix) ev_aNil)) (ih _ μ (h.2 _ (List.getElem_mem hk))) rfl
    | _ => cases h
end Fd

/-! Num1: whole numbers: common divisors, joined rests. -/
namespace Nm
/-! ### cofactors -/
theorem wc_math {a B g x : Int} (hg : 0 < g) (hga : g ∣ a) (hgB : g ∣ B) (h : B ∣ a * x - g) : B ∣ a * (x % (B / g)) - g := by
  obtain ⟨a1, rfl⟩ := hga
  obtain ⟨b1, rfl⟩ := hgB
  rw [Int.mul_ediv_cancel_left _ (by omega)]
  have e : x = x % b1 + b1 * (x / b1) := (Int.emod_add_mul_ediv x b1).symm
  have k : g * a1 * (x % b1) - g = (g * a1 * x - g) - g * b1 * (a1 * (x / b1)) := by
    have : g * a1 * x = g * a1 * (x % b1) + g * b1 * (a1 * (x / b1)) := by
      have h2 : g * a1 * x = g * a1 * (x % b1 + b1 * (x / b1)) := congrArg (fun z => g * a1 * z) e
      rw [h2, Int.mul_add]
      congr 1
      ac_rfl
    omega
  rw [k]
  exact Int.dvd_sub h (Int.dvd_mul_right _ _)
/-- one turn of Euclid's steps -/
theorem wc_turn {a B g x r o : Int} (h1 : B ∣ a * x - g) (h2 : B ∣ a * o - r) (t : Int) : B ∣ a * (x - t * o) - (g - t * r) := by
  have e : a * (x - t * o) - (g - t * r) = (a * x - g) - t * (a * o - r) := by
    rw [Int.mul_sub, Int.mul_sub, show a * (t * o) = t * (a * o) by ac_rfl]
    omega
  rw [e]
  exact Int.dvd_sub h1 (Int.dvd_mul_of_dvd_right h2)
theorem gcd_turn (g r : Nat) : Nat.gcd r (g % r) = Nat.gcd g r := by
  rw [Nat.gcd_comm r (g % r), ← Nat.gcd_rec, Nat.gcd_comm]
/-! ### a rest that is the only one -/
theorem eq_of_dvd {n x y : Int} (hx : 0 ≤ x) (hx2 : x < n) (hy : 0 ≤ y) (hy2 : y < n) (h : n ∣ x - y) : x = y := by
  obtain ⟨k, hk⟩ := h
  have h1 : x - y < n := by omega
  have h2 : -n < x - y := by omega
  have hn : 0 < n := by omega
  have : k = 0 := by
    by_cases h0 : k = 0
    · exact h0
    · exfalso
      by_cases hp : 0 < k
      · have : n * 1 ≤ n * k := Int.mul_le_mul_of_nonneg_left (by omega) (by omega)
        omega
      · have : n * k ≤ n * (-1) := Int.mul_le_mul_of_nonneg_left (by omega) (by omega)
        omega
  subst this
  omega
/-- the inverse is the only one -/
theorem inv_uniq {a n x y z : Int} (hx : 0 ≤ x) (hx2 : x < n) (hy : 0 ≤ y) (hy2 : y < n) (h1 : a * x + n * z = 1) (h2 : n ∣ a * y - 1) : y = x := by
  refine eq_of_dvd hy hy2 hx hx2 ?_
  have e : y - x = x * (a * y - 1) + n * (z * y) := by
    have : x * (a * y - 1) = a * x * y - x := by rw [Int.mul_sub, Int.mul_one]; congr 1; ac_rfl
    rw [this]
    have h3 : a * x = 1 - n * z := by omega
    rw [h3, Int.sub_mul, Int.one_mul]
    have : n * z * y = n * (z * y) := by ac_rfl
    omega
  rw [e]
  exact Int.dvd_add (Int.dvd_mul_of_dvd_right h2) (Int.dvd_mul_right _ _)
/-! ### joined rests -/
/-- the least common multiple as the program reckons it -/
def lc (n m : Int) : Int := n / (Int.gcd n m : Int) * m
theorem gcd_pos {n m : Int} (hn : 0 < n) : 0 < (Int.gcd n m : Int) := by
  have : Int.gcd n m ≠ 0 := fun h => by
    have := (Int.gcd_eq_zero_iff.mp h).1
    omega
  omega
theorem lc_pos {n m : Int} (hn : 0 < n) (hm : 0 < m) : 0 < lc n m := by
  unfold lc
  have h1 := gcd_pos (m := m) hn
  obtain ⟨k, hk⟩ := Int.gcd_dvd_left n m
  have e : n / (Int.gcd n m : Int) = k := by
    conv => lhs; lhs; rw [hk]
    exact Int.mul_ediv_cancel_left _ (by omega)
  rw [e]
  have : 0 < k := by
    by_cases h : 0 < k
    · exact h
    · exfalso
      have : (Int.gcd n m : Int) * k ≤ (Int.gcd n m : Int) * 0 := Int.mul_le_mul_of_nonneg_left (by omega) (by omega)
      omega
  exact Int.mul_pos this hm
theorem lc_left {n m : Int} : n ∣ lc n m := by
  unfold lc
  obtain ⟨k, hk⟩ := Int.gcd_dvd_right n m
  have h := Int.ediv_mul_cancel (Int.gcd_dvd_left n m)
  refine ⟨k, ?_⟩
  conv => lhs; rhs; rw [hk]
  rw [← Int.mul_assoc, h]
theorem lc_right {n m : Int} : m ∣ lc n m := Int.dvd_mul_left _ _
theorem lc_least {n m k : Int} (hn : 0 < n) (h1 : n ∣ k) (h2 : m ∣ k) : lc n m ∣ k := by
  have hg := gcd_pos (m := m) hn
  obtain ⟨n1, hn1⟩ := Int.gcd_dvd_left n m
  obtain ⟨m1, hm1⟩ := Int.gcd_dvd_right n m
  have e : lc n m = n1 * m := by
    unfold lc
    have : n / (Int.gcd n m : Int) = n1 := by
      conv => lhs; lhs; rw [hn1]
      exact Int.mul_ediv_cancel_left _ (by omega)
    rw [this]
  rw [e]
  -- gcd * (n1 m) divides k * gcd : n m divides k n and k m
  have a1 : n * m ∣ k * n := by rw [Int.mul_comm k n]; exact Int.mul_dvd_mul_left n h2
  have a2 : n * m ∣ k * m := Int.mul_dvd_mul_right m h1
  have a3 : n * m ∣ (Int.gcd (k * n) (k * m) : Int) := Int.dvd_coe_gcd a1 a2
  rw [Int.gcd_mul_left] at a3
  have a4 : n * m ∣ k * (Int.gcd n m : Int) := by
    have : ((k.natAbs * Int.gcd n m : Nat) : Int) ∣ k * (Int.gcd n m : Int) := by
      rw [Int.natCast_mul]
      exact Int.mul_dvd_mul_right _ (Int.natAbs_dvd.mpr (Int.dvd_refl _))
    exact Int.dvd_trans a3 this
  have a5 : n * m = (Int.gcd n m : Int) * (n1 * m) := by
    conv => lhs; lhs; rw [hn1]
    exact Int.mul_assoc _ _ _
  rw [a5, Int.mul_comm k] at a4
  exact Int.dvd_of_mul_dvd_mul_left (by omega) a4
/-- the greatest common divisor of a least common multiple -/
theorem gcd_lc {n m' m t : Int} (hn : 0 < n) (h1 : (Int.gcd n m : Int) ∣ t) (h2 : (Int.gcd m' m : Int) ∣ t) : (Int.gcd (lc n m') m : Int) ∣ t := by
  have hh : 0 < (Int.gcd (Int.gcd n m') m : Int) := by
    have := gcd_pos (m := m') hn
    exact gcd_pos this
  -- D := gcd (lc n m') m * h divides g1 * g2
  let h : Int := (Int.gcd (Int.gcd n m') m : Int)
  let g1 : Int := (Int.gcd n m : Int)
  let g2 : Int := (Int.gcd m' m : Int)
  let L : Int := lc n m'
  let c : Int := (Int.gcd L m : Int)
  have he : h ∣ (Int.gcd n m' : Int) := Int.gcd_dvd_left _ _
  have hm : h ∣ m := Int.gcd_dvd_right _ _
  have hn' : h ∣ n := Int.dvd_trans he (Int.gcd_dvd_left _ _)
  have hm' : h ∣ m' := Int.dvd_trans he (Int.gcd_dvd_right _ _)
  have cL : c ∣ L := Int.gcd_dvd_left _ _
  have cm : c ∣ m := Int.gcd_dvd_right _ _
  have eL : L * (Int.gcd n m' : Int) = n * m' := by
    show n / (Int.gcd n m' : Int) * m' * (Int.gcd n m' : Int) = n * m'
    have := Int.ediv_mul_cancel (Int.gcd_dvd_left n m')
    rw [show n / (Int.gcd n m' : Int) * m' * (Int.gcd n m' : Int) = n / (Int.gcd n m' : Int) * (Int.gcd n m' : Int) * m' by ac_rfl, this]
  have d1 : c * h ∣ n * m' := by rw [← eL]; exact Int.mul_dvd_mul cL he
  have d2 : c * h ∣ m * m' := Int.mul_dvd_mul cm hm'
  have d3 : c * h ∣ m * n := Int.mul_dvd_mul cm hn'
  have d4 : c * h ∣ m * m := Int.mul_dvd_mul cm hm
  have mulg : ∀ u v z : Int, c * h ∣ z * u → c * h ∣ z * v → c * h ∣ z * (Int.gcd u v : Int) := fun u v z p q => by
    have a := Int.dvd_coe_gcd p q
    rw [Int.gcd_mul_left, Int.natCast_mul] at a
    exact Int.dvd_trans a (Int.mul_dvd_mul_right _ (Int.natAbs_dvd.mpr (Int.dvd_refl _)))
  have e1 : c * h ∣ m' * g1 := mulg n m m' (by rw [Int.mul_comm m' n]; exact d1) (by rw [Int.mul_comm m' m]; exact d2)
  have e2 : c * h ∣ m * g1 := mulg n m m d3 d4
  have e3 : c * h ∣ g1 * g2 := mulg m' m g1 (by rw [Int.mul_comm g1 m']; exact e1) (by rw [Int.mul_comm g1 m]; exact e2)
  -- g1 * g2 divides t * h : both divide t, h = gcd g1 g2
  have hg : h = (Int.gcd g1 g2 : Int) := by
    have x1 : h ∣ (Int.gcd g1 g2 : Int) := Int.dvd_coe_gcd (Int.dvd_coe_gcd hn' hm) (Int.dvd_coe_gcd hm' hm)
    have y1 : (Int.gcd g1 g2 : Int) ∣ g1 := Int.gcd_dvd_left _ _
    have y2 : (Int.gcd g1 g2 : Int) ∣ g2 := Int.gcd_dvd_right _ _
    have x2 : (Int.gcd g1 g2 : Int) ∣ h := Int.dvd_coe_gcd (Int.dvd_coe_gcd (Int.dvd_trans y1 (Int.gcd_dvd_left _ _)) (Int.dvd_trans y2 (Int.gcd_dvd_left _ _))) (Int.dvd_trans y1 (Int.gcd_dvd_right _ _))
    exact Int.dvd_antisymm (by omega) (by omega) x1 x2
  have f : g1 * g2 ∣ t * h := by
    rw [hg]
    have p1 : g1 * g2 ∣ t * g1 := by rw [Int.mul_comm t]; exact Int.mul_dvd_mul_left _ h2
    have p2 : g1 * g2 ∣ t * g2 := Int.mul_dvd_mul_right _ h1
    have a := Int.dvd_coe_gcd p1 p2
    rw [Int.gcd_mul_left, Int.natCast_mul] at a
    exact Int.dvd_trans a (Int.mul_dvd_mul_right _ (Int.natAbs_dvd.mpr (Int.dvd_refl _)))
  have f2 : h * c ∣ h * t := by
    rw [Int.mul_comm h c, Int.mul_comm h t]
    exact Int.dvd_trans e3 f
  exact Int.dvd_of_mul_dvd_mul_left (by omega) f2
end Nm

/-! Num2: joined rests of many pairs. -/
namespace Nm
theorem bezN : ∀ (b a : Nat), ∃ x y : Int, (a : Int) * x + (b : Int) * y = (Nat.gcd a b : Int) := by
  intro b
  induction b using Nat.strongRecOn with
  | ind b ih =>
    intro a
    by_cases hb : b = 0
    · subst hb
      exact ⟨1, 0, by simp⟩
    · obtain ⟨x, y, h⟩ := ih (a % b) (Nat.mod_lt _ (by omega)) b
      refine ⟨y, x - (a / b : Nat) * y, ?_⟩
      rw [← gcd_turn a b, ← h]
      have e : ((a : Nat) : Int) = (b : Int) * ((a / b : Nat) : Int) + ((a % b : Nat) : Int) := by
        have := Nat.div_add_mod a b
        omega
      rw [Int.mul_sub, show (b : Int) * (((a / b : Nat) : Int) * y) = (b : Int) * ((a / b : Nat) : Int) * y by ac_rfl]
      conv => lhs; lhs; lhs; rw [e]
      rw [Int.add_mul]
      omega
theorem bez (a b : Int) : ∃ x y : Int, a * x + b * y = (Int.gcd a b : Int) := by
  obtain ⟨x, y, h⟩ := bezN b.natAbs a.natAbs
  have sg : ∀ c : Int, ∃ e : Int, ∀ z : Int, c * (e * z) = (c.natAbs : Int) * z := fun c => by
    by_cases hc : 0 ≤ c
    · exact ⟨1, fun z => by rw [Int.one_mul, Int.natAbs_of_nonneg hc]⟩
    · refine ⟨-1, fun z => ?_⟩
      have : (c.natAbs : Int) = -c := by omega
      rw [this, Int.neg_mul c z, Int.neg_one_mul, Int.mul_neg]
  obtain ⟨e, he⟩ := sg a
  obtain ⟨f, hf⟩ := sg b
  exact ⟨e * x, f * y, by rw [he, hf]; exact h⟩
/-- u leaves both rests -/
def Fits (r n s m u : Int) : Prop := 0 ≤ u ∧ u < lc n m ∧ n ∣ u - r ∧ m ∣ u - s
theorem Fits.uniq {r n s m u v : Int} (hn : 0 < n) (h : Fits r n s m u) (k : Fits r n s m v) : u = v := by
  refine eq_of_dvd h.1 h.2.1 k.1 k.2.1 (lc_least hn ?_ ?_)
  · have := Int.dvd_sub h.2.2.1 k.2.2.1
    rw [show u - r - (v - r) = u - v by omega] at this
    exact this
  · have := Int.dvd_sub h.2.2.2 k.2.2.2
    rw [show u - s - (v - s) = u - v by omega] at this
    exact this
theorem Fits.gcd {r n s m u : Int} (h : Fits r n s m u) : (Int.gcd n m : Int) ∣ s - r := by
  have h1 := Int.dvd_trans (Int.gcd_dvd_left n m) h.2.2.1
  have h2 := Int.dvd_trans (Int.gcd_dvd_right n m) h.2.2.2
  have := Int.dvd_sub h1 h2
  rw [show u - r - (u - s) = s - r by omega] at this
  exact this
/-- the program's formula -/
theorem Fits.of {r n s m x y : Int} (hn : 0 < n) (hm : 0 < m) (hxy : n * x + m * y = (Int.gcd n m : Int)) (h : (Int.gcd n m : Int) ∣ s - r) : Fits r n s m ((r + n * ((s - r) / (Int.gcd n m : Int) * x)) % lc n m) := by
  have hW := lc_pos hn hm
  refine ⟨Int.emod_nonneg _ (by omega), Int.emod_lt_of_pos _ hW, ?_, ?_⟩
  · have a : lc n m ∣ (r + n * ((s - r) / (Int.gcd n m : Int) * x)) - (r + n * ((s - r) / (Int.gcd n m : Int) * x)) % lc n m := Int.dvd_self_sub_emod
    have b := Int.dvd_trans lc_left a
    have c : n ∣ n * ((s - r) / (Int.gcd n m : Int) * x) := Int.dvd_mul_right _ _
    have d := Int.dvd_sub c b
    rw [show ∀ p q w : Int, p - (r + p - q) = q - r by intros; omega] at d
    · exact d
    · exact 0
  · have a : lc n m ∣ (r + n * ((s - r) / (Int.gcd n m : Int) * x)) - (r + n * ((s - r) / (Int.gcd n m : Int) * x)) % lc n m := Int.dvd_self_sub_emod
    have b := Int.dvd_trans lc_right a
    obtain ⟨k, hk⟩ := h
    have hg := gcd_pos (m := m) hn
    have e : (s - r) / (Int.gcd n m : Int) = k := by rw [hk]; exact Int.mul_ediv_cancel_left _ (by omega)
    have c : m ∣ (r + n * ((s - r) / (Int.gcd n m : Int) * x)) - s := by
      rw [e]
      have : n * (k * x) = k * (n * x) := by ac_rfl
      rw [this, show n * x = (Int.gcd n m : Int) - m * y by omega, Int.mul_sub, show k * (Int.gcd n m : Int) = (Int.gcd n m : Int) * k by ac_rfl, ← hk]
      refine ⟨-(k * y), ?_⟩
      have : k * (m * y) = m * (k * y) := by ac_rfl
      rw [this, Int.mul_neg]
      omega
    have d := Int.dvd_sub c b
    rw [show ∀ p q : Int, p - s - (p - q) = q - s by intros; omega] at d
    exact d
theorem fits_iff {r n s m : Int} (hn : 0 < n) (hm : 0 < m) : (∃ u, Fits r n s m u) ↔ (Int.gcd n m : Int) ∣ s - r := by
  constructor
  · rintro ⟨u, h⟩
    exact h.gcd
  · intro h
    obtain ⟨x, y, e⟩ := bez n m
    exact ⟨_, Fits.of hn hm e h⟩
open Classical in
/-- all pairs joined, one behind another -/
noncomputable def foldJ : List (Int × Int) → Int × Int → Option (Int × Int)
  | [], st => some st
  | q :: ps, st => if h : ∃ u, Fits st.1 st.2 q.1 q.2 u then foldJ ps (Classical.choose h, lc st.2 q.2) else none
theorem foldJ_yes {q : Int × Int} {ps : List (Int × Int)} {r n u : Int} (hn : 0 < n) (h : Fits r n q.1 q.2 u) : foldJ (q :: ps) (r, n) = foldJ ps (u, lc n q.2) := by
  have hh : ∃ u, Fits (r, n).1 (r, n).2 q.1 q.2 u := ⟨u, h⟩
  have e : foldJ (q :: ps) (r, n) = foldJ ps (Classical.choose hh, lc n q.2) := by
    conv => lhs; unfold foldJ
    exact dif_pos hh
  rw [e, Fits.uniq hn (Classical.choose_spec hh) h]
theorem foldJ_no {q : Int × Int} {ps : List (Int × Int)} {r n : Int} (h : ¬ ∃ u, Fits r n q.1 q.2 u) : foldJ (q :: ps) (r, n) = none := by
  unfold foldJ
  exact dif_neg h
def Compat (p q : Int × Int) : Prop := (Int.gcd p.2 q.2 : Int) ∣ p.1 - q.1
structure InvJ (P : List (Int × Int)) (r n : Int) : Prop where
  n0 : 0 < n
  at_ : ∀ p ∈ P, p.2 ∣ n ∧ p.2 ∣ r - p.1
  sup : ∀ k t : Int, (∀ p ∈ P, (Int.gcd p.2 k : Int) ∣ t) → (Int.gcd n k : Int) ∣ t
theorem InvJ.nil : InvJ [] 0 1 := ⟨by decide, fun _ h => (nomatch h), fun k t _ => by simp⟩
theorem InvJ.snoc {P : List (Int × Int)} {r n u : Int} {q : Int × Int} (I : InvJ P r n) (hm : 0 < q.2) (h : Fits r n q.1 q.2 u) : InvJ (P ++ [q]) u (lc n q.2) := by
  refine ⟨lc_pos I.n0 hm, fun p hp => ?_, fun k t ht => ?_⟩
  · rcases List.mem_append.mp hp with hp | hp
    · obtain ⟨a, b⟩ := I.at_ p hp
      refine ⟨Int.dvd_trans a lc_left, ?_⟩
      have := Int.dvd_add (Int.dvd_trans a h.2.2.1) b
      rw [show u - r + (r - p.1) = u - p.1 by omega] at this
      exact this
    · rw [List.mem_singleton.mp hp]
      exact ⟨lc_right, h.2.2.2⟩
  · exact gcd_lc I.n0 (I.sup k t fun p hp => ht p (List.mem_append_left _ hp)) (ht q (List.mem_append_right _ (List.mem_singleton.mpr rfl)))
theorem InvJ.fits_iff {P : List (Int × Int)} {r n : Int} {q : Int × Int} (I : InvJ P r n) (hm : 0 < q.2) : (∃ u, Fits r n q.1 q.2 u) ↔ ∀ p ∈ P, Compat p q := by
  rw [Nm.fits_iff I.n0 hm]
  constructor
  · intro h p hp
    obtain ⟨a, b⟩ := I.at_ p hp
    have h1 : (Int.gcd p.2 q.2 : Int) ∣ (Int.gcd n q.2 : Int) := Int.dvd_coe_gcd (Int.dvd_trans (Int.gcd_dvd_left _ _) a) (Int.gcd_dvd_right _ _)
    have h2 := Int.dvd_trans h1 h
    have h3 := Int.dvd_trans (Int.gcd_dvd_left p.2 q.2) b
    have := Int.dvd_add h2 h3
    rw [show q.1 - r + (r - p.1) = -(p.1 - q.1) by omega] at this
    exact Int.dvd_neg.mp this
  · intro h
    refine I.sup _ _ fun p hp => ?_
    obtain ⟨a, b⟩ := I.at_ p hp
    have h3 := Int.dvd_trans (Int.gcd_dvd_left p.2 q.2) b
    have := Int.dvd_add (h p hp) h3
    rw [show p.1 - q.1 + (r - p.1) = -(q.1 - r) by omega] at this
    exact Int.dvd_neg.mp this
def AllC (P : List (Int × Int)) : List (Int × Int) → Prop
  | [] => True
  | q :: ps => (∀ p ∈ P, Compat p q) ∧ AllC (P ++ [q]) ps
theorem foldJ_iff : ∀ (ps P : List (Int × Int)) (r n : Int), InvJ P r n → (∀ q ∈ ps, 0 < q.2) → ((∃ st, foldJ ps (r, n) = some st) ↔ AllC P ps)
  | [], P, r, n, _, _ => ⟨fun _ => trivial, fun _ => ⟨_, rfl⟩⟩
  | q :: ps, P, r, n, I, hm => by
    have hq := hm q List.mem_cons_self
    by_cases h : ∃ u, Fits r n q.1 q.2 u
    · obtain ⟨u, hu⟩ := h
      rw [foldJ_yes I.n0 hu, foldJ_iff ps (P ++ [q]) u _ (I.snoc hq hu) fun z hz => hm z (List.mem_cons_of_mem _ hz)]
      exact ⟨fun z => ⟨(I.fits_iff hq).mp ⟨u, hu⟩, z⟩, fun z => z.2⟩
    · rw [foldJ_no h]
      refine ⟨fun z => ?_, fun z => absurd ((I.fits_iff hq).mpr z.1) h⟩
      obtain ⟨_, z⟩ := z
      cases z
theorem allC_iff : ∀ (ps P : List (Int × Int)), AllC P ps ↔ ∀ i (hi : i < ps.length), ∀ p ∈ P ++ ps.take i, Compat p ps[i]
  | [], P => ⟨fun _ i hi => absurd hi (by simp), fun _ => trivial⟩
  | q :: ps, P => by
    show ((∀ p ∈ P, Compat p q) ∧ AllC (P ++ [q]) ps) ↔ _
    rw [allC_iff ps (P ++ [q])]
    constructor
    · rintro ⟨h1, h2⟩ i hi p hp
      cases i with
      | zero =>
        simp only [List.take_zero, List.append_nil] at hp
        exact h1 p hp
      | succ i =>
        refine h2 i (by simpa using hi) p ?_
        rw [List.take_succ_cons] at hp
        simpa using hp
    · intro h
      refine ⟨fun p hp => h 0 (by simp) p (by simpa using hp), fun i hi p hp => ?_⟩
      have := h (i + 1) (by simpa using hi) p (by rw [List.take_succ_cons]; simpa using hp)
      exact this
theorem lc_le {n m : Int} (hn : 0 < n) (hm : 0 < m) : lc n m ≤ n * m := by
  unfold lc
  refine Int.mul_le_mul_of_nonneg_right ?_ (by omega)
  exact Int.ediv_le_self _ (by omega)
end Nm

/-! FdG: common divisors, cofactors: the program's own, shared by many laws. -/
namespace Fd
open PySem PySem.Spec PyProof.Rows L2 Nm
theorem abs_i {i : Int} {μ : Sto} : f_abs [.int i] μ = some (.int (i.natAbs : Int), μ) := by
  show some (PV.int (if i < 0 then -i else i), μ) = _
  congr 3
  split <;> omega
/-! ### common divisors -/
theorem gcd_loop (μ : Sto) : ∀ (b a : Nat), sWh (tB1 (d2 f_ne (cVar 1) (cK (.int 0)))) (sPar 0 1 (aCons (cVar 1) (aCons (d2 f_mod (cVar 0) (cVar 1)) aNil))) [some (.int a), some (.int b)] μ = some (.nx [some (.int (Nat.gcd a b : Nat)), some (.int 0)] μ) := by
  intro b
  induction b using Nat.strongRecOn with
  | ind b ih =>
    intro a
    by_cases hb : b = 0
    · subst hb
      rw [Nat.gcd_zero_right]
      apply wh_done
      (repeat' first | (with_reducible apply ev_var; exact rfl) | with_reducible exact ev_K | with_reducible exact ev_aNil | with_reducible exact ev_oNo | with_reducible exact ev_tAll | with_reducible exact ev_gsN | with_reducible apply ev_aCons | with_reducible apply ev_d2 | with_reducible apply ev_d1 | with_reducible apply ev_dN | with_reducible apply ev_dCall | with_reducible apply ev_dTup | with_reducible apply ev_dLst | with_reducible apply ev_dLoc | with_reducible apply ev_sl | with_reducible apply ev_oSo | with_reducible apply ev_ch2b | with_reducible apply ev_ch3b | with_reducible apply ev_tB | with_reducible apply ev_tTru | with_reducible apply ev_tNo | with_reducible apply ev_no | with_reducible apply ev_dML | with_reducible apply ev_gTu | with_reducible apply ev_gsC | with_reducible apply ev_gSb | with_reducible apply ev_gNm | (simp only [List.length_cons, List.length_nil]; exact len_le (by decide)) | exact decide_eq_true (by omega) | exact decide_eq_false (by omega) | exact ne_t (by omega) | exact ne_f (by omega) | with_reducible apply lt_ii | with_reducible apply le_ii | with_reducible apply gt_ii | with_reducible apply ge_ii | with_reducible apply eq_ii | with_reducible apply ne_ii | with_reducible apply eq_ss | with_reducible exact add_ii | with_reducible exact sub_ii | with_reducible exact neg_i | with_reducible apply mul_ii | exact okMul_small (by omega) (by omega) | exact mod_ii (by omega) | exact fdiv_ii (by omega) (by omega) | exact mod_ni (by omega) | exact fdiv_ni (by omega) (by omega) | exact pow_ii (by omega) (by omega) (by omega) | with_reducible apply ix_tup | with_reducible apply ix_lst | (simp only [List.set_cons_succ, List.set_cons_zero]; rfl) | exact rfl)
    · have e := ih (a % b) (Nat.mod_lt _ (by omega)) b
      rw [gcd_turn] at e
      refine wh_step (ρ' := [some (.int b), some (.int (a % b : Nat))]) (μ1 := μ) (μ' := μ) ?_ ?_ e
      · (repeat' first | (with_reducible apply ev_var; exact rfl) | with_reducible exact ev_K | with_reducible exact ev_aNil | with_reducible exact ev_oNo | with_reducible exact ev_tAll | with_reducible exact ev_gsN | with_reducible apply ev_aCons | with_reducible apply ev_d2 | with_reducible apply ev_d1 | with_reducible apply ev_dN | with_reducible apply ev_dCall | with_reducible apply ev_dTup | with_reducible apply ev_dLst | with_reducible apply ev_dLoc | with_reducible apply ev_sl | with_reducible apply ev_oSo | with_reducible apply ev_ch2b | with_reducible apply ev_ch3b | with_reducible apply ev_tB | with_reducible apply ev_tTru | with_reducible apply ev_tNo | with_reducible apply ev_no | with_reducible apply ev_dML | with_reducible apply ev_gTu | with_reducible apply ev_gsC | with_reducible apply ev_gSb | with_reducible apply ev_gNm | (simp only [List.length_cons, List.length_nil]; exact len_le (by decide)) | exact decide_eq_true (by omega) | exact decide_eq_false (by omega) | exact ne_t (by omega) | exact ne_f (by omega) | with_reducible apply lt_ii | with_reducible apply le_ii | with_reducible apply gt_ii | with_reducible apply ge_ii | with_reducible apply eq_ii | with_reducible apply ne_ii | with_reducible apply eq_ss | with_reducible exact add_ii | with_reducible exact sub_ii | with_reducible exact neg_i | with_reducible apply mul_ii | exact okMul_small (by omega) (by omega) | exact mod_ii (by omega) | exact fdiv_ii (by omega) (by omega) | exact mod_ni (by omega) | exact fdiv_ni (by omega) (by omega) | exact pow_ii (by omega) (by omega) (by omega) | with_reducible apply ix_tup | with_reducible apply ix_lst | (simp only [List.set_cons_succ, List.set_cons_zero]; rfl) | exact rfl)
      · have hm : f_mod (.int a) (.int b) μ = some (.int ((a % b : Nat) : Int), μ) := by rw [mod_ii (by omega)]; rfl
        ((first | with_reducible apply ev_set | with_reducible apply ev_par | with_reducible apply ev_par3 | with_reducible apply ev_asg | with_reducible apply ev_ex | with_reducible apply ev_ret | with_reducible exact ev_sNil | (with_reducible apply ev_aug; exact rfl)) <;> (repeat' first | (with_reducible apply ev_var; exact rfl) | with_reducible exact ev_K | with_reducible exact hm | with_reducible exact ev_aNil | with_reducible exact ev_oNo | with_reducible exact ev_tAll | with_reducible exact ev_gsN | with_reducible apply ev_aCons | with_reducible apply ev_d2 | with_reducible apply ev_d1 | with_reducible apply ev_dN | with_reducible apply ev_dCall | with_reducible apply ev_dTup | with_reducible apply ev_dLst | with_reducible apply ev_dLoc | with_reducible apply ev_sl | with_reducible apply ev_oSo | with_reducible apply ev_ch2b | with_reducible apply ev_ch3b | with_reducible apply ev_tB | with_reducible apply ev_tTru | with_reducible apply ev_tNo | with_reducible apply ev_no | with_reducible apply ev_dML | with_reducible apply ev_gTu | with_reducible apply ev_gsC | with_reducible apply ev_gSb | with_reducible apply ev_gNm | (simp only [List.length_cons, List.length_nil]; exact len_le (by decide)) | exact decide_eq_true (by omega) | exact decide_eq_false (by omega) | exact ne_t (by omega) | exact ne_f (by omega) | with_reducible apply lt_ii | with_reducible apply le_ii | with_reducible apply gt_ii | with_reducible apply ge_ii | with_reducible apply eq_ii | with_reducible apply ne_ii | with_reducible apply eq_ss | with_reducible exact add_ii | with_reducible exact sub_ii | with_reducible exact neg_i | with_reducible apply mul_ii | exact okMul_small (by omega) (by omega) | exact mod_ii (by omega) | exact fdiv_ii (by omega) (by omega) | exact mod_ni (by omega) | exact fdiv_ni (by omega) (by omega) | exact pow_ii (by omega) (by omega) (by omega) | with_reducible apply ix_tup | with_reducible apply ix_lst | (simp only [List.set_cons_succ, List.set_cons_zero]; rfl) | exact rfl | exact hm))
noncomputable def dGcd : DenS :=
  (sSeq (sPar 0 1 (aCons (dN f_abs (aCons (cVar 0) aNil)) (aCons (dN f_abs (aCons (cVar 1) aNil)) aNil)))
  (sSeq (sWh (tB1 (d2 f_ne (cVar 1) (cK (.int 0)))) (sPar 0 1 (aCons (cVar 1) (aCons (d2 f_mod (cVar 0) (cVar 1)) aNil))))
  (sRet (cVar 0))))
noncomputable def p_gcd : Fn := runF 2 dGcd
theorem gcd_ok (a b : Int) (μ : Sto) : p_gcd [.int a, .int b] μ = some (.int (Int.gcd a b : Int), μ) := by
  refine runF_rt (ρ := [some (.int a), some (.int b)]) rfl ?_
  (apply ev_seq; case' ha => ((first | with_reducible apply ev_set | with_reducible apply ev_par | with_reducible apply ev_par3 | with_reducible apply ev_asg | with_reducible apply ev_ex | with_reducible apply ev_ret | with_reducible exact ev_sNil | (with_reducible apply ev_aug; exact rfl)) <;> (repeat' first | (with_reducible apply ev_var; exact rfl) | with_reducible exact ev_K | with_reducible exact abs_i | with_reducible exact ev_aNil | with_reducible exact ev_oNo | with_reducible exact ev_tAll | with_reducible exact ev_gsN | with_reducible apply ev_aCons | with_reducible apply ev_d2 | with_reducible apply ev_d1 | with_reducible apply ev_dN | with_reducible apply ev_dCall | with_reducible apply ev_dTup | with_reducible apply ev_dLst | with_reducible apply ev_dLoc | with_reducible apply ev_sl | with_reducible apply ev_oSo | with_reducible apply ev_ch2b | with_reducible apply ev_ch3b | with_reducible apply ev_tB | with_reducible apply ev_tTru | with_reducible apply ev_tNo | with_reducible apply ev_no | with_reducible apply ev_dML | with_reducible apply ev_gTu | with_reducible apply ev_gsC | with_reducible apply ev_gSb | with_reducible apply ev_gNm | (simp only [List.length_cons, List.length_nil]; exact len_le (by decide)) | exact decide_eq_true (by omega) | exact decide_eq_false (by omega) | exact ne_t (by omega) | exact ne_f (by omega) | with_reducible apply lt_ii | with_reducible apply le_ii | with_reducible apply gt_ii | with_reducible apply ge_ii | with_reducible apply eq_ii | with_reducible apply ne_ii | with_reducible apply eq_ss | with_reducible exact add_ii | with_reducible exact sub_ii | with_reducible exact neg_i | with_reducible apply mul_ii | exact okMul_small (by omega) (by omega) | exact mod_ii (by omega) | exact fdiv_ii (by omega) (by omega) | exact mod_ni (by omega) | exact fdiv_ni (by omega) (by omega) | exact pow_ii (by omega) (by omega) (by omega) | with_reducible apply ix_tup | with_reducible apply ix_lst | (simp only [List.set_cons_succ, List.set_cons_zero]; rfl) | exact rfl | exact abs_i)))
  apply ev_seq (gcd_loop μ b.natAbs a.natAbs)
  ((first | with_reducible apply ev_set | with_reducible apply ev_par | with_reducible apply ev_par3 | with_reducible apply ev_asg | with_reducible apply ev_ex | with_reducible apply ev_ret | with_reducible exact ev_sNil | (with_reducible apply ev_aug; exact rfl)) <;> (repeat' first | (with_reducible apply ev_var; exact rfl) | with_reducible exact ev_K | with_reducible exact ev_aNil | with_reducible exact ev_oNo | with_reducible exact ev_tAll | with_reducible exact ev_gsN | with_reducible apply ev_aCons | with_reducible apply ev_d2 | with_reducible apply ev_d1 | with_reducible apply ev_dN | with_reducible apply ev_dCall | with_reducible apply ev_dTup | with_reducible apply ev_dLst | with_reducible apply ev_dLoc | with_reducible apply ev_sl | with_reducible apply ev_oSo | with_reducible apply ev_ch2b | with_reducible apply ev_ch3b | with_reducible apply ev_tB | with_reducible apply ev_tTru | with_reducible apply ev_tNo | with_reducible apply ev_no | with_reducible apply ev_dML | with_reducible apply ev_gTu | with_reducible apply ev_gsC | with_reducible apply ev_gSb | with_reducible apply ev_gNm | (simp only [List.length_cons, List.length_nil]; exact len_le (by decide)) | exact decide_eq_true (by omega) | exact decide_eq_false (by omega) | exact ne_t (by omega) | exact ne_f (by omega) | with_reducible apply lt_ii | with_reducible apply le_ii | with_reducible apply gt_ii | with_reducible apply ge_ii | with_reducible apply eq_ii | with_reducible apply ne_ii | with_reducible apply eq_ss | with_reducible exact add_ii | with_reducible exact sub_ii | with_reducible exact neg_i | with_reducible apply mul_ii | exact okMul_small (by omega) (by omega) | exact mod_ii (by omega) | exact fdiv_ii (by omega) (by omega) | exact mod_ni (by omega) | exact fdiv_ni (by omega) (by omega) | exact pow_ii (by omega) (by omega) (by omega) | with_reducible apply ix_tup | with_reducible apply ix_lst | (simp only [List.set_cons_succ, List.set_cons_zero]; rfl) | exact rfl))
/-! ### cofactors -/
noncomputable def dWc : DenS :=
  (sSeq (sIf (tB1 (d2 f_eq (cVar 1) (cK (.int 0)))) (sRet (dTup (aCons (dN f_abs (aCons (cVar 0) aNil)) (aCons (d2 f_sub (d2 f_gt (cVar 0) (cK (.int 0))) (d2 f_lt (cVar 0) (cK (.int 0)))) (aCons (cK (.int 0)) aNil))))) sNil)
  (sSeq (sPar 2 3 (aCons (dN f_abs (aCons (cVar 1) aNil)) (aCons (cK (.int 0)) aNil)))
  (sSeq (sPar 4 5 (aCons (d2 f_mod (cVar 0) (dN f_abs (aCons (cVar 1) aNil))) (aCons (cK (.int 1)) aNil)))
  (sSeq (sWh (tB1 (d2 f_ne (cVar 4) (cK (.int 0)))) (sSeq (sAsg (d2 f_fdiv (cVar 2) (cVar 4)) (gNm 6))
  (sAsg (dTup (aCons (cVar 4) (aCons (cVar 5) (aCons (d2 f_sub (cVar 2) (d2 f_mul (cVar 6) (cVar 4))) (aCons (d2 f_sub (cVar 3) (d2 f_mul (cVar 6) (cVar 5))) aNil))))) (gTu 4 (gsCons (gNm 2) (gsCons (gNm 3) (gsCons (gNm 4) (gsCons (gNm 5) gsNil))))))))
  (sSeq (sAsg (d2 f_mod (cVar 3) (d2 f_fdiv (dN f_abs (aCons (cVar 1) aNil)) (cVar 2))) (gNm 3))
  (sRet (dTup (aCons (cVar 2) (aCons (cVar 3) (aCons (d2 f_fdiv (d2 f_sub (cVar 2) (d2 f_mul (cVar 0) (cVar 3))) (cVar 1)) aNil))))))))))
noncomputable def p_wc : Fn := runF 7 dWc
def wcBody : DenS := (sSeq (sAsg (d2 f_fdiv (cVar 2) (cVar 4)) (gNm 6))
  (sAsg (dTup (aCons (cVar 4) (aCons (cVar 5) (aCons (d2 f_sub (cVar 2) (d2 f_mul (cVar 6) (cVar 4))) (aCons (d2 f_sub (cVar 3) (d2 f_mul (cVar 6) (cVar 5))) aNil))))) (gTu 4 (gsCons (gNm 2) (gsCons (gNm 3) (gsCons (gNm 4) (gsCons (gNm 5) gsNil)))))))
structure WcI (a B : Int) (G : Nat) (g x r o X O : Int) : Prop where
  g0 : 0 < g
  gB : g ≤ B
  r0 : 0 ≤ r
  rg : r < g
  h1 : B ∣ a * x - g
  h2 : B ∣ a * o - r
  hG : Nat.gcd g.natAbs r.natAbs = G
  x1 : -X ≤ x
  x2 : x ≤ X
  o1 : -O ≤ o
  o2 : o ≤ O
  XB : X ≤ B
  O0 : 0 ≤ O
  X0 : 0 ≤ X
  sm : X * r + O * g ≤ B
theorem WcI.O_le {a B : Int} {G : Nat} {g x r o X O : Int} (I : WcI a B G g x r o X O) : O ≤ B := by
  have h := I.sm
  have h1 : O * 1 ≤ O * g := Int.mul_le_mul_of_nonneg_left (by have := I.g0; omega) I.O0
  have h2 : 0 ≤ X * r := Int.mul_nonneg I.X0 I.r0
  omega
theorem mul_small {i j : Int} {B : Int} (h0 : 0 ≤ i) (h : i ≤ B) (j1 : -B ≤ j) (j2 : j ≤ B) (hB : B < 2 ^ 95) : okMul i j = true := okMul_small (by omega) (by omega)
theorem WcI.step {a B : Int} {G : Nat} {g x r o X O : Int} (I : WcI a B G g x r o X O) (hr : r ≠ 0) : WcI a B G r o (g - g / r * r) (x - g / r * o) O (X + g / r * O) := by
  have r0 := I.r0
  have g0 := I.g0
  have rg := I.rg
  have gB := I.gB
  have hrp : 0 < r := by omega
  have e : g - g / r * r = g % r := by
    have := Int.emod_add_mul_ediv g r
    rw [Int.mul_comm r] at this
    omega
  have t0 : 0 ≤ g / r := Int.ediv_nonneg (by omega) (by omega)
  have hto1 : -(g / r * O) ≤ g / r * o := by rw [← Int.mul_neg]; exact Int.mul_le_mul_of_nonneg_left I.o1 t0
  have hto2 : g / r * o ≤ g / r * O := Int.mul_le_mul_of_nonneg_left I.o2 t0
  have htO : 0 ≤ g / r * O := Int.mul_nonneg t0 I.O0
  have x1 := I.x1; have x2 := I.x2; have X0 := I.X0
  refine ⟨hrp, by omega, ?_, ?_, I.h2, wc_turn I.h1 I.h2 _, ?_, I.o1, I.o2, by omega, by omega, I.O_le, by omega, I.O0, ?_⟩
  · rw [e]; exact Int.emod_nonneg _ (by omega)
  · rw [e]; exact Int.emod_lt_of_pos _ hrp
  · rw [e, ← I.hG, ← gcd_turn g.natAbs r.natAbs]
    obtain ⟨g', rfl⟩ := Int.eq_ofNat_of_zero_le (show 0 ≤ g by omega)
    obtain ⟨r', rfl⟩ := Int.eq_ofNat_of_zero_le r0
    rfl
  · have h := I.sm
    have q : O * (g - g / r * r) + (X + g / r * O) * r = X * r + O * g := by
      rw [Int.mul_sub, Int.add_mul, show O * (g / r * r) = g / r * O * r by ac_rfl]
      omega
    omega
theorem wc_loop (a b B : Int) (G : Nat) (hB : B < 2 ^ 95) (μ : Sto) : ∀ (n : Nat) (g x r o X O : Int) (t : Option PV), r.natAbs = n → WcI a B G g x r o X O →
    ∃ (x' o' : Int) (t' : Option PV), B ∣ a * x' - G ∧ -B ≤ x' ∧ x' ≤ B ∧ sWh (tB1 (d2 f_ne (cVar 4) (cK (.int 0)))) wcBody [some (.int a), some (.int b), some (.int g), some (.int x), some (.int r), some (.int o), t] μ =
      some (.nx [some (.int a), some (.int b), some (.int G), some (.int x'), some (.int 0), some (.int o'), t'] μ) := by
  intro n
  induction n using Nat.strongRecOn with
  | ind n ih =>
    intro g x r o X O t hn I
    have r0 := I.r0
    have g0 := I.g0
    have rg := I.rg
    have gB := I.gB
    have x1 := I.x1; have x2 := I.x2; have X0 := I.X0; have XB := I.XB
    have o1 := I.o1; have o2 := I.o2; have OB := I.O_le
    by_cases hr : r = 0
    · have hg : (G : Int) = g := by
        have := I.hG
        rw [hr, Int.natAbs_zero, Nat.gcd_zero_right] at this
        omega
      refine ⟨x, o, t, by rw [hg]; exact I.h1, by omega, by omega, ?_⟩
      rw [hg, hr]
      apply wh_done
      (repeat' first | (with_reducible apply ev_var; exact rfl) | with_reducible exact ev_K | with_reducible exact ev_aNil | with_reducible exact ev_oNo | with_reducible exact ev_tAll | with_reducible exact ev_gsN | with_reducible apply ev_aCons | with_reducible apply ev_d2 | with_reducible apply ev_d1 | with_reducible apply ev_dN | with_reducible apply ev_dCall | with_reducible apply ev_dTup | with_reducible apply ev_dLst | with_reducible apply ev_dLoc | with_reducible apply ev_sl | with_reducible apply ev_oSo | with_reducible apply ev_ch2b | with_reducible apply ev_ch3b | with_reducible apply ev_tB | with_reducible apply ev_tTru | with_reducible apply ev_tNo | with_reducible apply ev_no | with_reducible apply ev_dML | with_reducible apply ev_gTu | with_reducible apply ev_gsC | with_reducible apply ev_gSb | with_reducible apply ev_gNm | (simp only [List.length_cons, List.length_nil]; exact len_le (by decide)) | exact decide_eq_true (by omega) | exact decide_eq_false (by omega) | exact ne_t (by omega) | exact ne_f (by omega) | with_reducible apply lt_ii | with_reducible apply le_ii | with_reducible apply gt_ii | with_reducible apply ge_ii | with_reducible apply eq_ii | with_reducible apply ne_ii | with_reducible apply eq_ss | with_reducible exact add_ii | with_reducible exact sub_ii | with_reducible exact neg_i | with_reducible apply mul_ii | exact okMul_small (by omega) (by omega) | exact mod_ii (by omega) | exact fdiv_ii (by omega) (by omega) | exact mod_ni (by omega) | exact fdiv_ni (by omega) (by omega) | exact pow_ii (by omega) (by omega) (by omega) | with_reducible apply ix_tup | with_reducible apply ix_lst | (simp only [List.set_cons_succ, List.set_cons_zero]; rfl) | exact rfl)
    · have I2 := I.step hr
      have hlt : (g - g / r * r).natAbs < n := by have := I2.r0; have := I2.rg; omega
      obtain ⟨x', o', t', k1, k2, k3, k4⟩ := ih _ hlt r o (g - g / r * r) (x - g / r * o) _ _ (some (.int (g / r))) rfl I2
      refine ⟨x', o', t', k1, k2, k3, ?_⟩
      have t0 : 0 ≤ g / r := Int.ediv_nonneg (by omega) (by omega)
      have tg : g / r ≤ g := Int.ediv_le_self _ (by omega)
      refine wh_step (μ1 := μ) (μ' := μ) ?_ ?_ k4
      · (repeat' first | (with_reducible apply ev_var; exact rfl) | with_reducible exact ev_K | with_reducible exact ev_aNil | with_reducible exact ev_oNo | with_reducible exact ev_tAll | with_reducible exact ev_gsN | with_reducible apply ev_aCons | with_reducible apply ev_d2 | with_reducible apply ev_d1 | with_reducible apply ev_dN | with_reducible apply ev_dCall | with_reducible apply ev_dTup | with_reducible apply ev_dLst | with_reducible apply ev_dLoc | with_reducible apply ev_sl | with_reducible apply ev_oSo | with_reducible apply ev_ch2b | with_reducible apply ev_ch3b | with_reducible apply ev_tB | with_reducible apply ev_tTru | with_reducible apply ev_tNo | with_reducible apply ev_no | with_reducible apply ev_dML | with_reducible apply ev_gTu | with_reducible apply ev_gsC | with_reducible apply ev_gSb | with_reducible apply ev_gNm | (simp only [List.length_cons, List.length_nil]; exact len_le (by decide)) | exact decide_eq_true (by omega) | exact decide_eq_false (by omega) | exact ne_t (by omega) | exact ne_f (by omega) | with_reducible apply lt_ii | with_reducible apply le_ii | with_reducible apply gt_ii | with_reducible apply ge_ii | with_reducible apply eq_ii | with_reducible apply ne_ii | with_reducible apply eq_ss | with_reducible exact add_ii | with_reducible exact sub_ii | with_reducible exact neg_i | with_reducible apply mul_ii | exact okMul_small (by omega) (by omega) | exact mod_ii (by omega) | exact fdiv_ii (by omega) (by omega) | exact mod_ni (by omega) | exact fdiv_ni (by omega) (by omega) | exact pow_ii (by omega) (by omega) (by omega) | with_reducible apply ix_tup | with_reducible apply ix_lst | (simp only [List.set_cons_succ, List.set_cons_zero]; rfl) | exact rfl)
      · have m1 : f_mul (.int (g / r)) (.int r) μ = some (.int (g / r * r), μ) := mul_ii (mul_small t0 (by omega) (by omega) (by omega) hB)
        have m2 : f_mul (.int (g / r)) (.int o) μ = some (.int (g / r * o), μ) := mul_ii (mul_small t0 (by omega) (by omega) (by omega) hB)
        (apply ev_seq; case' ha => ((first | with_reducible apply ev_set | with_reducible apply ev_par | with_reducible apply ev_par3 | with_reducible apply ev_asg | with_reducible apply ev_ex | with_reducible apply ev_ret | with_reducible exact ev_sNil | (with_reducible apply ev_aug; exact rfl)) <;> (repeat' first | (with_reducible apply ev_var; exact rfl) | with_reducible exact ev_K | with_reducible exact ev_aNil | with_reducible exact ev_oNo | with_reducible exact ev_tAll | with_reducible exact ev_gsN | with_reducible apply ev_aCons | with_reducible apply ev_d2 | with_reducible apply ev_d1 | with_reducible apply ev_dN | with_reducible apply ev_dCall | with_reducible apply ev_dTup | with_reducible apply ev_dLst | with_reducible apply ev_dLoc | with_reducible apply ev_sl | with_reducible apply ev_oSo | with_reducible apply ev_ch2b | with_reducible apply ev_ch3b | with_reducible apply ev_tB | with_reducible apply ev_tTru | with_reducible apply ev_tNo | with_reducible apply ev_no | with_reducible apply ev_dML | with_reducible apply ev_gTu | with_reducible apply ev_gsC | with_reducible apply ev_gSb | with_reducible apply ev_gNm | (simp only [List.length_cons, List.length_nil]; exact len_le (by decide)) | exact decide_eq_true (by omega) | exact decide_eq_false (by omega) | exact ne_t (by omega) | exact ne_f (by omega) | with_reducible apply lt_ii | with_reducible apply le_ii | with_reducible apply gt_ii | with_reducible apply ge_ii | with_reducible apply eq_ii | with_reducible apply ne_ii | with_reducible apply eq_ss | with_reducible exact add_ii | with_reducible exact sub_ii | with_reducible exact neg_i | with_reducible apply mul_ii | exact okMul_small (by omega) (by omega) | exact mod_ii (by omega) | exact fdiv_ii (by omega) (by omega) | exact mod_ni (by omega) | exact fdiv_ni (by omega) (by omega) | exact pow_ii (by omega) (by omega) (by omega) | with_reducible apply ix_tup | with_reducible apply ix_lst | (simp only [List.set_cons_succ, List.set_cons_zero]; rfl) | exact rfl)))
        ((first | with_reducible apply ev_set | with_reducible apply ev_par | with_reducible apply ev_par3 | with_reducible apply ev_asg | with_reducible apply ev_ex | with_reducible apply ev_ret | with_reducible exact ev_sNil | (with_reducible apply ev_aug; exact rfl)) <;> (repeat' first | (with_reducible apply ev_var; exact rfl) | with_reducible exact ev_K | with_reducible exact m1 | with_reducible exact m2 | with_reducible exact ev_aNil | with_reducible exact ev_oNo | with_reducible exact ev_tAll | with_reducible exact ev_gsN | with_reducible apply ev_aCons | with_reducible apply ev_d2 | with_reducible apply ev_d1 | with_reducible apply ev_dN | with_reducible apply ev_dCall | with_reducible apply ev_dTup | with_reducible apply ev_dLst | with_reducible apply ev_dLoc | with_reducible apply ev_sl | with_reducible apply ev_oSo | with_reducible apply ev_ch2b | with_reducible apply ev_ch3b | with_reducible apply ev_tB | with_reducible apply ev_tTru | with_reducible apply ev_tNo | with_reducible apply ev_no | with_reducible apply ev_dML | with_reducible apply ev_gTu | with_reducible apply ev_gsC | with_reducible apply ev_gSb | with_reducible apply ev_gNm | (simp only [List.length_cons, List.length_nil]; exact len_le (by decide)) | exact decide_eq_true (by omega) | exact decide_eq_false (by omega) | exact ne_t (by omega) | exact ne_f (by omega) | with_reducible apply lt_ii | with_reducible apply le_ii | with_reducible apply gt_ii | with_reducible apply ge_ii | with_reducible apply eq_ii | with_reducible apply ne_ii | with_reducible apply eq_ss | with_reducible exact add_ii | with_reducible exact sub_ii | with_reducible exact neg_i | with_reducible apply mul_ii | exact okMul_small (by omega) (by omega) | exact mod_ii (by omega) | exact fdiv_ii (by omega) (by omega) | exact mod_ni (by omega) | exact fdiv_ni (by omega) (by omega) | exact pow_ii (by omega) (by omega) (by omega) | with_reducible apply ix_tup | with_reducible apply ix_lst | (simp only [List.set_cons_succ, List.set_cons_zero]; rfl) | exact rfl | exact m1 | exact m2))
/-- a * x + b * y = g, x the least -/
theorem wc_ok {a b : Int} (hb : b ≠ 0) (ha : a.natAbs < 2 ^ 90) (hb2 : b.natAbs < 2 ^ 90) (μ : Sto) : ∃ x y : Int, a * x + b * y = (Int.gcd a b : Int) ∧ 0 ≤ x ∧ x < (b.natAbs : Int) / (Int.gcd a b : Int) ∧ p_wc [.int a, .int b] μ = some (.tup [.int (Int.gcd a b : Int), .int x, .int y], μ) := by
  have hB0 : (0 : Int) < b.natAbs := by omega
  have hB : (b.natAbs : Int) < 2 ^ 95 := by omega
  have hr0 : 0 ≤ a % (b.natAbs : Int) := Int.emod_nonneg _ (by omega)
  have hr1 : a % (b.natAbs : Int) < (b.natAbs : Int) := Int.emod_lt_of_pos _ hB0
  have hG : Nat.gcd (b.natAbs : Int).natAbs (a % (b.natAbs : Int)).natAbs = Int.gcd a b := by
    have e : (Int.gcd (a % b.natAbs) b.natAbs : Nat) = Int.gcd a b.natAbs := by
      apply Nat.dvd_antisymm
      · refine Int.dvd_gcd ?_ (Int.gcd_dvd_right _ _)
        have h1 := Int.gcd_dvd_left (a % b.natAbs) (b.natAbs : Int)
        have h2 := Int.gcd_dvd_right (a % b.natAbs) (b.natAbs : Int)
        have h3 := Int.emod_add_mul_ediv a (b.natAbs : Int)
        have h4 := Int.dvd_add h1 (Int.dvd_trans h2 (Int.dvd_mul_right (b.natAbs : Int) (a / (b.natAbs : Int))))
        rw [h3] at h4
        exact h4
      · refine Int.dvd_gcd ?_ (Int.gcd_dvd_right _ _)
        have h1 := Int.gcd_dvd_left a (b.natAbs : Int)
        have h2 := Int.gcd_dvd_right a (b.natAbs : Int)
        have h3 := Int.emod_add_mul_ediv a (b.natAbs : Int)
        have h4 := Int.dvd_sub h1 (Int.dvd_trans h2 (Int.dvd_mul_right (b.natAbs : Int) (a / (b.natAbs : Int))))
        rw [show a - (b.natAbs : Int) * (a / (b.natAbs : Int)) = a % (b.natAbs : Int) by omega] at h4
        exact h4
    rw [Nat.gcd_comm]
    exact e.trans rfl
  have I : WcI a b.natAbs (Int.gcd a b) b.natAbs 0 (a % b.natAbs) 1 0 1 := by
    refine ⟨hB0, Int.le_refl _, hr0, hr1, ?_, ?_, hG, by decide, by decide, by decide, by decide, by omega, by decide, by decide, by omega⟩
    · rw [Int.mul_zero, Int.zero_sub]; exact Int.dvd_neg.mpr (Int.dvd_refl _)
    · rw [Int.mul_one]; exact Int.dvd_self_sub_emod
  obtain ⟨x, o, t, k1, k2, k3, k4⟩ := wc_loop a b _ _ hB μ _ _ _ _ _ _ _ none rfl I
  have hg0 : 0 < (Int.gcd a b : Int) := by rw [Int.gcd_comm]; exact (by
    have : Int.gcd b a ≠ 0 := fun h => hb (Int.gcd_eq_zero_iff.mp h).1
    omega)
  have hgB : (Int.gcd a b : Int) ∣ (b.natAbs : Int) := Int.dvd_natAbs.mpr (Int.gcd_dvd_right _ _)
  have hga := Int.gcd_dvd_left a b
  have hgle : (Int.gcd a b : Int) ≤ b.natAbs := Int.le_of_dvd hB0 hgB
  have hq : 0 < (b.natAbs : Int) / (Int.gcd a b : Int) := Int.ediv_pos_of_pos_of_dvd hB0 (by omega) hgB
  have hq2 : (b.natAbs : Int) / (Int.gcd a b : Int) ≤ b.natAbs := Int.ediv_le_self _ (by omega)
  have x0 : 0 ≤ x % ((b.natAbs : Int) / (Int.gcd a b : Int)) := Int.emod_nonneg _ (by omega)
  have x1 : x % ((b.natAbs : Int) / (Int.gcd a b : Int)) < (b.natAbs : Int) / (Int.gcd a b : Int) := Int.emod_lt_of_pos _ hq
  have d := wc_math hg0 hga hgB k1
  have f1 : f_fdiv (.int b.natAbs) (.int (Int.gcd a b : Int)) μ = some (.int ((b.natAbs : Int) / (Int.gcd a b : Int)), μ) := fdiv_ii hg0 (by omega)
  have f2 : f_mod (.int x) (.int ((b.natAbs : Int) / (Int.gcd a b : Int))) μ = some (.int (x % ((b.natAbs : Int) / (Int.gcd a b : Int))), μ) := mod_ii hq
  generalize x % ((b.natAbs : Int) / (Int.gcd a b : Int)) = x' at x0 x1 d f2
  have hbd : b ∣ (Int.gcd a b : Int) - a * x' := by
    have := Int.dvd_neg.mpr (Int.natAbs_dvd.mp d)
    rw [show -(a * x' - (Int.gcd a b : Int)) = (Int.gcd a b : Int) - a * x' by omega] at this
    exact this
  have f3 : f_fdiv (.int ((Int.gcd a b : Int) - a * x')) (.int b) μ = some (.int (((Int.gcd a b : Int) - a * x').fdiv b), μ) := by
    by_cases hp : 0 < b
    · rw [fdiv_ii hp (by omega), Int.fdiv_eq_ediv_of_nonneg _ (by omega)]
    · exact fdiv_ni (by omega) (by omega)
  have f4 : f_mul (.int a) (.int x') μ = some (.int (a * x'), μ) := mul_ii (okMul_small (by omega) (by omega))
  refine ⟨x', ((Int.gcd a b : Int) - a * x').fdiv b, ?_, x0, x1, ?_⟩
  · have := Int.fdiv_mul_cancel hbd
    rw [Int.mul_comm b]
    omega
  · refine runF_rt (ρ := [some (.int a), some (.int b), none, none, none, none, none]) rfl ?_
    apply ev_seq
    case ha =>
      (apply ev_sIf_f; case' hc => (repeat' first | (with_reducible apply ev_var; exact rfl) | with_reducible exact ev_K | with_reducible exact ev_aNil | with_reducible exact ev_oNo | with_reducible exact ev_tAll | with_reducible exact ev_gsN | with_reducible apply ev_aCons | with_reducible apply ev_d2 | with_reducible apply ev_d1 | with_reducible apply ev_dN | with_reducible apply ev_dCall | with_reducible apply ev_dTup | with_reducible apply ev_dLst | with_reducible apply ev_dLoc | with_reducible apply ev_sl | with_reducible apply ev_oSo | with_reducible apply ev_ch2b | with_reducible apply ev_ch3b | with_reducible apply ev_tB | with_reducible apply ev_tTru | with_reducible apply ev_tNo | with_reducible apply ev_no | with_reducible apply ev_dML | with_reducible apply ev_gTu | with_reducible apply ev_gsC | with_reducible apply ev_gSb | with_reducible apply ev_gNm | (simp only [List.length_cons, List.length_nil]; exact len_le (by decide)) | exact decide_eq_true (by omega) | exact decide_eq_false (by omega) | exact ne_t (by omega) | exact ne_f (by omega) | with_reducible apply lt_ii | with_reducible apply le_ii | with_reducible apply gt_ii | with_reducible apply ge_ii | with_reducible apply eq_ii | with_reducible apply ne_ii | with_reducible apply eq_ss | with_reducible exact add_ii | with_reducible exact sub_ii | with_reducible exact neg_i | with_reducible apply mul_ii | exact okMul_small (by omega) (by omega) | exact mod_ii (by omega) | exact fdiv_ii (by omega) (by omega) | exact mod_ni (by omega) | exact fdiv_ni (by omega) (by omega) | exact pow_ii (by omega) (by omega) (by omega) | with_reducible apply ix_tup | with_reducible apply ix_lst | (simp only [List.set_cons_succ, List.set_cons_zero]; rfl) | exact rfl))
      exact ev_sNil
    (apply ev_seq; case' ha => ((first | with_reducible apply ev_set | with_reducible apply ev_par | with_reducible apply ev_par3 | with_reducible apply ev_asg | with_reducible apply ev_ex | with_reducible apply ev_ret | with_reducible exact ev_sNil | (with_reducible apply ev_aug; exact rfl)) <;> (repeat' first | (with_reducible apply ev_var; exact rfl) | with_reducible exact ev_K | with_reducible exact abs_i | with_reducible exact ev_aNil | with_reducible exact ev_oNo | with_reducible exact ev_tAll | with_reducible exact ev_gsN | with_reducible apply ev_aCons | with_reducible apply ev_d2 | with_reducible apply ev_d1 | with_reducible apply ev_dN | with_reducible apply ev_dCall | with_reducible apply ev_dTup | with_reducible apply ev_dLst | with_reducible apply ev_dLoc | with_reducible apply ev_sl | with_reducible apply ev_oSo | with_reducible apply ev_ch2b | with_reducible apply ev_ch3b | with_reducible apply ev_tB | with_reducible apply ev_tTru | with_reducible apply ev_tNo | with_reducible apply ev_no | with_reducible apply ev_dML | with_reducible apply ev_gTu | with_reducible apply ev_gsC | with_reducible apply ev_gSb | with_reducible apply ev_gNm | (simp only [List.length_cons, List.length_nil]; exact len_le (by decide)) | exact decide_eq_true (by omega) | exact decide_eq_false (by omega) | exact ne_t (by omega) | exact ne_f (by omega) | with_reducible apply lt_ii | with_reducible apply le_ii | with_reducible apply gt_ii | with_reducible apply ge_ii | with_reducible apply eq_ii | with_reducible apply ne_ii | with_reducible apply eq_ss | with_reducible exact add_ii | with_reducible exact sub_ii | with_reducible exact neg_i | with_reducible apply mul_ii | exact okMul_small (by omega) (by omega) | exact mod_ii (by omega) | exact fdiv_ii (by omega) (by omega) | exact mod_ni (by omega) | exact fdiv_ni (by omega) (by omega) | exact pow_ii (by omega) (by omega) (by omega) | with_reducible apply ix_tup | with_reducible apply ix_lst | (simp only [List.set_cons_succ, List.set_cons_zero]; rfl) | exact rfl | exact abs_i)))
    (apply ev_seq; case' ha => ((first | with_reducible apply ev_set | with_reducible apply ev_par | with_reducible apply ev_par3 | with_reducible apply ev_asg | with_reducible apply ev_ex | with_reducible apply ev_ret | with_reducible exact ev_sNil | (with_reducible apply ev_aug; exact rfl)) <;> (repeat' first | (with_reducible apply ev_var; exact rfl) | with_reducible exact ev_K | with_reducible exact abs_i | with_reducible exact ev_aNil | with_reducible exact ev_oNo | with_reducible exact ev_tAll | with_reducible exact ev_gsN | with_reducible apply ev_aCons | with_reducible apply ev_d2 | with_reducible apply ev_d1 | with_reducible apply ev_dN | with_reducible apply ev_dCall | with_reducible apply ev_dTup | with_reducible apply ev_dLst | with_reducible apply ev_dLoc | with_reducible apply ev_sl | with_reducible apply ev_oSo | with_reducible apply ev_ch2b | with_reducible apply ev_ch3b | with_reducible apply ev_tB | with_reducible apply ev_tTru | with_reducible apply ev_tNo | with_reducible apply ev_no | with_reducible apply ev_dML | with_reducible apply ev_gTu | with_reducible apply ev_gsC | with_reducible apply ev_gSb | with_reducible apply ev_gNm | (simp only [List.length_cons, List.length_nil]; exact len_le (by decide)) | exact decide_eq_true (by omega) | exact decide_eq_false (by omega) | exact ne_t (by omega) | exact ne_f (by omega) | with_reducible apply lt_ii | with_reducible apply le_ii | with_reducible apply gt_ii | with_reducible apply ge_ii | with_reducible apply eq_ii | with_reducible apply ne_ii | with_reducible apply eq_ss | with_reducible exact add_ii | with_reducible exact sub_ii | with_reducible exact neg_i | with_reducible apply mul_ii | exact okMul_small (by omega) (by omega) | exact mod_ii (by omega) | exact fdiv_ii (by omega) (by omega) | exact mod_ni (by omega) | exact fdiv_ni (by omega) (by omega) | exact pow_ii (by omega) (by omega) (by omega) | with_reducible apply ix_tup | with_reducible apply ix_lst | (simp only [List.set_cons_succ, List.set_cons_zero]; rfl) | exact rfl | exact abs_i)))
    apply ev_seq k4
    (apply ev_seq; case' ha => ((first | with_reducible apply ev_set | with_reducible apply ev_par | with_reducible apply ev_par3 | with_reducible apply ev_asg | with_reducible apply ev_ex | with_reducible apply ev_ret | with_reducible exact ev_sNil | (with_reducible apply ev_aug; exact rfl)) <;> (repeat' first | (with_reducible apply ev_var; exact rfl) | with_reducible exact ev_K | with_reducible exact abs_i | with_reducible exact f1 | with_reducible exact f2 | with_reducible exact ev_aNil | with_reducible exact ev_oNo | with_reducible exact ev_tAll | with_reducible exact ev_gsN | with_reducible apply ev_aCons | with_reducible apply ev_d2 | with_reducible apply ev_d1 | with_reducible apply ev_dN | with_reducible apply ev_dCall | with_reducible apply ev_dTup | with_reducible apply ev_dLst | with_reducible apply ev_dLoc | with_reducible apply ev_sl | with_reducible apply ev_oSo | with_reducible apply ev_ch2b | with_reducible apply ev_ch3b | with_reducible apply ev_tB | with_reducible apply ev_tTru | with_reducible apply ev_tNo | with_reducible apply ev_no | with_reducible apply ev_dML | with_reducible apply ev_gTu | with_reducible apply ev_gsC | with_reducible apply ev_gSb | with_reducible apply ev_gNm | (simp only [List.length_cons, List.length_nil]; exact len_le (by decide)) | exact decide_eq_true (by omega) | exact decide_eq_false (by omega) | exact ne_t (by omega) | exact ne_f (by omega) | with_reducible apply lt_ii | with_reducible apply le_ii | with_reducible apply gt_ii | with_reducible apply ge_ii | with_reducible apply eq_ii | with_reducible apply ne_ii | with_reducible apply eq_ss | with_reducible exact add_ii | with_reducible exact sub_ii | with_reducible exact neg_i | with_reducible apply mul_ii | exact okMul_small (by omega) (by omega) | exact mod_ii (by omega) | exact fdiv_ii (by omega) (by omega) | exact mod_ni (by omega) | exact fdiv_ni (by omega) (by omega) | exact pow_ii (by omega) (by omega) (by omega) | with_reducible apply ix_tup | with_reducible apply ix_lst | (simp only [List.set_cons_succ, List.set_cons_zero]; rfl) | exact rfl | exact abs_i | exact f1 | exact f2)))
    ((first | with_reducible apply ev_set | with_reducible apply ev_par | with_reducible apply ev_par3 | with_reducible apply ev_asg | with_reducible apply ev_ex | with_reducible apply ev_ret | with_reducible exact ev_sNil | (with_reducible apply ev_aug; exact rfl)) <;> (repeat' first | (with_reducible apply ev_var; exact rfl) | with_reducible exact ev_K | with_reducible exact f4 | with_reducible exact f3 | with_reducible exact ev_aNil | with_reducible exact ev_oNo | with_reducible exact ev_tAll | with_reducible exact ev_gsN | with_reducible apply ev_aCons | with_reducible apply ev_d2 | with_reducible apply ev_d1 | with_reducible apply ev_dN | with_reducible apply ev_dCall | with_reducible apply ev_dTup | with_reducible apply ev_dLst | with_reducible apply ev_dLoc | with_reducible apply ev_sl | with_reducible apply ev_oSo | with_reducible apply ev_ch2b | with_reducible apply ev_ch3b | with_reducible apply ev_tB | with_reducible apply ev_tTru | with_reducible apply ev_tNo | with_reducible apply ev_no | with_reducible apply ev_dML | with_reducible apply ev_gTu | with_reducible apply ev_gsC | with_reducible apply ev_gSb | with_reducible apply ev_gNm | (simp only [List.length_cons, List.length_nil]; exact len_le (by decide)) | exact decide_eq_true (by omega) | exact decide_eq_false (by omega) | exact ne_t (by omega) | exact ne_f (by omega) | with_reducible apply lt_ii | with_reducible apply le_ii | with_reducible apply gt_ii | with_reducible apply ge_ii | with_reducible apply eq_ii | with_reducible apply ne_ii | with_reducible apply eq_ss | with_reducible exact add_ii | with_reducible exact sub_ii | with_reducible exact neg_i | with_reducible apply mul_ii | exact okMul_small (by omega) (by omega) | exact mod_ii (by omega) | exact fdiv_ii (by omega) (by omega) | exact mod_ni (by omega) | exact fdiv_ni (by omega) (by omega) | exact pow_ii (by omega) (by omega) (by omega) | with_reducible apply ix_tup | with_reducible apply ix_lst | (simp only [List.set_cons_succ, List.set_cons_zero]; rfl) | exact rfl | exact f4 | exact f3))
theorem wc_zero (a : Int) (μ : Sto) : p_wc [.int a, .int 0] μ = some (.tup [.int (Int.gcd a 0 : Int), .int (b2 (decide (0 < a)) - b2 (decide (a < 0))), .int 0], μ) := by
  refine runF_rt (ρ := [some (.int a), some (.int 0), none, none, none, none, none]) rfl ?_
  apply ev_seq_rt
  (apply ev_sIf_t; case' hc => (repeat' first | (with_reducible apply ev_var; exact rfl) | with_reducible exact ev_K | with_reducible exact ev_aNil | with_reducible exact ev_oNo | with_reducible exact ev_tAll | with_reducible exact ev_gsN | with_reducible apply ev_aCons | with_reducible apply ev_d2 | with_reducible apply ev_d1 | with_reducible apply ev_dN | with_reducible apply ev_dCall | with_reducible apply ev_dTup | with_reducible apply ev_dLst | with_reducible apply ev_dLoc | with_reducible apply ev_sl | with_reducible apply ev_oSo | with_reducible apply ev_ch2b | with_reducible apply ev_ch3b | with_reducible apply ev_tB | with_reducible apply ev_tTru | with_reducible apply ev_tNo | with_reducible apply ev_no | with_reducible apply ev_dML | with_reducible apply ev_gTu | with_reducible apply ev_gsC | with_reducible apply ev_gSb | with_reducible apply ev_gNm | (simp only [List.length_cons, List.length_nil]; exact len_le (by decide)) | exact decide_eq_true (by omega) | exact decide_eq_false (by omega) | exact ne_t (by omega) | exact ne_f (by omega) | with_reducible apply lt_ii | with_reducible apply le_ii | with_reducible apply gt_ii | with_reducible apply ge_ii | with_reducible apply eq_ii | with_reducible apply ne_ii | with_reducible apply eq_ss | with_reducible exact add_ii | with_reducible exact sub_ii | with_reducible exact neg_i | with_reducible apply mul_ii | exact okMul_small (by omega) (by omega) | exact mod_ii (by omega) | exact fdiv_ii (by omega) (by omega) | exact mod_ni (by omega) | exact fdiv_ni (by omega) (by omega) | exact pow_ii (by omega) (by omega) (by omega) | with_reducible apply ix_tup | with_reducible apply ix_lst | (simp only [List.set_cons_succ, List.set_cons_zero]; rfl) | exact rfl))
  have : (Int.gcd a 0 : Int) = a.natAbs := by rw [Int.gcd_zero_right]
  rw [this]
  have h1 : f_gt (.int a) (.int 0) μ = some (.bl (decide (0 < a)), μ) := rfl
  have h2 : f_lt (.int a) (.int 0) μ = some (.bl (decide (a < 0)), μ) := rfl
  ((first | with_reducible apply ev_set | with_reducible apply ev_par | with_reducible apply ev_par3 | with_reducible apply ev_asg | with_reducible apply ev_ex | with_reducible apply ev_ret | with_reducible exact ev_sNil | (with_reducible apply ev_aug; exact rfl)) <;> (repeat' first | (with_reducible apply ev_var; exact rfl) | with_reducible exact ev_K | with_reducible exact abs_i | with_reducible exact h1 | with_reducible exact h2 | with_reducible exact ev_aNil | with_reducible exact ev_oNo | with_reducible exact ev_tAll | with_reducible exact ev_gsN | with_reducible apply ev_aCons | with_reducible apply ev_d2 | with_reducible apply ev_d1 | with_reducible apply ev_dN | with_reducible apply ev_dCall | with_reducible apply ev_dTup | with_reducible apply ev_dLst | with_reducible apply ev_dLoc | with_reducible apply ev_sl | with_reducible apply ev_oSo | with_reducible apply ev_ch2b | with_reducible apply ev_ch3b | with_reducible apply ev_tB | with_reducible apply ev_tTru | with_reducible apply ev_tNo | with_reducible apply ev_no | with_reducible apply ev_dML | with_reducible apply ev_gTu | with_reducible apply ev_gsC | with_reducible apply ev_gSb | with_reducible apply ev_gNm | (simp only [List.length_cons, List.length_nil]; exact len_le (by decide)) | exact decide_eq_true (by omega) | exact decide_eq_false (by omega) | exact ne_t (by omega) | exact ne_f (by omega) | with_reducible apply lt_ii | with_reducible apply le_ii | with_reducible apply gt_ii | with_reducible apply ge_ii | with_reducible apply eq_ii | with_reducible apply ne_ii | with_reducible apply eq_ss | with_reducible exact add_ii | with_reducible exact sub_ii | with_reducible exact neg_i | with_reducible apply mul_ii | exact okMul_small (by omega) (by omega) | exact mod_ii (by omega) | exact fdiv_ii (by omega) (by omega) | exact mod_ni (by omega) | exact fdiv_ni (by omega) (by omega) | exact pow_ii (by omega) (by omega) (by omega) | with_reducible apply ix_tup | with_reducible apply ix_lst | (simp only [List.set_cons_succ, List.set_cons_zero]; rfl) | exact rfl | exact abs_i | exact h1 | exact h2))
/-- both cases of the cofactors, with bounds -/
theorem told_ok {a b : Int} (ha : a.natAbs < 2 ^ 85) (hb : b.natAbs < 2 ^ 85) (μ : Sto) : ∃ x y : Int, a * x + b * y = (Int.gcd a b : Int) ∧ x.natAbs < 2 ^ 86 ∧ y.natAbs < 2 ^ 180 ∧ p_wc [.int a, .int b] μ = some (.tup [.int (Int.gcd a b : Int), .int x, .int y], μ) := by
  by_cases hz : b = 0
  · subst hz
    have hg : (Int.gcd a 0 : Int) = a.natAbs := by rw [Int.gcd_zero_right]
    refine ⟨_, 0, ?_, ?_, by decide, wc_zero a μ⟩
    · rw [hg]
      by_cases h1 : 0 < a
      · rw [decide_eq_true h1, decide_eq_false (by omega)]
        show a * (1 - 0) + 0 * 0 = _
        omega
      · by_cases h2 : a < 0
        · rw [decide_eq_false h1, decide_eq_true h2]
          show a * (0 - 1) + 0 * 0 = _
          omega
        · rw [decide_eq_false h1, decide_eq_false h2]
          show a * (0 - 0) + 0 * 0 = _
          omega
    · cases decide (0 < a) <;> cases decide (a < 0) <;> decide
  · obtain ⟨x, y, e, x0, x1, h⟩ := wc_ok (a := a) hz (by omega) (by omega) μ
    have hg0 : 0 < (Int.gcd a b : Int) := by
      rw [Int.gcd_comm]
      have : Int.gcd b a ≠ 0 := fun h => hz (Int.gcd_eq_zero_iff.mp h).1
      omega
    have hgb : (Int.gcd a b : Int) ≤ b.natAbs := Int.le_of_dvd (by omega) (Int.dvd_natAbs.mpr (Int.gcd_dvd_right _ _))
    have hq : (b.natAbs : Int) / (Int.gcd a b : Int) ≤ b.natAbs := Int.ediv_le_self _ (by omega)
    have hax : (a * x).natAbs < 2 ^ (85 + 85) := wide_lt ha (by omega)
    have hy : y.natAbs ≤ (b * y).natAbs := by
      rw [Int.natAbs_mul]
      have := Nat.mul_le_mul_right y.natAbs (show 1 ≤ b.natAbs by omega)
      omega
    have hby : b * y = (Int.gcd a b : Int) - a * x := by omega
    rw [hby] at hy
    refine ⟨x, y, e, by omega, ?_, h⟩
    clear h e hby
    generalize a * x = p at hax hy
    omega
end Fd

/-! Fd10: more operators in place, sorted, ranges with a step, enumerate, zip, index, insert. -/
namespace Fd
open PySem PySem.Spec PyProof.Rows L2

/-! ### x += e .. -/
def g_add : Op2 := fun x y μ => match x, y with
  | .int i, .int j => some (.int (i + j), μ)
  | .str a, .str b => if a.length + b.length ≤ sizeLine then some (.str (a ++ b), μ) else none
  | _, _ => none
def r_iadd : R2 := fun x y H Q => rI0 (fun i j => .int (i + j)) x y H Q ∨ (∃ i j, x = .str i ∧ y = .str j ∧ i.length + j.length ≤ sizeLine ∧ Q (.str (i ++ j)) H)
theorem a_add {X : Cx} : OpR X (inplaceOp .Add) r_iadd := iop_add.or iop_add_str
theorem s_iadd {K : Frg} : S2 K r_iadd g_add := by
  intro ι H μ x y v μ' hx hy Q S rx ry h q
  unfold g_add at h
  split at h
  · cases h; cases rx; cases ry; exact .inl ⟨_, _, rfl, rfl, q.pure S rfl⟩
  · split at h
    · cases h; cases rx; cases ry; exact .inr ⟨_, _, rfl, rfl, by assumption, q.pure S rfl⟩
    · cases h
  · cases h
def g_sub : Op2 := fun x y μ => match x, y with
  | .int i, .int j => some (.int (i - j), μ)
  | _, _ => none
theorem s_isub {K : Frg} : S2 K (rI0 fun i j => .int (i - j)) g_sub := by
  intro ι H μ x y v μ' hx hy Q S rx ry h q
  unfold g_sub at h
  split at h
  · cases h; cases rx; cases ry; exact ⟨_, _, rfl, rfl, q.pure S rfl⟩
  · cases h
theorem a_mul {X : Cx} : OpR X (inplaceOp .Mult) (rI CMulW fun i j => .int (i * j)) := opI fun _ _ _ _ _ _ _ hc q => imul_int q hc.ok
def g_mul : Op2 := fun x y μ => match x, y with
  | .int i, .int j => if okMul i j = true then some (.int (i * j), μ) else none
  | _, _ => none
theorem s_imul {K : Frg} : S2 K (rI CMulW fun i j => .int (i * j)) g_mul := by
  intro ι H μ x y v μ' hx hy Q S rx ry h q
  unfold g_mul at h
  split at h
  · split at h
    · rename_i hk
      cases h; cases rx; cases ry; exact ⟨_, _, rfl, rfl, okMul_iff hk, q.pure S rfl⟩
    · cases h
  · cases h
theorem a_fdiv {X : Cx} : OpR X (inplaceOp .FloorDiv) (rI CDivZ fun i j => .int (i.fdiv j)) := opI fun _ _ _ _ _ _ _ hc q => ifloordiv_int hc.1 q (.inl (PyProof.noPylong_of_log2 hc.2))
def g_fdiv : Op2 := fun x y μ => match x, y with
  | .int i, .int j => if 0 < j ∧ j.natAbs.log2 < 9000 then some (.int (i / j), μ) else if j < 0 ∧ j.natAbs.log2 < 9000 then some (.int (i.fdiv j), μ) else none
  | _, _ => none
theorem s_ifdiv {K : Frg} : S2 K (rI CDivZ fun i j => .int (i.fdiv j)) g_fdiv := by
  intro ι H μ x y v μ' hx hy Q S rx ry h q
  unfold g_fdiv at h
  split at h
  · split at h
    · rename_i hk
      cases h; cases rx; cases ry
      exact ⟨_, _, rfl, rfl, ⟨by omega, hk.2⟩, q.pure S (show V.int _ = V.int _ from congrArg V.int (Int.fdiv_eq_ediv_of_nonneg _ (by omega)))⟩
    · split at h
      · rename_i hk
        cases h; cases rx; cases ry; exact ⟨_, _, rfl, rfl, ⟨by omega, hk.2⟩, q.pure S rfl⟩
      · cases h
  · cases h
theorem s_imod {K : Frg} : S2 K (rI (fun _ j => 0 < j) fun i j => .int (i % j)) (fun x y μ => match x, y with
  | .int i, .int j => if 0 < j then some (.int (i % j), μ) else none
  | _, _ => none) := by
  intro ι H μ x y v μ' hx hy Q S rx ry h q
  simp only at h
  split at h
  · split at h
    · rename_i hk
      cases h; cases rx; cases ry; exact ⟨_, _, rfl, rfl, hk, q.pure S rfl⟩
    · cases h
  · cases h

/-! ### o[i] op= e, o a list of the store -/
theorem get_lst {X : Cx} : PGet X (rIxL X.K) := by
  intro pins s σ H x y v u Q I rx ry h
  obtain ⟨p, xs, i, z, rfl, rfl, hq, he, q⟩ := h
  cases rx
  obtain ⟨t, rfl⟩ := ry
  obtain ⟨its, r, pl, hz⟩ := I.list hq
  obtain ⟨j, h1, h2, h3, h4, h5⟩ := atI_get he
  obtain ⟨w, ew, rw'⟩ := r.get h2
  have hl := r.length
  have hn := line63
  by_cases h0 : 0 ≤ i
  · have hj : i.toNat = j := Option.some.inj ((seqIndex_of h0 h5).symm.trans h1)
    exact wpAny_getItem_list pl.isList h0 (by omega) (by rw [hj]; simpa using ew) ⟨z, H, I, rw', q⟩
  · have hj : (i + (its.toArray.size : Int)).toNat = j := by
      have := Option.some.inj ((seqIndex_neg (by omega) h4).symm.trans h1)
      rw [List.size_toArray, ← hl]
      exact this
    exact wpAny_getItem_list_neg pl.isList (by omega) (by rw [List.size_toArray]; omega) (by omega) (by rw [hj]; simpa using ew) ⟨z, H, I, rw', q⟩
def f_ixL : Op2 := fun x y μ => match y with
  | .int i => (rdL μ x).bind fun xs => (L2.atI xs i).map fun v => (v, μ)
  | _ => none
theorem s_ixL {K : Frg} : S2 K (rIxL K) f_ixL := by
  intro ι H μ x y v μ' hx hy Q S rx ry h q
  unfold f_ixL at h
  split at h
  · obtain ⟨xs, e1, e2⟩ := Option.bind_eq_some_iff.mp h
    obtain ⟨w, e3, e4⟩ := Option.map_eq_some_iff.mp e2
    cases e4; cases ry
    obtain ⟨a, us, rfl, ta, ra⟩ := rdL_rep S rx e1
    obtain ⟨z, h1, h2⟩ := ra.atI e3
    exact ⟨a, us, _, z, rfl, rfl, .of ta, h1, q.pure S h2⟩
  · cases h
def sAugS (f : Op2) (o i e : Den) : DenS := fun ρ μ => (o ρ μ).bind fun p => (i ρ p.2).bind fun q => (f_ixL p.1 q.1 q.2).bind fun x => (e ρ x.2).bind fun y => (f x.1 y.1 y.2).bind fun z => (f_set p.1 q.1 z.1 z.2).map fun μ' => .nx ρ μ'
theorem s_augS {X : Cx} {o i e : Expr} {od id ed : Den} {op : Operator} {r : R2} {f : Op2} {tpos pos : Pos} (hop : OpR X (inplaceOp op) r) (hr : S2 X.K r f) (ho : PE X o (tD X.K od)) (hi : PE X i (tD X.K id)) (he : PE X e (tD X.K ed))
    (ha : ∀ ov iv new, augStore i ov iv new = (do holding [new, ov, iv] (setItem ov iv new); release [new, ov, iv] []; pure .next) := by intros; rfl) : PS X (.AugAssign (.Subscript o i tpos) op e pos) (tS X.K (sAugS f od id ed)) :=
  (ps_augS ho hi get_lst he hop set_list ha).weak fun D σ H h => by
    obtain ⟨ι, ρ, μ, out, E, S, e, q⟩ := h
    obtain ⟨⟨x, μ1⟩, e1, e⟩ := Option.bind_eq_some_iff.mp e
    obtain ⟨⟨y, μ2⟩, e2, e⟩ := Option.bind_eq_some_iff.mp e
    obtain ⟨⟨v, μ3⟩, e3, e⟩ := Option.bind_eq_some_iff.mp e
    obtain ⟨⟨w, μ4⟩, e4, e⟩ := Option.bind_eq_some_iff.mp e
    obtain ⟨⟨z, μ5⟩, e5, e⟩ := Option.bind_eq_some_iff.mp e
    obtain ⟨μ6, e6, e7⟩ := Option.map_eq_some_iff.mp e
    cases e7
    refine ⟨ι, ρ, μ, x, μ1, E, S, e1, fun hx ι1 H1 X1 R1 S1 => ⟨ι1, ρ, μ1, y, μ2, E.mono X1, S1, e2, fun hy ι2 H2 X2 R2 S2 => ?_⟩⟩
    refine s_ixL ι2 H2 μ2 x y v μ3 hx hy _ S2 (R1.mono X2) R2 e3 fun hv ι3 H3 X3 R3 S3 => ?_
    refine ⟨ι3, ρ, μ3, w, μ4, E.mono (X1.trans (X2.trans X3)), S3, e4, fun hw ι4 H4 X4 R4 S4 => ?_⟩
    refine hr ι4 H4 μ4 v w z μ5 hv hw _ S4 (R3.mono X4) R4 e5 fun hz ι5 H5 X5 R5 S5 => ?_
    have X15 := X1.trans (X2.trans (X3.trans (X4.trans X5)))
    refine set_rep S5 (R1.mono (X2.trans (X3.trans (X4.trans X5)))) (R2.mono (X3.trans (X4.trans X5))) R5 e6 fun H6 X6 S6 => q σ ι5 H6 (X15.trans X6) (E.mono (X15.trans X6)) S6

/-! ### sorted, ints -/
def insI (i : Int) : List Int → List Int
  | [] => [i]
  | j :: r => if i ≤ j then i :: j :: r else j :: insI i r
def srtI : List Int → List Int
  | [] => []
  | i :: r => insI i (srtI r)
theorem insI_perm (i : Int) : ∀ r : List Int, (insI i r).Perm (i :: r)
  | [] => .refl _
  | j :: r => by
    unfold insI
    split
    · exact .refl _
    · exact (List.Perm.cons j (insI_perm i r)).trans (.swap i j r)
theorem srtI_perm : ∀ r : List Int, (srtI r).Perm r
  | [] => .refl _
  | i :: r => (insI_perm i (srtI r)).trans (.cons i (srtI_perm r))
theorem insI_sorted (i : Int) : ∀ r : List Int, r.Pairwise (· ≤ ·) → (insI i r).Pairwise (· ≤ ·)
  | [], _ => List.pairwise_cons.mpr ⟨fun _ h => (nomatch h), .nil⟩
  | j :: r, h => by
    have hj := List.pairwise_cons.mp h
    unfold insI
    split
    · rename_i hij
      exact List.pairwise_cons.mpr ⟨fun k hk => by
        rcases List.mem_cons.mp hk with e | hk
        · rw [e]; exact hij
        · exact Int.le_trans hij (hj.1 k hk), h⟩
    · rename_i hij
      refine List.pairwise_cons.mpr ⟨fun k hk => ?_, insI_sorted i r hj.2⟩
      rcases List.mem_cons.mp ((insI_perm i r).mem_iff.mp hk) with e | hk
      · omega
      · exact hj.1 k hk
theorem srtI_sorted : ∀ r : List Int, (srtI r).Pairwise (· ≤ ·)
  | [] => .nil
  | i :: r => insI_sorted i _ (srtI_sorted r)
theorem sorted_uniq : ∀ {xs ys : List Int}, xs.Perm ys → xs.Pairwise (· ≤ ·) → ys.Pairwise (· ≤ ·) → xs = ys
  | [], ys, p, _, _ => (List.nil_perm.mp p).symm
  | x :: xs, [], p, _, _ => absurd p (by simp)
  | x :: xs, y :: ys, p, hx, hy => by
    have hx' := List.pairwise_cons.mp hx
    have hy' := List.pairwise_cons.mp hy
    have e : x = y := by
      have h1 : y ∈ x :: xs := p.mem_iff.mpr List.mem_cons_self
      have h2 : x ∈ y :: ys := p.mem_iff.mp List.mem_cons_self
      rcases List.mem_cons.mp h1 with e | h1
      · exact e.symm
      · rcases List.mem_cons.mp h2 with e | h2
        · exact e
        · have a := hx'.1 y h1
          have b := hy'.1 x h2
          omega
    subst e
    rw [sorted_uniq (List.Perm.cons_inv p) hx'.2 hy'.2]
def f_sorted : Fn := fun xs μ => match xs with
  | [x] => ((rdL μ x).bind intsP).map fun ns => (.lst ((srtI ns).map .int), μ)
  | _ => none
theorem s_sorted {K : Frg} : SN K (rSortedI K) f_sorted := by
  intro ι H μ xs v μ' hs Q S R h q
  unfold f_sorted at h
  split at h
  · obtain ⟨ns, e1, e2⟩ := Option.map_eq_some_iff.mp h
    obtain ⟨ys, e3, e4⟩ := Option.bind_eq_some_iff.mp e1
    cases e2
    obtain ⟨y, t, rfl, r1, rfl⟩ := R
    obtain ⟨a, us, rfl, ta, ra⟩ := rdL_rep S r1 e3
    obtain ⟨rfl, _⟩ := intsP_rep e4 ra
    refine ⟨a, ns, rfl, .of ta, fun ns' p hp hs new => ?_⟩
    have e : ns' = srtI ns := sorted_uniq (hp.trans (srtI_perm ns).symm) hs (srtI_sorted ns)
    subst e
    exact q.lst S (repVs_ints _) new
  · cases h

/-! ### range(a, b, c) -/
def rgC (lo c : Int) (n : Nat) : List PV := (List.range n).map fun (k : Nat) => .int (lo + (k : Int) * c)
def itRg3 (r : DenA) : DenI := fun ρ μ => match r ρ μ with
  | some ([.int i, .int j, .int c], μ') => if (decide (c ≠ 0) && (decide (c.natAbs < 1073741824) && (Builtin.Range.small i j c && decide (0 ≤ Builtin.Range.rangeSize i j c)))) = true then some ((rgC i c (Builtin.Range.rangeSize i j c).toNat, []), μ') else none
  | _ => none
theorem itc_ok {K : Frg} {lo c : Int} {k : Nat} {ι : Ad} {n : Nat} {H : Hp} : ItOk K (Itc lo c k) (rgC lo c k) [] ι n H := by
  have hl : (rgC lo c k).length = k := by unfold rgC; rw [List.length_map, List.length_range]
  refine ⟨fun i ι2 μ2 H2 hi e S c => ?_, fun ι2 μ2 H2 e S c => ?_, fun i ι2 μ2 H2 x H3 z hz e S c y => ?_⟩
  · rw [hl] at hi; exact hi
  · rw [hl]; exact Nat.le_refl _
  · obtain ⟨e1, y⟩ := y
    subst e1 y
    have hi : i < k := by rw [← hl]; exact (List.getElem?_eq_some_iff.mp hz).1
    unfold rgC at hz
    rw [List.getElem?_map, List.getElem?_range hi] at hz
    cases hz
    exact ⟨.refl, S, rfl⟩
theorem i_rg3 {X : Cx} {tg a b c : Expr} {r : DenA} {p pos : Pos} (hm : X.mg "range" = none) (ha : PA X [a, b, c] (tA X.K r)) (hg : Gl X "range" := by rfl) (hs : starEach [a, b, c] X.env = (false, eval a X.env) :: starEach [b, c] X.env := by rfl) (hpl : (backTo pos (starEach [b, c] X.env)).any (·.1) = false := by rfl) :
    PI X tg (.Call (.Name "range" p) [a, b, c] [] pos) (tI X.K (itRg3 r)) :=
  (pi_range3 hg hm ha hs hpl).weak fun σ H R h => by
    obtain ⟨ι, ρ, μ, p, μ', E, S, e, c, q⟩ := h
    unfold itRg3 at e
    split at e
    · rename_i i j k μ1 e1
      split at e
      · rename_i hj
        cases e
        rw [Bool.and_eq_true, Bool.and_eq_true, Bool.and_eq_true, decide_eq_true_eq, decide_eq_true_eq, decide_eq_true_eq] at hj
        refine ⟨ι, ρ, μ, _, _, E, S, e1, fun hs ι1 H1 X1 R1 S1 => ?_⟩
        obtain ⟨y, t, rfl, r1, y2, t2, rfl, r2, y3, t3, rfl, r3, rfl⟩ := R1
        cases r1; cases r2; cases r3
        exact ⟨i, j, k, _, rfl, ⟨hj.1, hj.2.1, hj.2.2.1, (Int.toNat_of_nonneg hj.2.2.2).symm⟩, q ι1 H1 _ X1 S1 itc_ok⟩
      · cases e
    · cases e
theorem ci_rg3 {r : DenA} (ρ : En) (μ : Sto) (p : List PV × List (Nat × List PV)) (μ' : Sto) (h : itRg3 r ρ μ = some (p, μ')) : ChkOk p.2 μ' := by
  unfold itRg3 at h
  split at h
  · split at h
    · cases h; exact chk_nil
    · cases h
  · cases h

/-! ### enumerate, zip: over lists -/
/-- a list's items and what must stand -/
def rdI (μ : Sto) : PV → Option (List PV × List (Nat × List PV))
  | .lst xs => some (xs, [])
  | .loc l => match μ[l]? with
    | some (.lst xs) => some (xs, [(l, xs)])
    | _ => none
  | _ => none
theorem rdI_ok {K : Frg} {ι : Ad} {μ : Sto} {H : Hp} {x : PV} {v : V} {xs : List PV} {ch : List (Nat × List PV)} (S : RepS K ι H μ) (r : RepV K ι μ.length H x v) (h : rdI μ x = some (xs, ch)) :
    ChkOk ch μ ∧ ∃ a ys, v = .ref a ∧ SqL K H a ys ∧ RepVs K ι μ.length H xs ys ∧ ∀ (ι2 : Ad) (μ2 : Sto) (H2 : Hp), ExtP ι μ.length H ι2 μ2.length H2 → RepS K ι2 H2 μ2 → ChkOk ch μ2 → ∃ ys, SqL K H2 a ys ∧ RepVs K ι2 μ2.length H2 xs ys := by
  unfold rdI at h
  split at h
  · cases h
    obtain ⟨a, ys, rfl, ⟨t, g⟩, q⟩ := r
    exact ⟨chk_nil, a, ys, rfl, .of t, q, fun ι2 μ2 H2 e S2 c => ⟨ys, .of (e.keep a _ t g.1 g.2), RepVs.monoP e q⟩⟩
  · rename_i l
    obtain ⟨hl, rfl⟩ := r
    split at h
    · rename_i zs em
      cases h
      obtain ⟨ys, t, q⟩ := S.obj l _ em
      refine ⟨fun p hp => ?_, ι l, ys, rfl, .of t, q, fun ι2 μ2 H2 e S2 c => ?_⟩
      · rw [List.mem_singleton.mp hp]; exact em
      · have em2 := c (l, xs) (List.mem_singleton.mpr rfl)
        obtain ⟨ys2, t2, r2⟩ := S2.obj l _ em2
        rw [e.same l hl] at t2
        exact ⟨ys2, .of t2, r2⟩
    · cases h
  · cases h
def enP : Nat → List PV → List PV
  | _, [] => []
  | k, x :: xs => .tup [.int (k : Int), x] :: enP (k + 1) xs
theorem enP_length : ∀ (xs : List PV) (k : Nat), (enP k xs).length = xs.length
  | [], _ => rfl
  | x :: xs, k => congrArg Nat.succ (enP_length xs (k + 1))
theorem enP_get : ∀ (xs : List PV) (k i : Nat), (enP k xs)[i]? = (xs[i]?).map fun x => .tup [.int ((k + i : Nat) : Int), x]
  | [], _, i => by cases i <;> rfl
  | x :: xs, k, 0 => rfl
  | x :: xs, k, i + 1 => by
    show (enP (k + 1) xs)[i]? = (xs[i]?).map _
    rw [enP_get xs (k + 1) i, show k + 1 + i = k + (i + 1) by omega]
def itEnum (d : Den) : DenI := fun ρ μ => (d ρ μ).bind fun p => (rdI p.2 p.1).map fun q => ((enP 0 q.1, q.2), p.2)
def itZip (r : DenA) : DenI := fun ρ μ => match r ρ μ with
  | some ([x, y], μ') => (rdI μ' x).bind fun p => (rdI μ' y).map fun q => ((List.zipWith (fun a b => PV.tup [a, b]) p.1 q.1, p.2 ++ q.2), μ')
  | _ => none
theorem tup2 {K : Frg} {ι : Ad} {μ : Sto} {H : Hp} {x y : PV} {u w : V} (S : RepS K ι H μ) {T : Addr} (hT : H T = none) (rx : RepV K ι μ.length H x u) (ry : RepV K ι μ.length H y w) :
    Ext ι μ.length H ι μ.length (upd H T (.tup [u, w])) ∧ RepS K ι (upd H T (.tup [u, w])) μ ∧ RepV K ι μ.length (upd H T (.tup [u, w])) (.tup [x, y]) (.ref T) := by
  have X := Ext.new1 (o := .tup [u, w]) S hT
  exact ⟨X, S.new1 hT, T, [u, w], rfl, .inl ⟨upd_same, S.off hT⟩, RepVs.mono X (.cons rx (.one ry))⟩
section
variable {X : Cx} {e e2 : Expr} {elts : List Expr} {kk : Nat} {p pos tpos : Pos} {d : Den} {r : DenA}
theorem i_enum (hm : X.mg "enumerate" = none) (ha : PE X e (tD X.K d)) (hg : Gl X "enumerate" := by rfl) (hs : starEach [e] X.env = [(false, eval e X.env)] := by rfl) : PI X (.Tuple elts kk tpos) (.Call (.Name "enumerate" p) [e] [] pos) (tI X.K (itEnum d)) :=
  (pi_enum hg hm (pa_cons ha pa_nil (by exact hs)) hs).weak fun σ H R h => by
    obtain ⟨ι, ρ, μ, p, μ', E, S, e, c, q⟩ := h
    obtain ⟨⟨x, μ1⟩, e1, e⟩ := Option.bind_eq_some_iff.mp e
    obtain ⟨⟨xs, ch⟩, e2, e3⟩ := Option.map_eq_some_iff.mp e
    cases e3
    refine ⟨ι, ρ, μ, x, _, E, S, e1, fun hx ι1 H1 X1 R1 S1 => ?_⟩
    obtain ⟨_, a, ys, rfl, hS, hR, hK⟩ := rdI_ok S1 R1 e2
    refine ⟨a, ys, rfl, hS, q ι1 H1 _ X1 S1 ⟨fun i ι2 μ2 H2 hi e S2 c => ?_, fun ι2 μ2 H2 e S2 c => ?_, fun i ι2 μ2 H2 v H3 z hz e S2 c y => ?_⟩⟩
    · obtain ⟨ys, s, r⟩ := hK ι2 μ2 H2 e S2 c
      have hi : i < xs.length := by rw [← enP_length xs 0]; exact hi
      exact ⟨ys, ys[i]'(by rw [← r.length]; exact hi), s, by simp⟩
    · obtain ⟨ys, s, r⟩ := hK ι2 μ2 H2 e S2 c
      exact ⟨ys, s, by rw [enP_length, r.length]; exact Nat.le_refl _⟩
    · obtain ⟨ys, s, r⟩ := hK ι2 μ2 H2 e S2 c
      have hz : (enP 0 xs)[i]? = some z := hz
      rw [enP_get] at hz
      obtain ⟨w, hw, rfl⟩ := Option.map_eq_some_iff.mp hz
      obtain ⟨T, u, rfl, hT, rfl, hu⟩ := y
      obtain ⟨u', h1, h2⟩ := r.get hw
      have := (hu ys s).symm.trans h1
      cases this
      rw [Nat.zero_add]
      exact tup2 S2 hT rfl h2
theorem ci_enum (ρ : En) (μ : Sto) (p : List PV × List (Nat × List PV)) (μ' : Sto) (h : itEnum d ρ μ = some (p, μ')) : ChkOk p.2 μ' := by
  obtain ⟨⟨x, μ1⟩, e1, e⟩ := Option.bind_eq_some_iff.mp h
  obtain ⟨⟨xs, ch⟩, e2, e3⟩ := Option.map_eq_some_iff.mp e
  cases e3
  unfold rdI at e2
  split at e2
  · cases e2; exact chk_nil
  · split at e2
    · rename_i zs em
      cases e2
      intro q hq
      rw [List.mem_singleton.mp hq]
      exact em
    · cases e2
  · cases e2
theorem i_zip (hm : X.mg "zip" = none) (ha : PA X [e, e2] (tA X.K r)) (hg : Gl X "zip" := by rfl) (hs : starEach [e, e2] X.env = (false, eval e X.env) :: starEach [e2] X.env := by rfl) (hpl : (backTo pos (starEach [e2] X.env)).any (·.1) = false := by rfl) :
    PI X (.Tuple elts kk tpos) (.Call (.Name "zip" p) [e, e2] [] pos) (tI X.K (itZip r)) :=
  (pi_zip hg hm ha hs hpl).weak fun σ H R h => by
    obtain ⟨ι, ρ, μ, p, μ', E, S, e, c, q⟩ := h
    unfold itZip at e
    split at e
    · rename_i x y μ1 e1
      obtain ⟨⟨xs, ch⟩, e2, e⟩ := Option.bind_eq_some_iff.mp e
      obtain ⟨⟨ys, ch2⟩, e3, e4⟩ := Option.map_eq_some_iff.mp e
      cases e4
      refine ⟨ι, ρ, μ, _, _, E, S, e1, fun hs ι1 H1 X1 R1 S1 => ?_⟩
      obtain ⟨hx, t, rfl, r1, hy, t2, rfl, r2, rfl⟩ := R1
      obtain ⟨_, a, us, rfl, hS, hR, hK⟩ := rdI_ok S1 r1 e2
      obtain ⟨_, b, ws, rfl, hS2, hR2, hK2⟩ := rdI_ok S1 r2 e3
      have chk1 : ∀ {μ2 : Sto}, ChkOk (ch ++ ch2) μ2 → ChkOk ch μ2 ∧ ChkOk ch2 μ2 := fun c => ⟨fun p hp => c p (List.mem_append_left _ hp), fun p hp => c p (List.mem_append_right _ hp)⟩
      refine ⟨a, b, us, ws, rfl, hS, hS2, q ι1 H1 _ X1 S1 ⟨fun i ι2 μ2 H2 hi e S2 c => ?_, fun ι2 μ2 H2 e S2 c => ?_, fun i ι2 μ2 H2 v H3 z hz e S2 c y => ?_⟩⟩
      · obtain ⟨us, s, r⟩ := hK ι2 μ2 H2 e S2 (chk1 c).1
        obtain ⟨ws, s2, r2⟩ := hK2 ι2 μ2 H2 e S2 (chk1 c).2
        have hi : i < (List.zipWith (fun a b => PV.tup [a, b]) xs ys).length := hi
        rw [List.length_zipWith] at hi
        exact ⟨us, ws, us[i]'(by rw [← r.length]; omega), ws[i]'(by rw [← r2.length]; omega), s, s2, by simp, by simp⟩
      · obtain ⟨us, s, r⟩ := hK ι2 μ2 H2 e S2 (chk1 c).1
        obtain ⟨ws, s2, r2⟩ := hK2 ι2 μ2 H2 e S2 (chk1 c).2
        refine ⟨us, ws, s, s2, ?_⟩
        show us.length ≤ (List.zipWith (fun a b => PV.tup [a, b]) xs ys).length ∨ ws.length ≤ (List.zipWith (fun a b => PV.tup [a, b]) xs ys).length
        rw [List.length_zipWith, ← r.length, ← r2.length]
        omega
      · obtain ⟨us, s, r⟩ := hK ι2 μ2 H2 e S2 (chk1 c).1
        obtain ⟨ws, s2, r2⟩ := hK2 ι2 μ2 H2 e S2 (chk1 c).2
        have hz : (List.zipWith (fun a b => PV.tup [a, b]) xs ys)[i]? = some z := hz
        rw [List.getElem?_zipWith] at hz
        obtain ⟨T, u, w, rfl, hT, rfl, hu, hw⟩ := y
        cases ex : xs[i]? with
        | none => rw [ex] at hz; cases hz
        | some x0 =>
          cases ey : ys[i]? with
          | none => rw [ex, ey] at hz; cases hz
          | some y0 =>
            rw [ex, ey] at hz
            cases hz
            obtain ⟨u', h1, h2⟩ := r.get ex
            obtain ⟨w', h3, h4⟩ := r2.get ey
            have q1 := (hu us s).symm.trans h1
            have q2 := (hw ws s2).symm.trans h3
            cases q1; cases q2
            exact tup2 S2 hT h2 h4
    · cases e
theorem ci_zip (ρ : En) (μ : Sto) (p : List PV × List (Nat × List PV)) (μ' : Sto) (h : itZip r ρ μ = some (p, μ')) : ChkOk p.2 μ' := by
  unfold itZip at h
  have key : ∀ {x : PV} {xs : List PV} {ch : List (Nat × List PV)} {ν : Sto}, rdI ν x = some (xs, ch) → ChkOk ch ν := fun {x xs ch ν} e2 => by
    unfold rdI at e2
    split at e2
    · cases e2; exact chk_nil
    · split at e2
      · rename_i zs em
        cases e2
        intro q hq
        rw [List.mem_singleton.mp hq]
        exact em
      · cases e2
    · cases e2
  split at h
  · obtain ⟨⟨xs, ch⟩, e2, e⟩ := Option.bind_eq_some_iff.mp h
    obtain ⟨⟨ys, ch2⟩, e3, e4⟩ := Option.map_eq_some_iff.mp e
    cases e4
    intro q hq
    rcases List.mem_append.mp hq with z | z
    · exact key e2 q z
    · exact key e3 q z
  · cases h
end
end Fd

/-! Fd11: comprehensions of two for. -/
namespace Fd
open PySem PySem.Spec PyProof.Rows L2
theorem RepE.monoP {K : Frg} {ι ι1 : Ad} {n n1 : Nat} {H H1 : Hp} {ρ : En} {σ : L2.St} (e : ExtP ι n H ι1 n1 H1) (h : RepE K ι n H ρ σ) : RepE K ι1 n1 H1 ρ σ :=
  ⟨h.len, fun i x hx => let ⟨v, h1, h2⟩ := h.at_ i x hx; ⟨v, h1, h2.monoP e⟩⟩
theorem ExtP.put {ι ι1 : Ad} {n n1 : Nat} {H H1 : Hp} {D : Addr} {o : HO} (X : ExtP ι n H ι1 n1 H1) (z : ι.Z D) : ExtP ι n H ι1 n1 (upd H1 D o) :=
  ⟨X.le, X.same, fun b u h g zb => by rw [upd_ne fun e => zb (by rw [e]; exact z)]; exact X.keep b u h g zb, fun b h => by
    by_cases e : b = D
    · subst e; rw [upd_same]; exact fun k => nomatch k
    · rw [upd_ne e]; exact X.dom b h, X.new, X.zup, X.zdn⟩
open Classical in
noncomputable def lcL2 (ρ : En) (g : DenG) (t : DenT) (d1 : DenI) (g1 : DenG) (t1 : DenT) (e : Den) (vs1 : List Nat) (ch : List (Nat × List PV)) : List PV → List PV → Sto → Option (List PV × Sto)
  | [], acc, μ => some (acc, μ)
  | x :: xs, acc, μ => (g x ρ μ).bind fun p => (t p.1 p.2).bind fun q => if q.1 = true
      then (d1 p.1 q.2).bind fun r => (lcL (wipeE p.1 vs1) g1 t1 e r.1.2 r.1.1 acc r.2).bind fun s => if ChkOk ch s.2 then lcL2 ρ g t d1 g1 t1 e vs1 ch xs s.1 s.2 else none
      else if ChkOk ch q.2 then lcL2 ρ g t d1 g1 t1 e vs1 ch xs acc q.2 else none
noncomputable def dLc2 (vs vs1 : List Nat) (it : DenI) (g : DenG) (t : DenT) (it1 : DenI) (g1 : DenG) (t1 : DenT) (e : Den) : Den := fun ρ μ => (it ρ μ).bind fun p => (lcL2 (wipeE ρ vs) g t it1 g1 t1 e vs1 p.1.2 p.1.1 [] p.2).map fun r => (.lst r.1, r.2)
open Classical in
theorem t_lc2 {K : Frg} {vs vs1 : List Nat} {tg tg1 : TG} {di di1 : DenI} {g g1 : DenG} {t t1 : DenT} {e : Den} (gi : GIn K tg g vs) (gi1 : GIn K tg1 g1 vs1) (hci : ∀ ρ μ p μ', di ρ μ = some (p, μ') → ChkOk p.2 μ') (hci1 : ∀ ρ μ p μ', di1 ρ μ = some (p, μ') → ChkOk p.2 μ')
    {σ : L2.St} {H : Hp} {Q : VK} (h : tD K (dLc2 vs vs1 di g t di1 g1 t1 e) σ H Q) : tLc2 (tI K di) tg (tT K t) (tI K di1) tg1 (tT K t1) (tD K e) vs vs1 σ H Q := by
  obtain ⟨ι, ρ, μ, v, μ', E, S, e0, q⟩ := h
  obtain ⟨⟨⟨xs, ch⟩, μ1⟩, e1, e0⟩ := Option.bind_eq_some_iff.mp e0
  obtain ⟨⟨out, μ2⟩, he, e3⟩ := Option.map_eq_some_iff.mp e0
  cases e3
  have hch := hci _ _ _ _ e1
  refine ⟨ι, ρ, μ, (xs, ch), μ1, E, S, e1, hch, fun ι1 H1 J X1 S1 ok D hD => ?_⟩
  have E1 := E.mono X1
  have q : Aft K ι1 μ1 H1 (.lst out) μ2 Q := q.mono X1
  have ok : ItOk K J xs ch ι1 μ1.length H1 := ok
  have c1 : ChkOk ch μ1 := hch
  have he : lcL2 (wipeE ρ vs) g t di1 g1 t1 e vs1 ch xs [] μ1 = some (out, μ2) := he
  clear e1 hch X1 S E
  let Pv : Nat → Hp → Prop := fun i H => ∃ ι2 ν acc ys, Ext ι1 μ1.length H1 ι2 ν.length H ∧ ι2.Z D ∧ RepS K ι2 H ν ∧ H D = some (.lst ys) ∧ RepVs K ι2 ν.length H acc ys ∧ ChkOk ch ν ∧
    lcL2 (wipeE ρ vs) g t di1 g1 t1 e vs1 ch (xs.drop i) acc ν = some (out, μ2)
  refine ⟨fun i m H => m = xs.length - i ∧ i ≤ xs.length ∧ Pv i H, ⟨xs.length, by simp, Nat.zero_le _, addZ ι1 D, μ1, [], [], Ext.addZ S1 hD, .inr rfl, S1.addZ hD, upd_same, rfl, c1, he⟩, ?_⟩
  rintro i m H ⟨rfl, hi, ι2, ν, acc, ys, X2, z2, S2, hDy, R2, c2, e2⟩
  by_cases hlt : i < xs.length
  · have hd : xs.drop i = xs[i] :: xs.drop (i + 1) := List.drop_eq_getElem_cons hlt
    rw [hd] at e2
    unfold lcL2 at e2
    obtain ⟨⟨ρ3, μ3⟩, e3, e2⟩ := Option.bind_eq_some_iff.mp e2
    obtain ⟨⟨b, μ4⟩, e4, e2⟩ := Option.bind_eq_some_iff.mp e2
    refine .inr ⟨ok.goes i ι2 ν H hlt X2.p S2 c2, Pv (i + 1), fun H' h => ⟨xs.length - (i + 1), by omega, rfl, hlt, h⟩, fun x H3 y => ?_⟩
    obtain ⟨X3, S3, R3⟩ := ok.yields i ι2 ν H x H3 xs[i] (by simp [hlt]) X2.p S2 c2 y
    have E3 : RepE K ι2 ν.length H3 (wipeE ρ vs) (L2.wipe σ vs) := (E1.wipe vs).mono (X2.trans X3)
    have h0 := gi.imp x (L2.wipe σ vs) H3 (fun σ2 H2 => tT K t σ2 H2 fun b H3 => if b = true then tI K di1 σ2 H3 fun J1 H4 => ∃ W1 : Nat → Nat → Hp → Prop, (∃ m, W1 0 m H4) ∧ ∀ j k H, W1 j k H →
      (J1.stop j H ∧ Pv (i + 1) H) ∨ (J1.go j H ∧ ∃ Nx1 : Hp → Prop, (∀ H', Nx1 H' → ∃ k', k' < k ∧ W1 (j + 1) k' H') ∧ ∀ x H', J1.yld j H x H' → tg1 x (L2.wipe σ2 vs1) H' fun σ3 H5 => L2.wipe σ3 vs1 = L2.wipe σ2 vs1 ∧ tT K t1 σ3 H5 fun b H6 =>
        if b = true then tD K e σ3 H6 fun y H7 => ∃ acc, H7 D = some (.lst acc) ∧ acc.length < sizeLine ∧ Nx1 (upd H7 D (.lst (acc ++ [y]))) else Nx1 H6)
      else Pv (i + 1) H3) ?_
    · rw [wipe_idem] at h0
      exact h0
    refine ⟨ι2, wipeE ρ vs, ν, xs[i], ρ3, μ3, E3, S3, R3, e3, fun σ4 ι4 H4 X4 E4 S4 => ⟨ι4, ρ3, μ3, b, μ4, E4, S4, e4, fun ι5 H5 X5 S5 => ?_⟩⟩
    have e2 : (if b = true then _ else _) = some (out, μ2) := e2
    have hoffD : ∀ l, l < ν.length → ι2 l ≠ D := fun l hl z => S2.zap l hl (by rw [z]; exact z2)
    have X25 := X3.trans (X4.trans X5)
    have hDy5 : H5 D = some (.lst ys) := X25.keep D _ hDy hoffD
    have z5 : ι5.Z D := X25.zup D z2
    cases b with
    | false =>
      rw [if_neg Bool.false_ne_true] at e2
      refine iteF ?_
      split at e2
      · rename_i c5
        exact ⟨ι5, μ4, acc, ys, X2.trans X25, z5, S5, hDy5, RepVs.mono X25 R2, c5, e2⟩
      · cases e2
    | true =>
      rw [if_pos rfl] at e2
      refine iteT ?_
      obtain ⟨⟨⟨zs, ch1⟩, μ6⟩, e5, e2⟩ := Option.bind_eq_some_iff.mp e2
      obtain ⟨⟨out1, μ7⟩, e6, e2⟩ := Option.bind_eq_some_iff.mp e2
      have e6 : lcL (wipeE ρ3 vs1) g1 t1 e ch1 zs acc μ6 = some (out1, μ7) := e6
      have hch1 := hci1 _ _ _ _ e5
      refine ⟨ι5, ρ3, μ4, (zs, ch1), μ6, E4.mono X5, S5, e5, hch1, fun ι6 H6 J1 X6 S6 ok1 => ?_⟩
      have ok1 : ItOk K J1 zs ch1 ι6 μ6.length H6 := ok1
      have X26 := X25.trans X6
      have z6 : ι6.Z D := X26.zup D z2
      have hDy6 : H6 D = some (.lst ys) := X26.keep D _ hDy hoffD
      let Pv1 : Nat → Hp → Prop := fun j H => ∃ ι7 ν7 acc7 hy7, ExtP ι6 μ6.length H6 ι7 ν7.length H ∧ Ext ι1 μ1.length H1 ι7 ν7.length H ∧ RepS K ι7 H ν7 ∧ H D = some (.lst hy7) ∧ RepVs K ι7 ν7.length H acc7 hy7 ∧ ChkOk ch1 ν7 ∧
        lcL (wipeE ρ3 vs1) g1 t1 e ch1 (zs.drop j) acc7 ν7 = some (out1, μ7)
      refine ⟨fun j k H => k = zs.length - j ∧ j ≤ zs.length ∧ Pv1 j H, ⟨zs.length, by simp, Nat.zero_le _, ι6, μ6, acc, ys, Ext.refl.p, X2.trans X26, S6, hDy6, RepVs.mono X26 R2, hch1, e6⟩, ?_⟩
      rintro j k H8 ⟨rfl, hj, ι7, ν7, acc7, hy7, XP, XE, S7, hD7, R7, c7, e7⟩
      have z7 : ι7.Z D := XP.zup D z6
      by_cases hlt1 : j < zs.length
      · have hd1 : zs.drop j = zs[j] :: zs.drop (j + 1) := List.drop_eq_getElem_cons hlt1
        rw [hd1] at e7
        unfold lcL at e7
        obtain ⟨⟨ρ9, μ9⟩, e9, e7⟩ := Option.bind_eq_some_iff.mp e7
        obtain ⟨⟨b1, μ10⟩, e10, e7⟩ := Option.bind_eq_some_iff.mp e7
        refine .inr ⟨ok1.goes j ι7 ν7 H8 hlt1 XP S7 c7, Pv1 (j + 1), fun H' h => ⟨zs.length - (j + 1), by omega, rfl, hlt1, h⟩, fun x1 H9 y1 => ?_⟩
        obtain ⟨X9, S9, R9⟩ := ok1.yields j ι7 ν7 H8 x1 H9 zs[j] (by simp [hlt1]) XP S7 c7 y1
        have E9 : RepE K ι7 ν7.length H9 (wipeE ρ3 vs1) (L2.wipe σ4 vs1) := ((E4.wipe vs1).mono (X5.trans X6)).monoP (XP.trans X9.p)
        have h1 := gi1.imp x1 (L2.wipe σ4 vs1) H9 (fun σ3 H5 => tT K t1 σ3 H5 fun b H6 =>
          if b = true then tD K e σ3 H6 fun y H7 => ∃ acc, H7 D = some (.lst acc) ∧ acc.length < sizeLine ∧ Pv1 (j + 1) (upd H7 D (.lst (acc ++ [y]))) else Pv1 (j + 1) H6) ?_
        · rw [wipe_idem] at h1
          exact h1
        refine ⟨ι7, wipeE ρ3 vs1, ν7, zs[j], ρ9, μ9, E9, S9, R9, e9, fun σ10 ι10 H10 X10 E10 S10 => ⟨ι10, ρ9, μ9, b1, μ10, E10, S10, e10, fun ι11 H11 X11 S11 => ?_⟩⟩
        have e7 : (if b1 = true then _ else _) = some (out1, μ7) := e7
        have hoff7 : ∀ l, l < ν7.length → ι7 l ≠ D := fun l hl z => S7.zap l hl (by rw [z]; exact z7)
        have X711 := X9.trans (X10.trans X11)
        have hD11 : H11 D = some (.lst hy7) := X711.keep D _ hD7 hoff7
        have z11 : ι11.Z D := X711.zup D z7
        cases b1 with
        | false =>
          rw [if_neg Bool.false_ne_true] at e7
          refine iteF ?_
          split at e7
          · rename_i c11
            exact ⟨ι11, μ10, acc7, hy7, XP.trans X711.p, XE.trans X711, S11, hD11, RepVs.mono X711 R7, c11, e7⟩
          · cases e7
        | true =>
          rw [if_pos rfl] at e7
          refine iteT ?_
          obtain ⟨⟨w, μ12⟩, e12, e7⟩ := Option.bind_eq_some_iff.mp e7
          refine ⟨ι11, ρ9, μ10, w, μ12, E10.mono X11, S11, e12, fun hw ι12 H12 X12 R12 S12 => ?_⟩
          split at e7
          · rename_i c12
            have X712 := X711.trans X12
            have z12 : ι12.Z D := X12.zup D z11
            have R712 : RepVs K ι12 μ12.length H12 acc7 hy7 := RepVs.mono X712 R7
            refine ⟨hy7, X712.keep D _ hD7 hoff7, by rw [← R7.length]; exact c12.2, ι12, μ12, acc7 ++ [w], hy7 ++ [hw], (XP.trans X712.p).put z6, (XE.trans X712).privR hD, S12.priv z12, upd_same, (R712.append (.one R12)).priv z12, c12.1, e7⟩
          · cases e7
      · have hj2 : j = zs.length := by omega
        subst hj2
        rw [List.drop_length] at e7
        cases e7
        refine .inl ⟨ok1.stops ι7 _ H8 XP S7 c7, ?_⟩
        have e2 : (if ChkOk ch _ then _ else none) = some (out, μ2) := e2
        split at e2
        · rename_i c8
          exact ⟨ι7, _, out1, hy7, XE, z7, S7, hD7, R7, c8, e2⟩
        · cases e2
  · have hi2 : i = xs.length := by omega
    subst hi2
    rw [List.drop_length] at e2
    cases e2
    have zs : ∀ a, ι1.Z a → ι2.Z a := X2.zup
    refine .inl ⟨ok.stops ι2 _ H X2.p S2 c2, q _ (setZ ι2 ι1.Z) H X2.setR ?_ (S2.setZ zs)⟩
    exact ⟨D, ys, rfl, ⟨hDy, fun l hl z => S2.zap l hl (by have z : ι2 l = D := z; rw [z]; exact z2), fun z => S2.zin D (zs D z) |> fun _ => S1.zin D z hD⟩, R2.setZ zs⟩
section
variable {X : Cx}
theorem e_lc2 {elt tg iter tg1 iter1 : Expr} {ifs ifs1 : List Expr} {scope : Scope} {own : List (Str × Nat)} {vs1 : List Nat} {pos : Pos} {di di1 : DenI} {gt gt1 : TG} {g g1 : DenG} {t t1 : DenT} {e : Den} (hN : X.N.Nodup) (hi : PI X tg iter (tI X.K di)) (hci : ∀ ρ μ p μ', di ρ μ = some (p, μ') → ChkOk p.2 μ')
    (hci1 : ∀ ρ μ p μ', di1 ρ μ = some (p, μ') → ChkOk p.2 μ') (ok : BlkOk X.N X.env.scope scope own) (hv : ∀ i ∈ vs1, i ∈ own.map (·.2)) (gi : GIn X.K gt g (own.map (·.2))) (gi1 : GIn X.K gt1 g1 vs1)
    (hg : ∀ (s : Shared) (H : Hp) (C : Addr) (cl : List (Str × Addr)) (fp : List Addr), PG (X.blk s H scope (compEnvC scope cl C X.env) fp) tg gt) (ht : ∀ (s : Shared) (H : Hp) (C : Addr) (cl : List (Str × Addr)) (fp : List Addr), PTs (X.blk s H scope (compEnvC scope cl C X.env) fp) ifs (tT X.K t))
    (hi1 : ∀ (s : Shared) (H : Hp) (C : Addr) (cl : List (Str × Addr)) (fp : List Addr), PI (X.blk s H scope (compEnvC scope cl C X.env) fp) tg1 iter1 (tI X.K di1))
    (hg1 : ∀ (s : Shared) (H : Hp) (C : Addr) (cl : List (Str × Addr)) (fp : List Addr), PG (X.blk s H scope (compEnvC scope cl C X.env) fp) tg1 gt1) (ht1 : ∀ (s : Shared) (H : Hp) (C : Addr) (cl : List (Str × Addr)) (fp : List Addr), PTs (X.blk s H scope (compEnvC scope cl C X.env) fp) ifs1 (tT X.K t1))
    (he : ∀ (s : Shared) (H : Hp) (C : Addr) (cl : List (Str × Addr)) (fp : List Addr), PE (X.blk s H scope (compEnvC scope cl C X.env) fp) elt (tD X.K e)) (hc : X.calm = true := by rfl) (hs : ∀ x, foldedSetIterable iter X.env x = pure x := by intro _; rfl) (hs1 : ∀ env x, foldedSetIterable iter1 env x = pure x := by intro _ _; rfl) :
    PE X (.ListComp elt [⟨tg, iter, ifs, 0⟩, ⟨tg1, iter1, ifs1, 0⟩] scope pos) (tD X.K (dLc2 (own.map (·.2)) vs1 di g t di1 g1 t1 e)) :=
  (pe_lc2 hc hN hi ok hv hg ht hi1 hg1 ht1 he hs hs1).weak fun _ _ _ h => t_lc2 gi gi1 hci hci1 h
end
section
variable {X : Cx}
theorem s_setLc2 (i : Nat) {y : Str} {py : Pos} {elt tg iter tg1 iter1 : Expr} {ifs ifs1 : List Expr} {scope : Scope} {own : List (Str × Nat)} {vs1 : List Nat} {pos spos : Pos} {di di1 : DenI} {gt gt1 : TG} {g g1 : DenG} {t t1 : DenT} {e : Den} (hN : X.N.Nodup)
    (hsw : swapsWith (.ListComp elt [⟨tg, iter, ifs, 0⟩, ⟨tg1, iter1, ifs1, 0⟩] scope pos) (some (.Name y py)) spos.line X.env = pure true) (hi : PI X tg iter (tI X.K di)) (hci : ∀ ρ μ p μ', di ρ μ = some (p, μ') → ChkOk p.2 μ')
    (hci1 : ∀ ρ μ p μ', di1 ρ μ = some (p, μ') → ChkOk p.2 μ') (ok : BlkOk X.N X.env.scope scope own) (hv : ∀ i ∈ vs1, i ∈ own.map (·.2)) (gi : GIn X.K gt g (own.map (·.2))) (gi1 : GIn X.K gt1 g1 vs1)
    (hg : ∀ (s : Shared) (H : Hp) (C : Addr) (cl : List (Str × Addr)) (fp : List Addr), PG (X.blk s H scope (compEnvC scope cl C X.env) fp) tg gt) (ht : ∀ (s : Shared) (H : Hp) (C : Addr) (cl : List (Str × Addr)) (fp : List Addr), PTs (X.blk s H scope (compEnvC scope cl C X.env) fp) ifs (tT X.K t))
    (hi1 : ∀ (s : Shared) (H : Hp) (C : Addr) (cl : List (Str × Addr)) (fp : List Addr), PI (X.blk s H scope (compEnvC scope cl C X.env) fp) tg1 iter1 (tI X.K di1))
    (hg1 : ∀ (s : Shared) (H : Hp) (C : Addr) (cl : List (Str × Addr)) (fp : List Addr), PG (X.blk s H scope (compEnvC scope cl C X.env) fp) tg1 gt1) (ht1 : ∀ (s : Shared) (H : Hp) (C : Addr) (cl : List (Str × Addr)) (fp : List Addr), PTs (X.blk s H scope (compEnvC scope cl C X.env) fp) ifs1 (tT X.K t1))
    (he : ∀ (s : Shared) (H : Hp) (C : Addr) (cl : List (Str × Addr)) (fp : List Addr), PE (X.blk s H scope (compEnvC scope cl C X.env) fp) elt (tD X.K e)) (hy : X.N[i]? = some y := by rfl) (hyl : X.env.scope.names.lookup y = some .local := by rfl) (hc : X.calm = true := by rfl)
    (hs : ∀ x, foldedSetIterable iter X.env x = pure x := by intro _; rfl) (hs1 : ∀ env x, foldedSetIterable iter1 env x = pure x := by intro _ _; rfl) :
    PS X (.Assign [.Name y py] (.ListComp elt [⟨tg, iter, ifs, 0⟩, ⟨tg1, iter1, ifs1, 0⟩] scope pos) spos) (tS X.K (sAsg (dLc2 (own.map (·.2)) vs1 di g t di1 g1 t1 e) (gNm i))) :=
  (ps_setLc2 (i := i) hc hN hy hyl hsw hi ok hv hg ht hi1 hg1 ht1 he hs hs1).weak fun D σ H h => by
    obtain ⟨ι, ρ, μ, o, E, S, e, q⟩ := h
    obtain ⟨⟨v, μ1⟩, e1, e⟩ := Option.bind_eq_some_iff.mp e
    obtain ⟨⟨ρ2, μ2⟩, e2, e3⟩ := Option.map_eq_some_iff.mp e
    cases e3; cases e2
    exact t_lc2 gi gi1 hci hci1 (Q := fun x H1 => gName i x σ H1 D.nx) ⟨ι, ρ, μ, v, μ1, E, S, e1, fun hv ι1 H1 X1 R1 S1 => q _ ι1 H1 X1 ((E.mono X1).set i R1) S1⟩
end
theorem wipe_get (σ : L2.St) : ∀ (vs : List Nat) (i : Nat), (L2.wipe σ vs)[i]? = if i ∈ vs ∧ i < σ.length then some none else σ[i]? := by
  intro vs
  induction vs with
  | nil => intro i; simp [L2.wipe]
  | cons v vs ih =>
    intro i
    show ((L2.wipe σ vs).set v none)[i]? = _
    by_cases hv : v = i
    · subst hv
      by_cases hl : v < σ.length
      · rw [List.getElem?_set_self (by rw [wipe_length]; exact hl), if_pos ⟨List.mem_cons_self, hl⟩]
      · rw [if_neg fun z => hl z.2, List.getElem?_eq_none (by rw [List.length_set, wipe_length]; omega), List.getElem?_eq_none (by omega)]
    · rw [List.getElem?_set_ne hv, ih i]
      by_cases hc : i ∈ vs ∧ i < σ.length
      · rw [if_pos hc, if_pos ⟨List.mem_cons_of_mem _ hc.1, hc.2⟩]
      · rw [if_neg hc, if_neg fun z => hc ⟨(List.mem_cons.mp z.1).resolve_left fun e => hv e.symm, z.2⟩]
theorem wipe_in (σ : L2.St) (i : Nat) (o : Option V) (vs : List Nat) (h : i ∈ vs) : L2.wipe (σ.set i o) vs = L2.wipe σ vs := by
  apply List.ext_getElem?
  intro j
  rw [wipe_get, wipe_get, List.length_set]
  by_cases hj : j ∈ vs ∧ j < σ.length
  · rw [if_pos hj, if_pos hj]
  · rw [if_neg hj, if_neg hj]
    by_cases e : i = j
    · subst e
      have hl : ¬ i < σ.length := fun l => hj ⟨h, l⟩
      rw [List.getElem?_eq_none (by rw [List.length_set]; omega), List.getElem?_eq_none (by omega)]
    · rw [List.getElem?_set_ne e]
theorem gin_nmV {K : Frg} (i : Nat) {vs : List Nat} (h : i ∈ vs := by decide) : GIn K (gName i) (gNm i) vs := ⟨fun v σ H Q q => by
  obtain ⟨ι, ρ, μ, pv, ρ', μ', E, S, R, e, q⟩ := q
  cases e
  exact ⟨wipe_in _ _ _ _ h, q _ ι H .refl (E.set i R) S⟩⟩
theorem gin_tu2V {K : Frg} (i j : Nat) {vs : List Nat} (h : i ∈ vs := by decide) (h2 : j ∈ vs := by decide) : GIn K (gTup K 2 (gCons (gName i) (gCons (gName j) gNil))) (gTu 2 (gsCons (gNm i) (gsCons (gNm j) gsNil))) vs := ⟨fun v σ H Q q => by
  obtain ⟨ι, ρ, μ, pv, ρ', μ', E, S, R, e, q⟩ := q
  unfold gTu at e
  split at e
  · rename_i xs
    split at e
    · rename_i hl
      match xs, hl with
      | [x, y], _ =>
        cases e
        obtain ⟨a, ys, rfl, t, u, r1, rfl, h1, w, r2, rfl, h3, rfl⟩ := R
        exact ⟨a, [u, w], rfl, t.sq, rfl, u, [w], rfl, w, [], rfl, rfl, (wipe_in _ _ _ _ h2).trans (wipe_in _ _ _ _ h), q _ ι H .refl ((E.set i h1).set j h3) S⟩
    · cases e
  · cases e⟩
theorem gin_tu3V {K : Frg} (i j k : Nat) {vs : List Nat} (h : i ∈ vs := by decide) (h2 : j ∈ vs := by decide) (h3 : k ∈ vs := by decide) : GIn K (gTup K 3 (gCons (gName i) (gCons (gName j) (gCons (gName k) gNil)))) (gTu 3 (gsCons (gNm i) (gsCons (gNm j) (gsCons (gNm k) gsNil)))) vs := ⟨fun v σ H Q q => by
  obtain ⟨ι, ρ, μ, pv, ρ', μ', E, S, R, e, q⟩ := q
  unfold gTu at e
  split at e
  · rename_i xs
    split at e
    · rename_i hl
      match xs, hl with
      | [x, y, z], _ =>
        cases e
        obtain ⟨a, ys, rfl, t, u, r1, rfl, k1, w, r2, rfl, k2, w3, r3, rfl, k3, rfl⟩ := R
        exact ⟨a, [u, w, w3], rfl, t.sq, rfl, u, [w, w3], rfl, w, [w3], rfl, w3, [], rfl, rfl, (wipe_in _ _ _ _ h3).trans ((wipe_in _ _ _ _ h2).trans (wipe_in _ _ _ _ h)), q _ ι H .refl (((E.set i k1).set j k2).set k k3) S⟩
    · cases e
  · cases e⟩
theorem e_gintE {X : Cx} {x : Str} {i : Int} {pos : Pos} (hm : ∃ t, X.mg x = some (.int i t)) (hg : Gl X x := by rfl) (hd : (x == ("__debug__" : Str)) = false := by decide) : PE X (.Name x pos) (tD X.K (cK (.int i))) := by
  obtain ⟨t, h⟩ := hm
  exact e_gint hg h hd
end Fd

/-! FdN: more steps: comprehensions and loops over lists that come from plain ones. -/
namespace Fd
open PySem PySem.Spec PyProof.Rows L2
theorem rgP_from : ∀ (n : Nat) (lo : Int), rgP lo n = (List.range n).map (fun i : Nat => PV.int (lo + i))
  | 0, _ => rfl
  | n + 1, lo => by
    show PV.int lo :: rgP (lo + 1) n = _
    rw [rgP_from n, List.range_succ_eq_map, List.map_cons, List.map_map]
    congr 1
    · congr 1; simp
    · apply List.map_congr_left
      intro i _
      show PV.int _ = PV.int _
      congr 1
      simp only [Nat.succ_eq_add_one]
      push_cast
      omega
theorem rgP_range (n : Nat) : rgP 0 n = (List.range n).map (fun i : Nat => PV.int i) := by
  rw [rgP_from]; apply List.map_congr_left; intro i _; rw [Int.zero_add]
theorem rgP_range1 (n : Nat) : rgP 1 n = (List.range n).map (fun i : Nat => PV.int ((i + 1 : Nat) : Int)) := by
  rw [rgP_from]; apply List.map_congr_left; intro i _; congr 1; push_cast; omega
theorem all_bl {μ : Sto} (bs : List Bool) : f_all [.lst (bs.map PV.bl)] μ = some (.bl (bs.all id), μ) := by
  show Option.map _ ((some (bs.map PV.bl)).bind blsP) = _
  show Option.map _ (blsP _) = _
  rw [blsP_map]
  rfl
theorem any_bl {μ : Sto} (bs : List Bool) : f_any [.lst (bs.map PV.bl)] μ = some (.bl (bs.any id), μ) := by
  show Option.map _ ((some (bs.map PV.bl)).bind blsP) = _
  show Option.map _ (blsP _) = _
  rw [blsP_map]
  rfl
theorem all_bl' {α : Type} {μ : Sto} (xs : List α) (p : α → Bool) : f_all [.lst (xs.map fun x => PV.bl (p x))] μ = some (.bl (xs.all p), μ) := by
  have := all_bl (μ := μ) (xs.map p)
  rw [List.map_map, List.all_map] at this
  exact this
theorem any_bl' {α : Type} {μ : Sto} (xs : List α) (p : α → Bool) : f_any [.lst (xs.map fun x => PV.bl (p x))] μ = some (.bl (xs.any p), μ) := by
  have := any_bl (μ := μ) (xs.map p)
  rw [List.map_map, List.any_map] at this
  exact this
section
variable {α : Type} {ρ : En} {μ : Sto} {g : DenG} {t : DenT} {e : Den} {ch : List (Nat × List PV)}
theorem lc_map (inj : α → PV) (p : α → Bool) (f : α → PV) : ∀ (xs : List α) (acc : List PV), ChkOk ch μ → acc.length + xs.length ≤ sizeLine →
    (∀ x ∈ xs, ∃ ρ1, g (inj x) ρ μ = some (ρ1, μ) ∧ t ρ1 μ = some (p x, μ) ∧ (p x = true → e ρ1 μ = some (f x, μ))) → lcL ρ g t e ch (xs.map inj) acc μ = some (acc ++ (xs.filter p).map f, μ)
  | [], acc, _, _, _ => by rw [List.map_nil, lc_nil]; simp
  | x :: xs, acc, hc, hl, h => by
    have hl' : acc.length + (xs.length + 1) ≤ sizeLine := hl
    obtain ⟨ρ1, h1, h2, h3⟩ := h x List.mem_cons_self
    rw [List.map_cons]
    cases hp : p x with
    | true =>
      rw [hp] at h2
      refine lc_yes h1 h2 (h3 hp) hc (by omega) ?_
      rw [lc_map inj p f xs (acc ++ [f x]) hc (by rw [List.length_append]; simp only [List.length_cons, List.length_nil]; omega) fun y hy => h y (List.mem_cons_of_mem _ hy)]
      rw [List.filter_cons_of_pos hp]
      simp
    | false =>
      rw [hp] at h2
      refine lc_no h1 h2 hc ?_
      rw [lc_map inj p f xs acc hc (by omega) fun y hy => h y (List.mem_cons_of_mem _ hy)]
      rw [List.filter_cons_of_neg (by rw [hp]; exact Bool.false_ne_true)]
/-- no test -/
theorem lc_map0 (inj : α → PV) (f : α → PV) (xs : List α) (hc : ChkOk ch μ) (hl : xs.length ≤ sizeLine)
    (h : ∀ x ∈ xs, ∃ ρ1, g (inj x) ρ μ = some (ρ1, μ) ∧ e ρ1 μ = some (f x, μ)) : lcL ρ g tAll e ch (xs.map inj) [] μ = some (xs.map f, μ) := by
  rw [lc_map inj (fun _ => true) f xs [] hc (by simpa using hl) fun x hx => by
    obtain ⟨ρ1, h1, h2⟩ := h x hx
    exact ⟨ρ1, h1, rfl, fun _ => h2⟩]
  rw [List.filter_eq_self.mpr (fun _ _ => rfl), List.nil_append]
/-- a comprehension that draws: the store goes on; S speaks of how many items are left and of the store -/
theorem lc_draw (inj : α → PV) (S : Nat → Sto → Prop) (Q : PV → Prop) : ∀ (xs : List α) (acc : List PV) (μ : Sto), S xs.length μ → acc.length + xs.length ≤ sizeLine →
    (∀ x ∈ xs, ∀ k μ, S (k + 1) μ → ∃ ρ1 v μ', g (inj x) ρ μ = some (ρ1, μ) ∧ e ρ1 μ = some (v, μ') ∧ Q v ∧ S k μ') → ∃ (vs : List PV) (μ' : Sto), lcL ρ g tAll e [] (xs.map inj) acc μ = some (acc ++ vs, μ') ∧ S 0 μ' ∧ vs.length = xs.length ∧ ∀ v ∈ vs, Q v
  | [], acc, μ, hS, _, _ => ⟨[], μ, by rw [List.map_nil, lc_nil, List.append_nil], hS, rfl, fun v hv => by cases hv⟩
  | x :: xs, acc, μ, hS, hl, h => by
    have hl' : acc.length + (xs.length + 1) ≤ sizeLine := hl
    obtain ⟨ρ1, v, μ1, h1, h2, h3, h4⟩ := h x List.mem_cons_self xs.length μ hS
    obtain ⟨vs, μ2, k1, k2, k3, k4⟩ := lc_draw inj S Q xs (acc ++ [v]) μ1 h4 (by rw [List.length_append]; simp only [List.length_cons, List.length_nil]; omega) fun y hy => h y (List.mem_cons_of_mem _ hy)
    refine ⟨v :: vs, μ2, ?_, k2, by simp [k3], ?_⟩
    · rw [List.map_cons]
      refine lc_yes h1 rfl h2 (by intro p hp; cases hp) (by omega) ?_
      rw [k1]; simp
    · intro w hw
      rcases List.mem_cons.mp hw with rfl | hw
      · exact h3
      · exact k4 w hw
end
theorem lc2_map {α β : Type} {ρ : En} {μ : Sto} {g g1 : DenG} {d1 : DenI} {e : Den} {vs1 : List Nat} {ch : List (Nat × List PV)} (inj : α → PV) (inj2 : β → PV) (f : α → β → PV) (ys : List β) (hc : ChkOk ch μ) : ∀ (xs : List α) (acc : List PV), acc.length + xs.length * ys.length ≤ sizeLine →
    (∀ x ∈ xs, ∃ ρ1, g (inj x) ρ μ = some (ρ1, μ) ∧ d1 ρ1 μ = some ((ys.map inj2, []), μ) ∧ ∀ y ∈ ys, ∃ ρ2, g1 (inj2 y) (wipeE ρ1 vs1) μ = some (ρ2, μ) ∧ e ρ2 μ = some (f x y, μ)) →
    lcL2 ρ g tAll d1 g1 tAll e vs1 ch (xs.map inj) acc μ = some (acc ++ xs.flatMap fun x => ys.map (f x), μ)
  | [], acc, _, _ => by rw [List.map_nil, List.flatMap_nil, List.append_nil]; rfl
  | x :: xs, acc, hl, h => by
    obtain ⟨ρ1, h1, h2, h3⟩ := h x List.mem_cons_self
    have hl' : acc.length + ys.length + xs.length * ys.length ≤ sizeLine := by
      rw [List.length_cons, Nat.succ_mul] at hl; omega
    rw [List.map_cons]
    unfold lcL2
    have h4 := lc_map (ρ := wipeE ρ1 vs1) (μ := μ) (g := g1) (t := tAll) (e := e) (ch := []) inj2 (fun _ => true) (f x) ys acc (by intro p hp; cases hp) (by omega) fun y hy => by
      obtain ⟨ρ2, k1, k2⟩ := h3 y hy
      exact ⟨ρ2, k1, rfl, fun _ => k2⟩
    rw [List.filter_eq_self.mpr (fun _ _ => rfl)] at h4
    simp only [h1, ev_tAll, h2, h4, Option.bind_some, if_true, if_pos hc]
    rw [lc2_map inj inj2 f ys hc xs (acc ++ ys.map (f x)) (by rw [List.length_append, List.length_map]; omega) fun y hy => h y (List.mem_cons_of_mem _ hy)]
    rw [List.flatMap_cons, List.append_assoc]
theorem ev_lc2 {ρ ρ' : En} {μ μ1 μ2 : Sto} {vs vs1 : List Nat} {it it1 : DenI} {g g1 : DenG} {t t1 : DenT} {e : Den} {xs out : List PV} {ch : List (Nat × List PV)} (hi : it ρ μ = some ((xs, ch), μ1)) (hw : wipeE ρ vs = ρ') (h : lcL2 ρ' g t it1 g1 t1 e vs1 ch xs [] μ1 = some (out, μ2)) : dLc2 vs vs1 it g t it1 g1 t1 e ρ μ = some (.lst out, μ2) := by
  unfold dLc2; rw [hi]; show Option.map _ (lcL2 (wipeE ρ vs) g t it1 g1 t1 e vs1 ch xs [] μ1) = _; rw [hw, h]; rfl
/-- a loop over plain items, what holds after each of them -/
theorem for_inv {α : Type} {g : DenG} {b : DenS} {ch : List (Nat × List PV)} (inj : α → PV) (I : List α → En → Sto → Prop) : ∀ (xs done : List α) (ρ : En) (μ : Sto), I done ρ μ →
    (∀ (done : List α) (x : α) (rest : List α) (ρ : En) (μ : Sto), I done ρ μ → x ∈ xs → ∃ ρ1 μ1 ρ' μ', g (inj x) ρ μ = some (ρ1, μ1) ∧ (b ρ1 μ1 = some (.nx ρ' μ') ∨ b ρ1 μ1 = some (.ct ρ' μ')) ∧ ChkOk ch μ' ∧ I (done ++ [x]) ρ' μ') →
    ∃ ρ' μ', I (done ++ xs) ρ' μ' ∧ forL g b ch (xs.map inj) ρ μ = some (.nx ρ' μ')
  | [], done, ρ, μ, h, _ => ⟨ρ, μ, by rw [List.append_nil]; exact h, for_nil⟩
  | x :: xs, done, ρ, μ, h, st => by
    obtain ⟨ρ1, μ1, ρ2, μ2, h1, h2, h3, h4⟩ := st done x xs ρ μ h List.mem_cons_self
    obtain ⟨ρ', μ', k1, k2⟩ := for_inv inj I xs (done ++ [x]) ρ2 μ2 h4 fun d y r ρ μ hi hy => st d y r ρ μ hi (List.mem_cons_of_mem _ hy)
    refine ⟨ρ', μ', by rw [List.append_assoc] at k1; exact k1, ?_⟩
    rw [List.map_cons]
    rcases h2 with h2 | h2
    · exact for_step h1 h2 h3 k2
    · exact for_ct h1 h2 h3 k2
/-- a list of values each of which is the picture of something -/
theorem unmap {α : Type} {inj : α → PV} {P : α → Prop} : ∀ {vs : List PV}, (∀ v ∈ vs, ∃ u, v = inj u ∧ P u) → ∃ us : List α, vs = us.map inj ∧ ∀ u ∈ us, P u
  | [], _ => ⟨[], rfl, fun _ h => nomatch h⟩
  | v :: vs, h => by
    obtain ⟨u, rfl, hu⟩ := h v List.mem_cons_self
    obtain ⟨us, rfl, hus⟩ := unmap (fun w hw => h w (List.mem_cons_of_mem _ hw))
    exact ⟨u :: us, rfl, fun w hw => by
      rcases List.mem_cons.mp hw with rfl | hw
      · exact hu
      · exact hus w hw⟩
theorem take0 {pt : Fn} (ht : TakeOk pt) {s : Dr} {n : Nat} {r : Sto} (many : Int) (ok : s.Ok (n + 1)) (hm : 0 < many) (hm2 : many < 2 ^ 99) : ∃ (d : Int) (s' : Dr), 0 ≤ d ∧ d < many ∧ s'.Ok n ∧ pt [.loc 0, .int many] (s.ob :: r) = some (.int d, s'.ob :: r) := by
  obtain ⟨d, s', a, b, c, e⟩ := ht s n (s.ob :: r) 0 many ok rfl hm hm2
  exact ⟨d, s', a, b, c, e⟩
noncomputable def p_al : Fn := pAlike 8
theorem al_ok {x : PV} {μ : Sto} (h : plain x 7 = true) : p_al [x, x] μ = some (.bl true, μ) := alike_refl 7 x μ h
theorem ne_bb {b : Bool} {μ : Sto} : f_ne (.bl b) (.bl b) μ = some (.bl false, μ) := by cases b <;> rfl
/-- told is a bool and what is due: no return -/
theorem told_bool {ρ : En} {μ : Sto} {i : Nat} {b : Bool} {d : Den} {a : DenS} (h : ρ[i]? = some (some (.bl b))) (hd : d ρ μ = some (.bl b, μ)) : sIf (tOr' (tNo (tTru (d1 (f_isi .bool) (cVar i)))) (tB1 (d2 f_ne (cVar i) d))) a sNil ρ μ = some (.nx ρ μ) := by
  refine ev_sIf_f (ev_tOr_f (ev_tNo (b := true) (ev_tTru (x := .bl true) (ev_d1 (ev_var h) ?_) rfl) rfl) (ev_tB (ev_d2 (ev_var h) hd ne_bb))) ev_sNil
  cases b <;> rfl
end Fd

/-! Num3: lattices of pairs. -/
namespace Nm
abbrev Pr := Int × Int
/-- what the rows span -/
def Sp : List Pr → Pr → Prop
  | [], u => u = (0, 0)
  | r :: rs, u => ∃ (c : Int) (v : Pr), Sp rs v ∧ u = (c * r.1 + v.1, c * r.2 + v.2)
theorem Sp.zero : ∀ rs : List Pr, Sp rs (0, 0)
  | [] => rfl
  | r :: rs => ⟨0, (0, 0), Sp.zero rs, by simp⟩
theorem Sp.add : ∀ {rs : List Pr} {u v : Pr}, Sp rs u → Sp rs v → Sp rs (u.1 + v.1, u.2 + v.2)
  | [], u, v, h, k => by
    have h : u = (0, 0) := h
    have k : v = (0, 0) := k
    rw [h, k]; rfl
  | r :: rs, u, v, ⟨c, p, hp, e⟩, ⟨d, q, hq, f⟩ => ⟨c + d, (p.1 + q.1, p.2 + q.2), Sp.add hp hq, by rw [e, f]; simp only [Int.add_mul]; ext <;> simp <;> omega⟩
theorem Sp.smul (m : Int) : ∀ {rs : List Pr} {u : Pr}, Sp rs u → Sp rs (m * u.1, m * u.2)
  | [], u, h => by
    have h : u = (0, 0) := h
    rw [h]; show (m * 0, m * 0) = ((0, 0) : Pr); simp
  | r :: rs, u, ⟨c, p, hp, e⟩ => ⟨m * c, (m * p.1, m * p.2), Sp.smul m hp, by rw [e]; simp only [Int.mul_add, Int.mul_assoc]⟩
theorem Sp.mem : ∀ {rs : List Pr} {r : Pr}, r ∈ rs → Sp rs r
  | s :: rs, r, h => by
    rcases List.mem_cons.mp h with e | h
    · exact ⟨1, (0, 0), Sp.zero rs, by rw [e]; simp⟩
    · exact ⟨0, r, Sp.mem h, by simp⟩
/-- the least that holds the rows and is closed -/
theorem Sp.least {P : Pr → Prop} (h0 : P (0, 0)) (ha : ∀ u v, P u → P v → P (u.1 + v.1, u.2 + v.2)) (hm : ∀ (m : Int) u, P u → P (m * u.1, m * u.2)) : ∀ {rs : List Pr}, (∀ r ∈ rs, P r) → ∀ {u : Pr}, Sp rs u → P u
  | [], _, u, h => by
    have h : u = (0, 0) := h
    rw [h]; exact h0
  | r :: rs, hr, u, ⟨c, v, hv, e⟩ => by
    rw [e]
    exact ha (c * r.1, c * r.2) v (hm c r (hr r List.mem_cons_self)) (Sp.least h0 ha hm (fun s hs => hr s (List.mem_cons_of_mem _ hs)) hv)
theorem Sp.sub {rs ss : List Pr} (h : ∀ r ∈ rs, Sp ss r) {u : Pr} (hu : Sp rs u) : Sp ss u := Sp.least (Sp.zero ss) (fun _ _ => Sp.add) (fun m _ => Sp.smul m) h hu
/-- the lattice of a row of three -/
def Mt (k a b : Int) (u : Pr) : Prop := ∃ i j : Int, u = (k * (i * a + j * b), k * j)
theorem Mt.zero (k a b : Int) : Mt k a b (0, 0) := ⟨0, 0, by simp⟩
theorem Mt.add {k a b : Int} {u v : Pr} (h : Mt k a b u) (h2 : Mt k a b v) : Mt k a b (u.1 + v.1, u.2 + v.2) := by
  obtain ⟨i, j, rfl⟩ := h
  obtain ⟨i2, j2, rfl⟩ := h2
  exact ⟨i + i2, j + j2, by ext <;> grind⟩
theorem Mt.smul {k a b : Int} (m : Int) {u : Pr} (h : Mt k a b u) : Mt k a b (m * u.1, m * u.2) := by
  obtain ⟨i, j, rfl⟩ := h
  exact ⟨m * i, m * j, by ext <;> grind⟩
def bs (k a b : Int) : List Pr := [(k * a, 0), (k * b, k)]
theorem Mt.bs {k a b : Int} {u : Pr} : Mt k a b u ↔ Sp (bs k a b) u := by
  constructor
  · rintro ⟨i, j, rfl⟩
    exact ⟨i, _, ⟨j, _, rfl, rfl⟩, by ext <;> grind⟩
  · rintro ⟨i, _, ⟨j, _, h, rfl⟩, rfl⟩
    have h : _ = ((0, 0) : Pr) := h
    subst h
    exact ⟨i, j, by ext <;> grind⟩
/-- the same as the program's test -/
def inM (k a b : Int) (u : Pr) : Bool := decide (u.1 % k = 0) && (decide (u.2 % k = 0) && decide ((u.1 / k - u.2 / k * b) % a = 0))
theorem inM_iff {k a b : Int} (hk : 0 < k) {u : Pr} : inM k a b u = true ↔ Mt k a b u := by
  unfold inM
  rw [Bool.and_eq_true, Bool.and_eq_true, decide_eq_true_eq, decide_eq_true_eq, decide_eq_true_eq]
  constructor
  · rintro ⟨h1, h2, h3⟩
    obtain ⟨p, hp⟩ := Int.dvd_of_emod_eq_zero h1
    obtain ⟨j, hj⟩ := Int.dvd_of_emod_eq_zero h2
    obtain ⟨i, hi⟩ := Int.dvd_of_emod_eq_zero h3
    rw [hp, hj, Int.mul_ediv_cancel_left _ (by omega), Int.mul_ediv_cancel_left _ (by omega)] at hi
    refine ⟨i, j, ?_⟩
    ext
    · rw [hp]; grind
    · exact hj
  · rintro ⟨i, j, rfl⟩
    refine ⟨Int.mul_emod_right _ _, Int.mul_emod_right _ _, ?_⟩
    simp only
    rw [Int.mul_ediv_cancel_left _ (by omega), Int.mul_ediv_cancel_left _ (by omega), show i * a + j * b - j * b = i * a by omega]
    exact Int.mul_emod_left _ _
/-! ### the loop of cofactors: low, x, y -/
/-- low and (x, y) span what the rows span -/
def Low (low x y : Int) (u : Pr) : Prop := ∃ i j : Int, u = (i * low + j * x, j * y)
structure LowI (rs : List Pr) (low x y : Int) : Prop where
  l0 : 0 ≤ low
  y0 : 0 ≤ y
  x0 : y = 0 → x = 0
  eq : ∀ u, Low low x y u ↔ Sp rs u
theorem LowI.nil : LowI [] 0 0 0 := ⟨Int.le_refl _, Int.le_refl _, fun _ => rfl, fun u => ⟨fun ⟨i, j, h⟩ => by rw [h]; show _ = ((0, 0) : Pr); simp, fun h => ⟨0, 0, by have h : u = (0, 0) := h; rw [h]; simp⟩⟩⟩
theorem Sp.snoc {rs : List Pr} {r u : Pr} : Sp (rs ++ [r]) u ↔ ∃ (c : Int) (v : Pr), Sp rs v ∧ u = (c * r.1 + v.1, c * r.2 + v.2) := by
  constructor
  · intro h
    refine Sp.least (P := fun u => ∃ (c : Int) (v : Pr), Sp rs v ∧ u = (c * r.1 + v.1, c * r.2 + v.2)) ⟨0, (0, 0), Sp.zero rs, by simp⟩ ?_ ?_ ?_ h
    · rintro _ _ ⟨c, v, hv, rfl⟩ ⟨d, w, hw, rfl⟩
      exact ⟨c + d, _, hv.add hw, by ext <;> grind⟩
    · rintro m _ ⟨c, v, hv, rfl⟩
      exact ⟨m * c, _, hv.smul m, by ext <;> grind⟩
    · intro s hs
      rcases List.mem_append.mp hs with hs | hs
      · exact ⟨0, s, Sp.mem hs, by simp⟩
      · rw [List.mem_singleton.mp hs]
        exact ⟨1, (0, 0), Sp.zero rs, by simp⟩
  · rintro ⟨c, v, hv, rfl⟩
    exact ((Sp.mem (List.mem_append_right _ (List.mem_singleton.mpr rfl))).smul c).add (Sp.sub (fun s hs => Sp.mem (List.mem_append_left _ hs)) hv)
/-- a row with a second part 0, where y is 0 as well -/
theorem LowI.flat {rs : List Pr} {low x y : Int} (I : LowI rs low x y) {one two : Int} (hy : y = 0) (ht : two = 0) : LowI (rs ++ [(one, two)]) (Int.gcd low one) x y := by
  have hx := I.x0 hy
  subst hy ht hx
  refine ⟨by omega, Int.le_refl _, fun _ => rfl, fun u => ?_⟩
  rw [Sp.snoc]
  obtain ⟨s, t, hst⟩ := bez low one
  obtain ⟨p, hp⟩ := Int.gcd_dvd_left low one
  obtain ⟨q, hq⟩ := Int.gcd_dvd_right low one
  constructor
  · rintro ⟨i, j, rfl⟩
    refine ⟨i * t, (i * s * low, 0), (I.eq _).mp ⟨i * s, 0, by ext <;> simp⟩, ?_⟩
    ext
    · simp only; rw [← hst]; grind
    · simp
  · rintro ⟨c, v, hv, rfl⟩
    obtain ⟨i, j, rfl⟩ := (I.eq v).mpr hv
    refine ⟨c * q + i * p, 0, ?_⟩
    ext
    · simp only
      have h1 : c * one = c * q * (Int.gcd low one : Int) := by
        conv => lhs; rw [hq]
        ac_rfl
      have h2 : i * low = i * p * (Int.gcd low one : Int) := by
        conv => lhs; rw [hp]
        ac_rfl
      rw [h1, h2]
      grind
    · simp
/-- a row with a second part -/
theorem LowI.turn {rs : List Pr} {low x y : Int} (I : LowI rs low x y) {one two g s t : Int} (hg : 0 < g) (h : y * s + two * t = g) (hy : g ∣ y) (ht : g ∣ two) :
    LowI (rs ++ [(one, two)]) (Int.gcd low ((x * two - one * y) / g)) (s * x + t * one) g := by
  obtain ⟨y1, hy1⟩ := hy
  obtain ⟨t1, ht1⟩ := ht
  have e : (x * two - one * y) / g = x * t1 - one * y1 := by
    rw [ht1, hy1, show x * (g * t1) - one * (g * y1) = g * (x * t1 - one * y1) by grind]
    exact Int.mul_ediv_cancel_left _ (by omega)
  have h1 : y1 * s + t1 * t = 1 := by
    rw [hy1, ht1] at h
    have : g * (y1 * s + t1 * t) = g * 1 := by grind
    exact Int.eq_of_mul_eq_mul_left (by omega) this
  rw [e]
  obtain ⟨p, q, hpq⟩ := bez low (x * t1 - one * y1)
  obtain ⟨l1, hl1⟩ := Int.gcd_dvd_left low (x * t1 - one * y1)
  obtain ⟨m1, hm1⟩ := Int.gcd_dvd_right low (x * t1 - one * y1)
  generalize hG : (Int.gcd low (x * t1 - one * y1) : Int) = G at hpq hl1 hm1
  refine ⟨by omega, by omega, fun z => by omega, fun u => ?_⟩
  rw [Sp.snoc]
  constructor
  · rintro ⟨i, j, rfl⟩
    -- i G + j (s x + t one), j g
    refine ⟨j * t - i * q * y1, ((i * p) * low + (j * s + i * q * t1) * x, (j * s + i * q * t1) * y), (I.eq _).mp ⟨_, _, rfl⟩, ?_⟩
    ext
    · simp only; rw [← hpq]; grind
    · simp only; rw [← h]; grind
  · rintro ⟨c, v, hv, rfl⟩
    obtain ⟨i, j, rfl⟩ := (I.eq v).mpr hv
    -- c (one, two) + i (low, 0) + j (x, y)
    refine ⟨i * l1 + (j * t - c * s) * m1, c * t1 + j * y1, ?_⟩
    ext
    · simp only
      have a1 : i * low = i * l1 * G := by rw [hl1]; grind
      have a2 : (j * t - c * s) * (x * t1 - one * y1) = (j * t - c * s) * m1 * G := by rw [hm1]; grind
      have a3 : (i * l1 + (j * t - c * s) * m1) * G = i * low + (j * t - c * s) * (x * t1 - one * y1) := by rw [a1, a2]; grind
      rw [a3]
      grind
    · simp only
      rw [ht1, hy1]
      grind
/-- x may be taken by low -/
theorem LowI.mod {rs : List Pr} {low x y : Int} (I : LowI rs low x y) (hy : y ≠ 0) : LowI rs low (x % low) y := by
  refine ⟨I.l0, I.y0, fun z => absurd z hy, fun u => ?_⟩
  rw [← I.eq u]
  have e := Int.emod_add_mul_ediv x low
  constructor
  · rintro ⟨i, j, rfl⟩
    refine ⟨i - j * (x / low), j, ?_⟩
    ext
    · simp only; grind
    · rfl
  · rintro ⟨i, j, rfl⟩
    refine ⟨i + j * (x / low), j, ?_⟩
    ext
    · simp only; grind
    · rfl
end Nm

/-! Num4: rows of three that are the only ones; products of lattices. -/
namespace Nm
theorem pr_ext {p q r s : Int} (h : ((p, q) : Pr) = (r, s)) : p = r ∧ q = s := ⟨congrArg Prod.fst h, congrArg Prod.snd h⟩
/-- the shape of the row of three -/
structure Hnf (k a b : Int) : Prop where
  k0 : 0 < k
  b0 : 0 ≤ b
  ba : b < a
theorem eq_of_mul1 {y k j : Int} (hk : 0 < k) (hy : 0 ≤ y) (h1 : k ∣ y) (h2 : y ∣ k) : y = k := Int.dvd_antisymm hy (by omega) h2 h1
theorem LowI.hnf {rs : List Pr} {low x y k a b : Int} (I : LowI rs low x y) (Z : Hnf k a b) (h : ∀ u, Sp rs u ↔ Mt k a b u) : y = k ∧ low = k * a ∧ x / y % a = b := by
  have k0 := Z.k0; have b0 := Z.b0; have ba := Z.ba
  have eqv : ∀ u, Low low x y u ↔ Mt k a b u := fun u => (I.eq u).trans (h u)
  obtain ⟨i1, j1, e1⟩ := (eqv (x, y)).mp ⟨0, 1, by ext <;> simp⟩
  obtain ⟨e1a, e1b⟩ := pr_ext e1
  obtain ⟨i2, j2, e2⟩ := (eqv (k * b, k)).mpr ⟨0, 1, by ext <;> simp⟩
  obtain ⟨e2a, e2b⟩ := pr_ext e2
  have hy : y = k := Int.dvd_antisymm I.y0 (by omega) ⟨j2, by rw [e2b]; ac_rfl⟩ ⟨j1, e1b⟩
  subst hy
  have hj1 : j1 = 1 := by
    have : y * j1 = y * 1 := by omega
    exact Int.eq_of_mul_eq_mul_left (by omega) this
  subst hj1
  obtain ⟨i3, j3, e3⟩ := (eqv (low, 0)).mp ⟨1, 0, by ext <;> simp⟩
  obtain ⟨e3a, e3b⟩ := pr_ext e3
  have hj3 : j3 = 0 := by
    rcases Int.mul_eq_zero.mp e3b.symm with z | z
    · omega
    · exact z
  subst hj3
  obtain ⟨i4, j4, e4⟩ := (eqv (y * a, 0)).mpr ⟨1, 0, by ext <;> simp⟩
  obtain ⟨e4a, e4b⟩ := pr_ext e4
  have hj4 : j4 = 0 := by
    rcases Int.mul_eq_zero.mp e4b.symm with z | z
    · exact z
    · omega
  subst hj4
  have hya : 0 < y * a := Int.mul_pos k0 (by omega)
  have hlow : low = y * a := Int.dvd_antisymm I.l0 (by omega) ⟨i4, by rw [e4a]; grind⟩ ⟨i3, by rw [e3a]; grind⟩
  refine ⟨rfl, hlow, ?_⟩
  have hx : x = y * (i1 * a + b) := by rw [e1a]; grind
  rw [hx, Int.mul_ediv_cancel_left _ (by omega), Int.add_comm, Int.add_mul_emod_self_right]
  exact Int.emod_eq_of_lt b0 ba
/-! ### the law's way: gcds of the second parts, of the minors -/
def mnr (r s : Pr) : Int := r.1 * s.2 - r.2 * s.1
theorem dvd_snd {rs : List Pr} {G : Int} (h : ∀ r ∈ rs, G ∣ r.2) {u : Pr} (hu : Sp rs u) : G ∣ u.2 :=
  Sp.least (P := fun u => G ∣ u.2) (Int.dvd_zero _) (fun u v p q => Int.dvd_add p q) (fun m u p => Int.dvd_trans p (Int.dvd_mul_left _ _)) h hu
theorem snd_gcd {rs : List Pr} {k a b G : Int} (Z : Hnf k a b) (h : ∀ u, Sp rs u ↔ Mt k a b u) (G0 : 0 ≤ G) (h1 : ∀ r ∈ rs, G ∣ r.2) (h2 : ∀ c : Int, (∀ r ∈ rs, c ∣ r.2) → c ∣ G) : G = k := by
  have k0 := Z.k0
  refine Int.dvd_antisymm G0 (by omega) ?_ (h2 k fun r hr => ?_)
  · have := dvd_snd h1 ((h (k * b, k)).mpr ⟨0, 1, by ext <;> simp⟩)
    exact this
  · obtain ⟨i, j, e⟩ := (h r).mp (Sp.mem hr)
    rw [e]
    exact Int.dvd_mul_right _ _
theorem dvd_mnr {rs : List Pr} {G : Int} (h : ∀ r ∈ rs, ∀ s ∈ rs, G ∣ mnr r s) {u v : Pr} (hu : Sp rs u) (hv : Sp rs v) : G ∣ mnr u v := by
  have step : ∀ r ∈ rs, ∀ v, Sp rs v → G ∣ mnr r v := fun r hr v hv =>
    Sp.least (P := fun v => G ∣ mnr r v) (by show G ∣ r.1 * 0 - r.2 * 0; simp) (fun u v p q => by
      have := Int.dvd_add p q
      have e : mnr r u + mnr r v = mnr r (u.1 + v.1, u.2 + v.2) := by unfold mnr; grind
      rw [e] at this; exact this) (fun m u p => by
      have e : mnr r (m * u.1, m * u.2) = m * mnr r u := by unfold mnr; grind
      show G ∣ mnr r (m * u.1, m * u.2)
      rw [e]; exact Int.dvd_trans p (Int.dvd_mul_left _ _)) (h r hr) hv
  exact Sp.least (P := fun u => G ∣ mnr u v) (by show G ∣ 0 * v.2 - 0 * v.1; simp) (fun u w p q => by
      have := Int.dvd_add p q
      have e : mnr u v + mnr w v = mnr (u.1 + w.1, u.2 + w.2) v := by unfold mnr; grind
      rw [e] at this; exact this) (fun m u p => by
      have e : mnr (m * u.1, m * u.2) v = m * mnr u v := by unfold mnr; grind
      show G ∣ mnr (m * u.1, m * u.2) v
      rw [e]; exact Int.dvd_trans p (Int.dvd_mul_left _ _)) (fun r hr => step r hr v hv) hu
theorem mnr_gcd {rs : List Pr} {k a b G : Int} (Z : Hnf k a b) (h : ∀ u, Sp rs u ↔ Mt k a b u) (G0 : 0 ≤ G) (h1 : ∀ r ∈ rs, ∀ s ∈ rs, G ∣ mnr r s) (h2 : ∀ c : Int, (∀ r ∈ rs, ∀ s ∈ rs, c ∣ mnr r s) → c ∣ G) : G = k * k * a := by
  have k0 := Z.k0; have b0 := Z.b0; have ba := Z.ba
  have hp : 0 ≤ k * k * a := Int.mul_nonneg (Int.mul_nonneg (by omega) (by omega)) (by omega)
  refine Int.dvd_antisymm G0 hp ?_ (h2 _ fun r hr s hs => ?_)
  · have := dvd_mnr h1 ((h (k * a, 0)).mpr ⟨1, 0, by ext <;> simp⟩) ((h (k * b, k)).mpr ⟨0, 1, by ext <;> simp⟩)
    have e : mnr (k * a, 0) (k * b, k) = k * k * a := by unfold mnr; grind
    rw [e] at this; exact this
  · obtain ⟨i, j, e⟩ := (h r).mp (Sp.mem hr)
    obtain ⟨i2, j2, e2⟩ := (h s).mp (Sp.mem hs)
    rw [e, e2]
    exact ⟨i * j2 - j * i2, by unfold mnr; grind⟩
theorem b_uniq {rs : List Pr} {k a b b' : Int} (Z : Hnf k a b) (h : ∀ u, Sp rs u ↔ Mt k a b u) (h0 : 0 ≤ b') (h1 : b' < a) (hb : ∀ r ∈ rs, Mt k a b' r) : b' = b := by
  have k0 := Z.k0; have b0 := Z.b0; have ba := Z.ba
  obtain ⟨i, j, e⟩ := Sp.least (Mt.zero k a b') (fun _ _ => Mt.add) (fun m _ => Mt.smul m) hb ((h (k * b, k)).mpr ⟨0, 1, by ext <;> simp⟩)
  obtain ⟨e1, e2⟩ := pr_ext e
  have hj : j = 1 := Int.eq_of_mul_eq_mul_left (show k ≠ 0 by omega) (by omega)
  subst hj
  have e3 : b = i * a + 1 * b' := Int.eq_of_mul_eq_mul_left (show k ≠ 0 by omega) e1
  exact eq_of_dvd h0 h1 b0 ba ⟨-i, by rw [e3]; grind⟩
/-! ### numbers with a root: w * w = t * w - n -/
structure Ring where
  (t n : Int)
def Ring.mul (R : Ring) (u v : Pr) : Pr := (u.1 * v.1 - u.2 * v.2 * R.n, u.1 * v.2 + u.2 * v.1 + u.2 * v.2 * R.t)
def Ring.cj (R : Ring) (u : Pr) : Pr := (u.1 + R.t * u.2, -u.2)
def Ring.nm (R : Ring) (u : Pr) : Int := u.1 * u.1 + R.t * u.1 * u.2 + R.n * u.2 * u.2
def Ring.w (R : Ring) (u : Pr) : Pr := R.mul u (0, 1)
theorem Ring.mul_comm (R : Ring) (u v : Pr) : R.mul u v = R.mul v u := by unfold Ring.mul; ext <;> grind
theorem Ring.mul_assoc (R : Ring) (u v z : Pr) : R.mul (R.mul u v) z = R.mul u (R.mul v z) := by unfold Ring.mul; ext <;> grind
theorem Ring.mul_cj (R : Ring) (u : Pr) : R.mul u (R.cj u) = (R.nm u, 0) := by unfold Ring.mul Ring.cj Ring.nm; ext <;> grind
theorem Ring.cj_mul (R : Ring) (u v : Pr) : R.cj (R.mul u v) = R.mul (R.cj u) (R.cj v) := by unfold Ring.mul Ring.cj; ext <;> grind
theorem Ring.mul_add (R : Ring) (u v z : Pr) : R.mul u (v.1 + z.1, v.2 + z.2) = ((R.mul u v).1 + (R.mul u z).1, (R.mul u v).2 + (R.mul u z).2) := by unfold Ring.mul; ext <;> grind
theorem Ring.mul_smul (R : Ring) (m : Int) (u v : Pr) : R.mul u (m * v.1, m * v.2) = (m * (R.mul u v).1, m * (R.mul u v).2) := by unfold Ring.mul; ext <;> grind
theorem Ring.mnr_w (R : Ring) (u : Pr) : mnr u (R.w u) = R.nm u := by unfold mnr Ring.w Ring.mul Ring.nm; grind
/-- rows whose span is closed under w -/
def Ring.Closed (R : Ring) (rs : List Pr) : Prop := ∀ u, Sp rs u → Sp rs (R.w u)
theorem Ring.closed_of {R : Ring} {rs : List Pr} (h : ∀ r ∈ rs, Sp rs (R.w r)) : R.Closed rs := fun u hu =>
  Sp.least (P := fun u => Sp rs (R.w u)) (by have e : R.w (0, 0) = (0, 0) := by unfold Ring.w Ring.mul; ext <;> simp
                                             rw [e]; exact Sp.zero rs) (fun u v p q => by
    have e : R.w (u.1 + v.1, u.2 + v.2) = ((R.w u).1 + (R.w v).1, (R.w u).2 + (R.w v).2) := by unfold Ring.w Ring.mul; ext <;> grind
    rw [e]; exact p.add q) (fun m u p => by
    have e : R.w (m * u.1, m * u.2) = (m * (R.w u).1, m * (R.w u).2) := by unfold Ring.w Ring.mul; ext <;> grind
    rw [e]; exact p.smul m) h hu
/-- the row of three of a closed span -/
theorem LowI.hnf_of {R : Ring} {rs : List Pr} {low x y : Int} (I : LowI rs low x y) (C : R.Closed rs) (hn : ∃ u, Sp rs u ∧ R.nm u ≠ 0) :
    Hnf y (low / y) (x / y % (low / y)) ∧ (∀ u, Sp rs u ↔ Mt y (low / y) (x / y % (low / y)) u) ∧ (low / y) ∣ R.nm (x / y % (low / y), 1) := by
  have l0 := I.l0; have y0 := I.y0
  obtain ⟨u, hu, hnz⟩ := hn
  have hlow : low * y ≠ 0 := fun z => by
    obtain ⟨i, j, e⟩ := (I.eq u).mpr hu
    obtain ⟨i2, j2, e2⟩ := (I.eq _).mpr (C u hu)
    have := R.mnr_w u
    rw [e2] at this
    have e3 : mnr u (i2 * low + j2 * x, j2 * y) = (i * j2 - j * i2) * (low * y) := by rw [e]; unfold mnr; grind
    rw [e3, z, Int.mul_zero] at this
    exact hnz this.symm
  have hy : 0 < y := by
    have : y ≠ 0 := fun z => hlow (by rw [z, Int.mul_zero])
    omega
  have hl : 0 < low := by
    have : low ≠ 0 := fun z => hlow (by rw [z, Int.zero_mul])
    omega
  obtain ⟨i, j, e⟩ := (I.eq _).mpr (C (low, 0) ((I.eq _).mp ⟨1, 0, by ext <;> simp⟩))
  have e1 : low = j * y := by have := congrArg Prod.snd e; unfold Ring.w Ring.mul at this; simp only at this; grind
  obtain ⟨i2, j2, e2⟩ := (I.eq _).mpr (C (x, y) ((I.eq _).mp ⟨0, 1, by ext <;> simp⟩))
  have e3 : x = (j2 - R.t) * y := by have := congrArg Prod.snd e2; unfold Ring.w Ring.mul at this; simp only at this; grind
  have ha : low / y = j := by rw [e1]; exact Int.mul_ediv_cancel _ (by omega)
  have hx : x / y = j2 - R.t := by rw [e3]; exact Int.mul_ediv_cancel _ (by omega)
  rw [ha, hx]
  have j0 : 0 < j := by
    by_cases z : 0 < j
    · exact z
    · have : j * y ≤ 0 * y := Int.mul_le_mul_of_nonneg_right (by omega) (by omega)
      omega
  have hb0 : 0 ≤ (j2 - R.t) % j := Int.emod_nonneg _ (by omega)
  have hb1 : (j2 - R.t) % j < j := Int.emod_lt_of_pos _ j0
  have Z : Hnf y j ((j2 - R.t) % j) := ⟨hy, hb0, hb1⟩
  have hd := Int.emod_add_mul_ediv (j2 - R.t) j
  have eqv : ∀ u, Sp rs u ↔ Mt y j ((j2 - R.t) % j) u := fun u => by
    rw [← I.eq u]
    constructor
    · rintro ⟨p, q, rfl⟩
      refine ⟨p + q * ((j2 - R.t) / j), q, ?_⟩
      ext
      · simp only; rw [e1, e3]; grind
      · simp only; grind
    · rintro ⟨p, q, rfl⟩
      refine ⟨p - q * ((j2 - R.t) / j), q, ?_⟩
      ext
      · simp only; rw [e1, e3]; grind
      · simp only; grind
  refine ⟨Z, eqv, ?_⟩
  generalize (j2 - R.t) % j = b at eqv
  obtain ⟨p, q, e4⟩ := (eqv _).mp (C (y * b, y) ((eqv _).mpr ⟨0, 1, by ext <;> simp⟩))
  have e5 := congrArg Prod.fst e4
  have e6 := congrArg Prod.snd e4
  unfold Ring.w Ring.mul at e5 e6
  simp only at e5 e6
  have hq : q = b + R.t := Int.eq_of_mul_eq_mul_left (show y ≠ 0 by omega) (by grind)
  have e7 : -R.n = p * j + q * b := Int.eq_of_mul_eq_mul_left (show y ≠ 0 by omega) (by grind)
  exact ⟨-p, by unfold Ring.nm; simp only; grind⟩
end Nm

/-! Num5: products of lattices, the norm. -/
namespace Nm
def Ring.pd (R : Ring) (rs ss : List Pr) : List Pr := rs.flatMap fun u => ss.map (R.mul u)
theorem Ring.mem_pd {R : Ring} {rs ss : List Pr} {z : Pr} : z ∈ R.pd rs ss ↔ ∃ u ∈ rs, ∃ v ∈ ss, z = R.mul u v := by
  unfold Ring.pd
  rw [List.mem_flatMap]
  constructor
  · rintro ⟨u, hu, h⟩
    obtain ⟨v, hv, e⟩ := List.mem_map.mp h
    exact ⟨u, hu, v, hv, e.symm⟩
  · rintro ⟨u, hu, v, hv, e⟩
    exact ⟨u, hu, List.mem_map.mpr ⟨v, hv, e.symm⟩⟩
theorem Ring.sp_left {R : Ring} {rs : List Pr} {P : Pr → Prop} {v : Pr} (h0 : P (0, 0)) (ha : ∀ u w, P u → P w → P (u.1 + w.1, u.2 + w.2)) (hm : ∀ (m : Int) u, P u → P (m * u.1, m * u.2)) (h : ∀ r ∈ rs, P (R.mul r v)) {u : Pr} (hu : Sp rs u) : P (R.mul u v) := by
  refine Sp.least (P := fun u => P (R.mul u v)) ?_ (fun u w p q => ?_) (fun m u p => ?_) h hu
  · have e : R.mul (0, 0) v = (0, 0) := by unfold Ring.mul; ext <;> simp
    rw [e]; exact h0
  · have e : R.mul (u.1 + w.1, u.2 + w.2) v = ((R.mul u v).1 + (R.mul w v).1, (R.mul u v).2 + (R.mul w v).2) := by unfold Ring.mul; ext <;> grind
    rw [e]; exact ha _ _ p q
  · have e : R.mul (m * u.1, m * u.2) v = (m * (R.mul u v).1, m * (R.mul u v).2) := by unfold Ring.mul; ext <;> grind
    rw [e]; exact hm _ _ p
theorem Ring.sp_right {R : Ring} {rs : List Pr} {P : Pr → Prop} {v : Pr} (h0 : P (0, 0)) (ha : ∀ u w, P u → P w → P (u.1 + w.1, u.2 + w.2)) (hm : ∀ (m : Int) u, P u → P (m * u.1, m * u.2)) (h : ∀ r ∈ rs, P (R.mul v r)) {u : Pr} (hu : Sp rs u) : P (R.mul v u) := by
  rw [R.mul_comm]
  exact Ring.sp_left h0 ha hm (fun r hr => by rw [R.mul_comm]; exact h r hr) hu
theorem Ring.pd_mul {R : Ring} {rs ss : List Pr} {u v : Pr} (hu : Sp rs u) (hv : Sp ss v) : Sp (R.pd rs ss) (R.mul u v) :=
  Ring.sp_left (P := Sp (R.pd rs ss)) (Sp.zero _) (fun _ _ => Sp.add) (fun m _ => Sp.smul m) (fun r hr =>
    Ring.sp_right (P := Sp (R.pd rs ss)) (Sp.zero _) (fun _ _ => Sp.add) (fun m _ => Sp.smul m) (fun s hs => Sp.mem (Ring.mem_pd.mpr ⟨r, hr, s, hs, rfl⟩)) hv) hu
theorem Ring.pd_le {R : Ring} {rs ss : List Pr} {P : Pr → Prop} (h0 : P (0, 0)) (ha : ∀ u w, P u → P w → P (u.1 + w.1, u.2 + w.2)) (hm : ∀ (m : Int) u, P u → P (m * u.1, m * u.2)) (h : ∀ u v, Sp rs u → Sp ss v → P (R.mul u v)) {z : Pr} (hz : Sp (R.pd rs ss) z) : P z :=
  Sp.least h0 ha hm (fun z hz => by
    obtain ⟨u, hu, v, hv, rfl⟩ := Ring.mem_pd.mp hz
    exact h u v (Sp.mem hu) (Sp.mem hv)) hz
theorem Ring.pd_congr {R : Ring} {rs ss rs' ss' : List Pr} (h1 : ∀ u, Sp rs u → Sp rs' u) (h2 : ∀ u, Sp ss u → Sp ss' u) {z : Pr} (hz : Sp (R.pd rs ss) z) : Sp (R.pd rs' ss') z :=
  Ring.pd_le (Sp.zero _) (fun _ _ => Sp.add) (fun m _ => Sp.smul m) (fun u v hu hv => Ring.pd_mul (h1 u hu) (h2 v hv)) hz
theorem Ring.pd_assoc {R : Ring} {A B C : List Pr} {z : Pr} : Sp (R.pd (R.pd A B) C) z ↔ Sp (R.pd A (R.pd B C)) z := by
  constructor
  · intro h
    refine Ring.pd_le (Sp.zero _) (fun _ _ => Sp.add) (fun m _ => Sp.smul m) (fun u v hu hv => ?_) h
    refine Ring.pd_le (P := fun u => Sp (R.pd A (R.pd B C)) (R.mul u v)) ?_ ?_ ?_ (fun a b ha hb => ?_) hu
    · have e : R.mul (0, 0) v = (0, 0) := by unfold Ring.mul; ext <;> simp
      rw [e]; exact Sp.zero _
    · intro p q hp hq
      have e : R.mul (p.1 + q.1, p.2 + q.2) v = ((R.mul p v).1 + (R.mul q v).1, (R.mul p v).2 + (R.mul q v).2) := by unfold Ring.mul; ext <;> grind
      rw [e]; exact hp.add hq
    · intro m p hp
      have e : R.mul (m * p.1, m * p.2) v = (m * (R.mul p v).1, m * (R.mul p v).2) := by unfold Ring.mul; ext <;> grind
      rw [e]; exact hp.smul m
    · rw [R.mul_assoc]
      exact Ring.pd_mul ha (Ring.pd_mul hb hv)
  · intro h
    refine Ring.pd_le (Sp.zero _) (fun _ _ => Sp.add) (fun m _ => Sp.smul m) (fun u v hu hv => ?_) h
    refine Ring.pd_le (P := fun v => Sp (R.pd (R.pd A B) C) (R.mul u v)) ?_ ?_ ?_ (fun b c hb hc => ?_) hv
    · have e : R.mul u (0, 0) = (0, 0) := by unfold Ring.mul; ext <;> simp
      rw [e]; exact Sp.zero _
    · intro p q hp hq
      rw [R.mul_add]; exact hp.add hq
    · intro m p hp
      rw [R.mul_smul]; exact hp.smul m
    · rw [← R.mul_assoc]
      exact Ring.pd_mul (Ring.pd_mul hu hb) hc
theorem Ring.pd_comm {R : Ring} {A B : List Pr} {z : Pr} (h : Sp (R.pd A B) z) : Sp (R.pd B A) z :=
  Ring.pd_le (Sp.zero _) (fun _ _ => Sp.add) (fun m _ => Sp.smul m) (fun u v hu hv => by rw [R.mul_comm]; exact Ring.pd_mul hv hu) h
theorem Ring.pd_closed {R : Ring} {A B : List Pr} (h : R.Closed A) : R.Closed (R.pd A B) := fun z hz => by
  refine Ring.pd_le (P := fun z => Sp (R.pd A B) (R.w z)) ?_ ?_ ?_ (fun u v hu hv => ?_) hz
  · have e : R.w (0, 0) = (0, 0) := by unfold Ring.w Ring.mul; ext <;> simp
    rw [e]; exact Sp.zero _
  · intro u v p q
    have e : R.w (u.1 + v.1, u.2 + v.2) = ((R.w u).1 + (R.w v).1, (R.w u).2 + (R.w v).2) := by unfold Ring.w Ring.mul; ext <;> grind
    rw [e]; exact p.add q
  · intro m u p
    have e : R.w (m * u.1, m * u.2) = (m * (R.w u).1, m * (R.w u).2) := by unfold Ring.w Ring.mul; ext <;> grind
    rw [e]; exact p.smul m
  · have e : R.w (R.mul u v) = R.mul (R.w u) v := by unfold Ring.w Ring.mul; ext <;> grind
    rw [e]
    exact Ring.pd_mul (h u hu) hv
/-- closed spans take any number -/
theorem Ring.Closed.mul {R : Ring} {A : List Pr} (h : R.Closed A) {u z : Pr} (hu : Sp A u) : Sp A (R.mul z u) := by
  have e : R.mul z u = (z.1 * u.1 + z.2 * (R.w u).1, z.1 * u.2 + z.2 * (R.w u).2) := by unfold Ring.w Ring.mul; ext <;> grind
  rw [e]
  exact (hu.smul z.1).add ((h u hu).smul z.2)
/-! conjugates -/
theorem Ring.cj_cj (R : Ring) (u : Pr) : R.cj (R.cj u) = u := by unfold Ring.cj; ext <;> grind
theorem Ring.sp_cj {R : Ring} {rs : List Pr} {u : Pr} : Sp (rs.map R.cj) u ↔ Sp rs (R.cj u) := by
  have lin : ∀ {ss : List Pr} {P : Pr → Prop}, P (0, 0) → (∀ u w, P u → P w → P (u.1 + w.1, u.2 + w.2)) → (∀ (m : Int) u, P u → P (m * u.1, m * u.2)) → (∀ r ∈ ss, P (R.cj r)) → ∀ {u : Pr}, Sp ss u → P (R.cj u) := fun {ss P} h0 ha hm h {u} hu => by
    refine Sp.least (P := fun u => P (R.cj u)) ?_ (fun u w p q => ?_) (fun m u p => ?_) h hu
    · have e : R.cj (0, 0) = (0, 0) := by unfold Ring.cj; ext <;> simp
      rw [e]; exact h0
    · have e : R.cj (u.1 + w.1, u.2 + w.2) = ((R.cj u).1 + (R.cj w).1, (R.cj u).2 + (R.cj w).2) := by unfold Ring.cj; ext <;> grind
      rw [e]; exact ha _ _ p q
    · have e : R.cj (m * u.1, m * u.2) = (m * (R.cj u).1, m * (R.cj u).2) := by unfold Ring.cj; ext <;> grind
      rw [e]; exact hm _ _ p
  constructor
  · intro h
    exact lin (P := Sp rs) (Sp.zero _) (fun _ _ => Sp.add) (fun m _ => Sp.smul m) (fun r hr => by
      obtain ⟨s, hs, rfl⟩ := List.mem_map.mp hr
      rw [R.cj_cj]; exact Sp.mem hs) h
  · intro h
    have := lin (P := Sp (rs.map R.cj)) (Sp.zero _) (fun _ _ => Sp.add) (fun m _ => Sp.smul m) (fun r hr => Sp.mem (List.mem_map.mpr ⟨r, hr, rfl⟩)) h
    rw [R.cj_cj] at this
    exact this
theorem Ring.cj_closed {R : Ring} {rs : List Pr} (h : R.Closed rs) : R.Closed (rs.map R.cj) := fun u hu => by
  rw [Ring.sp_cj] at hu ⊢
  have e : R.cj (R.w u) = R.mul (R.cj (0, 1)) (R.cj u) := by unfold Ring.cj Ring.w Ring.mul; ext <;> grind
  rw [e]
  exact h.mul hu
/-! an ideal times its conjugate -/
theorem bs_closed {R : Ring} {k a b : Int} (hd : a ∣ R.nm (b, 1)) : R.Closed (bs k a b) := by
  obtain ⟨c, hc⟩ := hd
  refine Ring.closed_of fun r hr => ?_
  rw [← Mt.bs]
  simp only [bs, List.mem_cons, List.not_mem_nil, or_false] at hr
  rcases hr with rfl | rfl
  · exact ⟨-b, a, by unfold Ring.w Ring.mul; ext <;> grind⟩
  · refine ⟨-c, b + R.t, ?_⟩
    unfold Ring.nm at hc
    simp only at hc
    unfold Ring.w Ring.mul
    ext <;> grind
theorem norm_span {R : Ring} {k a b c p q r : Int} (hc : R.nm (b, 1) = a * c) (h1 : p * a + q * (2 * b + R.t) + r * c = 1) (u : Pr) :
    Sp (R.pd (bs k a b) ((bs k a b).map R.cj)) u ↔ Mt (k * k * a) 1 0 u := by
  have hc' : b * b + R.t * b + R.n = a * c := by rw [← hc]; unfold Ring.nm; simp only; grind
  constructor
  · intro h
    refine Sp.least (Mt.zero _ _ _) (fun _ _ => Mt.add) (fun m _ => Mt.smul m) (fun z hz => ?_) h
    obtain ⟨x, hx, y, hy, rfl⟩ := Ring.mem_pd.mp hz
    obtain ⟨y', hy', rfl⟩ := List.mem_map.mp hy
    simp only [bs, List.mem_cons, List.not_mem_nil, or_false] at hx hy'
    rcases hx with rfl | rfl <;> rcases hy' with rfl | rfl
    · exact ⟨a, 0, by unfold Ring.mul Ring.cj; ext <;> grind⟩
    · exact ⟨b + R.t, -1, by unfold Ring.mul Ring.cj; ext <;> grind⟩
    · exact ⟨b, 1, by unfold Ring.mul Ring.cj; ext <;> grind⟩
    · exact ⟨c, 0, by unfold Ring.mul Ring.cj; ext <;> grind⟩
  · rintro ⟨i, j, rfl⟩
    have m1 : ((k * a, 0) : Pr) ∈ bs k a b := by simp [bs]
    have m2 : ((k * b, k) : Pr) ∈ bs k a b := by simp [bs]
    have g : ∀ {x y : Pr}, x ∈ bs k a b → y ∈ bs k a b → Sp (R.pd (bs k a b) ((bs k a b).map R.cj)) (R.mul x (R.cj y)) := fun hx hy => Sp.mem (Ring.mem_pd.mpr ⟨_, hx, _, List.mem_map.mpr ⟨_, hy, rfl⟩, rfl⟩)
    have e1 := g m1 m1
    have e2 := g m1 m2
    have e3 := g m2 m1
    have e4 := g m2 m2
    have hM : Sp (R.pd (bs k a b) ((bs k a b).map R.cj)) (k * k * a, 0) := by
      have s := (e1.smul p).add (((e2.add e3).smul q).add (e4.smul r))
      have e : ((k * k * a, 0) : Pr) = (p * (R.mul (k * a, 0) (R.cj (k * a, 0))).1 + (q * ((R.mul (k * a, 0) (R.cj (k * b, k))).1 + (R.mul (k * b, k) (R.cj (k * a, 0))).1) + r * (R.mul (k * b, k) (R.cj (k * b, k))).1),
          p * (R.mul (k * a, 0) (R.cj (k * a, 0))).2 + (q * ((R.mul (k * a, 0) (R.cj (k * b, k))).2 + (R.mul (k * b, k) (R.cj (k * a, 0))).2) + r * (R.mul (k * b, k) (R.cj (k * b, k))).2)) := by
        unfold Ring.mul Ring.cj
        ext
        · simp only
          have : k * k * a = k * k * a * (p * a + q * (2 * b + R.t) + r * c) := by rw [h1]; grind
          rw [this]
          have h5 : k * k * (b * b + R.t * b + R.n) = k * k * (a * c) := by rw [hc']
          grind
        · simp only; grind
      rw [e]; exact s
    have hW := e3
    have s := (hM.smul (i - j * b)).add (hW.smul j)
    have e : ((k * k * a * (i * 1 + j * 0), k * k * a * j) : Pr) = ((i - j * b) * (k * k * a) + j * (R.mul (k * b, k) (R.cj (k * a, 0))).1, (i - j * b) * 0 + j * (R.mul (k * b, k) (R.cj (k * a, 0))).2) := by
      unfold Ring.mul Ring.cj
      ext <;> grind
    rw [e]
    exact s
/-- times a whole number -/
theorem Mt.scale {M k a b : Int} {u : Pr} : Mt (M * k) a b u ↔ ∃ v, Mt k a b v ∧ u = (M * v.1, M * v.2) := by
  constructor
  · rintro ⟨i, j, rfl⟩
    exact ⟨_, ⟨i, j, rfl⟩, by ext <;> grind⟩
  · rintro ⟨v, ⟨i, j, rfl⟩, rfl⟩
    exact ⟨i, j, by ext <;> grind⟩
/-- A times all numbers divisible by M -/
theorem pd_scalar {R : Ring} {A B : List Pr} {M : Int} (C : R.Closed A) (hB : ∀ u, Sp B u ↔ Mt M 1 0 u) (z : Pr) : Sp (R.pd A B) z ↔ ∃ v, Sp A v ∧ z = (M * v.1, M * v.2) := by
  constructor
  · intro h
    refine Ring.pd_le (P := fun z => ∃ v, Sp A v ∧ z = (M * v.1, M * v.2)) ⟨(0, 0), Sp.zero _, by simp⟩ ?_ ?_ (fun u v hu hv => ?_) h
    · rintro _ _ ⟨v, hv, rfl⟩ ⟨w, hw, rfl⟩
      exact ⟨_, hv.add hw, by ext <;> grind⟩
    · rintro m _ ⟨v, hv, rfl⟩
      exact ⟨_, hv.smul m, by ext <;> grind⟩
    · obtain ⟨i, j, rfl⟩ := (hB v).mp hv
      refine ⟨_, C.mul (z := (i, j)) hu, ?_⟩
      unfold Ring.mul
      ext <;> grind
  · rintro ⟨v, hv, rfl⟩
    have := Ring.pd_mul (R := R) hv ((hB (M, 0)).mpr ⟨1, 0, by ext <;> simp⟩)
    have e : R.mul v (M, 0) = (M * v.1, M * v.2) := by unfold Ring.mul; ext <;> grind
    rw [e] at this
    exact this
end Nm

/-! Num6: bounds along the loop of cofactors. -/
namespace Nm
theorem Sp.zeros {rs : List Pr} (h : ∀ r ∈ rs, r = (0, 0)) {u : Pr} (hu : Sp rs u) : u = (0, 0) :=
  Sp.least (P := fun u => u = (0, 0)) rfl (fun u v p q => by rw [p, q]; rfl) (fun m u p => by rw [p]; show ((m * 0, m * 0) : Pr) = (0, 0); simp) h hu
/-- where low is 0, x is not longer than a row -/
theorem LowI.x_le {rs : List Pr} {x y : Int} {B : Nat} (I : LowI rs 0 x y) (hB : ∀ r ∈ rs, r.1.natAbs < B) (h0 : 0 < B) : x.natAbs < B := by
  by_cases hz : ∃ r ∈ rs, r ≠ (0, 0)
  · obtain ⟨r, hr, hne⟩ := hz
    obtain ⟨i, j, e⟩ := (I.eq r).mpr (Sp.mem hr)
    have hj : j ≠ 0 := fun z => hne (by rw [e, z]; simp)
    have e1 : r.1 = j * x := by rw [e]; simp
    have h2 := hB r hr
    rw [e1, Int.natAbs_mul] at h2
    have h3 : 1 * x.natAbs ≤ j.natAbs * x.natAbs := Nat.mul_le_mul_right _ (by omega)
    omega
  · have all : ∀ r ∈ rs, r = (0, 0) := fun r hr => Classical.byContradiction fun h => hz ⟨r, hr, h⟩
    have := Sp.zeros all ((I.eq (x, y)).mp ⟨0, 1, by ext <;> simp⟩)
    have := congrArg Prod.fst this
    simp only at this
    rw [this]
    exact h0
theorem LowI.y_le {rs : List Pr} {low x y : Int} {B : Nat} (I : LowI rs low x y) (hB : ∀ r ∈ rs, r.2.natAbs < B) (h0 : 0 < B) : y.natAbs < B := by
  by_cases hy : y = 0
  · rw [hy]; exact h0
  · by_cases hz : ∃ r ∈ rs, r.2 ≠ 0
    · obtain ⟨r, hr, hne⟩ := hz
      obtain ⟨i, j, e⟩ := (I.eq r).mpr (Sp.mem hr)
      have e1 : r.2 = j * y := by rw [e]
      have hj : j ≠ 0 := fun z => hne (by rw [e1, z, Int.zero_mul])
      have h2 := hB r hr
      rw [e1, Int.natAbs_mul] at h2
      have h3 : 1 * y.natAbs ≤ j.natAbs * y.natAbs := Nat.mul_le_mul_right _ (by omega)
      omega
    · have all : ∀ r ∈ rs, (0 : Int) ∣ r.2 := fun r hr => by
        have : r.2 = 0 := Classical.byContradiction fun h => hz ⟨r, hr, h⟩
        rw [this]; exact Int.dvd_zero _
      have := dvd_snd all ((I.eq (x, y)).mp ⟨0, 1, by ext <;> simp⟩)
      exact absurd (Int.zero_dvd.mp this) hy
end Nm

/-! Num7: each closed span has its row of three; sums, products, quotients of ideals. -/
namespace Nm
theorem LowI.ex (rs : List Pr) : ∃ low x y, LowI rs low x y := by
  have step : ∀ (rest done : List Pr) (low x y : Int), LowI done low x y → ∃ low x y, LowI (done ++ rest) low x y := by
    intro rest
    induction rest with
    | nil => intro done low x y I; rw [List.append_nil]; exact ⟨low, x, y, I⟩
    | cons r rest ih =>
      intro done low x y I
      obtain ⟨one, two⟩ := r
      have e : done ++ (one, two) :: rest = (done ++ [(one, two)]) ++ rest := by simp
      rw [e]
      by_cases hg : Int.gcd y two = 0
      · obtain ⟨y0, t0⟩ := Int.gcd_eq_zero_iff.mp hg
        exact ih _ _ _ _ (I.flat y0 t0)
      · obtain ⟨s, t, hst⟩ := bez y two
        exact ih _ _ _ _ (I.turn (g := (Int.gcd y two : Int)) (by omega) hst (Int.gcd_dvd_left _ _) (Int.gcd_dvd_right _ _))
  have := step rs [] 0 0 0 LowI.nil
  rw [List.nil_append] at this
  exact this
/-- what the row of three of an ideal is -/
structure Idl (R : Ring) (k a b : Int) : Prop extends Hnf k a b where
  dv : a ∣ R.nm (b, 1)
theorem hnf_ex {R : Ring} {rs : List Pr} (C : R.Closed rs) (hn : ∃ u, Sp rs u ∧ R.nm u ≠ 0) : ∃ k a b, Idl R k a b ∧ ∀ u, Sp rs u ↔ Mt k a b u := by
  obtain ⟨low, x, y, I⟩ := LowI.ex rs
  obtain ⟨Z, h, d⟩ := I.hnf_of C hn
  exact ⟨_, _, _, ⟨Z, d⟩, h⟩
theorem Sp.inl {A B : List Pr} {u : Pr} (h : Sp A u) : Sp (A ++ B) u := Sp.sub (fun r hr => Sp.mem (List.mem_append_left _ hr)) h
theorem Sp.inr {A B : List Pr} {u : Pr} (h : Sp B u) : Sp (A ++ B) u := Sp.sub (fun r hr => Sp.mem (List.mem_append_right _ hr)) h
theorem Ring.closed_app {R : Ring} {A B : List Pr} (h : R.Closed A) (h2 : R.Closed B) : R.Closed (A ++ B) := Ring.closed_of fun r hr => by
  rcases List.mem_append.mp hr with q | q
  · exact (h r (Sp.mem q)).inl
  · exact (h2 r (Sp.mem q)).inr
theorem Idl.closed {R : Ring} {k a b : Int} (I : Idl R k a b) : R.Closed (bs k a b) := bs_closed I.dv
/-- the rows of numbers and their products with w -/
def Ring.gen (R : Ring) (us : List Pr) : List Pr := us.flatMap fun u => [u, R.w u]
theorem Ring.gen_closed {R : Ring} {us : List Pr} : R.Closed (R.gen us) := Ring.closed_of fun r hr => by
  unfold Ring.gen at hr ⊢
  obtain ⟨u, hu, h⟩ := List.mem_flatMap.mp hr
  have m1 : Sp (us.flatMap fun u => [u, R.w u]) u := Sp.mem (List.mem_flatMap.mpr ⟨u, hu, by simp⟩)
  have m2 : Sp (us.flatMap fun u => [u, R.w u]) (R.w u) := Sp.mem (List.mem_flatMap.mpr ⟨u, hu, by simp⟩)
  simp only [List.mem_cons, List.not_mem_nil, or_false] at h
  rcases h with rfl | rfl
  · exact m2
  · have e : R.w (R.w u) = (-R.n * u.1 + R.t * (R.w u).1, -R.n * u.2 + R.t * (R.w u).2) := by unfold Ring.w Ring.mul; ext <;> grind
    rw [e]
    exact (m1.smul _).add (m2.smul _)
/-- zeros add nothing -/
theorem Ring.gen_zeros {R : Ring} {us : List Pr} {u : Pr} : Sp (R.gen us) u ↔ Sp (R.gen (us.filter fun u => !decide (u = (0, 0)))) u := by
  have w0 : R.w (0, 0) = (0, 0) := by unfold Ring.w Ring.mul; ext <;> simp
  constructor
  · refine Sp.sub fun r hr => ?_
    unfold Ring.gen at hr
    obtain ⟨v, hv, h⟩ := List.mem_flatMap.mp hr
    by_cases z : v = (0, 0)
    · subst z
      rw [w0] at h
      simp only [List.mem_cons, List.not_mem_nil, or_false, or_self] at h
      rw [h]; exact Sp.zero _
    · exact Sp.mem (List.mem_flatMap.mpr ⟨v, List.mem_filter.mpr ⟨hv, by simp [z]⟩, h⟩)
  · refine Sp.sub fun r hr => ?_
    obtain ⟨v, hv, h⟩ := List.mem_flatMap.mp hr
    exact Sp.mem (List.mem_flatMap.mpr ⟨v, (List.mem_filter.mp hv).1, h⟩)
/-- a number of an ideal bounds a -/
theorem a_le {rs : List Pr} {k a b m : Int} (Z : Hnf k a b) (h : ∀ u, Sp rs u ↔ Mt k a b u) (hm : Sp rs (m, 0)) (hm0 : m ≠ 0) : a ≤ m.natAbs := by
  obtain ⟨i, j, e⟩ := (h _).mp hm
  obtain ⟨e1, e2⟩ := pr_ext e
  have k0 := Z.k0; have b0 := Z.b0; have ba := Z.ba
  have hj : j = 0 := by
    rcases Int.mul_eq_zero.mp e2.symm with z | z
    · omega
    · exact z
  subst hj
  have e3 : m = a * (k * i) := by rw [e1]; grind
  have hd : a ∣ (m.natAbs : Int) := Int.dvd_natAbs.mpr ⟨k * i, e3⟩
  exact Int.le_of_dvd (by omega) hd
/-- a product with its conjugate is in -/
theorem nm_in {R : Ring} {rs : List Pr} (C : R.Closed rs) {u : Pr} (hu : Sp rs u) : Sp rs (R.nm u, 0) := by
  have := C.mul (z := R.cj u) hu
  rw [R.mul_comm, R.mul_cj] at this
  exact this
/-! ### the same lattice, the same row of three -/
theorem hnf_uniq {k a b k' a' b' : Int} (Z : Hnf k a b) (Z' : Hnf k' a' b') (h : ∀ u, Mt k a b u ↔ Mt k' a' b' u) : k = k' ∧ a = a' ∧ b = b' := by
  obtain ⟨low, x, y, I⟩ := LowI.ex (bs k a b)
  obtain ⟨p1, p2, p3⟩ := I.hnf Z fun u => Mt.bs.symm
  obtain ⟨q1, q2, q3⟩ := I.hnf Z' fun u => Mt.bs.symm.trans (h u)
  have k0 := Z.k0
  have e1 : k = k' := by omega
  have e2 : a = a' := Int.eq_of_mul_eq_mul_left (show k ≠ 0 by omega) (by rw [← p2, q2, e1])
  exact ⟨e1, e2, by rw [← p3, ← q3, e2]⟩
/-! ### quotients -/
theorem pd_scale {R : Ring} {k a b M : Int} (hM : M ≠ 0) {B : List Pr} (z : Pr) : Sp (R.pd (bs (M * k) a b) B) (M * z.1, M * z.2) ↔ Sp (R.pd (bs k a b) B) z := by
  have up : ∀ z, Sp (R.pd (bs k a b) B) z → Sp (R.pd (bs (M * k) a b) B) (M * z.1, M * z.2) := fun z hz => by
    refine Ring.pd_le (P := fun z => Sp (R.pd (bs (M * k) a b) B) (M * z.1, M * z.2)) ?_ ?_ ?_ (fun u v hu hv => ?_) hz
    · show Sp _ (M * 0, M * 0)
      rw [Int.mul_zero]; exact Sp.zero _
    · intro u w p q
      have := p.add q
      rw [show M * u.1 + M * w.1 = M * (u.1 + w.1) by grind, show M * u.2 + M * w.2 = M * (u.2 + w.2) by grind] at this
      exact this
    · intro m u p
      have := p.smul m
      rw [show m * (M * u.1) = M * (m * u.1) by grind, show m * (M * u.2) = M * (m * u.2) by grind] at this
      exact this
    · have hu' : Sp (bs (M * k) a b) (M * u.1, M * u.2) := Mt.bs.mp (Mt.scale.mpr ⟨u, Mt.bs.mpr hu, rfl⟩)
      have := Ring.pd_mul (R := R) hu' hv
      have e : R.mul (M * u.1, M * u.2) v = (M * (R.mul u v).1, M * (R.mul u v).2) := by unfold Ring.mul; ext <;> grind
      rw [e] at this
      exact this
  have down : ∀ y, Sp (R.pd (bs (M * k) a b) B) y → ∃ z, Sp (R.pd (bs k a b) B) z ∧ y = (M * z.1, M * z.2) := fun y hy => by
    refine Ring.pd_le (P := fun y => ∃ z, Sp (R.pd (bs k a b) B) z ∧ y = (M * z.1, M * z.2)) ⟨(0, 0), Sp.zero _, by simp⟩ ?_ ?_ (fun u v hu hv => ?_) hy
    · rintro _ _ ⟨v, hv, rfl⟩ ⟨w, hw, rfl⟩
      exact ⟨_, hv.add hw, by ext <;> grind⟩
    · rintro m _ ⟨v, hv, rfl⟩
      exact ⟨_, hv.smul m, by ext <;> grind⟩
    · obtain ⟨w, hw, rfl⟩ := Mt.scale.mp (Mt.bs.mpr hu)
      refine ⟨_, Ring.pd_mul (R := R) (Mt.bs.mp hw) hv, ?_⟩
      unfold Ring.mul; ext <;> grind
  constructor
  · intro h
    obtain ⟨w, hw, e⟩ := down _ h
    obtain ⟨e1, e2⟩ := pr_ext e
    have : z = w := Prod.ext (Int.eq_of_mul_eq_mul_left hM e1) (Int.eq_of_mul_eq_mul_left hM e2)
    rw [this]; exact hw
  · exact up z
/-- one and other ideals; M is the norm of other; W the row of three of one times the conjugate of other -/
structure Quo (R : Ring) (k a b k' a' b' M K A B : Int) : Prop where
  one : Idl R k a b
  oth : Idl R k' a' b'
  W : Idl R K A B
  M0 : 0 < M
  hW : ∀ u, Sp (R.pd (bs k a b) ((bs k' a' b').map R.cj)) u ↔ Mt K A B u
  hM : ∀ u, Sp (R.pd (bs k' a' b') ((bs k' a' b').map R.cj)) u ↔ Mt M 1 0 u
theorem Quo.in_of {R : Ring} {k a b k' a' b' M K A B : Int} (Q : Quo R k a b k' a' b' M K A B) (h : ∀ u, Mt k a b u → Mt k' a' b' u) : M ∣ K := by
  have h1 := (Q.hW (K * B, K)).mpr ⟨0, 1, by ext <;> simp⟩
  have h2 := (Q.hM _).mp (Ring.pd_congr (fun u hu => Mt.bs.mp (h u (Mt.bs.mpr hu))) (fun u hu => hu) h1)
  obtain ⟨i, j, e⟩ := h2
  exact ⟨j, congrArg Prod.snd e⟩
theorem Quo.whole_times {R : Ring} {k a b k' a' b' M K A B : Int} (Q : Quo R k a b k' a' b' M K A B) (u : Pr) : Sp (R.pd (bs K A B) (bs k' a' b')) u ↔ ∃ v, Mt k a b v ∧ u = (M * v.1, M * v.2) := by
  have e1 : Sp (R.pd (bs K A B) (bs k' a' b')) u ↔ Sp (R.pd (bs k a b) (R.pd (bs k' a' b') ((bs k' a' b').map R.cj))) u := by
    constructor
    · intro h
      have h1 : Sp (R.pd (R.pd (bs k a b) ((bs k' a' b').map R.cj)) (bs k' a' b')) u := Ring.pd_congr (fun u hu => (Q.hW u).mpr (Mt.bs.mpr hu)) (fun u hu => hu) h
      exact Ring.pd_congr (fun u hu => hu) (fun u hu => Ring.pd_comm hu) (Ring.pd_assoc.mp h1)
    · intro h
      have h1 : Sp (R.pd (bs k a b) (R.pd ((bs k' a' b').map R.cj) (bs k' a' b'))) u := Ring.pd_congr (fun u hu => hu) (fun u hu => Ring.pd_comm hu) h
      exact Ring.pd_congr (fun u hu => Mt.bs.mp ((Q.hW u).mp hu)) (fun u hu => hu) (Ring.pd_assoc.mpr h1)
  rw [e1, pd_scalar Q.one.closed Q.hM]
  constructor
  · rintro ⟨v, hv, rfl⟩; exact ⟨v, Mt.bs.mpr hv, rfl⟩
  · rintro ⟨v, hv, rfl⟩; exact ⟨v, Mt.bs.mp hv, rfl⟩
theorem Quo.rest {R : Ring} {k a b k' a' b' M K A B : Int} (Q : Quo R k a b k' a' b' M K A B) (h : M ∣ K) : Idl R (K / M) A B ∧ ∀ u, Sp (R.pd (bs (K / M) A B) (bs k' a' b')) u ↔ Mt k a b u := by
  obtain ⟨q, hq⟩ := h
  have M0 := Q.M0
  have hK := Q.W.k0
  have e : K / M = q := by rw [hq]; exact Int.mul_ediv_cancel_left _ (by omega)
  have q0 : 0 < q := by
    by_cases z : 0 < q
    · exact z
    · have : M * q ≤ M * 0 := Int.mul_le_mul_of_nonneg_left (by omega) (by omega)
      omega
  rw [e]
  refine ⟨⟨⟨q0, Q.W.b0, Q.W.ba⟩, Q.W.dv⟩, fun u => ?_⟩
  rw [← pd_scale (M := M) (by omega), ← hq, Q.whole_times]
  constructor
  · rintro ⟨v, hv, e⟩
    obtain ⟨e1, e2⟩ := pr_ext e
    have : u = v := Prod.ext (Int.eq_of_mul_eq_mul_left (show M ≠ 0 by omega) e1) (Int.eq_of_mul_eq_mul_left (show M ≠ 0 by omega) e2)
    rw [this]; exact hv
  · intro hu
    exact ⟨u, hu, rfl⟩
theorem Quo.of_dvd {R : Ring} {k a b k' a' b' M K A B : Int} (Q : Quo R k a b k' a' b' M K A B) (h : M ∣ K) : ∀ u, Mt k a b u → Mt k' a' b' u := fun u hu => by
  obtain ⟨_, h2⟩ := Q.rest h
  refine Mt.bs.mpr (Ring.pd_le (Sp.zero _) (fun _ _ => Sp.add) (fun m _ => Sp.smul m) (fun x y hx hy => ?_) ((h2 u).mpr hu))
  exact Q.oth.closed.mul hy
/-- the product with the other one, times its conjugate -/
theorem prod_back {R : Ring} {k a b k' a' b' M K A B : Int} (I1 : Idl R k a b) (hM : ∀ u, Sp (R.pd (bs k' a' b') ((bs k' a' b').map R.cj)) u ↔ Mt M 1 0 u) (hP : ∀ u, Sp (R.pd (bs k a b) (bs k' a' b')) u ↔ Mt K A B u) (u : Pr) :
    Sp (R.pd (bs K A B) ((bs k' a' b').map R.cj)) u ↔ Mt (M * k) a b u := by
  have e1 : Sp (R.pd (bs K A B) ((bs k' a' b').map R.cj)) u ↔ Sp (R.pd (bs k a b) (R.pd (bs k' a' b') ((bs k' a' b').map R.cj))) u := by
    constructor
    · intro h
      exact Ring.pd_assoc.mp (Ring.pd_congr (fun u hu => (hP u).mpr (Mt.bs.mpr hu)) (fun u hu => hu) h)
    · intro h
      exact Ring.pd_congr (fun u hu => Mt.bs.mp ((hP u).mp hu)) (fun u hu => hu) (Ring.pd_assoc.mpr h)
  rw [e1, pd_scalar I1.closed hM, Mt.scale]
  constructor
  · rintro ⟨v, hv, rfl⟩; exact ⟨v, Mt.bs.mpr hv, rfl⟩
  · rintro ⟨v, hv, rfl⟩; exact ⟨v, Mt.bs.mp hv, rfl⟩
end Nm

/-! Num8: the kinds of the laws k16..k21. -/
namespace Nm
def kindsL : List Int := [-1, -2, -3, -5, -6, -7, -10, -11, -14, -15, -21, -23, -26, -30, -39, 2, 3, 5, 6, 7, 10, 13, 14, 15, 17, 21, 26, 29, 30, 34, 37, 65, 79, 82]
def twN (d : Int) : Int := if d % 4 = 1 then 1 else 0
def nwN (d : Int) : Int := if d % 4 = 1 then (1 - d) / 4 else -d
def rgN (d : Int) : Ring := ⟨twN d, nwN d⟩
/-- p divides no square but of a number that it divides, nor e times one -/
def barred (p e : Nat) : Bool := decide (1 < p) && (List.range p).all fun r => (!decide (r * r % p = 0) || decide (r = 0)) && (!decide (e * (r * r) % p = 0) || decide (r = 0))
theorem barred_dvd {p e : Nat} (h : barred p e = true) {x : Nat} : (p ∣ x * x → p ∣ x) ∧ (p ∣ e * (x * x) → p ∣ x) := by
  unfold barred at h
  rw [Bool.and_eq_true, decide_eq_true_eq, List.all_eq_true] at h
  have hr := h.2 (x % p) (List.mem_range.mpr (Nat.mod_lt _ (by omega)))
  rw [Bool.and_eq_true, Bool.or_eq_true, Bool.or_eq_true] at hr
  simp only [Bool.not_eq_true', decide_eq_false_iff_not, decide_eq_true_eq] at hr
  constructor
  · intro hd
    have h1 : x % p * (x % p) % p = 0 := by rw [← Nat.mul_mod]; exact Nat.mod_eq_zero_of_dvd hd
    rcases hr.1 with q | q
    · exact absurd h1 q
    · exact Nat.dvd_of_mod_eq_zero q
  · intro hd
    have h1 : e * (x % p * (x % p)) % p = 0 := by
      rw [Nat.mul_mod, ← Nat.mul_mod x x, ← Nat.mul_mod]; exact Nat.mod_eq_zero_of_dvd hd
    rcases hr.2 with q | q
    · exact absurd h1 q
    · exact Nat.dvd_of_mod_eq_zero q
theorem barred_none {p e : Nat} (h : barred p e = true) : ∀ (n x y : Nat), x + y = n → x * x = p * e * (y * y) → x = 0 ∧ y = 0 := by
  have p1 : 1 < p := by
    unfold barred at h
    rw [Bool.and_eq_true, decide_eq_true_eq] at h
    exact h.1
  intro n
  induction n using Nat.strongRecOn with
  | ind n ih =>
    intro x y hn he
    have d1 : p ∣ x * x := ⟨e * (y * y), by rw [he]; ac_rfl⟩
    obtain ⟨x1, hx⟩ := (barred_dvd h).1 d1
    have e1 : p * (x1 * x1) = e * (y * y) := by
      have : p * (p * (x1 * x1)) = p * (e * (y * y)) := by
        rw [hx] at he
        rw [show p * (p * (x1 * x1)) = p * x1 * (p * x1) by ac_rfl, he]; ac_rfl
      exact Nat.eq_of_mul_eq_mul_left (by omega) this
    obtain ⟨y1, hy⟩ := (barred_dvd (x := y) h).2 ⟨x1 * x1, e1.symm⟩
    have e2 : x1 * x1 = p * e * (y1 * y1) := by
      have : p * (x1 * x1) = p * (p * e * (y1 * y1)) := by
        rw [e1, hy]; ac_rfl
      exact Nat.eq_of_mul_eq_mul_left (by omega) this
    by_cases hz : n = 0
    · omega
    · have hx1 : x1 * 2 ≤ p * x1 := by rw [Nat.mul_comm]; exact Nat.mul_le_mul_right _ p1
      have hy1 : y1 * 2 ≤ p * y1 := by rw [Nat.mul_comm]; exact Nat.mul_le_mul_right _ p1
      obtain ⟨a, b⟩ := ih (x1 + y1) (by omega) x1 y1 rfl e2
      rw [a] at hx; rw [b] at hy
      exact ⟨by simpa using hx, by simpa using hy⟩
theorem sq_nn (X : Int) : 0 ≤ X * X := by
  rcases Int.le_total 0 X with q | q
  · exact Int.mul_nonneg q q
  · have := Int.mul_nonneg (show 0 ≤ -X by omega) (show 0 ≤ -X by omega)
    rw [Int.neg_mul_neg] at this
    exact this
/-- what makes X X = D Y Y impossible -/
def noSq (d : Int) : Bool := decide (d < 0) || (List.range (d.toNat + 1)).any fun p => decide (p * (d.toNat / p) = d.toNat) && barred p (d.toNat / p)
theorem noSq_ok {d : Int} (h : noSq d = true) {X Y : Int} (he : X * X = d * (Y * Y)) : X = 0 ∧ Y = 0 := by
  unfold noSq at h
  rw [Bool.or_eq_true, decide_eq_true_eq, List.any_eq_true] at h
  rcases h with h | ⟨p, _, hp⟩
  · have h1 : 0 ≤ X * X := sq_nn X
    have h2 : 0 ≤ Y * Y := sq_nn Y
    have h3 : d * (Y * Y) ≤ -1 * (Y * Y) := Int.mul_le_mul_of_nonneg_right (by omega) h2
    have hX : X * X = 0 := by omega
    have hY : Y * Y = 0 := by omega
    exact ⟨by rcases Int.mul_eq_zero.mp hX with z | z <;> exact z, by rcases Int.mul_eq_zero.mp hY with z | z <;> exact z⟩
  · rw [Bool.and_eq_true, decide_eq_true_eq] at hp
    obtain ⟨hpd, hb⟩ := hp
    have hd : 0 < d := by
      by_cases z : 0 < d
      · exact z
      · have : d.toNat = 0 := by omega
        rw [this] at hb
        exfalso
        rw [show (0 : Nat) / p = 0 from Nat.zero_div p] at hb
        have p1 : 1 < p := by
          unfold barred at hb
          rw [Bool.and_eq_true, decide_eq_true_eq] at hb
          exact hb.1
        have := (barred_dvd hb (x := 1)).2 (by rw [Nat.zero_mul]; exact Nat.dvd_zero p)
        have := Nat.le_of_dvd (by omega) this
        omega
    have e : X.natAbs * X.natAbs = p * (d.toNat / p) * (Y.natAbs * Y.natAbs) := by
      rw [hpd]
      have := congrArg Int.natAbs he
      rw [Int.natAbs_mul, Int.natAbs_mul, Int.natAbs_mul] at this
      rw [this]
      congr 1
      omega
    obtain ⟨a, b⟩ := barred_none hb _ _ _ rfl e
    exact ⟨by omega, by omega⟩
theorem kinds_noSq : ∀ d ∈ kindsL, noSq d = true := by decide +kernel
theorem norm_ne {d : Int} (h : noSq d = true) {u : Pr} (hu : u ≠ (0, 0)) : (rgN d).nm u ≠ 0 := fun z => by
  have e : ∃ X : Int, X * X = d * (u.2 * u.2) ∧ (X = 0 → u.2 = 0 → u.1 = 0) := by
    unfold Ring.nm rgN twN nwN at z
    simp only at z
    by_cases q : d % 4 = 1
    · rw [if_pos q, if_pos q] at z
      obtain ⟨e, he⟩ : ∃ e, d = 4 * e + 1 := ⟨d / 4, by omega⟩
      have hn : (1 - d) / 4 = -e := by omega
      rw [hn] at z
      exact ⟨2 * u.1 + u.2, by rw [he]; grind, fun a b => by omega⟩
    · rw [if_neg q, if_neg q] at z
      exact ⟨u.1, by grind, fun a b => a⟩
  obtain ⟨X, e1, e2⟩ := e
  obtain ⟨a, b⟩ := noSq_ok h e1
  exact hu (Prod.ext (e2 a b) b)
/-! the second fact: a, 2 b + t and the rest of the norm have nothing in common -/
def gcdOk (d : Int) (a b : Nat) : Bool := !decide (((rgN d).nm ((b : Int), 1)) % (a : Int) = 0) || decide (Int.gcd (Int.gcd a (2 * b + twN d)) ((rgN d).nm ((b : Int), 1) / a) = 1)
theorem kinds_gcd : (kindsL.all fun d => (List.range 24).all fun a => (List.range (a + 1)).all fun b => gcdOk d (a + 1) b) = true := by decide +kernel
theorem gcd3 {d : Int} (hd : d ∈ kindsL) {a b : Int} (ha : a ≤ 24) (hb : 0 ≤ b) (hba : b < a) (hdv : a ∣ (rgN d).nm (b, 1)) : ∃ c p q r : Int, (rgN d).nm (b, 1) = a * c ∧ p * a + q * (2 * b + (rgN d).t) + r * c = 1 := by
  have h1 := List.all_eq_true.mp kinds_gcd d hd
  have h2 := List.all_eq_true.mp h1 (a.toNat - 1) (List.mem_range.mpr (by omega))
  have h3 := List.all_eq_true.mp h2 b.toNat (List.mem_range.mpr (by omega))
  unfold gcdOk at h3
  have ea : ((a.toNat - 1 + 1 : Nat) : Int) = a := by omega
  have eb : ((b.toNat : Nat) : Int) = b := by omega
  rw [ea, eb, Bool.or_eq_true] at h3
  simp only [Bool.not_eq_true', decide_eq_false_iff_not, decide_eq_true_eq] at h3
  have hz : (rgN d).nm (b, 1) % a = 0 := Int.emod_eq_zero_of_dvd hdv
  have h4 : Int.gcd (Int.gcd a (2 * b + twN d)) ((rgN d).nm (b, 1) / a) = 1 := by
    rcases h3 with q | q
    · exact absurd hz q
    · exact q
  obtain ⟨s, t, e1⟩ := bez a (2 * b + twN d)
  obtain ⟨s2, t2, e2⟩ := bez (Int.gcd a (2 * b + twN d)) ((rgN d).nm (b, 1) / a)
  rw [h4] at e2
  refine ⟨(rgN d).nm (b, 1) / a, s * s2, t * s2, t2, (Int.mul_ediv_cancel' hdv).symm, ?_⟩
  show s * s2 * a + t * s2 * (2 * b + twN d) + t2 * _ = 1
  rw [← e1] at e2
  grind
end Nm

/-! printed by gen.py: the defs of the law's program, their denotations and rule terms -/
namespace K17
open PySem PySem.Spec PyProof.Rows L2 Fd
def topS (i : Nat) : Stmt := PySem.Challenge.pw_primeworth_k17_ideals.main.body.getD i (.Pass ⟨0, 0, 0, 0⟩)
/-- the built-ins' names are free -/
structure MG (mg : Str → Option Value) : Prop where
  abs : mg "abs" = none
  all : mg "all" = none
  any : mg "any" = none
  bool : mg "bool" = none
  int : mg "int" = none
  isinstance : mg "isinstance" = none
  len : mg "len" = none
  list : mg "list" = none
  range : mg "range" = none
  str : mg "str" = none
  tuple : mg "tuple" = none
/-! ### is_integer -/
def N_is_integer : List Str := ["value"]
abbrev s_is_integer : Stmt := topS 1
theorem sc_is_integer : FnScope N_is_integer ["value"] (defScope s_is_integer) := ⟨rfl, rfl, rfl, by decide +kernel, rfl, by decide +kernel, by decide +kernel⟩
noncomputable def d_is_integer : DenS :=
  (sRet (dAn (d1 (f_isi .int) (cVar 0)) (dNo (d1 (f_isi .bool) (cVar 0)))))
theorem b_is_integer {P : Program} {w : World} {K : Frg} {mg : Str → Option Value} {base : Heap} {j : Nat} (m : MG mg) {qual : Str} {f : Addr} {cdv : Value} {A : Around} {outer : List Env} {s : Shared} {H : Hp} {E : XK} (hr : Room j (A.deeper (envOfC qual (defScope s_is_integer) s.heap.objs.size f cdv))) :
    PSs (cxOf CX0 P w K mg base N_is_integer qual (defScope s_is_integer) f cdv A outer s H E).nox (defBody s_is_integer) (tS K d_is_integer) :=
    have nd := sc_is_integer.nd
    (ss_one (s_ret (e_an (e_isi .int (e_var 0) m.isinstance m.int) (e_one (e_no (e_isi .bool (e_var 0) m.isinstance m.bool))))))
theorem w_is_integer {P : Program} {w : World} {K : Frg} {mg : Str → Option Value} {base : Heap} {j : Nat} (m : MG mg) {f : Addr} {fd : FuncData} (F : L2.Fun K "is_integer" "is_integer" s_is_integer f fd) (hg : mg "is_integer" = some (.ref f)) {ψ : Fn}
    (hψ : Den.Does N_is_integer.length 1 d_is_integer ψ) : Callee P w K mg base (j + 1) "is_integer" 1 ψ :=
  ⟨⟨f, fd, ["value"], fn_ok F sc_is_integer (fun _ _ _ _ _ _ hr => b_is_integer m hr) hψ, hg, F.kp, F.binds fun _ _ _ _ _ _ us hl => match us, hl with | [_], _ => rfl⟩⟩
/-! ### common_divisor -/
def N_common_divisor : List Str := ["a", "b"]
abbrev s_common_divisor : Stmt := topS 2
theorem sc_common_divisor : FnScope N_common_divisor ["a", "b"] (defScope s_common_divisor) := ⟨rfl, rfl, rfl, by decide +kernel, rfl, by decide +kernel, by decide +kernel⟩
noncomputable def d_common_divisor : DenS :=
  (sSeq (sPar 0 1 (aCons (dN f_abs (aCons (cVar 0) aNil)) (aCons (dN f_abs (aCons (cVar 1) aNil)) aNil)))
  (sSeq (sWh (tB1 (d2 f_ne (cVar 1) (cK (.int 0)))) (sPar 0 1 (aCons (cVar 1) (aCons (d2 f_mod (cVar 0) (cVar 1)) aNil))))
  (sRet (cVar 0))))
theorem b_common_divisor {P : Program} {w : World} {K : Frg} {mg : Str → Option Value} {base : Heap} {j : Nat} (m : MG mg) {qual : Str} {f : Addr} {cdv : Value} {A : Around} {outer : List Env} {s : Shared} {H : Hp} {E : XK} (hr : Room j (A.deeper (envOfC qual (defScope s_common_divisor) s.heap.objs.size f cdv))) :
    PSs (cxOf CX0 P w K mg base N_common_divisor qual (defScope s_common_divisor) f cdv A outer s H E).nox (defBody s_common_divisor) (tS K d_common_divisor) :=
    have nd := sc_common_divisor.nd
    (ss_cons (s_par 0 1 rfl nd (a_cons (e_callB call_abs s_abs m.abs (a_cons (e_var 0) a_nil)) (a_cons (e_callB call_abs s_abs m.abs (a_cons (e_var 1) a_nil)) a_nil)))
      (ss_cons (s_wh (x_cmp (o_ne hr.units) s_ne (e_var 1) e_int (nomark _)) (ss_one (s_par 0 1 rfl nd (a_cons (e_var 1) (a_cons (e_op o_mod s_mod (e_var 0) (e_var 1)) a_nil)))))
      (ss_one (s_ret (e_var 0)))))
theorem w_common_divisor {P : Program} {w : World} {K : Frg} {mg : Str → Option Value} {base : Heap} {j : Nat} (m : MG mg) {f : Addr} {fd : FuncData} (F : L2.Fun K "common_divisor" "common_divisor" s_common_divisor f fd) (hg : mg "common_divisor" = some (.ref f)) {ψ : Fn}
    (hψ : Den.Does N_common_divisor.length 2 d_common_divisor ψ) : Callee P w K mg base (j + 1) "common_divisor" 2 ψ :=
  ⟨⟨f, fd, ["a", "b"], fn_ok F sc_common_divisor (fun _ _ _ _ _ _ hr => b_common_divisor m hr) hψ, hg, F.kp, F.binds fun _ _ _ _ _ _ us hl => match us, hl with | [_, _], _ => rfl⟩⟩
/-! ### with_cofactors -/
def N_with_cofactors : List Str := ["a", "b", "g", "x", "rest", "other", "times"]
abbrev s_with_cofactors : Stmt := topS 3
theorem sc_with_cofactors : FnScope N_with_cofactors ["a", "b"] (defScope s_with_cofactors) := ⟨rfl, rfl, rfl, by decide +kernel, rfl, by decide +kernel, by decide +kernel⟩
noncomputable def d_with_cofactors : DenS :=
  (sSeq (sIf (tB1 (d2 f_eq (cVar 1) (cK (.int 0)))) (sRet (dTup (aCons (dN f_abs (aCons (cVar 0) aNil)) (aCons (d2 f_sub (d2 f_gt (cVar 0) (cK (.int 0))) (d2 f_lt (cVar 0) (cK (.int 0)))) (aCons (cK (.int 0)) aNil))))) sNil)
  (sSeq (sPar 2 3 (aCons (dN f_abs (aCons (cVar 1) aNil)) (aCons (cK (.int 0)) aNil)))
  (sSeq (sPar 4 5 (aCons (d2 f_mod (cVar 0) (dN f_abs (aCons (cVar 1) aNil))) (aCons (cK (.int 1)) aNil)))
  (sSeq (sWh (tB1 (d2 f_ne (cVar 4) (cK (.int 0)))) (sSeq (sAsg (d2 f_fdiv (cVar 2) (cVar 4)) (gNm 6))
  (sAsg (dTup (aCons (cVar 4) (aCons (cVar 5) (aCons (d2 f_sub (cVar 2) (d2 f_mul (cVar 6) (cVar 4))) (aCons (d2 f_sub (cVar 3) (d2 f_mul (cVar 6) (cVar 5))) aNil))))) (gTu 4 (gsCons (gNm 2) (gsCons (gNm 3) (gsCons (gNm 4) (gsCons (gNm 5) gsNil))))))))
  (sSeq (sAsg (d2 f_mod (cVar 3) (d2 f_fdiv (dN f_abs (aCons (cVar 1) aNil)) (cVar 2))) (gNm 3))
  (sRet (dTup (aCons (cVar 2) (aCons (cVar 3) (aCons (d2 f_fdiv (d2 f_sub (cVar 2) (d2 f_mul (cVar 0) (cVar 3))) (cVar 1)) aNil))))))))))
theorem b_with_cofactors {P : Program} {w : World} {K : Frg} {mg : Str → Option Value} {base : Heap} {j : Nat} (m : MG mg) {qual : Str} {f : Addr} {cdv : Value} {A : Around} {outer : List Env} {s : Shared} {H : Hp} {E : XK} (hr : Room j (A.deeper (envOfC qual (defScope s_with_cofactors) s.heap.objs.size f cdv))) :
    PSs (cxOf CX0 P w K mg base N_with_cofactors qual (defScope s_with_cofactors) f cdv A outer s H E).nox (defBody s_with_cofactors) (tS K d_with_cofactors) :=
    have nd := sc_with_cofactors.nd
    (ss_cons (s_if (x_cmp (o_eq hr.units) s_eq (e_var 1) e_int (nomark _)) (ss_one (s_ret (e_tup (a_cons (e_callB call_abs s_abs m.abs (a_cons (e_var 0) a_nil)) (a_cons (e_op o_sub s_sub (e_cmp op_gt s_gt (e_var 0) e_int (nomark _)) (e_cmp (o_lt hr.units0) s_lt (e_var 0) e_int (nomark _))) (a_cons e_int a_nil)))))) ss_nil)
      (ss_cons (s_par 2 3 rfl nd (a_cons (e_callB call_abs s_abs m.abs (a_cons (e_var 1) a_nil)) (a_cons e_int a_nil)))
      (ss_cons (s_par 4 5 rfl nd (a_cons (e_op o_mod s_mod (e_var 0) (e_callB call_abs s_abs m.abs (a_cons (e_var 1) a_nil))) (a_cons e_int a_nil)))
      (ss_cons (s_wh (x_cmp (o_ne hr.units) s_ne (e_var 4) e_int (nomark _)) (ss_cons (s_set 6 nd (e_op o_fdiv s_fdiv (e_var 2) (e_var 4)))
      (ss_one (s_asg (e_tup (a_cons (e_var 4) (a_cons (e_var 5) (a_cons (e_op o_sub s_sub (e_var 2) (e_op o_mul s_mul (e_var 6) (e_var 4))) (a_cons (e_op o_sub s_sub (e_var 3) (e_op o_mul s_mul (e_var 6) (e_var 5))) a_nil))))) (g_tu rfl (gs_cons (g_nm 2 nd) (gs_cons (g_nm 3 nd) (gs_cons (g_nm 4 nd) (gs_cons (g_nm 5 nd) gs_nil)))))))))
      (ss_cons (s_set 3 nd (e_op o_mod s_mod (e_var 3) (e_op o_fdiv s_fdiv (e_callB call_abs s_abs m.abs (a_cons (e_var 1) a_nil)) (e_var 2))))
      (ss_one (s_ret (e_tup (a_cons (e_var 2) (a_cons (e_var 3) (a_cons (e_op o_fdiv s_fdiv (e_op o_sub s_sub (e_var 2) (e_op o_mul s_mul (e_var 0) (e_var 3))) (e_var 1)) a_nil)))))))))))
theorem w_with_cofactors {P : Program} {w : World} {K : Frg} {mg : Str → Option Value} {base : Heap} {j : Nat} (m : MG mg) {f : Addr} {fd : FuncData} (F : L2.Fun K "with_cofactors" "with_cofactors" s_with_cofactors f fd) (hg : mg "with_cofactors" = some (.ref f)) {ψ : Fn}
    (hψ : Den.Does N_with_cofactors.length 2 d_with_cofactors ψ) : Callee P w K mg base (j + 1) "with_cofactors" 2 ψ :=
  ⟨⟨f, fd, ["a", "b"], fn_ok F sc_with_cofactors (fun _ _ _ _ _ _ hr => b_with_cofactors m hr) hψ, hg, F.kp, F.binds fun _ _ _ _ _ _ us hl => match us, hl with | [_, _], _ => rfl⟩⟩
/-! ### trace_of_w -/
def N_trace_of_w : List Str := ["kind"]
abbrev s_trace_of_w : Stmt := topS 5
theorem sc_trace_of_w : FnScope N_trace_of_w ["kind"] (defScope s_trace_of_w) := ⟨rfl, rfl, rfl, by decide +kernel, rfl, by decide +kernel, by decide +kernel⟩
noncomputable def d_trace_of_w : DenS :=
  (sRet (dN f_int (aCons (d2 f_eq (d2 f_mod (cVar 0) (cK (.int 4))) (cK (.int 1))) aNil)))
theorem b_trace_of_w {P : Program} {w : World} {K : Frg} {mg : Str → Option Value} {base : Heap} {j : Nat} (m : MG mg) {qual : Str} {f : Addr} {cdv : Value} {A : Around} {outer : List Env} {s : Shared} {H : Hp} {E : XK} (hr : Room j (A.deeper (envOfC qual (defScope s_trace_of_w) s.heap.objs.size f cdv))) :
    PSs (cxOf CX0 P w K mg base N_trace_of_w qual (defScope s_trace_of_w) f cdv A outer s H E).nox (defBody s_trace_of_w) (tS K d_trace_of_w) :=
    have nd := sc_trace_of_w.nd
    (ss_one (s_ret (e_callTy call_int1 s_int m.int (a_cons (e_cmp (o_eq hr.units) s_eq (e_op o_mod s_mod (e_var 0) e_int) e_int (nomark _)) a_nil))))
theorem w_trace_of_w {P : Program} {w : World} {K : Frg} {mg : Str → Option Value} {base : Heap} {j : Nat} (m : MG mg) {f : Addr} {fd : FuncData} (F : L2.Fun K "trace_of_w" "trace_of_w" s_trace_of_w f fd) (hg : mg "trace_of_w" = some (.ref f)) {ψ : Fn}
    (hψ : Den.Does N_trace_of_w.length 1 d_trace_of_w ψ) : Callee P w K mg base (j + 1) "trace_of_w" 1 ψ :=
  ⟨⟨f, fd, ["kind"], fn_ok F sc_trace_of_w (fun _ _ _ _ _ _ hr => b_trace_of_w m hr) hψ, hg, F.kp, F.binds fun _ _ _ _ _ _ us hl => match us, hl with | [_], _ => rfl⟩⟩
/-! ### norm_of_w -/
def N_norm_of_w : List Str := ["kind"]
abbrev s_norm_of_w : Stmt := topS 6
theorem sc_norm_of_w : FnScope N_norm_of_w ["kind"] (defScope s_norm_of_w) := ⟨rfl, rfl, rfl, by decide +kernel, rfl, by decide +kernel, by decide +kernel⟩
noncomputable def d_norm_of_w : DenS :=
  (sRet (dIf (tB1 (d2 f_eq (d2 f_mod (cVar 0) (cK (.int 4))) (cK (.int 1)))) (d2 f_fdiv (d2 f_sub (cK (.int 1)) (cVar 0)) (cK (.int 4))) (d1 f_neg (cVar 0))))
theorem b_norm_of_w {P : Program} {w : World} {K : Frg} {mg : Str → Option Value} {base : Heap} {j : Nat} (m : MG mg) {qual : Str} {f : Addr} {cdv : Value} {A : Around} {outer : List Env} {s : Shared} {H : Hp} {E : XK} (hr : Room j (A.deeper (envOfC qual (defScope s_norm_of_w) s.heap.objs.size f cdv))) :
    PSs (cxOf CX0 P w K mg base N_norm_of_w qual (defScope s_norm_of_w) f cdv A outer s H E).nox (defBody s_norm_of_w) (tS K d_norm_of_w) :=
    have nd := sc_norm_of_w.nd
    (ss_one (s_ret (e_if (x_cmp (o_eq hr.units) s_eq (e_op o_mod s_mod (e_var 0) e_int) e_int (nomark _)) (e_op o_fdiv s_fdiv (e_op o_sub s_sub e_int (e_var 0)) e_int) (e_un un_neg s_neg (e_var 0)))))
theorem w_norm_of_w {P : Program} {w : World} {K : Frg} {mg : Str → Option Value} {base : Heap} {j : Nat} (m : MG mg) {f : Addr} {fd : FuncData} (F : L2.Fun K "norm_of_w" "norm_of_w" s_norm_of_w f fd) (hg : mg "norm_of_w" = some (.ref f)) {ψ : Fn}
    (hψ : Den.Does N_norm_of_w.length 1 d_norm_of_w ψ) : Callee P w K mg base (j + 1) "norm_of_w" 1 ψ :=
  ⟨⟨f, fd, ["kind"], fn_ok F sc_norm_of_w (fun _ _ _ _ _ _ hr => b_norm_of_w m hr) hψ, hg, F.kp, F.binds fun _ _ _ _ _ _ us hl => match us, hl with | [_], _ => rfl⟩⟩
/-! ### times_in -/
def N_times_in : List Str := ["kind", "u", "v", "both"]
abbrev s_times_in : Stmt := topS 7
theorem sc_times_in : FnScope N_times_in ["kind", "u", "v"] (defScope s_times_in) := ⟨rfl, rfl, rfl, by decide +kernel, rfl, by decide +kernel, by decide +kernel⟩
noncomputable def d_times_in (p_trace_of_w : Fn) (p_norm_of_w : Fn) : DenS :=
  (sSeq (sAsg (d2 f_mul (d2 f_ix (cVar 1) (cK (.int 1))) (d2 f_ix (cVar 2) (cK (.int 1)))) (gNm 3))
  (sRet (dTup (aCons (d2 f_sub (d2 f_mul (d2 f_ix (cVar 1) (cK (.int 0))) (d2 f_ix (cVar 2) (cK (.int 0)))) (d2 f_mul (cVar 3) (dCall 1 p_norm_of_w (aCons (cVar 0) aNil)))) (aCons (d2 f_add (d2 f_add (d2 f_mul (d2 f_ix (cVar 1) (cK (.int 0))) (d2 f_ix (cVar 2) (cK (.int 1)))) (d2 f_mul (d2 f_ix (cVar 1) (cK (.int 1))) (d2 f_ix (cVar 2) (cK (.int 0))))) (d2 f_mul (cVar 3) (dCall 1 p_trace_of_w (aCons (cVar 0) aNil)))) aNil)))))
theorem b_times_in {P : Program} {w : World} {K : Frg} {mg : Str → Option Value} {base : Heap} {j : Nat} (m : MG mg) {p_trace_of_w : Fn} (c_trace_of_w : Callee P w K mg base j "trace_of_w" 1 p_trace_of_w) {p_norm_of_w : Fn} (c_norm_of_w : Callee P w K mg base j "norm_of_w" 1 p_norm_of_w) {qual : Str} {f : Addr} {cdv : Value} {A : Around} {outer : List Env} {s : Shared} {H : Hp} {E : XK} (hr : Room j (A.deeper (envOfC qual (defScope s_times_in) s.heap.objs.size f cdv))) :
    PSs (cxOf CX0 P w K mg base N_times_in qual (defScope s_times_in) f cdv A outer s H E).nox (defBody s_times_in) (tS K (d_times_in p_trace_of_w p_norm_of_w)) :=
    have nd := sc_times_in.nd
    (ss_cons (s_set 3 nd (e_op o_mul s_mul (e_ix (e_var 1) e_int) (e_ix (e_var 2) e_int)))
      (ss_one (s_ret (e_tup (a_cons (e_op o_sub s_sub (e_op o_mul s_mul (e_ix (e_var 1) e_int) (e_ix (e_var 2) e_int)) (e_op o_mul s_mul (e_var 3) (e_call c_norm_of_w hr (a_cons (e_var 0) a_nil)))) (a_cons (e_op o_add s_add (e_op o_add s_add (e_op o_mul s_mul (e_ix (e_var 1) e_int) (e_ix (e_var 2) e_int)) (e_op o_mul s_mul (e_ix (e_var 1) e_int) (e_ix (e_var 2) e_int))) (e_op o_mul s_mul (e_var 3) (e_call c_trace_of_w hr (a_cons (e_var 0) a_nil)))) a_nil))))))
theorem w_times_in {P : Program} {w : World} {K : Frg} {mg : Str → Option Value} {base : Heap} {j : Nat} (m : MG mg) {p_trace_of_w : Fn} (c_trace_of_w : Callee P w K mg base j "trace_of_w" 1 p_trace_of_w) {p_norm_of_w : Fn} (c_norm_of_w : Callee P w K mg base j "norm_of_w" 1 p_norm_of_w) {f : Addr} {fd : FuncData} (F : L2.Fun K "times_in" "times_in" s_times_in f fd) (hg : mg "times_in" = some (.ref f)) {ψ : Fn}
    (hψ : Den.Does N_times_in.length 3 (d_times_in p_trace_of_w p_norm_of_w) ψ) : Callee P w K mg base (j + 1) "times_in" 3 ψ :=
  ⟨⟨f, fd, ["kind", "u", "v"], fn_ok F sc_times_in (fun _ _ _ _ _ _ hr => b_times_in m c_trace_of_w c_norm_of_w hr) hψ, hg, F.kp, F.binds fun _ _ _ _ _ _ us hl => match us, hl with | [_, _, _], _ => rfl⟩⟩
/-! ### conjugate_in -/
def N_conjugate_in : List Str := ["kind", "u"]
abbrev s_conjugate_in : Stmt := topS 8
theorem sc_conjugate_in : FnScope N_conjugate_in ["kind", "u"] (defScope s_conjugate_in) := ⟨rfl, rfl, rfl, by decide +kernel, rfl, by decide +kernel, by decide +kernel⟩
noncomputable def d_conjugate_in (p_trace_of_w : Fn) : DenS :=
  (sRet (dTup (aCons (d2 f_add (d2 f_ix (cVar 1) (cK (.int 0))) (d2 f_mul (dCall 1 p_trace_of_w (aCons (cVar 0) aNil)) (d2 f_ix (cVar 1) (cK (.int 1))))) (aCons (d1 f_neg (d2 f_ix (cVar 1) (cK (.int 1)))) aNil))))
theorem b_conjugate_in {P : Program} {w : World} {K : Frg} {mg : Str → Option Value} {base : Heap} {j : Nat} (m : MG mg) {p_trace_of_w : Fn} (c_trace_of_w : Callee P w K mg base j "trace_of_w" 1 p_trace_of_w) {qual : Str} {f : Addr} {cdv : Value} {A : Around} {outer : List Env} {s : Shared} {H : Hp} {E : XK} (hr : Room j (A.deeper (envOfC qual (defScope s_conjugate_in) s.heap.objs.size f cdv))) :
    PSs (cxOf CX0 P w K mg base N_conjugate_in qual (defScope s_conjugate_in) f cdv A outer s H E).nox (defBody s_conjugate_in) (tS K (d_conjugate_in p_trace_of_w)) :=
    have nd := sc_conjugate_in.nd
    (ss_one (s_ret (e_tup (a_cons (e_op o_add s_add (e_ix (e_var 1) e_int) (e_op o_mul s_mul (e_call c_trace_of_w hr (a_cons (e_var 0) a_nil)) (e_ix (e_var 1) e_int))) (a_cons (e_un un_neg s_neg (e_ix (e_var 1) e_int)) a_nil)))))
theorem w_conjugate_in {P : Program} {w : World} {K : Frg} {mg : Str → Option Value} {base : Heap} {j : Nat} (m : MG mg) {p_trace_of_w : Fn} (c_trace_of_w : Callee P w K mg base j "trace_of_w" 1 p_trace_of_w) {f : Addr} {fd : FuncData} (F : L2.Fun K "conjugate_in" "conjugate_in" s_conjugate_in f fd) (hg : mg "conjugate_in" = some (.ref f)) {ψ : Fn}
    (hψ : Den.Does N_conjugate_in.length 2 (d_conjugate_in p_trace_of_w) ψ) : Callee P w K mg base (j + 1) "conjugate_in" 2 ψ :=
  ⟨⟨f, fd, ["kind", "u"], fn_ok F sc_conjugate_in (fun _ _ _ _ _ _ hr => b_conjugate_in m c_trace_of_w hr) hψ, hg, F.kp, F.binds fun _ _ _ _ _ _ us hl => match us, hl with | [_, _], _ => rfl⟩⟩
/-! ### norm_in -/
def N_norm_in : List Str := ["kind", "u"]
abbrev s_norm_in : Stmt := topS 9
theorem sc_norm_in : FnScope N_norm_in ["kind", "u"] (defScope s_norm_in) := ⟨rfl, rfl, rfl, by decide +kernel, rfl, by decide +kernel, by decide +kernel⟩
noncomputable def d_norm_in (p_trace_of_w : Fn) (p_norm_of_w : Fn) : DenS :=
  (sRet (d2 f_add (d2 f_add (d2 f_mul (d2 f_ix (cVar 1) (cK (.int 0))) (d2 f_ix (cVar 1) (cK (.int 0)))) (d2 f_mul (d2 f_mul (dCall 1 p_trace_of_w (aCons (cVar 0) aNil)) (d2 f_ix (cVar 1) (cK (.int 0)))) (d2 f_ix (cVar 1) (cK (.int 1))))) (d2 f_mul (d2 f_mul (dCall 1 p_norm_of_w (aCons (cVar 0) aNil)) (d2 f_ix (cVar 1) (cK (.int 1)))) (d2 f_ix (cVar 1) (cK (.int 1))))))
theorem b_norm_in {P : Program} {w : World} {K : Frg} {mg : Str → Option Value} {base : Heap} {j : Nat} (m : MG mg) {p_trace_of_w : Fn} (c_trace_of_w : Callee P w K mg base j "trace_of_w" 1 p_trace_of_w) {p_norm_of_w : Fn} (c_norm_of_w : Callee P w K mg base j "norm_of_w" 1 p_norm_of_w) {qual : Str} {f : Addr} {cdv : Value} {A : Around} {outer : List Env} {s : Shared} {H : Hp} {E : XK} (hr : Room j (A.deeper (envOfC qual (defScope s_norm_in) s.heap.objs.size f cdv))) :
    PSs (cxOf CX0 P w K mg base N_norm_in qual (defScope s_norm_in) f cdv A outer s H E).nox (defBody s_norm_in) (tS K (d_norm_in p_trace_of_w p_norm_of_w)) :=
    have nd := sc_norm_in.nd
    (ss_one (s_ret (e_op o_add s_add (e_op o_add s_add (e_op o_mul s_mul (e_ix (e_var 1) e_int) (e_ix (e_var 1) e_int)) (e_op o_mul s_mul (e_op o_mul s_mul (e_call c_trace_of_w hr (a_cons (e_var 0) a_nil)) (e_ix (e_var 1) e_int)) (e_ix (e_var 1) e_int))) (e_op o_mul s_mul (e_op o_mul s_mul (e_call c_norm_of_w hr (a_cons (e_var 0) a_nil)) (e_ix (e_var 1) e_int)) (e_ix (e_var 1) e_int)))))
theorem w_norm_in {P : Program} {w : World} {K : Frg} {mg : Str → Option Value} {base : Heap} {j : Nat} (m : MG mg) {p_trace_of_w : Fn} (c_trace_of_w : Callee P w K mg base j "trace_of_w" 1 p_trace_of_w) {p_norm_of_w : Fn} (c_norm_of_w : Callee P w K mg base j "norm_of_w" 1 p_norm_of_w) {f : Addr} {fd : FuncData} (F : L2.Fun K "norm_in" "norm_in" s_norm_in f fd) (hg : mg "norm_in" = some (.ref f)) {ψ : Fn}
    (hψ : Den.Does N_norm_in.length 2 (d_norm_in p_trace_of_w p_norm_of_w) ψ) : Callee P w K mg base (j + 1) "norm_in" 2 ψ :=
  ⟨⟨f, fd, ["kind", "u"], fn_ok F sc_norm_in (fun _ _ _ _ _ _ hr => b_norm_in m c_trace_of_w c_norm_of_w hr) hψ, hg, F.kp, F.binds fun _ _ _ _ _ _ us hl => match us, hl with | [_, _], _ => rfl⟩⟩
/-! ### is_ideal -/
def N_is_ideal : List Str := ["kind", "value", "k", "a", "b", "one"]
abbrev s_is_ideal : Stmt := topS 11
theorem sc_is_ideal : FnScope N_is_ideal ["kind", "value"] (defScope s_is_ideal) := ⟨rfl, rfl, rfl, by decide +kernel, rfl, by decide +kernel, by decide +kernel⟩
noncomputable def d_is_ideal (p_is_integer : Fn) (p_norm_in : Fn) : DenS :=
  (sSeq (sIf (tOr' (tNo (tTru (d1 (f_isi .tuple) (cVar 1)))) (tOr' (tB1 (d2 f_ne (dN f_len (aCons (cVar 1) aNil)) (cK (.int 3)))) (tNo (tTru (dN f_all (aCons (dLc [5] (itSeq (cVar 1)) (gNm 5) tAll (dCall 1 p_is_integer (aCons (cVar 5) aNil))) aNil)))))) (sRet (cK (.bl false))) sNil)
  (sSeq (sAsg (cVar 1) (gTu 3 (gsCons (gNm 2) (gsCons (gNm 3) (gsCons (gNm 4) gsNil)))))
  (sRet (dAn (d2 f_gt (cVar 2) (cK (.int 0))) (dAn (dCh2 f_le f_lt (cK (.int 0)) (cVar 4) (cVar 3)) (d2 f_eq (d2 f_mod (dCall 2 p_norm_in (aCons (cVar 0) (aCons (dTup (aCons (cVar 4) (aCons (cK (.int 1)) aNil))) aNil))) (cVar 3)) (cK (.int 0))))))))
theorem b_is_ideal {P : Program} {w : World} {K : Frg} {mg : Str → Option Value} {base : Heap} {j : Nat} (m : MG mg) {p_is_integer : Fn} (c_is_integer : Callee P w K mg base j "is_integer" 1 p_is_integer) {p_norm_in : Fn} (c_norm_in : Callee P w K mg base j "norm_in" 2 p_norm_in) {qual : Str} {f : Addr} {cdv : Value} {A : Around} {outer : List Env} {s : Shared} {H : Hp} {E : XK} (hr : Room j (A.deeper (envOfC qual (defScope s_is_ideal) s.heap.objs.size f cdv))) :
    PSs (cxOf CX0 P w K mg base N_is_ideal qual (defScope s_is_ideal) f cdv A outer s H E).nox (defBody s_is_ideal) (tS K (d_is_ideal p_is_integer p_norm_in)) :=
    have nd := sc_is_ideal.nd
    (ss_cons (s_if (x_or (x_no (x_tru (e_isi .tuple (e_var 1) m.isinstance m.tuple))) (x_or (x_cmp (o_ne hr.units) s_ne (e_callB call_len s_len m.len (a_cons (e_var 1) a_nil)) e_int (nomark _)) (x_or1 (x_no (x_tru (e_callB (cr_all (by rfl)) s_all m.all (a_cons (e_lc (own := [("one", 5)]) nd (i_seq (e_var 1)) ci_seq (blkOk_by (own := [("one", 5)]) (N := N_is_ideal) (sc := defScope s_is_ideal) (by decide +kernel)) (gin_nmV 5) (fun _ _ _ _ _ => (pg_name (i := 5) nd rfl (by first | exact Or.inl rfl | exact Or.inr rfl))) (fun _ _ _ _ _ => x_nil) (fun _ _ _ _ _ => (e_call c_is_integer hr (a_cons (e_var 5) a_nil)))) a_nil))))))).pt (ss_one (s_ret e_bl)) ss_nil)
      (ss_cons (s_asg (e_var 1) (g_tu rfl (gs_cons (g_nm 2 nd) (gs_cons (g_nm 3 nd) (gs_cons (g_nm 4 nd) gs_nil)))))
      (ss_one (s_ret (e_an (e_cmp op_gt s_gt (e_var 2) e_int (nomark _)) (e_an (e_ch2 op_le s_le (o_lt hr.units0) s_lt e_int (e_var 4) (e_var 3)) (e_one (e_cmp (o_eq hr.units) s_eq (e_op o_mod s_mod (e_call c_norm_in hr (a_cons (e_var 0) (a_cons (e_tup (a_cons (e_var 4) (a_cons e_int a_nil))) a_nil))) (e_var 3)) e_int (nomark _)))))))))
theorem w_is_ideal {P : Program} {w : World} {K : Frg} {mg : Str → Option Value} {base : Heap} {j : Nat} (m : MG mg) {p_is_integer : Fn} (c_is_integer : Callee P w K mg base j "is_integer" 1 p_is_integer) {p_norm_in : Fn} (c_norm_in : Callee P w K mg base j "norm_in" 2 p_norm_in) {f : Addr} {fd : FuncData} (F : L2.Fun K "is_ideal" "is_ideal" s_is_ideal f fd) (hg : mg "is_ideal" = some (.ref f)) {ψ : Fn}
    (hψ : Den.Does N_is_ideal.length 2 (d_is_ideal p_is_integer p_norm_in) ψ) : Callee P w K mg base (j + 1) "is_ideal" 2 ψ :=
  ⟨⟨f, fd, ["kind", "value"], fn_ok F sc_is_ideal (fun _ _ _ _ _ _ hr => b_is_ideal m c_is_integer c_norm_in hr) hψ, hg, F.kp, F.binds fun _ _ _ _ _ _ us hl => match us, hl with | [_, _], _ => rfl⟩⟩
/-! ### holds -/
def N_holds : List Str := ["kind", "ideal", "u", "k", "a", "b"]
abbrev s_holds : Stmt := topS 12
theorem sc_holds : FnScope N_holds ["kind", "ideal", "u"] (defScope s_holds) := ⟨rfl, rfl, rfl, by decide +kernel, rfl, by decide +kernel, by decide +kernel⟩
noncomputable def d_holds : DenS :=
  (sSeq (sAsg (cVar 1) (gTu 3 (gsCons (gNm 3) (gsCons (gNm 4) (gsCons (gNm 5) gsNil)))))
  (sRet (dAn (d2 f_eq (d2 f_mod (d2 f_ix (cVar 2) (cK (.int 0))) (cVar 3)) (cK (.int 0))) (dAn (d2 f_eq (d2 f_mod (d2 f_ix (cVar 2) (cK (.int 1))) (cVar 3)) (cK (.int 0))) (d2 f_eq (d2 f_mod (d2 f_sub (d2 f_fdiv (d2 f_ix (cVar 2) (cK (.int 0))) (cVar 3)) (d2 f_mul (d2 f_fdiv (d2 f_ix (cVar 2) (cK (.int 1))) (cVar 3)) (cVar 5))) (cVar 4)) (cK (.int 0)))))))
theorem b_holds {P : Program} {w : World} {K : Frg} {mg : Str → Option Value} {base : Heap} {j : Nat} (m : MG mg) {qual : Str} {f : Addr} {cdv : Value} {A : Around} {outer : List Env} {s : Shared} {H : Hp} {E : XK} (hr : Room j (A.deeper (envOfC qual (defScope s_holds) s.heap.objs.size f cdv))) :
    PSs (cxOf CX0 P w K mg base N_holds qual (defScope s_holds) f cdv A outer s H E).nox (defBody s_holds) (tS K d_holds) :=
    have nd := sc_holds.nd
    (ss_cons (s_asg (e_var 1) (g_tu rfl (gs_cons (g_nm 3 nd) (gs_cons (g_nm 4 nd) (gs_cons (g_nm 5 nd) gs_nil)))))
      (ss_one (s_ret (e_an (e_cmp (o_eq hr.units) s_eq (e_op o_mod s_mod (e_ix (e_var 2) e_int) (e_var 3)) e_int (nomark _)) (e_an (e_cmp (o_eq hr.units) s_eq (e_op o_mod s_mod (e_ix (e_var 2) e_int) (e_var 3)) e_int (nomark _)) (e_one (e_cmp (o_eq hr.units) s_eq (e_op o_mod s_mod (e_op o_sub s_sub (e_op o_fdiv s_fdiv (e_ix (e_var 2) e_int) (e_var 3)) (e_op o_mul s_mul (e_op o_fdiv s_fdiv (e_ix (e_var 2) e_int) (e_var 3)) (e_var 5))) (e_var 4)) e_int (nomark _))))))))
theorem w_holds {P : Program} {w : World} {K : Frg} {mg : Str → Option Value} {base : Heap} {j : Nat} (m : MG mg) {f : Addr} {fd : FuncData} (F : L2.Fun K "holds" "holds" s_holds f fd) (hg : mg "holds" = some (.ref f)) {ψ : Fn}
    (hψ : Den.Does N_holds.length 3 d_holds ψ) : Callee P w K mg base (j + 1) "holds" 3 ψ :=
  ⟨⟨f, fd, ["kind", "ideal", "u"], fn_ok F sc_holds (fun _ _ _ _ _ _ hr => b_holds m hr) hψ, hg, F.kp, F.binds fun _ _ _ _ _ _ us hl => match us, hl with | [_, _, _], _ => rfl⟩⟩
/-! ### spanned -/
def N_spanned : List Str := ["rows", "low", "x", "y", "one", "two", "g", "s", "t", "a"]
abbrev s_spanned : Stmt := topS 13
theorem sc_spanned : FnScope N_spanned ["rows"] (defScope s_spanned) := ⟨rfl, rfl, rfl, by decide +kernel, rfl, by decide +kernel, by decide +kernel⟩
noncomputable def d_spanned (p_with_cofactors : Fn) (p_common_divisor : Fn) : DenS :=
  (sSeq (sAsg (dTup (aCons (cK (.int 0)) (aCons (cK (.int 0)) (aCons (cK (.int 0)) aNil)))) (gTu 3 (gsCons (gNm 1) (gsCons (gNm 2) (gsCons (gNm 3) gsNil)))))
  (sSeq (sFor (itSeq (cVar 0)) (gTu 2 (gsCons (gNm 4) (gsCons (gNm 5) gsNil))) (sSeq (sAsg (dCall 2 p_with_cofactors (aCons (cVar 3) (aCons (cVar 5) aNil))) (gTu 3 (gsCons (gNm 6) (gsCons (gNm 7) (gsCons (gNm 8) gsNil)))))
  (sSeq (sIf (tB1 (d2 f_eq (cVar 6) (cK (.int 0)))) (sSeq (sAsg (dCall 2 p_common_divisor (aCons (cVar 1) (aCons (cVar 4) aNil))) (gNm 1))
  sCt) sNil)
  (sSeq (sAsg (dCall 2 p_common_divisor (aCons (cVar 1) (aCons (d2 f_fdiv (d2 f_sub (d2 f_mul (cVar 2) (cVar 5)) (d2 f_mul (cVar 4) (cVar 3))) (cVar 6)) aNil))) (gNm 1))
  (sSeq (sPar 2 3 (aCons (d2 f_add (d2 f_mul (cVar 7) (cVar 2)) (d2 f_mul (cVar 8) (cVar 4))) (aCons (cVar 6) aNil)))
  (sIf (tB1 (d2 f_ne (cVar 1) (cK (.int 0)))) (sAsg (d2 f_mod (cVar 2) (cVar 1)) (gNm 2)) sNil))))))
  (sSeq (sAsg (d2 f_fdiv (cVar 1) (cVar 3)) (gNm 9))
  (sRet (dTup (aCons (cVar 3) (aCons (cVar 9) (aCons (d2 f_mod (d2 f_fdiv (cVar 2) (cVar 3)) (cVar 9)) aNil))))))))
theorem b_spanned {P : Program} {w : World} {K : Frg} {mg : Str → Option Value} {base : Heap} {j : Nat} (m : MG mg) {p_with_cofactors : Fn} (c_with_cofactors : Callee P w K mg base j "with_cofactors" 2 p_with_cofactors) {p_common_divisor : Fn} (c_common_divisor : Callee P w K mg base j "common_divisor" 2 p_common_divisor) {qual : Str} {f : Addr} {cdv : Value} {A : Around} {outer : List Env} {s : Shared} {H : Hp} {E : XK} (hr : Room j (A.deeper (envOfC qual (defScope s_spanned) s.heap.objs.size f cdv))) :
    PSs (cxOf CX0 P w K mg base N_spanned qual (defScope s_spanned) f cdv A outer s H E).nox (defBody s_spanned) (tS K (d_spanned p_with_cofactors p_common_divisor)) :=
    have nd := sc_spanned.nd
    (ss_cons (s_asg (e_tup (a_cons e_int (a_cons e_int (a_cons e_int a_nil)))) (g_tu rfl (gs_cons (g_nm 1 nd) (gs_cons (g_nm 2 nd) (gs_cons (g_nm 3 nd) gs_nil)))))
      (ss_cons (s_for (i_seq (e_var 0)) (g_tu rfl (gs_cons (g_nm 4 nd) (gs_cons (g_nm 5 nd) gs_nil))) (ss_cons (s_asg (e_call c_with_cofactors hr (a_cons (e_var 3) (a_cons (e_var 5) a_nil))) (g_tu rfl (gs_cons (g_nm 6 nd) (gs_cons (g_nm 7 nd) (gs_cons (g_nm 8 nd) gs_nil)))))
      (ss_cons (s_if (x_cmp (o_eq hr.units) s_eq (e_var 6) e_int (nomark _)) (ss_cons (s_set 1 nd (e_call c_common_divisor hr (a_cons (e_var 1) (a_cons (e_var 4) a_nil))))
      (ss_one (s_ct))) ss_nil)
      (ss_cons (s_set 1 nd (e_call c_common_divisor hr (a_cons (e_var 1) (a_cons (e_op o_fdiv s_fdiv (e_op o_sub s_sub (e_op o_mul s_mul (e_var 2) (e_var 5)) (e_op o_mul s_mul (e_var 4) (e_var 3))) (e_var 6)) a_nil))))
      (ss_cons (s_par 2 3 rfl nd (a_cons (e_op o_add s_add (e_op o_mul s_mul (e_var 7) (e_var 2)) (e_op o_mul s_mul (e_var 8) (e_var 4))) (a_cons (e_var 6) a_nil)))
      (ss_one (s_if (x_cmp (o_ne hr.units) s_ne (e_var 1) e_int (nomark _)) (ss_one (s_set 2 nd (e_op o_mod s_mod (e_var 2) (e_var 1)))) ss_nil)))))) ci_seq)
      (ss_cons (s_set 9 nd (e_op o_fdiv s_fdiv (e_var 1) (e_var 3)))
      (ss_one (s_ret (e_tup (a_cons (e_var 3) (a_cons (e_var 9) (a_cons (e_op o_mod s_mod (e_op o_fdiv s_fdiv (e_var 2) (e_var 3)) (e_var 9)) a_nil)))))))))
theorem w_spanned {P : Program} {w : World} {K : Frg} {mg : Str → Option Value} {base : Heap} {j : Nat} (m : MG mg) {p_with_cofactors : Fn} (c_with_cofactors : Callee P w K mg base j "with_cofactors" 2 p_with_cofactors) {p_common_divisor : Fn} (c_common_divisor : Callee P w K mg base j "common_divisor" 2 p_common_divisor) {f : Addr} {fd : FuncData} (F : L2.Fun K "spanned" "spanned" s_spanned f fd) (hg : mg "spanned" = some (.ref f)) {ψ : Fn}
    (hψ : Den.Does N_spanned.length 1 (d_spanned p_with_cofactors p_common_divisor) ψ) : Callee P w K mg base (j + 1) "spanned" 1 ψ :=
  ⟨⟨f, fd, ["rows"], fn_ok F sc_spanned (fun _ _ _ _ _ _ hr => b_spanned m c_with_cofactors c_common_divisor hr) hψ, hg, F.kp, F.binds fun _ _ _ _ _ _ us hl => match us, hl with | [_], _ => rfl⟩⟩
/-! ### ideal_of -/
def N_ideal_of : List Str := ["kind", "numbers", "rows", "u"]
abbrev s_ideal_of : Stmt := topS 14
theorem sc_ideal_of : FnScope N_ideal_of ["kind", "numbers"] (defScope s_ideal_of) := ⟨rfl, rfl, rfl, by decide +kernel, rfl, by decide +kernel, by decide +kernel⟩
noncomputable def d_ideal_of (p_times_in : Fn) (p_spanned : Fn) : DenS :=
  (sSeq (sAsg (dLoc aNil) (gNm 2))
  (sSeq (sFor (itSeq (cVar 1)) (gNm 3) (sEx (dML f_ext (cVar 2) (aCons (dLst (aCons (cVar 3) (aCons (dCall 3 p_times_in (aCons (cVar 0) (aCons (cVar 3) (aCons (dTup (aCons (cK (.int 0)) (aCons (cK (.int 1)) aNil))) aNil)))) aNil))) aNil))))
  (sRet (dCall 1 p_spanned (aCons (cVar 2) aNil)))))
theorem b_ideal_of {P : Program} {w : World} {K : Frg} {mg : Str → Option Value} {base : Heap} {j : Nat} (m : MG mg) {p_times_in : Fn} (c_times_in : Callee P w K mg base j "times_in" 3 p_times_in) {p_spanned : Fn} (c_spanned : Callee P w K mg base j "spanned" 1 p_spanned) {qual : Str} {f : Addr} {cdv : Value} {A : Around} {outer : List Env} {s : Shared} {H : Hp} {E : XK} (hr : Room j (A.deeper (envOfC qual (defScope s_ideal_of) s.heap.objs.size f cdv))) :
    PSs (cxOf CX0 P w K mg base N_ideal_of qual (defScope s_ideal_of) f cdv A outer s H E).nox (defBody s_ideal_of) (tS K (d_ideal_of p_times_in p_spanned)) :=
    have nd := sc_ideal_of.nd
    (ss_cons (s_set 2 nd (e_loc a_nil))
      (ss_cons (s_for (i_seq (e_var 1)) (g_nm 3 nd) (ss_one (s_ex (e_bm PySem.F.plainAttrs_list PySem.F.slot_list_extend PySem.F.type_list_extend mt_extend s_ext (e_var 2) (a_cons (e_lst (a_cons (e_var 3) (a_cons (e_call c_times_in hr (a_cons (e_var 0) (a_cons (e_var 3) (a_cons (e_tup (a_cons e_int (a_cons e_int a_nil))) a_nil)))) a_nil))) a_nil)))) ci_seq)
      (ss_one (s_ret (e_call c_spanned hr (a_cons (e_var 2) a_nil))))))
theorem w_ideal_of {P : Program} {w : World} {K : Frg} {mg : Str → Option Value} {base : Heap} {j : Nat} (m : MG mg) {p_times_in : Fn} (c_times_in : Callee P w K mg base j "times_in" 3 p_times_in) {p_spanned : Fn} (c_spanned : Callee P w K mg base j "spanned" 1 p_spanned) {f : Addr} {fd : FuncData} (F : L2.Fun K "ideal_of" "ideal_of" s_ideal_of f fd) (hg : mg "ideal_of" = some (.ref f)) {ψ : Fn}
    (hψ : Den.Does N_ideal_of.length 2 (d_ideal_of p_times_in p_spanned) ψ) : Callee P w K mg base (j + 1) "ideal_of" 2 ψ :=
  ⟨⟨f, fd, ["kind", "numbers"], fn_ok F sc_ideal_of (fun _ _ _ _ _ _ hr => b_ideal_of m c_times_in c_spanned hr) hψ, hg, F.kp, F.binds fun _ _ _ _ _ _ us hl => match us, hl with | [_, _], _ => rfl⟩⟩
/-! ### basis_of -/
def N_basis_of : List Str := ["ideal", "k", "a", "b"]
abbrev s_basis_of : Stmt := topS 15
theorem sc_basis_of : FnScope N_basis_of ["ideal"] (defScope s_basis_of) := ⟨rfl, rfl, rfl, by decide +kernel, rfl, by decide +kernel, by decide +kernel⟩
noncomputable def d_basis_of : DenS :=
  (sSeq (sAsg (cVar 0) (gTu 3 (gsCons (gNm 1) (gsCons (gNm 2) (gsCons (gNm 3) gsNil)))))
  (sRet (dLst (aCons (dTup (aCons (d2 f_mul (cVar 1) (cVar 2)) (aCons (cK (.int 0)) aNil))) (aCons (dTup (aCons (d2 f_mul (cVar 1) (cVar 3)) (aCons (cVar 1) aNil))) aNil)))))
theorem b_basis_of {P : Program} {w : World} {K : Frg} {mg : Str → Option Value} {base : Heap} {j : Nat} (m : MG mg) {qual : Str} {f : Addr} {cdv : Value} {A : Around} {outer : List Env} {s : Shared} {H : Hp} {E : XK} (hr : Room j (A.deeper (envOfC qual (defScope s_basis_of) s.heap.objs.size f cdv))) :
    PSs (cxOf CX0 P w K mg base N_basis_of qual (defScope s_basis_of) f cdv A outer s H E).nox (defBody s_basis_of) (tS K d_basis_of) :=
    have nd := sc_basis_of.nd
    (ss_cons (s_asg (e_var 0) (g_tu rfl (gs_cons (g_nm 1 nd) (gs_cons (g_nm 2 nd) (gs_cons (g_nm 3 nd) gs_nil)))))
      (ss_one (s_ret (e_lst (a_cons (e_tup (a_cons (e_op o_mul s_mul (e_var 1) (e_var 2)) (a_cons e_int a_nil))) (a_cons (e_tup (a_cons (e_op o_mul s_mul (e_var 1) (e_var 3)) (a_cons (e_var 1) a_nil))) a_nil))))))
theorem w_basis_of {P : Program} {w : World} {K : Frg} {mg : Str → Option Value} {base : Heap} {j : Nat} (m : MG mg) {f : Addr} {fd : FuncData} (F : L2.Fun K "basis_of" "basis_of" s_basis_of f fd) (hg : mg "basis_of" = some (.ref f)) {ψ : Fn}
    (hψ : Den.Does N_basis_of.length 1 d_basis_of ψ) : Callee P w K mg base (j + 1) "basis_of" 1 ψ :=
  ⟨⟨f, fd, ["ideal"], fn_ok F sc_basis_of (fun _ _ _ _ _ _ hr => b_basis_of m hr) hψ, hg, F.kp, F.binds fun _ _ _ _ _ _ us hl => match us, hl with | [_], _ => rfl⟩⟩
/-! ### sum_ideal -/
def N_sum_ideal : List Str := ["kind", "one", "other"]
abbrev s_sum_ideal : Stmt := topS 16
theorem sc_sum_ideal : FnScope N_sum_ideal ["kind", "one", "other"] (defScope s_sum_ideal) := ⟨rfl, rfl, rfl, by decide +kernel, rfl, by decide +kernel, by decide +kernel⟩
noncomputable def d_sum_ideal (p_spanned : Fn) (p_basis_of : Fn) : DenS :=
  (sRet (dCall 1 p_spanned (aCons (d2 f_add (dCall 1 p_basis_of (aCons (cVar 1) aNil)) (dCall 1 p_basis_of (aCons (cVar 2) aNil))) aNil)))
theorem b_sum_ideal {P : Program} {w : World} {K : Frg} {mg : Str → Option Value} {base : Heap} {j : Nat} (m : MG mg) {p_spanned : Fn} (c_spanned : Callee P w K mg base j "spanned" 1 p_spanned) {p_basis_of : Fn} (c_basis_of : Callee P w K mg base j "basis_of" 1 p_basis_of) {qual : Str} {f : Addr} {cdv : Value} {A : Around} {outer : List Env} {s : Shared} {H : Hp} {E : XK} (hr : Room j (A.deeper (envOfC qual (defScope s_sum_ideal) s.heap.objs.size f cdv))) :
    PSs (cxOf CX0 P w K mg base N_sum_ideal qual (defScope s_sum_ideal) f cdv A outer s H E).nox (defBody s_sum_ideal) (tS K (d_sum_ideal p_spanned p_basis_of)) :=
    have nd := sc_sum_ideal.nd
    (ss_one (s_ret (e_call c_spanned hr (a_cons (e_op o_add s_add (e_call c_basis_of hr (a_cons (e_var 1) a_nil)) (e_call c_basis_of hr (a_cons (e_var 2) a_nil))) a_nil))))
theorem w_sum_ideal {P : Program} {w : World} {K : Frg} {mg : Str → Option Value} {base : Heap} {j : Nat} (m : MG mg) {p_spanned : Fn} (c_spanned : Callee P w K mg base j "spanned" 1 p_spanned) {p_basis_of : Fn} (c_basis_of : Callee P w K mg base j "basis_of" 1 p_basis_of) {f : Addr} {fd : FuncData} (F : L2.Fun K "sum_ideal" "sum_ideal" s_sum_ideal f fd) (hg : mg "sum_ideal" = some (.ref f)) {ψ : Fn}
    (hψ : Den.Does N_sum_ideal.length 3 (d_sum_ideal p_spanned p_basis_of) ψ) : Callee P w K mg base (j + 1) "sum_ideal" 3 ψ :=
  ⟨⟨f, fd, ["kind", "one", "other"], fn_ok F sc_sum_ideal (fun _ _ _ _ _ _ hr => b_sum_ideal m c_spanned c_basis_of hr) hψ, hg, F.kp, F.binds fun _ _ _ _ _ _ us hl => match us, hl with | [_, _, _], _ => rfl⟩⟩
/-! ### product_ideal -/
def N_product_ideal : List Str := ["kind", "one", "other", "u", "v"]
abbrev s_product_ideal : Stmt := topS 17
theorem sc_product_ideal : FnScope N_product_ideal ["kind", "one", "other"] (defScope s_product_ideal) := ⟨rfl, rfl, rfl, by decide +kernel, rfl, by decide +kernel, by decide +kernel⟩
noncomputable def d_product_ideal (p_spanned : Fn) (p_basis_of : Fn) (p_times_in : Fn) : DenS :=
  (sRet (dCall 1 p_spanned (aCons (dLc2 [3, 4] [4] (itSeq (dCall 1 p_basis_of (aCons (cVar 1) aNil))) (gNm 3) tAll (itSeq (dCall 1 p_basis_of (aCons (cVar 2) aNil))) (gNm 4) tAll (dCall 3 p_times_in (aCons (cVar 0) (aCons (cVar 3) (aCons (cVar 4) aNil))))) aNil)))
theorem b_product_ideal {P : Program} {w : World} {K : Frg} {mg : Str → Option Value} {base : Heap} {j : Nat} (m : MG mg) {p_spanned : Fn} (c_spanned : Callee P w K mg base j "spanned" 1 p_spanned) {p_basis_of : Fn} (c_basis_of : Callee P w K mg base j "basis_of" 1 p_basis_of) {p_times_in : Fn} (c_times_in : Callee P w K mg base j "times_in" 3 p_times_in) {qual : Str} {f : Addr} {cdv : Value} {A : Around} {outer : List Env} {s : Shared} {H : Hp} {E : XK} (hr : Room j (A.deeper (envOfC qual (defScope s_product_ideal) s.heap.objs.size f cdv))) :
    PSs (cxOf CX0 P w K mg base N_product_ideal qual (defScope s_product_ideal) f cdv A outer s H E).nox (defBody s_product_ideal) (tS K (d_product_ideal p_spanned p_basis_of p_times_in)) :=
    have nd := sc_product_ideal.nd
    (ss_one (s_ret (e_call c_spanned hr (a_cons (e_lc2 (own := [("u", 3), ("v", 4)]) (vs1 := [4]) nd (i_seq (e_call c_basis_of hr (a_cons (e_var 1) a_nil))) ci_seq ci_seq (blkOk_by (own := [("u", 3), ("v", 4)]) (N := N_product_ideal) (sc := defScope s_product_ideal) (by decide +kernel)) (by decide) (gin_nmV 3) (gin_nmV 4) (fun _ _ _ _ _ => (pg_name (i := 3) nd rfl (by first | exact Or.inl rfl | exact Or.inr rfl))) (fun _ _ _ _ _ => x_nil) (fun _ _ _ _ _ => (i_seq (e_call c_basis_of hr (a_cons (e_var 2) a_nil)))) (fun _ _ _ _ _ => (pg_name (i := 4) nd rfl (by first | exact Or.inl rfl | exact Or.inr rfl))) (fun _ _ _ _ _ => x_nil) (fun _ _ _ _ _ => (e_call c_times_in hr (a_cons (e_var 0) (a_cons (e_var 3) (a_cons (e_var 4) a_nil)))))) a_nil))))
theorem w_product_ideal {P : Program} {w : World} {K : Frg} {mg : Str → Option Value} {base : Heap} {j : Nat} (m : MG mg) {p_spanned : Fn} (c_spanned : Callee P w K mg base j "spanned" 1 p_spanned) {p_basis_of : Fn} (c_basis_of : Callee P w K mg base j "basis_of" 1 p_basis_of) {p_times_in : Fn} (c_times_in : Callee P w K mg base j "times_in" 3 p_times_in) {f : Addr} {fd : FuncData} (F : L2.Fun K "product_ideal" "product_ideal" s_product_ideal f fd) (hg : mg "product_ideal" = some (.ref f)) {ψ : Fn}
    (hψ : Den.Does N_product_ideal.length 3 (d_product_ideal p_spanned p_basis_of p_times_in) ψ) : Callee P w K mg base (j + 1) "product_ideal" 3 ψ :=
  ⟨⟨f, fd, ["kind", "one", "other"], fn_ok F sc_product_ideal (fun _ _ _ _ _ _ hr => b_product_ideal m c_spanned c_basis_of c_times_in hr) hψ, hg, F.kp, F.binds fun _ _ _ _ _ _ us hl => match us, hl with | [_, _, _], _ => rfl⟩⟩
/-! ### conjugate_ideal -/
def N_conjugate_ideal : List Str := ["kind", "ideal", "u"]
abbrev s_conjugate_ideal : Stmt := topS 18
theorem sc_conjugate_ideal : FnScope N_conjugate_ideal ["kind", "ideal"] (defScope s_conjugate_ideal) := ⟨rfl, rfl, rfl, by decide +kernel, rfl, by decide +kernel, by decide +kernel⟩
noncomputable def d_conjugate_ideal (p_spanned : Fn) (p_basis_of : Fn) (p_conjugate_in : Fn) : DenS :=
  (sRet (dCall 1 p_spanned (aCons (dLc [2] (itSeq (dCall 1 p_basis_of (aCons (cVar 1) aNil))) (gNm 2) tAll (dCall 2 p_conjugate_in (aCons (cVar 0) (aCons (cVar 2) aNil)))) aNil)))
theorem b_conjugate_ideal {P : Program} {w : World} {K : Frg} {mg : Str → Option Value} {base : Heap} {j : Nat} (m : MG mg) {p_spanned : Fn} (c_spanned : Callee P w K mg base j "spanned" 1 p_spanned) {p_basis_of : Fn} (c_basis_of : Callee P w K mg base j "basis_of" 1 p_basis_of) {p_conjugate_in : Fn} (c_conjugate_in : Callee P w K mg base j "conjugate_in" 2 p_conjugate_in) {qual : Str} {f : Addr} {cdv : Value} {A : Around} {outer : List Env} {s : Shared} {H : Hp} {E : XK} (hr : Room j (A.deeper (envOfC qual (defScope s_conjugate_ideal) s.heap.objs.size f cdv))) :
    PSs (cxOf CX0 P w K mg base N_conjugate_ideal qual (defScope s_conjugate_ideal) f cdv A outer s H E).nox (defBody s_conjugate_ideal) (tS K (d_conjugate_ideal p_spanned p_basis_of p_conjugate_in)) :=
    have nd := sc_conjugate_ideal.nd
    (ss_one (s_ret (e_call c_spanned hr (a_cons (e_lc (own := [("u", 2)]) nd (i_seq (e_call c_basis_of hr (a_cons (e_var 1) a_nil))) ci_seq (blkOk_by (own := [("u", 2)]) (N := N_conjugate_ideal) (sc := defScope s_conjugate_ideal) (by decide +kernel)) (gin_nmV 2) (fun _ _ _ _ _ => (pg_name (i := 2) nd rfl (by first | exact Or.inl rfl | exact Or.inr rfl))) (fun _ _ _ _ _ => x_nil) (fun _ _ _ _ _ => (e_call c_conjugate_in hr (a_cons (e_var 0) (a_cons (e_var 2) a_nil))))) a_nil))))
theorem w_conjugate_ideal {P : Program} {w : World} {K : Frg} {mg : Str → Option Value} {base : Heap} {j : Nat} (m : MG mg) {p_spanned : Fn} (c_spanned : Callee P w K mg base j "spanned" 1 p_spanned) {p_basis_of : Fn} (c_basis_of : Callee P w K mg base j "basis_of" 1 p_basis_of) {p_conjugate_in : Fn} (c_conjugate_in : Callee P w K mg base j "conjugate_in" 2 p_conjugate_in) {f : Addr} {fd : FuncData} (F : L2.Fun K "conjugate_ideal" "conjugate_ideal" s_conjugate_ideal f fd) (hg : mg "conjugate_ideal" = some (.ref f)) {ψ : Fn}
    (hψ : Den.Does N_conjugate_ideal.length 2 (d_conjugate_ideal p_spanned p_basis_of p_conjugate_in) ψ) : Callee P w K mg base (j + 1) "conjugate_ideal" 2 ψ :=
  ⟨⟨f, fd, ["kind", "ideal"], fn_ok F sc_conjugate_ideal (fun _ _ _ _ _ _ hr => b_conjugate_ideal m c_spanned c_basis_of c_conjugate_in hr) hψ, hg, F.kp, F.binds fun _ _ _ _ _ _ us hl => match us, hl with | [_, _], _ => rfl⟩⟩
/-! ### norm_of -/
def N_norm_of : List Str := ["ideal"]
abbrev s_norm_of : Stmt := topS 19
theorem sc_norm_of : FnScope N_norm_of ["ideal"] (defScope s_norm_of) := ⟨rfl, rfl, rfl, by decide +kernel, rfl, by decide +kernel, by decide +kernel⟩
noncomputable def d_norm_of : DenS :=
  (sRet (d2 f_mul (d2 f_mul (d2 f_ix (cVar 0) (cK (.int 0))) (d2 f_ix (cVar 0) (cK (.int 0)))) (d2 f_ix (cVar 0) (cK (.int 1)))))
theorem b_norm_of {P : Program} {w : World} {K : Frg} {mg : Str → Option Value} {base : Heap} {j : Nat} (m : MG mg) {qual : Str} {f : Addr} {cdv : Value} {A : Around} {outer : List Env} {s : Shared} {H : Hp} {E : XK} (hr : Room j (A.deeper (envOfC qual (defScope s_norm_of) s.heap.objs.size f cdv))) :
    PSs (cxOf CX0 P w K mg base N_norm_of qual (defScope s_norm_of) f cdv A outer s H E).nox (defBody s_norm_of) (tS K d_norm_of) :=
    have nd := sc_norm_of.nd
    (ss_one (s_ret (e_op o_mul s_mul (e_op o_mul s_mul (e_ix (e_var 0) e_int) (e_ix (e_var 0) e_int)) (e_ix (e_var 0) e_int))))
theorem w_norm_of {P : Program} {w : World} {K : Frg} {mg : Str → Option Value} {base : Heap} {j : Nat} (m : MG mg) {f : Addr} {fd : FuncData} (F : L2.Fun K "norm_of" "norm_of" s_norm_of f fd) (hg : mg "norm_of" = some (.ref f)) {ψ : Fn}
    (hψ : Den.Does N_norm_of.length 1 d_norm_of ψ) : Callee P w K mg base (j + 1) "norm_of" 1 ψ :=
  ⟨⟨f, fd, ["ideal"], fn_ok F sc_norm_of (fun _ _ _ _ _ _ hr => b_norm_of m hr) hψ, hg, F.kp, F.binds fun _ _ _ _ _ _ us hl => match us, hl with | [_], _ => rfl⟩⟩
/-! ### quotient_ideal -/
def N_quotient_ideal : List Str := ["kind", "one", "other", "whole", "norm"]
abbrev s_quotient_ideal : Stmt := topS 20
theorem sc_quotient_ideal : FnScope N_quotient_ideal ["kind", "one", "other"] (defScope s_quotient_ideal) := ⟨rfl, rfl, rfl, by decide +kernel, rfl, by decide +kernel, by decide +kernel⟩
noncomputable def d_quotient_ideal (p_product_ideal : Fn) (p_conjugate_ideal : Fn) (p_norm_of : Fn) : DenS :=
  (sSeq (sAsg (dCall 3 p_product_ideal (aCons (cVar 0) (aCons (cVar 1) (aCons (dCall 2 p_conjugate_ideal (aCons (cVar 0) (aCons (cVar 2) aNil))) aNil)))) (gNm 3))
  (sSeq (sAsg (dCall 1 p_norm_of (aCons (cVar 2) aNil)) (gNm 4))
  (sRet (dIf (tB1 (d2 f_eq (d2 f_mod (d2 f_ix (cVar 3) (cK (.int 0))) (cVar 4)) (cK (.int 0)))) (d2 f_add (dTup (aCons (d2 f_fdiv (d2 f_ix (cVar 3) (cK (.int 0))) (cVar 4)) aNil)) (dSl (cVar 3) (oSo (cK (.int 1))) oNo)) (cK .non)))))
theorem b_quotient_ideal {P : Program} {w : World} {K : Frg} {mg : Str → Option Value} {base : Heap} {j : Nat} (m : MG mg) {p_product_ideal : Fn} (c_product_ideal : Callee P w K mg base j "product_ideal" 3 p_product_ideal) {p_conjugate_ideal : Fn} (c_conjugate_ideal : Callee P w K mg base j "conjugate_ideal" 2 p_conjugate_ideal) {p_norm_of : Fn} (c_norm_of : Callee P w K mg base j "norm_of" 1 p_norm_of) {qual : Str} {f : Addr} {cdv : Value} {A : Around} {outer : List Env} {s : Shared} {H : Hp} {E : XK} (hr : Room j (A.deeper (envOfC qual (defScope s_quotient_ideal) s.heap.objs.size f cdv))) :
    PSs (cxOf CX0 P w K mg base N_quotient_ideal qual (defScope s_quotient_ideal) f cdv A outer s H E).nox (defBody s_quotient_ideal) (tS K (d_quotient_ideal p_product_ideal p_conjugate_ideal p_norm_of)) :=
    have nd := sc_quotient_ideal.nd
    (ss_cons (s_set 3 nd (e_call c_product_ideal hr (a_cons (e_var 0) (a_cons (e_var 1) (a_cons (e_call c_conjugate_ideal hr (a_cons (e_var 0) (a_cons (e_var 2) a_nil))) a_nil)))))
      (ss_cons (s_set 4 nd (e_call c_norm_of hr (a_cons (e_var 2) a_nil)))
      (ss_one (s_ret (e_if (x_cmp (o_eq hr.units) s_eq (e_op o_mod s_mod (e_ix (e_var 3) e_int) (e_var 4)) e_int (nomark _)) (e_op o_add s_add (e_tup (a_cons (e_op o_fdiv s_fdiv (e_ix (e_var 3) e_int) (e_var 4)) a_nil)) (e_sl (e_var 3) (o_so e_int) o_no)) e_non)))))
theorem w_quotient_ideal {P : Program} {w : World} {K : Frg} {mg : Str → Option Value} {base : Heap} {j : Nat} (m : MG mg) {p_product_ideal : Fn} (c_product_ideal : Callee P w K mg base j "product_ideal" 3 p_product_ideal) {p_conjugate_ideal : Fn} (c_conjugate_ideal : Callee P w K mg base j "conjugate_ideal" 2 p_conjugate_ideal) {p_norm_of : Fn} (c_norm_of : Callee P w K mg base j "norm_of" 1 p_norm_of) {f : Addr} {fd : FuncData} (F : L2.Fun K "quotient_ideal" "quotient_ideal" s_quotient_ideal f fd) (hg : mg "quotient_ideal" = some (.ref f)) {ψ : Fn}
    (hψ : Den.Does N_quotient_ideal.length 3 (d_quotient_ideal p_product_ideal p_conjugate_ideal p_norm_of) ψ) : Callee P w K mg base (j + 1) "quotient_ideal" 3 ψ :=
  ⟨⟨f, fd, ["kind", "one", "other"], fn_ok F sc_quotient_ideal (fun _ _ _ _ _ _ hr => b_quotient_ideal m c_product_ideal c_conjugate_ideal c_norm_of hr) hψ, hg, F.kp, F.binds fun _ _ _ _ _ _ us hl => match us, hl with | [_, _, _], _ => rfl⟩⟩
/-! ### _law_start -/
def N__law_start : List Str := ["script", "cell"]
abbrev s__law_start : Stmt := topS 22
theorem sc__law_start : FnScope N__law_start ["script"] (defScope s__law_start) := ⟨rfl, rfl, rfl, by decide +kernel, rfl, by decide +kernel, by decide +kernel⟩
noncomputable def d__law_start : DenS :=
  (sRet (dLoc (aCons (dLc [1] (itSeq (dSl (cVar 0) oNo (oSo (cK (.int 63))))) (gNm 1) tAll (dN f_int (aCons (cVar 1) aNil))) (aCons (cK (.int 0)) (aCons (cK (.int 0)) (aCons (cK (.int 0)) (aCons (cK (.int 20)) aNil)))))))
theorem b__law_start {P : Program} {w : World} {K : Frg} {mg : Str → Option Value} {base : Heap} {j : Nat} (m : MG mg) {qual : Str} {f : Addr} {cdv : Value} {A : Around} {outer : List Env} {s : Shared} {H : Hp} {E : XK} (hr : Room j (A.deeper (envOfC qual (defScope s__law_start) s.heap.objs.size f cdv))) :
    PSs (cxOf CX0 P w K mg base N__law_start qual (defScope s__law_start) f cdv A outer s H E).nox (defBody s__law_start) (tS K d__law_start) :=
    have nd := sc__law_start.nd
    (ss_one (s_ret (e_loc (a_cons (e_lc (own := [("cell", 1)]) nd (i_seq (e_sl (e_var 0) o_no (o_so e_int))) ci_seq (blkOk_by (own := [("cell", 1)]) (N := N__law_start) (sc := defScope s__law_start) (by decide +kernel)) (gin_nmV 1) (fun _ _ _ _ _ => (pg_name (i := 1) nd rfl (by first | exact Or.inl rfl | exact Or.inr rfl))) (fun _ _ _ _ _ => x_nil) (fun _ _ _ _ _ => (e_callTy call_int1 s_int m.int (a_cons (e_var 1) a_nil)))) (a_cons e_int (a_cons e_int (a_cons e_int (a_cons e_int a_nil))))))))
theorem w__law_start {P : Program} {w : World} {K : Frg} {mg : Str → Option Value} {base : Heap} {j : Nat} (m : MG mg) {f : Addr} {fd : FuncData} (F : L2.Fun K "_law_start" "_law_start" s__law_start f fd) (hg : mg "_law_start" = some (.ref f)) {ψ : Fn}
    (hψ : Den.Does N__law_start.length 1 d__law_start ψ) : Callee P w K mg base (j + 1) "_law_start" 1 ψ :=
  ⟨⟨f, fd, ["script"], fn_ok F sc__law_start (fun _ _ _ _ _ _ hr => b__law_start m hr) hψ, hg, F.kp, F.binds fun _ _ _ _ _ _ us hl => match us, hl with | [_], _ => rfl⟩⟩
/-! ### _law_fill -/
def N__law_fill : List Str := ["c", "number"]
abbrev s__law_fill : Stmt := topS 23
theorem sc__law_fill : FnScope N__law_fill ["c"] (defScope s__law_fill) := ⟨rfl, rfl, rfl, by decide +kernel, rfl, by decide +kernel, by decide +kernel⟩
noncomputable def d__law_fill : DenS :=
  (sSeq (sAsg (d2 f_add (d2 f_ix (cVar 0) (cK (.int 3))) (cK (.int 1))) (gSb (cVar 0) (cK (.int 3))))
  (sSeq (sAsg (d2 f_add (d2 f_mul (d2 f_ix (cVar 0) (cK (.int 3))) (cK (.int 69621))) (cK (.int 12345))) (gNm 1))
  (sSeq (sIf (tB1 (d2 f_lt (d2 f_ix (cVar 0) (cK (.int 1))) (dN f_len (aCons (d2 f_ix (cVar 0) (cK (.int 0))) aNil)))) (sSeq (sAsg (d2 f_ix (d2 f_ix (cVar 0) (cK (.int 0))) (d2 f_ix (cVar 0) (cK (.int 1)))) (gNm 1))
  (sSeq (sAsg (d2 f_add (d2 f_ix (cVar 0) (cK (.int 1))) (cK (.int 1))) (gSb (cVar 0) (cK (.int 1))))
  (sSeq (sIf (tB1 (d2 f_lt (cVar 1) (cK (.int 0)))) (sAsg (d2 f_sub (d2 f_sub (cK (.int 0)) (cK (.int 1))) (cVar 1)) (gNm 1)) sNil)
  (sIf (tB1 (d2 f_ge (cVar 1) (d2 f_pow (cK (.int 10)) (cK (.int 18))))) (sRet (cVar 1)) sNil)))) sNil)
  (sSeq (sIf (tAn (tTru (d2 f_ix (cVar 0) (cK (.int 0)))) (tB1 (d2 f_ge (d2 f_ix (cVar 0) (cK (.int 1))) (dN f_len (aCons (d2 f_ix (cVar 0) (cK (.int 0))) aNil))))) (sAsg (d2 f_add (cVar 1) (d2 f_mod (dN f_int (aCons (d2 f_ix (d2 f_ix (cVar 0) (cK (.int 0))) (d1 f_neg (cK (.int 1)))) aNil)) (cK (.int 1000003)))) (gNm 1)) sNil)
  (sSeq (sAsg (d2 f_mod (dN f_int (aCons (d2 f_add (d2 f_mul (cVar 1) (cK (.int 48271))) (d2 f_mul (d2 f_ix (cVar 0) (cK (.int 3))) (cK (.int 69621)))) aNil)) (cK (.int 2147483647))) (gNm 1))
  (sRet (d2 f_add (d2 f_fdiv (dN f_int (aCons (d2 f_add (d2 f_add (d2 f_mul (cVar 1) (cVar 1)) (d2 f_mul (d2 f_ix (cVar 0) (cK (.int 3))) (cK (.int 7919)))) (cK (.int 11))) aNil)) (cK (.int 64))) (cK (.int 36028797018963968)))))))))
theorem b__law_fill {P : Program} {w : World} {K : Frg} {mg : Str → Option Value} {base : Heap} {j : Nat} (m : MG mg) {qual : Str} {f : Addr} {cdv : Value} {A : Around} {outer : List Env} {s : Shared} {H : Hp} {E : XK} (hr : Room j (A.deeper (envOfC qual (defScope s__law_fill) s.heap.objs.size f cdv))) :
    PSs (cxOf CX0 P w K mg base N__law_fill qual (defScope s__law_fill) f cdv A outer s H E).nox (defBody s__law_fill) (tS K d__law_fill) :=
    have nd := sc__law_fill.nd
    (ss_cons (s_asg (e_op o_add s_add (e_ix (e_var 0) e_int) e_int) (g_sb (e_var 0) e_int))
      (ss_cons (s_set 1 nd (e_op o_add s_add (e_op o_mul s_mul (e_ix (e_var 0) e_int) e_int) e_int))
      (ss_cons (s_if (x_cmp (o_lt hr.units0) s_lt (e_ix (e_var 0) e_int) (e_callB call_len s_len m.len (a_cons (e_ix (e_var 0) e_int) a_nil)) (nomark _)) (ss_cons (s_set 1 nd (e_ix (e_ix (e_var 0) e_int) (e_ix (e_var 0) e_int)))
      (ss_cons (s_asg (e_op o_add s_add (e_ix (e_var 0) e_int) e_int) (g_sb (e_var 0) e_int))
      (ss_cons (s_if (x_cmp (o_lt hr.units0) s_lt (e_var 1) e_int (nomark _)) (ss_one (s_set 1 nd (e_op o_sub s_sub (e_op o_sub s_sub e_int e_int) (e_var 1)))) ss_nil)
      (ss_one (s_if (x_cmp op_ge s_ge (e_var 1) (e_op op_pow s_pow e_int e_int) (nomark _)) (ss_one (s_ret (e_var 1))) ss_nil))))) ss_nil)
      (ss_cons (s_if (x_an (x_tru (e_ix (e_var 0) e_int)) (x_an1 (x_cmp op_ge s_ge (e_ix (e_var 0) e_int) (e_callB call_len s_len m.len (a_cons (e_ix (e_var 0) e_int) a_nil)) (nomark _)))).pt (ss_one (s_set 1 nd (e_op o_add s_add (e_var 1) (e_op o_mod s_mod (e_callTy call_int1 s_int m.int (a_cons (e_ix (e_ix (e_var 0) e_int) (e_un un_neg s_neg e_int)) a_nil)) e_int)))) ss_nil)
      (ss_cons (s_set 1 nd (e_op o_mod s_mod (e_callTy call_int1 s_int m.int (a_cons (e_op o_add s_add (e_op o_mul s_mul (e_var 1) e_int) (e_op o_mul s_mul (e_ix (e_var 0) e_int) e_int)) a_nil)) e_int))
      (ss_one (s_ret (e_op o_add s_add (e_op o_fdiv s_fdiv (e_callTy call_int1 s_int m.int (a_cons (e_op o_add s_add (e_op o_add s_add (e_op o_mul s_mul (e_var 1) (e_var 1)) (e_op o_mul s_mul (e_ix (e_var 0) e_int) e_int)) e_int) a_nil)) e_int) e_int))))))))
theorem w__law_fill {P : Program} {w : World} {K : Frg} {mg : Str → Option Value} {base : Heap} {j : Nat} (m : MG mg) {f : Addr} {fd : FuncData} (F : L2.Fun K "_law_fill" "_law_fill" s__law_fill f fd) (hg : mg "_law_fill" = some (.ref f)) {ψ : Fn}
    (hψ : Den.Does N__law_fill.length 1 d__law_fill ψ) : Callee P w K mg base (j + 1) "_law_fill" 1 ψ :=
  ⟨⟨f, fd, ["c"], fn_ok F sc__law_fill (fun _ _ _ _ _ _ hr => b__law_fill m hr) hψ, hg, F.kp, F.binds fun _ _ _ _ _ _ us hl => match us, hl with | [_], _ => rfl⟩⟩
/-! ### _law_take -/
def N__law_take : List Str := ["c", "many", "digit"]
abbrev s__law_take : Stmt := topS 24
theorem sc__law_take : FnScope N__law_take ["c", "many"] (defScope s__law_take) := ⟨rfl, rfl, rfl, by decide +kernel, rfl, by decide +kernel, by decide +kernel⟩
noncomputable def d__law_take (p__law_fill : Fn) : DenS :=
  (sSeq (sIf (tB1 (d2 f_lt (d2 f_ix (cVar 0) (cK (.int 2))) (cVar 1))) (sAsg (dCall 1 p__law_fill (aCons (cVar 0) aNil)) (gSb (cVar 0) (cK (.int 2)))) sNil)
  (sSeq (sAsg (d2 f_mod (dN f_int (aCons (d2 f_ix (cVar 0) (cK (.int 2))) aNil)) (cVar 1)) (gNm 2))
  (sSeq (sAsg (d2 f_fdiv (d2 f_ix (cVar 0) (cK (.int 2))) (cVar 1)) (gSb (cVar 0) (cK (.int 2))))
  (sRet (cVar 2)))))
theorem b__law_take {P : Program} {w : World} {K : Frg} {mg : Str → Option Value} {base : Heap} {j : Nat} (m : MG mg) {p__law_fill : Fn} (c__law_fill : Callee P w K mg base j "_law_fill" 1 p__law_fill) {qual : Str} {f : Addr} {cdv : Value} {A : Around} {outer : List Env} {s : Shared} {H : Hp} {E : XK} (hr : Room j (A.deeper (envOfC qual (defScope s__law_take) s.heap.objs.size f cdv))) :
    PSs (cxOf CX0 P w K mg base N__law_take qual (defScope s__law_take) f cdv A outer s H E).nox (defBody s__law_take) (tS K (d__law_take p__law_fill)) :=
    have nd := sc__law_take.nd
    (ss_cons (s_if (x_cmp (o_lt hr.units0) s_lt (e_ix (e_var 0) e_int) (e_var 1) (nomark _)) (ss_one (s_asg (e_call c__law_fill hr (a_cons (e_var 0) a_nil)) (g_sb (e_var 0) e_int))) ss_nil)
      (ss_cons (s_set 2 nd (e_op o_mod s_mod (e_callTy call_int1 s_int m.int (a_cons (e_ix (e_var 0) e_int) a_nil)) (e_var 1)))
      (ss_cons (s_asg (e_op o_fdiv s_fdiv (e_ix (e_var 0) e_int) (e_var 1)) (g_sb (e_var 0) e_int))
      (ss_one (s_ret (e_var 2))))))
theorem w__law_take {P : Program} {w : World} {K : Frg} {mg : Str → Option Value} {base : Heap} {j : Nat} (m : MG mg) {p__law_fill : Fn} (c__law_fill : Callee P w K mg base j "_law_fill" 1 p__law_fill) {f : Addr} {fd : FuncData} (F : L2.Fun K "_law_take" "_law_take" s__law_take f fd) (hg : mg "_law_take" = some (.ref f)) {ψ : Fn}
    (hψ : Den.Does N__law_take.length 2 (d__law_take p__law_fill) ψ) : Callee P w K mg base (j + 1) "_law_take" 2 ψ :=
  ⟨⟨f, fd, ["c", "many"], fn_ok F sc__law_take (fun _ _ _ _ _ _ hr => b__law_take m c__law_fill hr) hψ, hg, F.kp, F.binds fun _ _ _ _ _ _ us hl => match us, hl with | [_, _], _ => rfl⟩⟩
/-! ### _law_is_int -/
def N__law_is_int : List Str := ["value"]
abbrev s__law_is_int : Stmt := topS 25
theorem sc__law_is_int : FnScope N__law_is_int ["value"] (defScope s__law_is_int) := ⟨rfl, rfl, rfl, by decide +kernel, rfl, by decide +kernel, by decide +kernel⟩
noncomputable def d__law_is_int : DenS :=
  (sRet (dAn (d1 (f_isi .int) (cVar 0)) (dNo (d1 (f_isi .bool) (cVar 0)))))
theorem b__law_is_int {P : Program} {w : World} {K : Frg} {mg : Str → Option Value} {base : Heap} {j : Nat} (m : MG mg) {qual : Str} {f : Addr} {cdv : Value} {A : Around} {outer : List Env} {s : Shared} {H : Hp} {E : XK} (hr : Room j (A.deeper (envOfC qual (defScope s__law_is_int) s.heap.objs.size f cdv))) :
    PSs (cxOf CX0 P w K mg base N__law_is_int qual (defScope s__law_is_int) f cdv A outer s H E).nox (defBody s__law_is_int) (tS K d__law_is_int) :=
    have nd := sc__law_is_int.nd
    (ss_one (s_ret (e_an (e_isi .int (e_var 0) m.isinstance m.int) (e_one (e_no (e_isi .bool (e_var 0) m.isinstance m.bool))))))
theorem w__law_is_int {P : Program} {w : World} {K : Frg} {mg : Str → Option Value} {base : Heap} {j : Nat} (m : MG mg) {f : Addr} {fd : FuncData} (F : L2.Fun K "_law_is_int" "_law_is_int" s__law_is_int f fd) (hg : mg "_law_is_int" = some (.ref f)) {ψ : Fn}
    (hψ : Den.Does N__law_is_int.length 1 d__law_is_int ψ) : Callee P w K mg base (j + 1) "_law_is_int" 1 ψ :=
  ⟨⟨f, fd, ["value"], fn_ok F sc__law_is_int (fun _ _ _ _ _ _ hr => b__law_is_int m hr) hψ, hg, F.kp, F.binds fun _ _ _ _ _ _ us hl => match us, hl with | [_], _ => rfl⟩⟩
/-! ### _law_alike -/
def N__law_alike : List Str := ["value", "due", "k"]
abbrev s__law_alike : Stmt := topS 26
theorem sc__law_alike : FnScope N__law_alike ["value", "due"] (defScope s__law_alike) := ⟨rfl, rfl, rfl, by decide +kernel, rfl, by decide +kernel, by decide +kernel⟩
noncomputable def d__law_alike (p__law_alike : Fn) : DenS :=
  (sSeq (sIf (tTru (d1 (f_isi .tuple) (cVar 1))) (sRet (dAn (d1 (f_isi .tuple) (cVar 0)) (dAn (d2 f_eq (dN f_len (aCons (cVar 0) aNil)) (dN f_len (aCons (cVar 1) aNil))) (dN f_all (aCons (dLc [2] (itRg1 (aCons (dN f_len (aCons (cVar 1) aNil)) aNil)) (gNm 2) tAll (dCall 2 p__law_alike (aCons (d2 f_ix (cVar 0) (cVar 2)) (aCons (d2 f_ix (cVar 1) (cVar 2)) aNil)))) aNil))))) sNil)
  (sSeq (sIf (tB1 (d2 f_is (cVar 1) (cK .non))) (sRet (d2 f_is (cVar 0) (cK .non))) sNil)
  (sSeq (sIf (tOr' (tTru (d1 (f_isi .bool) (cVar 0))) (tB1 (d2 f_ne (d1 (f_isi .str) (cVar 0)) (d1 (f_isi .str) (cVar 1))))) (sRet (cK (.bl false))) sNil)
  (sRet (dAn (d1 (f_isi2 .int .str) (cVar 0)) (d2 f_eq (cVar 0) (cVar 1)))))))
theorem b__law_alike {P : Program} {w : World} {K : Frg} {mg : Str → Option Value} {base : Heap} {j : Nat} (m : MG mg) {p__law_alike : Fn} (c__law_alike : Callee P w K mg base j "_law_alike" 2 p__law_alike) {qual : Str} {f : Addr} {cdv : Value} {A : Around} {outer : List Env} {s : Shared} {H : Hp} {E : XK} (hr : Room j (A.deeper (envOfC qual (defScope s__law_alike) s.heap.objs.size f cdv))) :
    PSs (cxOf CX0 P w K mg base N__law_alike qual (defScope s__law_alike) f cdv A outer s H E).nox (defBody s__law_alike) (tS K (d__law_alike p__law_alike)) :=
    have nd := sc__law_alike.nd
    (ss_cons (s_if (x_tru (e_isi .tuple (e_var 1) m.isinstance m.tuple)) (ss_one (s_ret (e_an (e_isi .tuple (e_var 0) m.isinstance m.tuple) (e_an (e_cmp (o_eq hr.units) s_eq (e_callB call_len s_len m.len (a_cons (e_var 0) a_nil)) (e_callB call_len s_len m.len (a_cons (e_var 1) a_nil)) (nomark _)) (e_one (e_callB (cr_all (by rfl)) s_all m.all (a_cons (e_lc (own := [("k", 2)]) nd (i_rg1 m.range (a_cons (e_callB call_len s_len m.len (a_cons (e_var 1) a_nil)) a_nil)) ci_rg1 (blkOk_by (own := [("k", 2)]) (N := N__law_alike) (sc := defScope s__law_alike) (by decide +kernel)) (gin_nmV 2) (fun _ _ _ _ _ => (pg_name (i := 2) nd rfl (by first | exact Or.inl rfl | exact Or.inr rfl))) (fun _ _ _ _ _ => x_nil) (fun _ _ _ _ _ => (e_call c__law_alike hr (a_cons (e_ix (e_var 0) (e_var 2)) (a_cons (e_ix (e_var 1) (e_var 2)) a_nil))))) a_nil))))))) ss_nil)
      (ss_cons (s_if (x_cmp o_is s_is (e_var 1) e_non (nomark _)) (ss_one (s_ret (e_cmp o_is s_is (e_var 0) e_non (nomark _)))) ss_nil)
      (ss_cons (s_if (x_or (x_tru (e_isi .bool (e_var 0) m.isinstance m.bool)) (x_or1 (x_cmp (o_ne hr.units) s_ne (e_isi .str (e_var 0) m.isinstance m.str) (e_isi .str (e_var 1) m.isinstance m.str) (nomark _)))).pt (ss_one (s_ret e_bl)) ss_nil)
      (ss_one (s_ret (e_an (e_isi2 .int .str (e_var 0) m.isinstance m.int m.str) (e_one (e_cmp (o_eq hr.units) s_eq (e_var 0) (e_var 1) (nomark _)))))))))
theorem w__law_alike {P : Program} {w : World} {K : Frg} {mg : Str → Option Value} {base : Heap} {j : Nat} (m : MG mg) {p__law_alike : Fn} (c__law_alike : Callee P w K mg base j "_law_alike" 2 p__law_alike) {f : Addr} {fd : FuncData} (F : L2.Fun K "_law_alike" "_law_alike" s__law_alike f fd) (hg : mg "_law_alike" = some (.ref f)) {ψ : Fn}
    (hψ : Den.Does N__law_alike.length 2 (d__law_alike p__law_alike) ψ) : Callee P w K mg base (j + 1) "_law_alike" 2 ψ :=
  ⟨⟨f, fd, ["value", "due"], fn_ok F sc__law_alike (fun _ _ _ _ _ _ hr => b__law_alike m c__law_alike hr) hψ, hg, F.kp, F.binds fun _ _ _ _ _ _ us hl => match us, hl with | [_, _], _ => rfl⟩⟩
/-! ### _law_spoilt -/
def N__law_spoilt : List Str := ["c", "value", "k"]
abbrev s__law_spoilt : Stmt := topS 27
theorem sc__law_spoilt : FnScope N__law_spoilt ["c", "value"] (defScope s__law_spoilt) := ⟨rfl, rfl, rfl, by decide +kernel, rfl, by decide +kernel, by decide +kernel⟩
noncomputable def d__law_spoilt (p__law_take : Fn) (p__law_spoilt : Fn) : DenS :=
  (sSeq (sIf (tTru (d1 (f_isi .str) (cVar 1))) (sRet (d2 f_ix (dLst (aCons (cK (.str (Str.ofString ""))) (aCons (cK (.str (Str.ofString "joined"))) (aCons (cK (.str (Str.ofString "apart"))) (aCons (cK (.str (Str.ofString "prime"))) (aCons (cK (.str (Str.ofString "factors"))) (aCons (cK (.str (Str.ofString "order"))) (aCons (cK (.str (Str.ofString "none"))) (aCons (cK (.str (Str.ofString "square"))) (aCons (cK (.str (Str.ofString "parts"))) (aCons (cK (.str (Str.ofString "same"))) (aCons (cK (.str (Str.ofString "norm"))) aNil)))))))))))) (dCall 2 p__law_take (aCons (cVar 0) (aCons (cK (.int 11)) aNil))))) sNil)
  (sSeq (sIf (tNo (tTru (d1 (f_isi .tuple) (cVar 1)))) (sRet (d2 f_ix (dLst (aCons (cK (.int 0)) (aCons (cK (.int 1)) (aCons (cK (.int 2)) (aCons (d1 f_neg (cK (.int 1))) (aCons (cK (.bl true)) (aCons (cK .non) (aCons (cK (.int 3)) aNil)))))))) (dCall 2 p__law_take (aCons (cVar 0) (aCons (cK (.int 7)) aNil))))) sNil)
  (sSeq (sIf (tOr' (tNo (tTru (cVar 1))) (tB1 (d2 f_eq (dCall 2 p__law_take (aCons (cVar 0) (aCons (cK (.int 5)) aNil))) (cK (.int 0))))) (sRet (d2 f_ix (dLst (aCons (dSl (cVar 1) (oSo (cK (.int 1))) oNo) (aCons (dSl (cVar 1) oNo (oSo (d1 f_neg (cK (.int 1))))) (aCons (d2 f_add (cVar 1) (dSl (cVar 1) (oSo (d1 f_neg (cK (.int 1)))) oNo)) (aCons (d2 f_rev (cVar 1) (d1 f_neg (cK (.int 1)))) (aCons (dN f_list (aCons (cVar 1) aNil)) (aCons (d2 f_add (cVar 1) (dTup (aCons (cK (.int 0)) aNil))) (aCons (dTup aNil) (aCons (dTup (aCons (cK (.int 1)) (aCons (cK (.int 0)) aNil))) aNil))))))))) (dCall 2 p__law_take (aCons (cVar 0) (aCons (cK (.int 8)) aNil))))) sNil)
  (sSeq (sAsg (dCall 2 p__law_take (aCons (cVar 0) (aCons (dN f_len (aCons (cVar 1) aNil)) aNil))) (gNm 2))
  (sRet (d2 f_add (d2 f_add (dSl (cVar 1) oNo (oSo (cVar 2))) (dTup (aCons (dCall 2 p__law_spoilt (aCons (cVar 0) (aCons (d2 f_ix (cVar 1) (cVar 2)) aNil))) aNil))) (dSl (cVar 1) (oSo (d2 f_add (cVar 2) (cK (.int 1)))) oNo)))))))
theorem b__law_spoilt {P : Program} {w : World} {K : Frg} {mg : Str → Option Value} {base : Heap} {j : Nat} (m : MG mg) {p__law_take : Fn} (c__law_take : Callee P w K mg base j "_law_take" 2 p__law_take) {p__law_spoilt : Fn} (c__law_spoilt : Callee P w K mg base j "_law_spoilt" 2 p__law_spoilt) {qual : Str} {f : Addr} {cdv : Value} {A : Around} {outer : List Env} {s : Shared} {H : Hp} {E : XK} (hr : Room j (A.deeper (envOfC qual (defScope s__law_spoilt) s.heap.objs.size f cdv))) :
    PSs (cxOf CX0 P w K mg base N__law_spoilt qual (defScope s__law_spoilt) f cdv A outer s H E).nox (defBody s__law_spoilt) (tS K (d__law_spoilt p__law_take p__law_spoilt)) :=
    have nd := sc__law_spoilt.nd
    (ss_cons (s_if (x_tru (e_isi .str (e_var 1) m.isinstance m.str)) (ss_one (s_ret (e_ix (e_lst (a_cons e_str (a_cons e_str (a_cons e_str (a_cons e_str (a_cons e_str (a_cons e_str (a_cons e_str (a_cons e_str (a_cons e_str (a_cons e_str (a_cons e_str a_nil)))))))))))) (e_call c__law_take hr (a_cons (e_var 0) (a_cons e_int a_nil)))))) ss_nil)
      (ss_cons (s_if (x_no (x_tru (e_isi .tuple (e_var 1) m.isinstance m.tuple))) (ss_one (s_ret (e_ix (e_lst (a_cons e_int (a_cons e_int (a_cons e_int (a_cons (e_un un_neg s_neg e_int) (a_cons e_bl (a_cons e_non (a_cons e_int a_nil)))))))) (e_call c__law_take hr (a_cons (e_var 0) (a_cons e_int a_nil)))))) ss_nil)
      (ss_cons (s_if (x_or (x_no (x_tru (e_var 1))) (x_or1 (x_cmp (o_eq hr.units) s_eq (e_call c__law_take hr (a_cons (e_var 0) (a_cons e_int a_nil))) e_int (nomark _)))).pt (ss_one (s_ret (e_ix (e_lst (a_cons (e_sl (e_var 1) (o_so e_int) o_no) (a_cons (e_sl (e_var 1) o_no (o_so (e_un un_neg s_neg e_int))) (a_cons (e_op o_add s_add (e_var 1) (e_sl (e_var 1) (o_so (e_un un_neg s_neg e_int)) o_no)) (a_cons (e_rev (e_var 1) (e_un un_neg s_neg e_int)) (a_cons (e_callTy call_list_of s_list m.list (a_cons (e_var 1) a_nil)) (a_cons (e_op o_add s_add (e_var 1) (e_tup (a_cons e_int a_nil))) (a_cons (e_tup a_nil) (a_cons (e_tup (a_cons e_int (a_cons e_int a_nil))) a_nil))))))))) (e_call c__law_take hr (a_cons (e_var 0) (a_cons e_int a_nil)))))) ss_nil)
      (ss_cons (s_set 2 nd (e_call c__law_take hr (a_cons (e_var 0) (a_cons (e_callB call_len s_len m.len (a_cons (e_var 1) a_nil)) a_nil))))
      (ss_one (s_ret (e_op o_add s_add (e_op o_add s_add (e_sl (e_var 1) o_no (o_so (e_var 2))) (e_tup (a_cons (e_call c__law_spoilt hr (a_cons (e_var 0) (a_cons (e_ix (e_var 1) (e_var 2)) a_nil))) a_nil))) (e_sl (e_var 1) (o_so (e_op o_add s_add (e_var 2) e_int)) o_no))))))))
theorem w__law_spoilt {P : Program} {w : World} {K : Frg} {mg : Str → Option Value} {base : Heap} {j : Nat} (m : MG mg) {p__law_take : Fn} (c__law_take : Callee P w K mg base j "_law_take" 2 p__law_take) {p__law_spoilt : Fn} (c__law_spoilt : Callee P w K mg base j "_law_spoilt" 2 p__law_spoilt) {f : Addr} {fd : FuncData} (F : L2.Fun K "_law_spoilt" "_law_spoilt" s__law_spoilt f fd) (hg : mg "_law_spoilt" = some (.ref f)) {ψ : Fn}
    (hψ : Den.Does N__law_spoilt.length 2 (d__law_spoilt p__law_take p__law_spoilt) ψ) : Callee P w K mg base (j + 1) "_law_spoilt" 2 ψ :=
  ⟨⟨f, fd, ["c", "value"], fn_ok F sc__law_spoilt (fun _ _ _ _ _ _ hr => b__law_spoilt m c__law_take c__law_spoilt hr) hψ, hg, F.kp, F.binds fun _ _ _ _ _ _ us hl => match us, hl with | [_, _], _ => rfl⟩⟩
/-! ### _law_bent -/
def N__law_bent : List Str := ["c", "value", "turn", "k"]
abbrev s__law_bent : Stmt := topS 28
theorem sc__law_bent : FnScope N__law_bent ["c", "value", "turn"] (defScope s__law_bent) := ⟨rfl, rfl, rfl, by decide +kernel, rfl, by decide +kernel, by decide +kernel⟩
noncomputable def d__law_bent (p__law_take : Fn) (p__law_spoilt : Fn) : DenS :=
  (sSeq (sFor (itRg1 (aCons (d2 f_mul (dN f_int (aCons (d2 f_gt (cVar 2) (cK (.int 0))) aNil)) (d2 f_add (cK (.int 1)) (dCall 2 p__law_take (aCons (cVar 0) (aCons (cK (.int 2)) aNil))))) aNil)) (gNm 3) (sAsg (dCall 2 p__law_spoilt (aCons (cVar 0) (aCons (cVar 1) aNil))) (gNm 1)))
  (sRet (cVar 1)))
theorem b__law_bent {P : Program} {w : World} {K : Frg} {mg : Str → Option Value} {base : Heap} {j : Nat} (m : MG mg) {p__law_take : Fn} (c__law_take : Callee P w K mg base j "_law_take" 2 p__law_take) {p__law_spoilt : Fn} (c__law_spoilt : Callee P w K mg base j "_law_spoilt" 2 p__law_spoilt) {qual : Str} {f : Addr} {cdv : Value} {A : Around} {outer : List Env} {s : Shared} {H : Hp} {E : XK} (hr : Room j (A.deeper (envOfC qual (defScope s__law_bent) s.heap.objs.size f cdv))) :
    PSs (cxOf CX0 P w K mg base N__law_bent qual (defScope s__law_bent) f cdv A outer s H E).nox (defBody s__law_bent) (tS K (d__law_bent p__law_take p__law_spoilt)) :=
    have nd := sc__law_bent.nd
    (ss_cons (s_for (i_rg1 m.range (a_cons (e_op o_mul s_mul (e_callTy call_int1 s_int m.int (a_cons (e_cmp op_gt s_gt (e_var 2) e_int (nomark _)) a_nil)) (e_op o_add s_add e_int (e_call c__law_take hr (a_cons (e_var 0) (a_cons e_int a_nil))))) a_nil)) (g_nm 3 nd) (ss_one (s_set 1 nd (e_call c__law_spoilt hr (a_cons (e_var 0) (a_cons (e_var 1) a_nil))))) ci_rg1)
      (ss_one (s_ret (e_var 1))))
theorem w__law_bent {P : Program} {w : World} {K : Frg} {mg : Str → Option Value} {base : Heap} {j : Nat} (m : MG mg) {p__law_take : Fn} (c__law_take : Callee P w K mg base j "_law_take" 2 p__law_take) {p__law_spoilt : Fn} (c__law_spoilt : Callee P w K mg base j "_law_spoilt" 2 p__law_spoilt) {f : Addr} {fd : FuncData} (F : L2.Fun K "_law_bent" "_law_bent" s__law_bent f fd) (hg : mg "_law_bent" = some (.ref f)) {ψ : Fn}
    (hψ : Den.Does N__law_bent.length 3 (d__law_bent p__law_take p__law_spoilt) ψ) : Callee P w K mg base (j + 1) "_law_bent" 3 ψ :=
  ⟨⟨f, fd, ["c", "value", "turn"], fn_ok F sc__law_bent (fun _ _ _ _ _ _ hr => b__law_bent m c__law_take c__law_spoilt hr) hψ, hg, F.kp, F.binds fun _ _ _ _ _ _ us hl => match us, hl with | [_, _, _], _ => rfl⟩⟩
/-! ### _law_gcd -/
def N__law_gcd : List Str := ["a", "b"]
abbrev s__law_gcd : Stmt := topS 29
theorem sc__law_gcd : FnScope N__law_gcd ["a", "b"] (defScope s__law_gcd) := ⟨rfl, rfl, rfl, by decide +kernel, rfl, by decide +kernel, by decide +kernel⟩
noncomputable def d__law_gcd : DenS :=
  (sSeq (sPar 0 1 (aCons (dN f_abs (aCons (cVar 0) aNil)) (aCons (dN f_abs (aCons (cVar 1) aNil)) aNil)))
  (sSeq (sWh (tB1 (d2 f_ne (cVar 1) (cK (.int 0)))) (sPar 0 1 (aCons (cVar 1) (aCons (d2 f_mod (cVar 0) (cVar 1)) aNil))))
  (sRet (cVar 0))))
theorem b__law_gcd {P : Program} {w : World} {K : Frg} {mg : Str → Option Value} {base : Heap} {j : Nat} (m : MG mg) {qual : Str} {f : Addr} {cdv : Value} {A : Around} {outer : List Env} {s : Shared} {H : Hp} {E : XK} (hr : Room j (A.deeper (envOfC qual (defScope s__law_gcd) s.heap.objs.size f cdv))) :
    PSs (cxOf CX0 P w K mg base N__law_gcd qual (defScope s__law_gcd) f cdv A outer s H E).nox (defBody s__law_gcd) (tS K d__law_gcd) :=
    have nd := sc__law_gcd.nd
    (ss_cons (s_par 0 1 rfl nd (a_cons (e_callB call_abs s_abs m.abs (a_cons (e_var 0) a_nil)) (a_cons (e_callB call_abs s_abs m.abs (a_cons (e_var 1) a_nil)) a_nil)))
      (ss_cons (s_wh (x_cmp (o_ne hr.units) s_ne (e_var 1) e_int (nomark _)) (ss_one (s_par 0 1 rfl nd (a_cons (e_var 1) (a_cons (e_op o_mod s_mod (e_var 0) (e_var 1)) a_nil)))))
      (ss_one (s_ret (e_var 0)))))
theorem w__law_gcd {P : Program} {w : World} {K : Frg} {mg : Str → Option Value} {base : Heap} {j : Nat} (m : MG mg) {f : Addr} {fd : FuncData} (F : L2.Fun K "_law_gcd" "_law_gcd" s__law_gcd f fd) (hg : mg "_law_gcd" = some (.ref f)) {ψ : Fn}
    (hψ : Den.Does N__law_gcd.length 2 d__law_gcd ψ) : Callee P w K mg base (j + 1) "_law_gcd" 2 ψ :=
  ⟨⟨f, fd, ["a", "b"], fn_ok F sc__law_gcd (fun _ _ _ _ _ _ hr => b__law_gcd m hr) hψ, hg, F.kp, F.binds fun _ _ _ _ _ _ us hl => match us, hl with | [_, _], _ => rfl⟩⟩
/-! ### _law_power -/
def N__law_power : List Str := ["a", "k", "n", "found", "base"]
abbrev s__law_power : Stmt := topS 30
theorem sc__law_power : FnScope N__law_power ["a", "k", "n"] (defScope s__law_power) := ⟨rfl, rfl, rfl, by decide +kernel, rfl, by decide +kernel, by decide +kernel⟩
noncomputable def d__law_power : DenS :=
  (sSeq (sPar 3 4 (aCons (d2 f_mod (cK (.int 1)) (cVar 2)) (aCons (d2 f_mod (cVar 0) (cVar 2)) aNil)))
  (sSeq (sWh (tB1 (d2 f_gt (cVar 1) (cK (.int 0)))) (sSeq (sIf (tB1 (d2 f_eq (d2 f_mod (cVar 1) (cK (.int 2))) (cK (.int 1)))) (sAsg (d2 f_mod (d2 f_mul (cVar 3) (cVar 4)) (cVar 2)) (gNm 3)) sNil)
  (sPar 4 1 (aCons (d2 f_mod (d2 f_mul (cVar 4) (cVar 4)) (cVar 2)) (aCons (d2 f_fdiv (cVar 1) (cK (.int 2))) aNil)))))
  (sRet (cVar 3))))
theorem b__law_power {P : Program} {w : World} {K : Frg} {mg : Str → Option Value} {base : Heap} {j : Nat} (m : MG mg) {qual : Str} {f : Addr} {cdv : Value} {A : Around} {outer : List Env} {s : Shared} {H : Hp} {E : XK} (hr : Room j (A.deeper (envOfC qual (defScope s__law_power) s.heap.objs.size f cdv))) :
    PSs (cxOf CX0 P w K mg base N__law_power qual (defScope s__law_power) f cdv A outer s H E).nox (defBody s__law_power) (tS K d__law_power) :=
    have nd := sc__law_power.nd
    (ss_cons (s_par 3 4 rfl nd (a_cons (e_op o_mod s_mod e_int (e_var 2)) (a_cons (e_op o_mod s_mod (e_var 0) (e_var 2)) a_nil)))
      (ss_cons (s_wh (x_cmp op_gt s_gt (e_var 1) e_int (nomark _)) (ss_cons (s_if (x_cmp (o_eq hr.units) s_eq (e_op o_mod s_mod (e_var 1) e_int) e_int (nomark _)) (ss_one (s_set 3 nd (e_op o_mod s_mod (e_op o_mul s_mul (e_var 3) (e_var 4)) (e_var 2)))) ss_nil)
      (ss_one (s_par 4 1 rfl nd (a_cons (e_op o_mod s_mod (e_op o_mul s_mul (e_var 4) (e_var 4)) (e_var 2)) (a_cons (e_op o_fdiv s_fdiv (e_var 1) e_int) a_nil))))))
      (ss_one (s_ret (e_var 3)))))
theorem w__law_power {P : Program} {w : World} {K : Frg} {mg : Str → Option Value} {base : Heap} {j : Nat} (m : MG mg) {f : Addr} {fd : FuncData} (F : L2.Fun K "_law_power" "_law_power" s__law_power f fd) (hg : mg "_law_power" = some (.ref f)) {ψ : Fn}
    (hψ : Den.Does N__law_power.length 3 d__law_power ψ) : Callee P w K mg base (j + 1) "_law_power" 3 ψ :=
  ⟨⟨f, fd, ["a", "k", "n"], fn_ok F sc__law_power (fun _ _ _ _ _ _ hr => b__law_power m hr) hψ, hg, F.kp, F.binds fun _ _ _ _ _ _ us hl => match us, hl with | [_, _, _], _ => rfl⟩⟩
/-! ### _law_primes -/
def N__law_primes : List Str := ["n", "found", "p", "e"]
abbrev s__law_primes : Stmt := topS 31
theorem sc__law_primes : FnScope N__law_primes ["n"] (defScope s__law_primes) := ⟨rfl, rfl, rfl, by decide +kernel, rfl, by decide +kernel, by decide +kernel⟩
noncomputable def d__law_primes : DenS :=
  (sSeq (sPar 1 2 (aCons (dLoc aNil) (aCons (cK (.int 2)) aNil)))
  (sSeq (sWh (tB1 (d2 f_le (d2 f_mul (cVar 2) (cVar 2)) (cVar 0))) (sSeq (sAsg (cK (.int 0)) (gNm 3))
  (sSeq (sWh (tB1 (d2 f_eq (d2 f_mod (cVar 0) (cVar 2)) (cK (.int 0)))) (sPar 0 3 (aCons (d2 f_fdiv (cVar 0) (cVar 2)) (aCons (d2 f_add (cVar 3) (cK (.int 1))) aNil))))
  (sSeq (sIf (tB1 (d2 f_gt (cVar 3) (cK (.int 0)))) (sEx (dML f_app (cVar 1) (aCons (dTup (aCons (cVar 2) (aCons (cVar 3) aNil))) aNil))) sNil)
  (sAsg (d2 f_add (cVar 2) (cK (.int 1))) (gNm 2))))))
  (sRet (d2 f_add (cVar 1) (dIf (tB1 (d2 f_gt (cVar 0) (cK (.int 1)))) (dLst (aCons (dTup (aCons (cVar 0) (aCons (cK (.int 1)) aNil))) aNil)) (dLst aNil))))))
theorem b__law_primes {P : Program} {w : World} {K : Frg} {mg : Str → Option Value} {base : Heap} {j : Nat} (m : MG mg) {qual : Str} {f : Addr} {cdv : Value} {A : Around} {outer : List Env} {s : Shared} {H : Hp} {E : XK} (hr : Room j (A.deeper (envOfC qual (defScope s__law_primes) s.heap.objs.size f cdv))) :
    PSs (cxOf CX0 P w K mg base N__law_primes qual (defScope s__law_primes) f cdv A outer s H E).nox (defBody s__law_primes) (tS K d__law_primes) :=
    have nd := sc__law_primes.nd
    (ss_cons (s_par 1 2 rfl nd (a_cons (e_loc a_nil) (a_cons e_int a_nil)))
      (ss_cons (s_wh (x_cmp op_le s_le (e_op o_mul s_mul (e_var 2) (e_var 2)) (e_var 0) (nomark _)) (ss_cons (s_set 3 nd e_int)
      (ss_cons (s_wh (x_cmp (o_eq hr.units) s_eq (e_op o_mod s_mod (e_var 0) (e_var 2)) e_int (nomark _)) (ss_one (s_par 0 3 rfl nd (a_cons (e_op o_fdiv s_fdiv (e_var 0) (e_var 2)) (a_cons (e_op o_add s_add (e_var 3) e_int) a_nil)))))
      (ss_cons (s_if (x_cmp op_gt s_gt (e_var 3) e_int (nomark _)) (ss_one (s_ex (e_bm PySem.F.plainAttrs_list PySem.F.slot_list_append PySem.F.type_list_append mt_append s_app (e_var 1) (a_cons (e_tup (a_cons (e_var 2) (a_cons (e_var 3) a_nil))) a_nil)))) ss_nil)
      (ss_one (s_set 2 nd (e_op o_add s_add (e_var 2) e_int)))))))
      (ss_one (s_ret (e_op o_add s_add (e_var 1) (e_if (x_cmp op_gt s_gt (e_var 0) e_int (nomark _)) (e_lst (a_cons (e_tup (a_cons (e_var 0) (a_cons e_int a_nil))) a_nil)) (e_lst a_nil)))))))
theorem w__law_primes {P : Program} {w : World} {K : Frg} {mg : Str → Option Value} {base : Heap} {j : Nat} (m : MG mg) {f : Addr} {fd : FuncData} (F : L2.Fun K "_law_primes" "_law_primes" s__law_primes f fd) (hg : mg "_law_primes" = some (.ref f)) {ψ : Fn}
    (hψ : Den.Does N__law_primes.length 1 d__law_primes ψ) : Callee P w K mg base (j + 1) "_law_primes" 1 ψ :=
  ⟨⟨f, fd, ["n"], fn_ok F sc__law_primes (fun _ _ _ _ _ _ hr => b__law_primes m hr) hψ, hg, F.kp, F.binds fun _ _ _ _ _ _ us hl => match us, hl with | [_], _ => rfl⟩⟩
/-! ### _law_is_prime -/
def N__law_is_prime : List Str := ["n"]
abbrev s__law_is_prime : Stmt := topS 32
theorem sc__law_is_prime : FnScope N__law_is_prime ["n"] (defScope s__law_is_prime) := ⟨rfl, rfl, rfl, by decide +kernel, rfl, by decide +kernel, by decide +kernel⟩
noncomputable def d__law_is_prime (p__law_primes : Fn) : DenS :=
  (sRet (dAn (d2 f_gt (cVar 0) (cK (.int 1))) (d2 f_eq (dCall 1 p__law_primes (aCons (cVar 0) aNil)) (dLst (aCons (dTup (aCons (cVar 0) (aCons (cK (.int 1)) aNil))) aNil)))))
theorem b__law_is_prime {P : Program} {w : World} {K : Frg} {mg : Str → Option Value} {base : Heap} {j : Nat} (m : MG mg) {p__law_primes : Fn} (c__law_primes : Callee P w K mg base j "_law_primes" 1 p__law_primes) {qual : Str} {f : Addr} {cdv : Value} {A : Around} {outer : List Env} {s : Shared} {H : Hp} {E : XK} (hr : Room j (A.deeper (envOfC qual (defScope s__law_is_prime) s.heap.objs.size f cdv))) :
    PSs (cxOf CX0 P w K mg base N__law_is_prime qual (defScope s__law_is_prime) f cdv A outer s H E).nox (defBody s__law_is_prime) (tS K (d__law_is_prime p__law_primes)) :=
    have nd := sc__law_is_prime.nd
    (ss_one (s_ret (e_an (e_cmp op_gt s_gt (e_var 0) e_int (nomark _)) (e_one (e_cmp (o_eq hr.units) s_eq (e_call c__law_primes hr (a_cons (e_var 0) a_nil)) (e_lst (a_cons (e_tup (a_cons (e_var 0) (a_cons e_int a_nil))) a_nil)) (nomark _))))))
theorem w__law_is_prime {P : Program} {w : World} {K : Frg} {mg : Str → Option Value} {base : Heap} {j : Nat} (m : MG mg) {p__law_primes : Fn} (c__law_primes : Callee P w K mg base j "_law_primes" 1 p__law_primes) {f : Addr} {fd : FuncData} (F : L2.Fun K "_law_is_prime" "_law_is_prime" s__law_is_prime f fd) (hg : mg "_law_is_prime" = some (.ref f)) {ψ : Fn}
    (hψ : Den.Does N__law_is_prime.length 1 (d__law_is_prime p__law_primes) ψ) : Callee P w K mg base (j + 1) "_law_is_prime" 1 ψ :=
  ⟨⟨f, fd, ["n"], fn_ok F sc__law_is_prime (fun _ _ _ _ _ _ hr => b__law_is_prime m c__law_primes hr) hψ, hg, F.kp, F.binds fun _ _ _ _ _ _ us hl => match us, hl with | [_], _ => rfl⟩⟩
/-! ### _law_kind -/
def N__law_kind : List Str := ["c", "menu"]
abbrev s__law_kind : Stmt := topS 33
theorem sc__law_kind : FnScope N__law_kind ["c"] (defScope s__law_kind) := ⟨rfl, rfl, rfl, by decide +kernel, rfl, by decide +kernel, by decide +kernel⟩
noncomputable def d__law_kind (p__law_take : Fn) : DenS :=
  (sSeq (sAsg (dLst (aCons (d2 f_sub (cK (.int 0)) (cK (.int 1))) (aCons (d2 f_sub (cK (.int 0)) (cK (.int 2))) (aCons (d2 f_sub (cK (.int 0)) (cK (.int 3))) (aCons (d2 f_sub (cK (.int 0)) (cK (.int 5))) (aCons (d2 f_sub (cK (.int 0)) (cK (.int 6))) (aCons (d2 f_sub (cK (.int 0)) (cK (.int 7))) (aCons (d2 f_sub (cK (.int 0)) (cK (.int 10))) (aCons (d2 f_sub (cK (.int 0)) (cK (.int 11))) (aCons (d2 f_sub (cK (.int 0)) (cK (.int 14))) (aCons (d2 f_sub (cK (.int 0)) (cK (.int 15))) (aCons (d2 f_sub (cK (.int 0)) (cK (.int 21))) (aCons (d2 f_sub (cK (.int 0)) (cK (.int 23))) (aCons (d2 f_sub (cK (.int 0)) (cK (.int 26))) (aCons (d2 f_sub (cK (.int 0)) (cK (.int 30))) (aCons (d2 f_sub (cK (.int 0)) (cK (.int 39))) aNil)))))))))))))))) (gNm 1))
  (sSeq (sAsg (d2 f_add (cVar 1) (dLst (aCons (cK (.int 2)) (aCons (cK (.int 3)) (aCons (cK (.int 5)) (aCons (cK (.int 6)) (aCons (cK (.int 7)) (aCons (cK (.int 10)) (aCons (cK (.int 13)) (aCons (cK (.int 14)) (aCons (cK (.int 15)) (aCons (cK (.int 17)) (aCons (cK (.int 21)) (aCons (cK (.int 26)) (aCons (cK (.int 29)) (aCons (cK (.int 30)) (aCons (cK (.int 34)) (aCons (cK (.int 37)) (aCons (cK (.int 65)) (aCons (cK (.int 79)) (aCons (cK (.int 82)) aNil))))))))))))))))))))) (gNm 1))
  (sRet (d2 f_ix (cVar 1) (dCall 2 p__law_take (aCons (cVar 0) (aCons (dN f_len (aCons (cVar 1) aNil)) aNil)))))))
theorem b__law_kind {P : Program} {w : World} {K : Frg} {mg : Str → Option Value} {base : Heap} {j : Nat} (m : MG mg) {p__law_take : Fn} (c__law_take : Callee P w K mg base j "_law_take" 2 p__law_take) {qual : Str} {f : Addr} {cdv : Value} {A : Around} {outer : List Env} {s : Shared} {H : Hp} {E : XK} (hr : Room j (A.deeper (envOfC qual (defScope s__law_kind) s.heap.objs.size f cdv))) :
    PSs (cxOf CX0 P w K mg base N__law_kind qual (defScope s__law_kind) f cdv A outer s H E).nox (defBody s__law_kind) (tS K (d__law_kind p__law_take)) :=
    have nd := sc__law_kind.nd
    (ss_cons (s_set 1 nd (e_lst (a_cons (e_op o_sub s_sub e_int e_int) (a_cons (e_op o_sub s_sub e_int e_int) (a_cons (e_op o_sub s_sub e_int e_int) (a_cons (e_op o_sub s_sub e_int e_int) (a_cons (e_op o_sub s_sub e_int e_int) (a_cons (e_op o_sub s_sub e_int e_int) (a_cons (e_op o_sub s_sub e_int e_int) (a_cons (e_op o_sub s_sub e_int e_int) (a_cons (e_op o_sub s_sub e_int e_int) (a_cons (e_op o_sub s_sub e_int e_int) (a_cons (e_op o_sub s_sub e_int e_int) (a_cons (e_op o_sub s_sub e_int e_int) (a_cons (e_op o_sub s_sub e_int e_int) (a_cons (e_op o_sub s_sub e_int e_int) (a_cons (e_op o_sub s_sub e_int e_int) a_nil)))))))))))))))))
      (ss_cons (s_set 1 nd (e_op o_add s_add (e_var 1) (e_lst (a_cons e_int (a_cons e_int (a_cons e_int (a_cons e_int (a_cons e_int (a_cons e_int (a_cons e_int (a_cons e_int (a_cons e_int (a_cons e_int (a_cons e_int (a_cons e_int (a_cons e_int (a_cons e_int (a_cons e_int (a_cons e_int (a_cons e_int (a_cons e_int (a_cons e_int a_nil))))))))))))))))))))))
      (ss_one (s_ret (e_ix (e_var 1) (e_call c__law_take hr (a_cons (e_var 0) (a_cons (e_callB call_len s_len m.len (a_cons (e_var 1) a_nil)) a_nil))))))))
theorem w__law_kind {P : Program} {w : World} {K : Frg} {mg : Str → Option Value} {base : Heap} {j : Nat} (m : MG mg) {p__law_take : Fn} (c__law_take : Callee P w K mg base j "_law_take" 2 p__law_take) {f : Addr} {fd : FuncData} (F : L2.Fun K "_law_kind" "_law_kind" s__law_kind f fd) (hg : mg "_law_kind" = some (.ref f)) {ψ : Fn}
    (hψ : Den.Does N__law_kind.length 1 (d__law_kind p__law_take) ψ) : Callee P w K mg base (j + 1) "_law_kind" 1 ψ :=
  ⟨⟨f, fd, ["c"], fn_ok F sc__law_kind (fun _ _ _ _ _ _ hr => b__law_kind m c__law_take hr) hψ, hg, F.kp, F.binds fun _ _ _ _ _ _ us hl => match us, hl with | [_], _ => rfl⟩⟩
/-! ### _law_t -/
def N__law_t : List Str := ["kind"]
abbrev s__law_t : Stmt := topS 34
theorem sc__law_t : FnScope N__law_t ["kind"] (defScope s__law_t) := ⟨rfl, rfl, rfl, by decide +kernel, rfl, by decide +kernel, by decide +kernel⟩
noncomputable def d__law_t : DenS :=
  (sRet (dN f_int (aCons (d2 f_eq (d2 f_mod (cVar 0) (cK (.int 4))) (cK (.int 1))) aNil)))
theorem b__law_t {P : Program} {w : World} {K : Frg} {mg : Str → Option Value} {base : Heap} {j : Nat} (m : MG mg) {qual : Str} {f : Addr} {cdv : Value} {A : Around} {outer : List Env} {s : Shared} {H : Hp} {E : XK} (hr : Room j (A.deeper (envOfC qual (defScope s__law_t) s.heap.objs.size f cdv))) :
    PSs (cxOf CX0 P w K mg base N__law_t qual (defScope s__law_t) f cdv A outer s H E).nox (defBody s__law_t) (tS K d__law_t) :=
    have nd := sc__law_t.nd
    (ss_one (s_ret (e_callTy call_int1 s_int m.int (a_cons (e_cmp (o_eq hr.units) s_eq (e_op o_mod s_mod (e_var 0) e_int) e_int (nomark _)) a_nil))))
theorem w__law_t {P : Program} {w : World} {K : Frg} {mg : Str → Option Value} {base : Heap} {j : Nat} (m : MG mg) {f : Addr} {fd : FuncData} (F : L2.Fun K "_law_t" "_law_t" s__law_t f fd) (hg : mg "_law_t" = some (.ref f)) {ψ : Fn}
    (hψ : Den.Does N__law_t.length 1 d__law_t ψ) : Callee P w K mg base (j + 1) "_law_t" 1 ψ :=
  ⟨⟨f, fd, ["kind"], fn_ok F sc__law_t (fun _ _ _ _ _ _ hr => b__law_t m hr) hψ, hg, F.kp, F.binds fun _ _ _ _ _ _ us hl => match us, hl with | [_], _ => rfl⟩⟩
/-! ### _law_times_in -/
def N__law_times_in : List Str := ["kind", "u", "v", "t", "a", "b", "x", "y", "whole", "root"]
abbrev s__law_times_in : Stmt := topS 35
theorem sc__law_times_in : FnScope N__law_times_in ["kind", "u", "v"] (defScope s__law_times_in) := ⟨rfl, rfl, rfl, by decide +kernel, rfl, by decide +kernel, by decide +kernel⟩
noncomputable def d__law_times_in (p__law_t : Fn) : DenS :=
  (sSeq (sAsg (dCall 1 p__law_t (aCons (cVar 0) aNil)) (gNm 3))
  (sSeq (sPar 4 5 (aCons (d2 f_add (d2 f_mul (cK (.int 2)) (d2 f_ix (cVar 1) (cK (.int 0)))) (d2 f_mul (cVar 3) (d2 f_ix (cVar 1) (cK (.int 1))))) (aCons (d2 f_mul (d2 f_ix (cVar 1) (cK (.int 1))) (d2 f_sub (cK (.int 2)) (cVar 3))) aNil)))
  (sSeq (sPar 6 7 (aCons (d2 f_add (d2 f_mul (cK (.int 2)) (d2 f_ix (cVar 2) (cK (.int 0)))) (d2 f_mul (cVar 3) (d2 f_ix (cVar 2) (cK (.int 1))))) (aCons (d2 f_mul (d2 f_ix (cVar 2) (cK (.int 1))) (d2 f_sub (cK (.int 2)) (cVar 3))) aNil)))
  (sSeq (sPar 8 9 (aCons (d2 f_fdiv (d2 f_add (d2 f_mul (cVar 4) (cVar 6)) (d2 f_mul (d2 f_mul (cVar 0) (cVar 5)) (cVar 7))) (cK (.int 2))) (aCons (d2 f_fdiv (d2 f_add (d2 f_mul (cVar 4) (cVar 7)) (d2 f_mul (cVar 5) (cVar 6))) (cK (.int 2))) aNil)))
  (sSeq (sAsg (d2 f_fdiv (cVar 9) (d2 f_sub (cK (.int 2)) (cVar 3))) (gNm 9))
  (sRet (dTup (aCons (d2 f_fdiv (d2 f_sub (cVar 8) (d2 f_mul (cVar 3) (cVar 9))) (cK (.int 2))) (aCons (cVar 9) aNil)))))))))
theorem b__law_times_in {P : Program} {w : World} {K : Frg} {mg : Str → Option Value} {base : Heap} {j : Nat} (m : MG mg) {p__law_t : Fn} (c__law_t : Callee P w K mg base j "_law_t" 1 p__law_t) {qual : Str} {f : Addr} {cdv : Value} {A : Around} {outer : List Env} {s : Shared} {H : Hp} {E : XK} (hr : Room j (A.deeper (envOfC qual (defScope s__law_times_in) s.heap.objs.size f cdv))) :
    PSs (cxOf CX0 P w K mg base N__law_times_in qual (defScope s__law_times_in) f cdv A outer s H E).nox (defBody s__law_times_in) (tS K (d__law_times_in p__law_t)) :=
    have nd := sc__law_times_in.nd
    (ss_cons (s_set 3 nd (e_call c__law_t hr (a_cons (e_var 0) a_nil)))
      (ss_cons (s_par 4 5 rfl nd (a_cons (e_op o_add s_add (e_op o_mul s_mul e_int (e_ix (e_var 1) e_int)) (e_op o_mul s_mul (e_var 3) (e_ix (e_var 1) e_int))) (a_cons (e_op o_mul s_mul (e_ix (e_var 1) e_int) (e_op o_sub s_sub e_int (e_var 3))) a_nil)))
      (ss_cons (s_par 6 7 rfl nd (a_cons (e_op o_add s_add (e_op o_mul s_mul e_int (e_ix (e_var 2) e_int)) (e_op o_mul s_mul (e_var 3) (e_ix (e_var 2) e_int))) (a_cons (e_op o_mul s_mul (e_ix (e_var 2) e_int) (e_op o_sub s_sub e_int (e_var 3))) a_nil)))
      (ss_cons (s_par 8 9 rfl nd (a_cons (e_op o_fdiv s_fdiv (e_op o_add s_add (e_op o_mul s_mul (e_var 4) (e_var 6)) (e_op o_mul s_mul (e_op o_mul s_mul (e_var 0) (e_var 5)) (e_var 7))) e_int) (a_cons (e_op o_fdiv s_fdiv (e_op o_add s_add (e_op o_mul s_mul (e_var 4) (e_var 7)) (e_op o_mul s_mul (e_var 5) (e_var 6))) e_int) a_nil)))
      (ss_cons (s_set 9 nd (e_op o_fdiv s_fdiv (e_var 9) (e_op o_sub s_sub e_int (e_var 3))))
      (ss_one (s_ret (e_tup (a_cons (e_op o_fdiv s_fdiv (e_op o_sub s_sub (e_var 8) (e_op o_mul s_mul (e_var 3) (e_var 9))) e_int) (a_cons (e_var 9) a_nil))))))))))
theorem w__law_times_in {P : Program} {w : World} {K : Frg} {mg : Str → Option Value} {base : Heap} {j : Nat} (m : MG mg) {p__law_t : Fn} (c__law_t : Callee P w K mg base j "_law_t" 1 p__law_t) {f : Addr} {fd : FuncData} (F : L2.Fun K "_law_times_in" "_law_times_in" s__law_times_in f fd) (hg : mg "_law_times_in" = some (.ref f)) {ψ : Fn}
    (hψ : Den.Does N__law_times_in.length 3 (d__law_times_in p__law_t) ψ) : Callee P w K mg base (j + 1) "_law_times_in" 3 ψ :=
  ⟨⟨f, fd, ["kind", "u", "v"], fn_ok F sc__law_times_in (fun _ _ _ _ _ _ hr => b__law_times_in m c__law_t hr) hψ, hg, F.kp, F.binds fun _ _ _ _ _ _ us hl => match us, hl with | [_, _, _], _ => rfl⟩⟩
/-! ### _law_conjugate -/
def N__law_conjugate : List Str := ["kind", "u"]
abbrev s__law_conjugate : Stmt := topS 36
theorem sc__law_conjugate : FnScope N__law_conjugate ["kind", "u"] (defScope s__law_conjugate) := ⟨rfl, rfl, rfl, by decide +kernel, rfl, by decide +kernel, by decide +kernel⟩
noncomputable def d__law_conjugate (p__law_t : Fn) : DenS :=
  (sRet (dTup (aCons (d2 f_add (d2 f_ix (cVar 1) (cK (.int 0))) (d2 f_mul (dCall 1 p__law_t (aCons (cVar 0) aNil)) (d2 f_ix (cVar 1) (cK (.int 1))))) (aCons (d2 f_sub (cK (.int 0)) (d2 f_ix (cVar 1) (cK (.int 1)))) aNil))))
theorem b__law_conjugate {P : Program} {w : World} {K : Frg} {mg : Str → Option Value} {base : Heap} {j : Nat} (m : MG mg) {p__law_t : Fn} (c__law_t : Callee P w K mg base j "_law_t" 1 p__law_t) {qual : Str} {f : Addr} {cdv : Value} {A : Around} {outer : List Env} {s : Shared} {H : Hp} {E : XK} (hr : Room j (A.deeper (envOfC qual (defScope s__law_conjugate) s.heap.objs.size f cdv))) :
    PSs (cxOf CX0 P w K mg base N__law_conjugate qual (defScope s__law_conjugate) f cdv A outer s H E).nox (defBody s__law_conjugate) (tS K (d__law_conjugate p__law_t)) :=
    have nd := sc__law_conjugate.nd
    (ss_one (s_ret (e_tup (a_cons (e_op o_add s_add (e_ix (e_var 1) e_int) (e_op o_mul s_mul (e_call c__law_t hr (a_cons (e_var 0) a_nil)) (e_ix (e_var 1) e_int))) (a_cons (e_op o_sub s_sub e_int (e_ix (e_var 1) e_int)) a_nil)))))
theorem w__law_conjugate {P : Program} {w : World} {K : Frg} {mg : Str → Option Value} {base : Heap} {j : Nat} (m : MG mg) {p__law_t : Fn} (c__law_t : Callee P w K mg base j "_law_t" 1 p__law_t) {f : Addr} {fd : FuncData} (F : L2.Fun K "_law_conjugate" "_law_conjugate" s__law_conjugate f fd) (hg : mg "_law_conjugate" = some (.ref f)) {ψ : Fn}
    (hψ : Den.Does N__law_conjugate.length 2 (d__law_conjugate p__law_t) ψ) : Callee P w K mg base (j + 1) "_law_conjugate" 2 ψ :=
  ⟨⟨f, fd, ["kind", "u"], fn_ok F sc__law_conjugate (fun _ _ _ _ _ _ hr => b__law_conjugate m c__law_t hr) hψ, hg, F.kp, F.binds fun _ _ _ _ _ _ us hl => match us, hl with | [_, _], _ => rfl⟩⟩
/-! ### _law_norm -/
def N__law_norm : List Str := ["kind", "u"]
abbrev s__law_norm : Stmt := topS 37
theorem sc__law_norm : FnScope N__law_norm ["kind", "u"] (defScope s__law_norm) := ⟨rfl, rfl, rfl, by decide +kernel, rfl, by decide +kernel, by decide +kernel⟩
noncomputable def d__law_norm (p__law_times_in : Fn) (p__law_conjugate : Fn) : DenS :=
  (sRet (d2 f_ix (dCall 3 p__law_times_in (aCons (cVar 0) (aCons (cVar 1) (aCons (dCall 2 p__law_conjugate (aCons (cVar 0) (aCons (cVar 1) aNil))) aNil)))) (cK (.int 0))))
theorem b__law_norm {P : Program} {w : World} {K : Frg} {mg : Str → Option Value} {base : Heap} {j : Nat} (m : MG mg) {p__law_times_in : Fn} (c__law_times_in : Callee P w K mg base j "_law_times_in" 3 p__law_times_in) {p__law_conjugate : Fn} (c__law_conjugate : Callee P w K mg base j "_law_conjugate" 2 p__law_conjugate) {qual : Str} {f : Addr} {cdv : Value} {A : Around} {outer : List Env} {s : Shared} {H : Hp} {E : XK} (hr : Room j (A.deeper (envOfC qual (defScope s__law_norm) s.heap.objs.size f cdv))) :
    PSs (cxOf CX0 P w K mg base N__law_norm qual (defScope s__law_norm) f cdv A outer s H E).nox (defBody s__law_norm) (tS K (d__law_norm p__law_times_in p__law_conjugate)) :=
    have nd := sc__law_norm.nd
    (ss_one (s_ret (e_ix (e_call c__law_times_in hr (a_cons (e_var 0) (a_cons (e_var 1) (a_cons (e_call c__law_conjugate hr (a_cons (e_var 0) (a_cons (e_var 1) a_nil))) a_nil)))) e_int)))
theorem w__law_norm {P : Program} {w : World} {K : Frg} {mg : Str → Option Value} {base : Heap} {j : Nat} (m : MG mg) {p__law_times_in : Fn} (c__law_times_in : Callee P w K mg base j "_law_times_in" 3 p__law_times_in) {p__law_conjugate : Fn} (c__law_conjugate : Callee P w K mg base j "_law_conjugate" 2 p__law_conjugate) {f : Addr} {fd : FuncData} (F : L2.Fun K "_law_norm" "_law_norm" s__law_norm f fd) (hg : mg "_law_norm" = some (.ref f)) {ψ : Fn}
    (hψ : Den.Does N__law_norm.length 2 (d__law_norm p__law_times_in p__law_conjugate) ψ) : Callee P w K mg base (j + 1) "_law_norm" 2 ψ :=
  ⟨⟨f, fd, ["kind", "u"], fn_ok F sc__law_norm (fun _ _ _ _ _ _ hr => b__law_norm m c__law_times_in c__law_conjugate hr) hψ, hg, F.kp, F.binds fun _ _ _ _ _ _ us hl => match us, hl with | [_, _], _ => rfl⟩⟩
/-! ### _law_disc -/
def N__law_disc : List Str := ["kind"]
abbrev s__law_disc : Stmt := topS 38
theorem sc__law_disc : FnScope N__law_disc ["kind"] (defScope s__law_disc) := ⟨rfl, rfl, rfl, by decide +kernel, rfl, by decide +kernel, by decide +kernel⟩
noncomputable def d__law_disc (p__law_t : Fn) : DenS :=
  (sRet (dIf (tB1 (d2 f_eq (dCall 1 p__law_t (aCons (cVar 0) aNil)) (cK (.int 1)))) (cVar 0) (d2 f_mul (cK (.int 4)) (cVar 0))))
theorem b__law_disc {P : Program} {w : World} {K : Frg} {mg : Str → Option Value} {base : Heap} {j : Nat} (m : MG mg) {p__law_t : Fn} (c__law_t : Callee P w K mg base j "_law_t" 1 p__law_t) {qual : Str} {f : Addr} {cdv : Value} {A : Around} {outer : List Env} {s : Shared} {H : Hp} {E : XK} (hr : Room j (A.deeper (envOfC qual (defScope s__law_disc) s.heap.objs.size f cdv))) :
    PSs (cxOf CX0 P w K mg base N__law_disc qual (defScope s__law_disc) f cdv A outer s H E).nox (defBody s__law_disc) (tS K (d__law_disc p__law_t)) :=
    have nd := sc__law_disc.nd
    (ss_one (s_ret (e_if (x_cmp (o_eq hr.units) s_eq (e_call c__law_t hr (a_cons (e_var 0) a_nil)) e_int (nomark _)) (e_var 0) (e_op o_mul s_mul e_int (e_var 0)))))
theorem w__law_disc {P : Program} {w : World} {K : Frg} {mg : Str → Option Value} {base : Heap} {j : Nat} (m : MG mg) {p__law_t : Fn} (c__law_t : Callee P w K mg base j "_law_t" 1 p__law_t) {f : Addr} {fd : FuncData} (F : L2.Fun K "_law_disc" "_law_disc" s__law_disc f fd) (hg : mg "_law_disc" = some (.ref f)) {ψ : Fn}
    (hψ : Den.Does N__law_disc.length 1 (d__law_disc p__law_t) ψ) : Callee P w K mg base (j + 1) "_law_disc" 1 ψ :=
  ⟨⟨f, fd, ["kind"], fn_ok F sc__law_disc (fun _ _ _ _ _ _ hr => b__law_disc m c__law_t hr) hψ, hg, F.kp, F.binds fun _ _ _ _ _ _ us hl => match us, hl with | [_], _ => rfl⟩⟩
/-! ### _law_is_in -/
def N__law_is_in : List Str := ["ideal", "u", "k", "a", "b"]
abbrev s__law_is_in : Stmt := topS 39
theorem sc__law_is_in : FnScope N__law_is_in ["ideal", "u"] (defScope s__law_is_in) := ⟨rfl, rfl, rfl, by decide +kernel, rfl, by decide +kernel, by decide +kernel⟩
noncomputable def d__law_is_in : DenS :=
  (sSeq (sAsg (cVar 0) (gTu 3 (gsCons (gNm 2) (gsCons (gNm 3) (gsCons (gNm 4) gsNil)))))
  (sRet (dAn (d2 f_eq (d2 f_mod (d2 f_ix (cVar 1) (cK (.int 0))) (cVar 2)) (cK (.int 0))) (dAn (d2 f_eq (d2 f_mod (d2 f_ix (cVar 1) (cK (.int 1))) (cVar 2)) (cK (.int 0))) (d2 f_eq (d2 f_mod (d2 f_sub (d2 f_fdiv (d2 f_ix (cVar 1) (cK (.int 0))) (cVar 2)) (d2 f_mul (d2 f_fdiv (d2 f_ix (cVar 1) (cK (.int 1))) (cVar 2)) (cVar 4))) (cVar 3)) (cK (.int 0)))))))
theorem b__law_is_in {P : Program} {w : World} {K : Frg} {mg : Str → Option Value} {base : Heap} {j : Nat} (m : MG mg) {qual : Str} {f : Addr} {cdv : Value} {A : Around} {outer : List Env} {s : Shared} {H : Hp} {E : XK} (hr : Room j (A.deeper (envOfC qual (defScope s__law_is_in) s.heap.objs.size f cdv))) :
    PSs (cxOf CX0 P w K mg base N__law_is_in qual (defScope s__law_is_in) f cdv A outer s H E).nox (defBody s__law_is_in) (tS K d__law_is_in) :=
    have nd := sc__law_is_in.nd
    (ss_cons (s_asg (e_var 0) (g_tu rfl (gs_cons (g_nm 2 nd) (gs_cons (g_nm 3 nd) (gs_cons (g_nm 4 nd) gs_nil)))))
      (ss_one (s_ret (e_an (e_cmp (o_eq hr.units) s_eq (e_op o_mod s_mod (e_ix (e_var 1) e_int) (e_var 2)) e_int (nomark _)) (e_an (e_cmp (o_eq hr.units) s_eq (e_op o_mod s_mod (e_ix (e_var 1) e_int) (e_var 2)) e_int (nomark _)) (e_one (e_cmp (o_eq hr.units) s_eq (e_op o_mod s_mod (e_op o_sub s_sub (e_op o_fdiv s_fdiv (e_ix (e_var 1) e_int) (e_var 2)) (e_op o_mul s_mul (e_op o_fdiv s_fdiv (e_ix (e_var 1) e_int) (e_var 2)) (e_var 4))) (e_var 3)) e_int (nomark _))))))))
theorem w__law_is_in {P : Program} {w : World} {K : Frg} {mg : Str → Option Value} {base : Heap} {j : Nat} (m : MG mg) {f : Addr} {fd : FuncData} (F : L2.Fun K "_law_is_in" "_law_is_in" s__law_is_in f fd) (hg : mg "_law_is_in" = some (.ref f)) {ψ : Fn}
    (hψ : Den.Does N__law_is_in.length 2 d__law_is_in ψ) : Callee P w K mg base (j + 1) "_law_is_in" 2 ψ :=
  ⟨⟨f, fd, ["ideal", "u"], fn_ok F sc__law_is_in (fun _ _ _ _ _ _ hr => b__law_is_in m hr) hψ, hg, F.kp, F.binds fun _ _ _ _ _ _ us hl => match us, hl with | [_, _], _ => rfl⟩⟩
/-! ### _law_basis -/
def N__law_basis : List Str := ["ideal", "k", "a", "b"]
abbrev s__law_basis : Stmt := topS 40
theorem sc__law_basis : FnScope N__law_basis ["ideal"] (defScope s__law_basis) := ⟨rfl, rfl, rfl, by decide +kernel, rfl, by decide +kernel, by decide +kernel⟩
noncomputable def d__law_basis : DenS :=
  (sSeq (sAsg (cVar 0) (gTu 3 (gsCons (gNm 1) (gsCons (gNm 2) (gsCons (gNm 3) gsNil)))))
  (sRet (dLst (aCons (dTup (aCons (d2 f_mul (cVar 1) (cVar 2)) (aCons (cK (.int 0)) aNil))) (aCons (dTup (aCons (d2 f_mul (cVar 1) (cVar 3)) (aCons (cVar 1) aNil))) aNil)))))
theorem b__law_basis {P : Program} {w : World} {K : Frg} {mg : Str → Option Value} {base : Heap} {j : Nat} (m : MG mg) {qual : Str} {f : Addr} {cdv : Value} {A : Around} {outer : List Env} {s : Shared} {H : Hp} {E : XK} (hr : Room j (A.deeper (envOfC qual (defScope s__law_basis) s.heap.objs.size f cdv))) :
    PSs (cxOf CX0 P w K mg base N__law_basis qual (defScope s__law_basis) f cdv A outer s H E).nox (defBody s__law_basis) (tS K d__law_basis) :=
    have nd := sc__law_basis.nd
    (ss_cons (s_asg (e_var 0) (g_tu rfl (gs_cons (g_nm 1 nd) (gs_cons (g_nm 2 nd) (gs_cons (g_nm 3 nd) gs_nil)))))
      (ss_one (s_ret (e_lst (a_cons (e_tup (a_cons (e_op o_mul s_mul (e_var 1) (e_var 2)) (a_cons e_int a_nil))) (a_cons (e_tup (a_cons (e_op o_mul s_mul (e_var 1) (e_var 3)) (a_cons (e_var 1) a_nil))) a_nil))))))
theorem w__law_basis {P : Program} {w : World} {K : Frg} {mg : Str → Option Value} {base : Heap} {j : Nat} (m : MG mg) {f : Addr} {fd : FuncData} (F : L2.Fun K "_law_basis" "_law_basis" s__law_basis f fd) (hg : mg "_law_basis" = some (.ref f)) {ψ : Fn}
    (hψ : Den.Does N__law_basis.length 1 d__law_basis ψ) : Callee P w K mg base (j + 1) "_law_basis" 1 ψ :=
  ⟨⟨f, fd, ["ideal"], fn_ok F sc__law_basis (fun _ _ _ _ _ _ hr => b__law_basis m hr) hψ, hg, F.kp, F.binds fun _ _ _ _ _ _ us hl => match us, hl with | [_], _ => rfl⟩⟩
/-! ### _law_spanned -/
def N__law_spanned : List Str := ["rows", "k", "size", "i", "j", "a", "b", "u"]
abbrev s__law_spanned : Stmt := topS 41
theorem sc__law_spanned : FnScope N__law_spanned ["rows"] (defScope s__law_spanned) := ⟨rfl, rfl, rfl, by decide +kernel, rfl, by decide +kernel, by decide +kernel⟩
noncomputable def d__law_spanned (p__law_gcd : Fn) (p__law_is_in : Fn) : DenS :=
  (sSeq (sAsg (dTup (aCons (cK (.int 0)) (aCons (cK (.int 0)) aNil))) (gTu 2 (gsCons (gNm 1) (gsCons (gNm 2) gsNil))))
  (sSeq (sFor (itRg1 (aCons (dN f_len (aCons (cVar 0) aNil)) aNil)) (gNm 3) (sSeq (sAsg (dCall 2 p__law_gcd (aCons (cVar 1) (aCons (d2 f_ix (d2 f_ix (cVar 0) (cVar 3)) (cK (.int 1))) aNil))) (gNm 1))
  (sFor (itRg1 (aCons (cVar 3) aNil)) (gNm 4) (sAsg (dCall 2 p__law_gcd (aCons (cVar 2) (aCons (d2 f_sub (d2 f_mul (d2 f_ix (d2 f_ix (cVar 0) (cVar 3)) (cK (.int 0))) (d2 f_ix (d2 f_ix (cVar 0) (cVar 4)) (cK (.int 1)))) (d2 f_mul (d2 f_ix (d2 f_ix (cVar 0) (cVar 3)) (cK (.int 1))) (d2 f_ix (d2 f_ix (cVar 0) (cVar 4)) (cK (.int 0))))) aNil))) (gNm 2)))))
  (sSeq (sAsg (d2 f_fdiv (cVar 2) (d2 f_mul (cVar 1) (cVar 1))) (gNm 5))
  (sRet (d2 f_ix (dLc [6] (itRg1 (aCons (cVar 5) aNil)) (gNm 6) (tTru (dN f_all (aCons (dLc [7] (itSeq (cVar 0)) (gNm 7) tAll (dCall 2 p__law_is_in (aCons (dTup (aCons (cVar 1) (aCons (cVar 5) (aCons (cVar 6) aNil)))) (aCons (cVar 7) aNil)))) aNil))) (dTup (aCons (cVar 1) (aCons (cVar 5) (aCons (cVar 6) aNil))))) (cK (.int 0)))))))
theorem b__law_spanned {P : Program} {w : World} {K : Frg} {mg : Str → Option Value} {base : Heap} {j : Nat} (m : MG mg) {p__law_gcd : Fn} (c__law_gcd : Callee P w K mg base j "_law_gcd" 2 p__law_gcd) {p__law_is_in : Fn} (c__law_is_in : Callee P w K mg base j "_law_is_in" 2 p__law_is_in) {qual : Str} {f : Addr} {cdv : Value} {A : Around} {outer : List Env} {s : Shared} {H : Hp} {E : XK} (hr : Room j (A.deeper (envOfC qual (defScope s__law_spanned) s.heap.objs.size f cdv))) :
    PSs (cxOf CX0 P w K mg base N__law_spanned qual (defScope s__law_spanned) f cdv A outer s H E).nox (defBody s__law_spanned) (tS K (d__law_spanned p__law_gcd p__law_is_in)) :=
    have nd := sc__law_spanned.nd
    (ss_cons (s_asg (e_tup (a_cons e_int (a_cons e_int a_nil))) (g_tu rfl (gs_cons (g_nm 1 nd) (gs_cons (g_nm 2 nd) gs_nil))))
      (ss_cons (s_for (i_rg1 m.range (a_cons (e_callB call_len s_len m.len (a_cons (e_var 0) a_nil)) a_nil)) (g_nm 3 nd) (ss_cons (s_set 1 nd (e_call c__law_gcd hr (a_cons (e_var 1) (a_cons (e_ix (e_ix (e_var 0) (e_var 3)) e_int) a_nil))))
      (ss_one (s_for (i_rg1 m.range (a_cons (e_var 3) a_nil)) (g_nm 4 nd) (ss_one (s_set 2 nd (e_call c__law_gcd hr (a_cons (e_var 2) (a_cons (e_op o_sub s_sub (e_op o_mul s_mul (e_ix (e_ix (e_var 0) (e_var 3)) e_int) (e_ix (e_ix (e_var 0) (e_var 4)) e_int)) (e_op o_mul s_mul (e_ix (e_ix (e_var 0) (e_var 3)) e_int) (e_ix (e_ix (e_var 0) (e_var 4)) e_int))) a_nil))))) ci_rg1))) ci_rg1)
      (ss_cons (s_set 5 nd (e_op o_fdiv s_fdiv (e_var 2) (e_op o_mul s_mul (e_var 1) (e_var 1))))
      (ss_one (s_ret (e_ix (e_lc (own := [("b", 6)]) nd (i_rg1 m.range (a_cons (e_var 5) a_nil)) ci_rg1 (blkOk_by (own := [("b", 6)]) (N := N__law_spanned) (sc := defScope s__law_spanned) (by decide +kernel)) (gin_nmV 6) (fun _ _ _ _ _ => (pg_name (i := 6) nd rfl (by first | exact Or.inl rfl | exact Or.inr rfl))) (fun _ _ _ _ _ => (x_one (x_tru (e_callB (cr_all (by rfl)) s_all m.all (a_cons (e_lc (own := [("u", 7)]) nd (i_seq (e_var 0)) ci_seq (blkOk_by (own := [("u", 7)]) (by change blkC N__law_spanned (relS _ (defScope s__law_spanned)) _ _ = true; decide +kernel)) (gin_nmV 7) (fun _ _ _ _ _ => (pg_name (i := 7) nd rfl (by first | exact Or.inl rfl | exact Or.inr rfl))) (fun _ _ _ _ _ => x_nil) (fun _ _ _ _ _ => (e_call c__law_is_in hr (a_cons (e_tup (a_cons (e_var 1) (a_cons (e_var 5) (a_cons (e_var 6) a_nil)))) (a_cons (e_var 7) a_nil))))) a_nil))))) (fun _ _ _ _ _ => (e_tup (a_cons (e_var 1) (a_cons (e_var 5) (a_cons (e_var 6) a_nil)))))) e_int))))))
theorem w__law_spanned {P : Program} {w : World} {K : Frg} {mg : Str → Option Value} {base : Heap} {j : Nat} (m : MG mg) {p__law_gcd : Fn} (c__law_gcd : Callee P w K mg base j "_law_gcd" 2 p__law_gcd) {p__law_is_in : Fn} (c__law_is_in : Callee P w K mg base j "_law_is_in" 2 p__law_is_in) {f : Addr} {fd : FuncData} (F : L2.Fun K "_law_spanned" "_law_spanned" s__law_spanned f fd) (hg : mg "_law_spanned" = some (.ref f)) {ψ : Fn}
    (hψ : Den.Does N__law_spanned.length 1 (d__law_spanned p__law_gcd p__law_is_in) ψ) : Callee P w K mg base (j + 1) "_law_spanned" 1 ψ :=
  ⟨⟨f, fd, ["rows"], fn_ok F sc__law_spanned (fun _ _ _ _ _ _ hr => b__law_spanned m c__law_gcd c__law_is_in hr) hψ, hg, F.kp, F.binds fun _ _ _ _ _ _ us hl => match us, hl with | [_], _ => rfl⟩⟩
/-! ### _law_ideal_of -/
def N__law_ideal_of : List Str := ["kind", "numbers", "rows", "u"]
abbrev s__law_ideal_of : Stmt := topS 42
theorem sc__law_ideal_of : FnScope N__law_ideal_of ["kind", "numbers"] (defScope s__law_ideal_of) := ⟨rfl, rfl, rfl, by decide +kernel, rfl, by decide +kernel, by decide +kernel⟩
noncomputable def d__law_ideal_of (p__law_times_in : Fn) (p__law_spanned : Fn) : DenS :=
  (sSeq (sAsg (dLst aNil) (gNm 2))
  (sSeq (sFor (itSeq (cVar 1)) (gNm 3) (sAsg (d2 f_add (cVar 2) (dLst (aCons (cVar 3) (aCons (dCall 3 p__law_times_in (aCons (cVar 0) (aCons (cVar 3) (aCons (dTup (aCons (cK (.int 0)) (aCons (cK (.int 1)) aNil))) aNil)))) aNil)))) (gNm 2)))
  (sRet (dCall 1 p__law_spanned (aCons (cVar 2) aNil)))))
theorem b__law_ideal_of {P : Program} {w : World} {K : Frg} {mg : Str → Option Value} {base : Heap} {j : Nat} (m : MG mg) {p__law_times_in : Fn} (c__law_times_in : Callee P w K mg base j "_law_times_in" 3 p__law_times_in) {p__law_spanned : Fn} (c__law_spanned : Callee P w K mg base j "_law_spanned" 1 p__law_spanned) {qual : Str} {f : Addr} {cdv : Value} {A : Around} {outer : List Env} {s : Shared} {H : Hp} {E : XK} (hr : Room j (A.deeper (envOfC qual (defScope s__law_ideal_of) s.heap.objs.size f cdv))) :
    PSs (cxOf CX0 P w K mg base N__law_ideal_of qual (defScope s__law_ideal_of) f cdv A outer s H E).nox (defBody s__law_ideal_of) (tS K (d__law_ideal_of p__law_times_in p__law_spanned)) :=
    have nd := sc__law_ideal_of.nd
    (ss_cons (s_set 2 nd (e_lst a_nil))
      (ss_cons (s_for (i_seq (e_var 1)) (g_nm 3 nd) (ss_one (s_set 2 nd (e_op o_add s_add (e_var 2) (e_lst (a_cons (e_var 3) (a_cons (e_call c__law_times_in hr (a_cons (e_var 0) (a_cons (e_var 3) (a_cons (e_tup (a_cons e_int (a_cons e_int a_nil))) a_nil)))) a_nil)))))) ci_seq)
      (ss_one (s_ret (e_call c__law_spanned hr (a_cons (e_var 2) a_nil))))))
theorem w__law_ideal_of {P : Program} {w : World} {K : Frg} {mg : Str → Option Value} {base : Heap} {j : Nat} (m : MG mg) {p__law_times_in : Fn} (c__law_times_in : Callee P w K mg base j "_law_times_in" 3 p__law_times_in) {p__law_spanned : Fn} (c__law_spanned : Callee P w K mg base j "_law_spanned" 1 p__law_spanned) {f : Addr} {fd : FuncData} (F : L2.Fun K "_law_ideal_of" "_law_ideal_of" s__law_ideal_of f fd) (hg : mg "_law_ideal_of" = some (.ref f)) {ψ : Fn}
    (hψ : Den.Does N__law_ideal_of.length 2 (d__law_ideal_of p__law_times_in p__law_spanned) ψ) : Callee P w K mg base (j + 1) "_law_ideal_of" 2 ψ :=
  ⟨⟨f, fd, ["kind", "numbers"], fn_ok F sc__law_ideal_of (fun _ _ _ _ _ _ hr => b__law_ideal_of m c__law_times_in c__law_spanned hr) hψ, hg, F.kp, F.binds fun _ _ _ _ _ _ us hl => match us, hl with | [_, _], _ => rfl⟩⟩
/-! ### _law_product -/
def N__law_product : List Str := ["kind", "one", "other", "rows", "u", "v"]
abbrev s__law_product : Stmt := topS 43
theorem sc__law_product : FnScope N__law_product ["kind", "one", "other"] (defScope s__law_product) := ⟨rfl, rfl, rfl, by decide +kernel, rfl, by decide +kernel, by decide +kernel⟩
noncomputable def d__law_product (p__law_basis : Fn) (p__law_times_in : Fn) (p__law_spanned : Fn) : DenS :=
  (sSeq (sAsg (dLst aNil) (gNm 3))
  (sSeq (sFor (itSeq (dCall 1 p__law_basis (aCons (cVar 1) aNil))) (gNm 4) (sAsg (d2 f_add (cVar 3) (dLc [5] (itSeq (dCall 1 p__law_basis (aCons (cVar 2) aNil))) (gNm 5) tAll (dCall 3 p__law_times_in (aCons (cVar 0) (aCons (cVar 4) (aCons (cVar 5) aNil)))))) (gNm 3)))
  (sRet (dCall 1 p__law_spanned (aCons (cVar 3) aNil)))))
theorem b__law_product {P : Program} {w : World} {K : Frg} {mg : Str → Option Value} {base : Heap} {j : Nat} (m : MG mg) {p__law_basis : Fn} (c__law_basis : Callee P w K mg base j "_law_basis" 1 p__law_basis) {p__law_times_in : Fn} (c__law_times_in : Callee P w K mg base j "_law_times_in" 3 p__law_times_in) {p__law_spanned : Fn} (c__law_spanned : Callee P w K mg base j "_law_spanned" 1 p__law_spanned) {qual : Str} {f : Addr} {cdv : Value} {A : Around} {outer : List Env} {s : Shared} {H : Hp} {E : XK} (hr : Room j (A.deeper (envOfC qual (defScope s__law_product) s.heap.objs.size f cdv))) :
    PSs (cxOf CX0 P w K mg base N__law_product qual (defScope s__law_product) f cdv A outer s H E).nox (defBody s__law_product) (tS K (d__law_product p__law_basis p__law_times_in p__law_spanned)) :=
    have nd := sc__law_product.nd
    (ss_cons (s_set 3 nd (e_lst a_nil))
      (ss_cons (s_for (i_seq (e_call c__law_basis hr (a_cons (e_var 1) a_nil))) (g_nm 4 nd) (ss_one (s_set 3 nd (e_op o_add s_add (e_var 3) (e_lc (own := [("v", 5)]) nd (i_seq (e_call c__law_basis hr (a_cons (e_var 2) a_nil))) ci_seq (blkOk_by (own := [("v", 5)]) (N := N__law_product) (sc := defScope s__law_product) (by decide +kernel)) (gin_nmV 5) (fun _ _ _ _ _ => (pg_name (i := 5) nd rfl (by first | exact Or.inl rfl | exact Or.inr rfl))) (fun _ _ _ _ _ => x_nil) (fun _ _ _ _ _ => (e_call c__law_times_in hr (a_cons (e_var 0) (a_cons (e_var 4) (a_cons (e_var 5) a_nil))))))))) ci_seq)
      (ss_one (s_ret (e_call c__law_spanned hr (a_cons (e_var 3) a_nil))))))
theorem w__law_product {P : Program} {w : World} {K : Frg} {mg : Str → Option Value} {base : Heap} {j : Nat} (m : MG mg) {p__law_basis : Fn} (c__law_basis : Callee P w K mg base j "_law_basis" 1 p__law_basis) {p__law_times_in : Fn} (c__law_times_in : Callee P w K mg base j "_law_times_in" 3 p__law_times_in) {p__law_spanned : Fn} (c__law_spanned : Callee P w K mg base j "_law_spanned" 1 p__law_spanned) {f : Addr} {fd : FuncData} (F : L2.Fun K "_law_product" "_law_product" s__law_product f fd) (hg : mg "_law_product" = some (.ref f)) {ψ : Fn}
    (hψ : Den.Does N__law_product.length 3 (d__law_product p__law_basis p__law_times_in p__law_spanned) ψ) : Callee P w K mg base (j + 1) "_law_product" 3 ψ :=
  ⟨⟨f, fd, ["kind", "one", "other"], fn_ok F sc__law_product (fun _ _ _ _ _ _ hr => b__law_product m c__law_basis c__law_times_in c__law_spanned hr) hψ, hg, F.kp, F.binds fun _ _ _ _ _ _ us hl => match us, hl with | [_, _, _], _ => rfl⟩⟩
/-! ### _law_ideals -/
def N__law_ideals : List Str := ["kind", "most", "found", "a", "b"]
abbrev s__law_ideals : Stmt := topS 44
theorem sc__law_ideals : FnScope N__law_ideals ["kind", "most"] (defScope s__law_ideals) := ⟨rfl, rfl, rfl, by decide +kernel, rfl, by decide +kernel, by decide +kernel⟩
noncomputable def d__law_ideals (p__law_norm : Fn) : DenS :=
  (sSeq (sAsg (dLst aNil) (gNm 2))
  (sSeq (sFor (itRg2 (aCons (cK (.int 1)) (aCons (d2 f_add (cVar 1) (cK (.int 1))) aNil))) (gNm 3) (sAsg (d2 f_add (cVar 2) (dLc [4] (itRg1 (aCons (cVar 3) aNil)) (gNm 4) (tB1 (d2 f_eq (d2 f_mod (dCall 2 p__law_norm (aCons (cVar 0) (aCons (dTup (aCons (cVar 4) (aCons (cK (.int 1)) aNil))) aNil))) (cVar 3)) (cK (.int 0)))) (dTup (aCons (cK (.int 1)) (aCons (cVar 3) (aCons (cVar 4) aNil)))))) (gNm 2)))
  (sRet (cVar 2))))
theorem b__law_ideals {P : Program} {w : World} {K : Frg} {mg : Str → Option Value} {base : Heap} {j : Nat} (m : MG mg) {p__law_norm : Fn} (c__law_norm : Callee P w K mg base j "_law_norm" 2 p__law_norm) {qual : Str} {f : Addr} {cdv : Value} {A : Around} {outer : List Env} {s : Shared} {H : Hp} {E : XK} (hr : Room j (A.deeper (envOfC qual (defScope s__law_ideals) s.heap.objs.size f cdv))) :
    PSs (cxOf CX0 P w K mg base N__law_ideals qual (defScope s__law_ideals) f cdv A outer s H E).nox (defBody s__law_ideals) (tS K (d__law_ideals p__law_norm)) :=
    have nd := sc__law_ideals.nd
    (ss_cons (s_set 2 nd (e_lst a_nil))
      (ss_cons (s_for (i_rg2 m.range (a_cons e_int (a_cons (e_op o_add s_add (e_var 1) e_int) a_nil))) (g_nm 3 nd) (ss_one (s_set 2 nd (e_op o_add s_add (e_var 2) (e_lc (own := [("b", 4)]) nd (i_rg1 m.range (a_cons (e_var 3) a_nil)) ci_rg1 (blkOk_by (own := [("b", 4)]) (N := N__law_ideals) (sc := defScope s__law_ideals) (by decide +kernel)) (gin_nmV 4) (fun _ _ _ _ _ => (pg_name (i := 4) nd rfl (by first | exact Or.inl rfl | exact Or.inr rfl))) (fun _ _ _ _ _ => (x_one (x_cmp (o_eq hr.units) s_eq (e_op o_mod s_mod (e_call c__law_norm hr (a_cons (e_var 0) (a_cons (e_tup (a_cons (e_var 4) (a_cons e_int a_nil))) a_nil))) (e_var 3)) e_int (nomark _)))) (fun _ _ _ _ _ => (e_tup (a_cons e_int (a_cons (e_var 3) (a_cons (e_var 4) a_nil))))))))) ci_rg2)
      (ss_one (s_ret (e_var 2)))))
theorem w__law_ideals {P : Program} {w : World} {K : Frg} {mg : Str → Option Value} {base : Heap} {j : Nat} (m : MG mg) {p__law_norm : Fn} (c__law_norm : Callee P w K mg base j "_law_norm" 2 p__law_norm) {f : Addr} {fd : FuncData} (F : L2.Fun K "_law_ideals" "_law_ideals" s__law_ideals f fd) (hg : mg "_law_ideals" = some (.ref f)) {ψ : Fn}
    (hψ : Den.Does N__law_ideals.length 2 (d__law_ideals p__law_norm) ψ) : Callee P w K mg base (j + 1) "_law_ideals" 2 ψ :=
  ⟨⟨f, fd, ["kind", "most"], fn_ok F sc__law_ideals (fun _ _ _ _ _ _ hr => b__law_ideals m c__law_norm hr) hψ, hg, F.kp, F.binds fun _ _ _ _ _ _ us hl => match us, hl with | [_, _], _ => rfl⟩⟩
/-! ### _law_some_ideal -/
def N__law_some_ideal : List Str := ["c", "kind", "rows", "k", "a", "b"]
abbrev s__law_some_ideal : Stmt := topS 45
theorem sc__law_some_ideal : FnScope N__law_some_ideal ["c", "kind"] (defScope s__law_some_ideal) := ⟨rfl, rfl, rfl, by decide +kernel, rfl, by decide +kernel, by decide +kernel⟩
noncomputable def d__law_some_ideal (p__law_ideals : Fn) (p__law_take : Fn) : DenS :=
  (sSeq (sAsg (dCall 2 p__law_ideals (aCons (cVar 1) (aCons (cK (.int 24)) aNil))) (gNm 2))
  (sSeq (sAsg (d2 f_ix (cVar 2) (dCall 2 p__law_take (aCons (cVar 0) (aCons (dN f_len (aCons (cVar 2) aNil)) aNil)))) (gTu 3 (gsCons (gNm 3) (gsCons (gNm 4) (gsCons (gNm 5) gsNil)))))
  (sRet (dTup (aCons (d2 f_ix (dLst (aCons (cK (.int 1)) (aCons (cK (.int 1)) (aCons (cK (.int 2)) (aCons (cK (.int 3)) aNil))))) (dCall 2 p__law_take (aCons (cVar 0) (aCons (cK (.int 4)) aNil)))) (aCons (cVar 4) (aCons (cVar 5) aNil)))))))
theorem b__law_some_ideal {P : Program} {w : World} {K : Frg} {mg : Str → Option Value} {base : Heap} {j : Nat} (m : MG mg) {p__law_ideals : Fn} (c__law_ideals : Callee P w K mg base j "_law_ideals" 2 p__law_ideals) {p__law_take : Fn} (c__law_take : Callee P w K mg base j "_law_take" 2 p__law_take) {qual : Str} {f : Addr} {cdv : Value} {A : Around} {outer : List Env} {s : Shared} {H : Hp} {E : XK} (hr : Room j (A.deeper (envOfC qual (defScope s__law_some_ideal) s.heap.objs.size f cdv))) :
    PSs (cxOf CX0 P w K mg base N__law_some_ideal qual (defScope s__law_some_ideal) f cdv A outer s H E).nox (defBody s__law_some_ideal) (tS K (d__law_some_ideal p__law_ideals p__law_take)) :=
    have nd := sc__law_some_ideal.nd
    (ss_cons (s_set 2 nd (e_call c__law_ideals hr (a_cons (e_var 1) (a_cons e_int a_nil))))
      (ss_cons (s_asg (e_ix (e_var 2) (e_call c__law_take hr (a_cons (e_var 0) (a_cons (e_callB call_len s_len m.len (a_cons (e_var 2) a_nil)) a_nil)))) (g_tu rfl (gs_cons (g_nm 3 nd) (gs_cons (g_nm 4 nd) (gs_cons (g_nm 5 nd) gs_nil)))))
      (ss_one (s_ret (e_tup (a_cons (e_ix (e_lst (a_cons e_int (a_cons e_int (a_cons e_int (a_cons e_int a_nil))))) (e_call c__law_take hr (a_cons (e_var 0) (a_cons e_int a_nil)))) (a_cons (e_var 4) (a_cons (e_var 5) a_nil))))))))
theorem w__law_some_ideal {P : Program} {w : World} {K : Frg} {mg : Str → Option Value} {base : Heap} {j : Nat} (m : MG mg) {p__law_ideals : Fn} (c__law_ideals : Callee P w K mg base j "_law_ideals" 2 p__law_ideals) {p__law_take : Fn} (c__law_take : Callee P w K mg base j "_law_take" 2 p__law_take) {f : Addr} {fd : FuncData} (F : L2.Fun K "_law_some_ideal" "_law_some_ideal" s__law_some_ideal f fd) (hg : mg "_law_some_ideal" = some (.ref f)) {ψ : Fn}
    (hψ : Den.Does N__law_some_ideal.length 2 (d__law_some_ideal p__law_ideals p__law_take) ψ) : Callee P w K mg base (j + 1) "_law_some_ideal" 2 ψ :=
  ⟨⟨f, fd, ["c", "kind"], fn_ok F sc__law_some_ideal (fun _ _ _ _ _ _ hr => b__law_some_ideal m c__law_ideals c__law_take hr) hψ, hg, F.kp, F.binds fun _ _ _ _ _ _ us hl => match us, hl with | [_, _], _ => rfl⟩⟩
/-! ### _law_is_ideal -/
def N__law_is_ideal : List Str := ["kind", "value", "k", "a", "b", "one"]
abbrev s__law_is_ideal : Stmt := topS 46
theorem sc__law_is_ideal : FnScope N__law_is_ideal ["kind", "value"] (defScope s__law_is_ideal) := ⟨rfl, rfl, rfl, by decide +kernel, rfl, by decide +kernel, by decide +kernel⟩
noncomputable def d__law_is_ideal (p__law_is_int : Fn) (p__law_norm : Fn) : DenS :=
  (sSeq (sIf (tOr' (tNo (tTru (d1 (f_isi .tuple) (cVar 1)))) (tOr' (tB1 (d2 f_ne (dN f_len (aCons (cVar 1) aNil)) (cK (.int 3)))) (tNo (tTru (dN f_all (aCons (dLc [5] (itSeq (cVar 1)) (gNm 5) tAll (dCall 1 p__law_is_int (aCons (cVar 5) aNil))) aNil)))))) (sRet (cK (.bl false))) sNil)
  (sSeq (sAsg (cVar 1) (gTu 3 (gsCons (gNm 2) (gsCons (gNm 3) (gsCons (gNm 4) gsNil)))))
  (sRet (dAn (d2 f_gt (cVar 2) (cK (.int 0))) (dAn (dCh2 f_le f_lt (cK (.int 0)) (cVar 4) (cVar 3)) (d2 f_eq (d2 f_mod (dCall 2 p__law_norm (aCons (cVar 0) (aCons (dTup (aCons (cVar 4) (aCons (cK (.int 1)) aNil))) aNil))) (cVar 3)) (cK (.int 0))))))))
theorem b__law_is_ideal {P : Program} {w : World} {K : Frg} {mg : Str → Option Value} {base : Heap} {j : Nat} (m : MG mg) {p__law_is_int : Fn} (c__law_is_int : Callee P w K mg base j "_law_is_int" 1 p__law_is_int) {p__law_norm : Fn} (c__law_norm : Callee P w K mg base j "_law_norm" 2 p__law_norm) {qual : Str} {f : Addr} {cdv : Value} {A : Around} {outer : List Env} {s : Shared} {H : Hp} {E : XK} (hr : Room j (A.deeper (envOfC qual (defScope s__law_is_ideal) s.heap.objs.size f cdv))) :
    PSs (cxOf CX0 P w K mg base N__law_is_ideal qual (defScope s__law_is_ideal) f cdv A outer s H E).nox (defBody s__law_is_ideal) (tS K (d__law_is_ideal p__law_is_int p__law_norm)) :=
    have nd := sc__law_is_ideal.nd
    (ss_cons (s_if (x_or (x_no (x_tru (e_isi .tuple (e_var 1) m.isinstance m.tuple))) (x_or (x_cmp (o_ne hr.units) s_ne (e_callB call_len s_len m.len (a_cons (e_var 1) a_nil)) e_int (nomark _)) (x_or1 (x_no (x_tru (e_callB (cr_all (by rfl)) s_all m.all (a_cons (e_lc (own := [("one", 5)]) nd (i_seq (e_var 1)) ci_seq (blkOk_by (own := [("one", 5)]) (N := N__law_is_ideal) (sc := defScope s__law_is_ideal) (by decide +kernel)) (gin_nmV 5) (fun _ _ _ _ _ => (pg_name (i := 5) nd rfl (by first | exact Or.inl rfl | exact Or.inr rfl))) (fun _ _ _ _ _ => x_nil) (fun _ _ _ _ _ => (e_call c__law_is_int hr (a_cons (e_var 5) a_nil)))) a_nil))))))).pt (ss_one (s_ret e_bl)) ss_nil)
      (ss_cons (s_asg (e_var 1) (g_tu rfl (gs_cons (g_nm 2 nd) (gs_cons (g_nm 3 nd) (gs_cons (g_nm 4 nd) gs_nil)))))
      (ss_one (s_ret (e_an (e_cmp op_gt s_gt (e_var 2) e_int (nomark _)) (e_an (e_ch2 op_le s_le (o_lt hr.units0) s_lt e_int (e_var 4) (e_var 3)) (e_one (e_cmp (o_eq hr.units) s_eq (e_op o_mod s_mod (e_call c__law_norm hr (a_cons (e_var 0) (a_cons (e_tup (a_cons (e_var 4) (a_cons e_int a_nil))) a_nil))) (e_var 3)) e_int (nomark _)))))))))
theorem w__law_is_ideal {P : Program} {w : World} {K : Frg} {mg : Str → Option Value} {base : Heap} {j : Nat} (m : MG mg) {p__law_is_int : Fn} (c__law_is_int : Callee P w K mg base j "_law_is_int" 1 p__law_is_int) {p__law_norm : Fn} (c__law_norm : Callee P w K mg base j "_law_norm" 2 p__law_norm) {f : Addr} {fd : FuncData} (F : L2.Fun K "_law_is_ideal" "_law_is_ideal" s__law_is_ideal f fd) (hg : mg "_law_is_ideal" = some (.ref f)) {ψ : Fn}
    (hψ : Den.Does N__law_is_ideal.length 2 (d__law_is_ideal p__law_is_int p__law_norm) ψ) : Callee P w K mg base (j + 1) "_law_is_ideal" 2 ψ :=
  ⟨⟨f, fd, ["kind", "value"], fn_ok F sc__law_is_ideal (fun _ _ _ _ _ _ hr => b__law_is_ideal m c__law_is_int c__law_norm hr) hψ, hg, F.kp, F.binds fun _ _ _ _ _ _ us hl => match us, hl with | [_, _], _ => rfl⟩⟩
/-! ### law -/
def N_law : List Str := ["script", "c", "kind", "one", "other", "turn", "value", "told", "u", "numbers", "both", "product", "turned", "rest"]
abbrev s_law : Stmt := topS 47
theorem sc_law : FnScope N_law ["script"] (defScope s_law) := ⟨rfl, rfl, rfl, by decide +kernel, rfl, by decide +kernel, by decide +kernel⟩
noncomputable def d_law (p__law_start : Fn) (p__law_kind : Fn) (p__law_some_ideal : Fn) (p__law_bent : Fn) (p__law_take : Fn) (p_is_ideal : Fn) (p__law_is_ideal : Fn) (p_holds : Fn) (p__law_is_in : Fn) (p__law_alike : Fn) (p__law_ideal_of : Fn) (p_ideal_of : Fn) (p__law_spanned : Fn) (p__law_basis : Fn) (p__law_product : Fn) (p_sum_ideal : Fn) (p_product_ideal : Fn) (p__law_conjugate : Fn) (p_conjugate_ideal : Fn) (p_quotient_ideal : Fn) : DenS :=
  (sSeq (sAsg (dCall 1 p__law_start (aCons (cVar 0) aNil)) (gNm 1))
  (sSeq (sAsg (dCall 1 p__law_kind (aCons (cVar 1) aNil)) (gNm 2))
  (sSeq (sAsg (dTup (aCons (dCall 2 p__law_some_ideal (aCons (cVar 1) (aCons (cVar 2) aNil))) (aCons (dCall 2 p__law_some_ideal (aCons (cVar 1) (aCons (cVar 2) aNil))) aNil))) (gTu 2 (gsCons (gNm 3) (gsCons (gNm 4) gsNil))))
  (sSeq (sFor (itRg1 (aCons (cK (.int 6)) aNil)) (gNm 5) (sSeq (sAsg (dIf (tB1 (d2 f_lt (cVar 5) (cK (.int 4)))) (dCall 3 p__law_bent (aCons (cVar 1) (aCons (cVar 3) (aCons (cVar 5) aNil)))) (dTup (aCons (d2 f_add (cK (.int 1)) (dCall 2 p__law_take (aCons (cVar 1) (aCons (cK (.int 2)) aNil)))) (aCons (d2 f_add (cK (.int 1)) (dCall 2 p__law_take (aCons (cVar 1) (aCons (cK (.int 9)) aNil)))) (aCons (dCall 2 p__law_take (aCons (cVar 1) (aCons (cK (.int 9)) aNil))) aNil))))) (gNm 6))
  (sSeq (sAsg (dCall 2 p_is_ideal (aCons (cVar 2) (aCons (cVar 6) aNil))) (gNm 7))
  (sSeq (sIf (tOr' (tNo (tTru (d1 (f_isi .bool) (cVar 7)))) (tB1 (d2 f_ne (cVar 7) (dCall 2 p__law_is_ideal (aCons (cVar 2) (aCons (cVar 6) aNil)))))) (sRet (cK (.bl false))) sNil)
  (sSeq (sAsg (dTup (aCons (d2 f_sub (dCall 2 p__law_take (aCons (cVar 1) (aCons (cK (.int 41)) aNil))) (cK (.int 20))) (aCons (d2 f_sub (dCall 2 p__law_take (aCons (cVar 1) (aCons (cK (.int 21)) aNil))) (cK (.int 10))) aNil))) (gNm 8))
  (sSeq (sAsg (dCall 3 p_holds (aCons (cVar 2) (aCons (cVar 3) (aCons (cVar 8) aNil)))) (gNm 7))
  (sIf (tOr' (tNo (tTru (d1 (f_isi .bool) (cVar 7)))) (tB1 (d2 f_ne (cVar 7) (dCall 2 p__law_is_in (aCons (cVar 3) (aCons (cVar 8) aNil)))))) (sRet (cK (.bl false))) sNil)))))))
  (sSeq (sAsg (dLc [5] (itRg1 (aCons (d2 f_add (cK (.int 1)) (dCall 2 p__law_take (aCons (cVar 1) (aCons (cK (.int 3)) aNil)))) aNil)) (gNm 5) tAll (dTup (aCons (d2 f_sub (dCall 2 p__law_take (aCons (cVar 1) (aCons (cK (.int 25)) aNil))) (cK (.int 12))) (aCons (d2 f_sub (dCall 2 p__law_take (aCons (cVar 1) (aCons (cK (.int 9)) aNil))) (cK (.int 4))) aNil)))) (gNm 9))
  (sSeq (sIf (tTru (dN f_any (aCons (dLc [8] (itSeq (cVar 9)) (gNm 8) tAll (d2 f_ne (cVar 8) (dTup (aCons (cK (.int 0)) (aCons (cK (.int 0)) aNil))))) aNil))) (sIf (tNo (tTru (dCall 2 p__law_alike (aCons (dCall 2 p_ideal_of (aCons (cVar 2) (aCons (dN f_tuple (aCons (cVar 9) aNil)) aNil))) (aCons (dCall 2 p__law_ideal_of (aCons (cVar 2) (aCons (dLc [8] (itSeq (cVar 9)) (gNm 8) (tB1 (d2 f_ne (cVar 8) (dTup (aCons (cK (.int 0)) (aCons (cK (.int 0)) aNil))))) (cVar 8)) aNil))) aNil))))) (sRet (cK (.bl false))) sNil) sNil)
  (sSeq (sAsg (dCall 1 p__law_spanned (aCons (d2 f_add (dCall 1 p__law_basis (aCons (cVar 3) aNil)) (dCall 1 p__law_basis (aCons (cVar 4) aNil))) aNil)) (gNm 10))
  (sSeq (sAsg (dCall 3 p__law_product (aCons (cVar 2) (aCons (cVar 3) (aCons (cVar 4) aNil)))) (gNm 11))
  (sSeq (sIf (tOr' (tNo (tTru (dCall 2 p__law_alike (aCons (dCall 3 p_sum_ideal (aCons (cVar 2) (aCons (cVar 3) (aCons (cVar 4) aNil)))) (aCons (cVar 10) aNil))))) (tNo (tTru (dCall 2 p__law_alike (aCons (dCall 3 p_product_ideal (aCons (cVar 2) (aCons (cVar 3) (aCons (cVar 4) aNil)))) (aCons (cVar 11) aNil)))))) (sRet (cK (.bl false))) sNil)
  (sSeq (sAsg (dCall 1 p__law_spanned (aCons (dLc [8] (itSeq (dCall 1 p__law_basis (aCons (cVar 3) aNil))) (gNm 8) tAll (dCall 2 p__law_conjugate (aCons (cVar 2) (aCons (cVar 8) aNil)))) aNil)) (gNm 12))
  (sSeq (sIf (tNo (tTru (dCall 2 p__law_alike (aCons (dCall 2 p_conjugate_ideal (aCons (cVar 2) (aCons (cVar 3) aNil))) (aCons (cVar 12) aNil))))) (sRet (cK (.bl false))) sNil)
  (sSeq (sIf (tOr' (tB1 (d2 f_ne (dCall 3 p_quotient_ideal (aCons (cVar 2) (aCons (cVar 11) (aCons (cVar 4) aNil)))) (cVar 3))) (tB1 (d2 f_ne (dCall 3 p__law_product (aCons (cVar 2) (aCons (cVar 3) (aCons (cVar 12) aNil)))) (dTup (aCons (d2 f_mul (d2 f_mul (d2 f_ix (cVar 3) (cK (.int 0))) (d2 f_ix (cVar 3) (cK (.int 0)))) (d2 f_ix (cVar 3) (cK (.int 1)))) (aCons (cK (.int 1)) (aCons (cK (.int 0)) aNil))))))) (sRet (cK (.bl false))) sNil)
  (sSeq (sAsg (dCall 3 p_quotient_ideal (aCons (cVar 2) (aCons (cVar 3) (aCons (cVar 4) aNil)))) (gNm 13))
  (sSeq (sIf (tTru (dN f_all (aCons (dLc [8] (itSeq (dCall 1 p__law_basis (aCons (cVar 3) aNil))) (gNm 8) tAll (dCall 2 p__law_is_in (aCons (cVar 4) (aCons (cVar 8) aNil)))) aNil))) (sRet (dAn (d2 f_isn (cVar 13) (cK .non)) (dAn (dCall 2 p__law_is_ideal (aCons (cVar 2) (aCons (cVar 13) aNil))) (d2 f_eq (dCall 3 p__law_product (aCons (cVar 2) (aCons (cVar 13) (aCons (cVar 4) aNil)))) (cVar 3))))) sNil)
  (sRet (d2 f_is (cVar 13) (cK .non)))))))))))))))))
theorem b_law {P : Program} {w : World} {K : Frg} {mg : Str → Option Value} {base : Heap} {j : Nat} (m : MG mg) {p__law_start : Fn} (c__law_start : Callee P w K mg base j "_law_start" 1 p__law_start) {p__law_kind : Fn} (c__law_kind : Callee P w K mg base j "_law_kind" 1 p__law_kind) {p__law_some_ideal : Fn} (c__law_some_ideal : Callee P w K mg base j "_law_some_ideal" 2 p__law_some_ideal) {p__law_bent : Fn} (c__law_bent : Callee P w K mg base j "_law_bent" 3 p__law_bent) {p__law_take : Fn} (c__law_take : Callee P w K mg base j "_law_take" 2 p__law_take) {p_is_ideal : Fn} (c_is_ideal : Callee P w K mg base j "is_ideal" 2 p_is_ideal) {p__law_is_ideal : Fn} (c__law_is_ideal : Callee P w K mg base j "_law_is_ideal" 2 p__law_is_ideal) {p_holds : Fn} (c_holds : Callee P w K mg base j "holds" 3 p_holds) {p__law_is_in : Fn} (c__law_is_in : Callee P w K mg base j "_law_is_in" 2 p__law_is_in) {p__law_alike : Fn} (c__law_alike : Callee P w K mg base j "_law_alike" 2 p__law_alike) {p__law_ideal_of : Fn} (c__law_ideal_of : Callee P w K mg base j "_law_ideal_of" 2 p__law_ideal_of) {p_ideal_of : Fn} (c_ideal_of : Callee P w K mg base j "ideal_of" 2 p_ideal_of) {p__law_spanned : Fn} (c__law_spanned : Callee P w K mg base j "_law_spanned" 1 p__law_spanned) {p__law_basis : Fn} (c__law_basis : Callee P w K mg base j "_law_basis" 1 p__law_basis) {p__law_product : Fn} (c__law_product : Callee P w K mg base j "_law_product" 3 p__law_product) {p_sum_ideal : Fn} (c_sum_ideal : Callee P w K mg base j "sum_ideal" 3 p_sum_ideal) {p_product_ideal : Fn} (c_product_ideal : Callee P w K mg base j "product_ideal" 3 p_product_ideal) {p__law_conjugate : Fn} (c__law_conjugate : Callee P w K mg base j "_law_conjugate" 2 p__law_conjugate) {p_conjugate_ideal : Fn} (c_conjugate_ideal : Callee P w K mg base j "conjugate_ideal" 2 p_conjugate_ideal) {p_quotient_ideal : Fn} (c_quotient_ideal : Callee P w K mg base j "quotient_ideal" 3 p_quotient_ideal) {qual : Str} {f : Addr} {cdv : Value} {A : Around} {outer : List Env} {s : Shared} {H : Hp} {E : XK} (hr : Room j (A.deeper (envOfC qual (defScope s_law) s.heap.objs.size f cdv))) :
    PSs (cxOf CX0 P w K mg base N_law qual (defScope s_law) f cdv A outer s H E).nox (defBody s_law) (tS K (d_law p__law_start p__law_kind p__law_some_ideal p__law_bent p__law_take p_is_ideal p__law_is_ideal p_holds p__law_is_in p__law_alike p__law_ideal_of p_ideal_of p__law_spanned p__law_basis p__law_product p_sum_ideal p_product_ideal p__law_conjugate p_conjugate_ideal p_quotient_ideal)) :=
    have nd := sc_law.nd
    (ss_cons (s_set 1 nd (e_call c__law_start hr (a_cons (e_var 0) a_nil)))
      (ss_cons (s_set 2 nd (e_call c__law_kind hr (a_cons (e_var 1) a_nil)))
      (ss_cons (s_asg (e_tup (a_cons (e_call c__law_some_ideal hr (a_cons (e_var 1) (a_cons (e_var 2) a_nil))) (a_cons (e_call c__law_some_ideal hr (a_cons (e_var 1) (a_cons (e_var 2) a_nil))) a_nil))) (g_tu rfl (gs_cons (g_nm 3 nd) (gs_cons (g_nm 4 nd) gs_nil))))
      (ss_cons (s_for (i_rg1 m.range (a_cons e_int a_nil)) (g_nm 5 nd) (ss_cons (s_set 6 nd (e_if (x_cmp (o_lt hr.units0) s_lt (e_var 5) e_int (nomark _)) (e_call c__law_bent hr (a_cons (e_var 1) (a_cons (e_var 3) (a_cons (e_var 5) a_nil)))) (e_tup (a_cons (e_op o_add s_add e_int (e_call c__law_take hr (a_cons (e_var 1) (a_cons e_int a_nil)))) (a_cons (e_op o_add s_add e_int (e_call c__law_take hr (a_cons (e_var 1) (a_cons e_int a_nil)))) (a_cons (e_call c__law_take hr (a_cons (e_var 1) (a_cons e_int a_nil))) a_nil))))))
      (ss_cons (s_set 7 nd (e_call c_is_ideal hr (a_cons (e_var 2) (a_cons (e_var 6) a_nil))))
      (ss_cons (s_if (x_or (x_no (x_tru (e_isi .bool (e_var 7) m.isinstance m.bool))) (x_or1 (x_cmp (o_ne hr.units) s_ne (e_var 7) (e_call c__law_is_ideal hr (a_cons (e_var 2) (a_cons (e_var 6) a_nil))) (nomark _)))).pt (ss_one (s_ret e_bl)) ss_nil)
      (ss_cons (s_set 8 nd (e_tup (a_cons (e_op o_sub s_sub (e_call c__law_take hr (a_cons (e_var 1) (a_cons e_int a_nil))) e_int) (a_cons (e_op o_sub s_sub (e_call c__law_take hr (a_cons (e_var 1) (a_cons e_int a_nil))) e_int) a_nil))))
      (ss_cons (s_set 7 nd (e_call c_holds hr (a_cons (e_var 2) (a_cons (e_var 3) (a_cons (e_var 8) a_nil)))))
      (ss_one (s_if (x_or (x_no (x_tru (e_isi .bool (e_var 7) m.isinstance m.bool))) (x_or1 (x_cmp (o_ne hr.units) s_ne (e_var 7) (e_call c__law_is_in hr (a_cons (e_var 3) (a_cons (e_var 8) a_nil))) (nomark _)))).pt (ss_one (s_ret e_bl)) ss_nil))))))) ci_rg1)
      (ss_cons (s_setLc 9 (own := [("turn", 5)]) nd (sw_true rfl rfl rfl (by decide +kernel)) (i_rg1 m.range (a_cons (e_op o_add s_add e_int (e_call c__law_take hr (a_cons (e_var 1) (a_cons e_int a_nil)))) a_nil)) ci_rg1 (blkOk_by (own := [("turn", 5)]) (N := N_law) (sc := defScope s_law) (by decide +kernel)) (gin_nmV 5) (fun _ _ _ _ _ => (pg_name (i := 5) nd rfl (by first | exact Or.inl rfl | exact Or.inr rfl))) (fun _ _ _ _ _ => x_nil) (fun _ _ _ _ _ => (e_tup (a_cons (e_op o_sub s_sub (e_call c__law_take hr (a_cons (e_var 1) (a_cons e_int a_nil))) e_int) (a_cons (e_op o_sub s_sub (e_call c__law_take hr (a_cons (e_var 1) (a_cons e_int a_nil))) e_int) a_nil)))))
      (ss_cons (s_if (x_tru (e_callB (cr_any (by rfl)) s_any m.any (a_cons (e_lc (own := [("u", 8)]) nd (i_seq (e_var 9)) ci_seq (blkOk_by (own := [("u", 8)]) (N := N_law) (sc := defScope s_law) (by decide +kernel)) (gin_nmV 8) (fun _ _ _ _ _ => (pg_name (i := 8) nd rfl (by first | exact Or.inl rfl | exact Or.inr rfl))) (fun _ _ _ _ _ => x_nil) (fun _ _ _ _ _ => (e_cmp (o_ne hr.units) s_ne (e_var 8) (e_tup (a_cons e_int (a_cons e_int a_nil))) (nomark _)))) a_nil))) (ss_one (s_if (x_no (x_tru (e_call c__law_alike hr (a_cons (e_call c_ideal_of hr (a_cons (e_var 2) (a_cons (e_callTy call_tuple_of s_tuple m.tuple (a_cons (e_var 9) a_nil)) a_nil))) (a_cons (e_call c__law_ideal_of hr (a_cons (e_var 2) (a_cons (e_lc (own := [("u", 8)]) nd (i_seq (e_var 9)) ci_seq (blkOk_by (own := [("u", 8)]) (N := N_law) (sc := defScope s_law) (by decide +kernel)) (gin_nmV 8) (fun _ _ _ _ _ => (pg_name (i := 8) nd rfl (by first | exact Or.inl rfl | exact Or.inr rfl))) (fun _ _ _ _ _ => (x_one (x_cmp (o_ne hr.units) s_ne (e_var 8) (e_tup (a_cons e_int (a_cons e_int a_nil))) (nomark _)))) (fun _ _ _ _ _ => (e_var 8))) a_nil))) a_nil))))) (ss_one (s_ret e_bl)) ss_nil)) ss_nil)
      (ss_cons (s_set 10 nd (e_call c__law_spanned hr (a_cons (e_op o_add s_add (e_call c__law_basis hr (a_cons (e_var 3) a_nil)) (e_call c__law_basis hr (a_cons (e_var 4) a_nil))) a_nil)))
      (ss_cons (s_set 11 nd (e_call c__law_product hr (a_cons (e_var 2) (a_cons (e_var 3) (a_cons (e_var 4) a_nil)))))
      (ss_cons (s_if (x_or (x_no (x_tru (e_call c__law_alike hr (a_cons (e_call c_sum_ideal hr (a_cons (e_var 2) (a_cons (e_var 3) (a_cons (e_var 4) a_nil)))) (a_cons (e_var 10) a_nil))))) (x_or1 (x_no (x_tru (e_call c__law_alike hr (a_cons (e_call c_product_ideal hr (a_cons (e_var 2) (a_cons (e_var 3) (a_cons (e_var 4) a_nil)))) (a_cons (e_var 11) a_nil))))))).pt (ss_one (s_ret e_bl)) ss_nil)
      (ss_cons (s_set 12 nd (e_call c__law_spanned hr (a_cons (e_lc (own := [("u", 8)]) nd (i_seq (e_call c__law_basis hr (a_cons (e_var 3) a_nil))) ci_seq (blkOk_by (own := [("u", 8)]) (N := N_law) (sc := defScope s_law) (by decide +kernel)) (gin_nmV 8) (fun _ _ _ _ _ => (pg_name (i := 8) nd rfl (by first | exact Or.inl rfl | exact Or.inr rfl))) (fun _ _ _ _ _ => x_nil) (fun _ _ _ _ _ => (e_call c__law_conjugate hr (a_cons (e_var 2) (a_cons (e_var 8) a_nil))))) a_nil)))
      (ss_cons (s_if (x_no (x_tru (e_call c__law_alike hr (a_cons (e_call c_conjugate_ideal hr (a_cons (e_var 2) (a_cons (e_var 3) a_nil))) (a_cons (e_var 12) a_nil))))) (ss_one (s_ret e_bl)) ss_nil)
      (ss_cons (s_if (x_or (x_cmp (o_ne hr.units) s_ne (e_call c_quotient_ideal hr (a_cons (e_var 2) (a_cons (e_var 11) (a_cons (e_var 4) a_nil)))) (e_var 3) (nomark _)) (x_or1 (x_cmp (o_ne hr.units) s_ne (e_call c__law_product hr (a_cons (e_var 2) (a_cons (e_var 3) (a_cons (e_var 12) a_nil)))) (e_tup (a_cons (e_op o_mul s_mul (e_op o_mul s_mul (e_ix (e_var 3) e_int) (e_ix (e_var 3) e_int)) (e_ix (e_var 3) e_int)) (a_cons e_int (a_cons e_int a_nil)))) (nomark _)))).pt (ss_one (s_ret e_bl)) ss_nil)
      (ss_cons (s_set 13 nd (e_call c_quotient_ideal hr (a_cons (e_var 2) (a_cons (e_var 3) (a_cons (e_var 4) a_nil)))))
      (ss_cons (s_if (x_tru (e_callB (cr_all (by rfl)) s_all m.all (a_cons (e_lc (own := [("u", 8)]) nd (i_seq (e_call c__law_basis hr (a_cons (e_var 3) a_nil))) ci_seq (blkOk_by (own := [("u", 8)]) (N := N_law) (sc := defScope s_law) (by decide +kernel)) (gin_nmV 8) (fun _ _ _ _ _ => (pg_name (i := 8) nd rfl (by first | exact Or.inl rfl | exact Or.inr rfl))) (fun _ _ _ _ _ => x_nil) (fun _ _ _ _ _ => (e_call c__law_is_in hr (a_cons (e_var 4) (a_cons (e_var 8) a_nil))))) a_nil))) (ss_one (s_ret (e_an (e_cmp o_isn s_isn (e_var 13) e_non (nomark _)) (e_an (e_call c__law_is_ideal hr (a_cons (e_var 2) (a_cons (e_var 13) a_nil))) (e_one (e_cmp (o_eq hr.units) s_eq (e_call c__law_product hr (a_cons (e_var 2) (a_cons (e_var 13) (a_cons (e_var 4) a_nil)))) (e_var 3) (nomark _))))))) ss_nil)
      (ss_one (s_ret (e_cmp o_is s_is (e_var 13) e_non (nomark _))))))))))))))))))
theorem w_law {P : Program} {w : World} {K : Frg} {mg : Str → Option Value} {base : Heap} {j : Nat} (m : MG mg) {p__law_start : Fn} (c__law_start : Callee P w K mg base j "_law_start" 1 p__law_start) {p__law_kind : Fn} (c__law_kind : Callee P w K mg base j "_law_kind" 1 p__law_kind) {p__law_some_ideal : Fn} (c__law_some_ideal : Callee P w K mg base j "_law_some_ideal" 2 p__law_some_ideal) {p__law_bent : Fn} (c__law_bent : Callee P w K mg base j "_law_bent" 3 p__law_bent) {p__law_take : Fn} (c__law_take : Callee P w K mg base j "_law_take" 2 p__law_take) {p_is_ideal : Fn} (c_is_ideal : Callee P w K mg base j "is_ideal" 2 p_is_ideal) {p__law_is_ideal : Fn} (c__law_is_ideal : Callee P w K mg base j "_law_is_ideal" 2 p__law_is_ideal) {p_holds : Fn} (c_holds : Callee P w K mg base j "holds" 3 p_holds) {p__law_is_in : Fn} (c__law_is_in : Callee P w K mg base j "_law_is_in" 2 p__law_is_in) {p__law_alike : Fn} (c__law_alike : Callee P w K mg base j "_law_alike" 2 p__law_alike) {p__law_ideal_of : Fn} (c__law_ideal_of : Callee P w K mg base j "_law_ideal_of" 2 p__law_ideal_of) {p_ideal_of : Fn} (c_ideal_of : Callee P w K mg base j "ideal_of" 2 p_ideal_of) {p__law_spanned : Fn} (c__law_spanned : Callee P w K mg base j "_law_spanned" 1 p__law_spanned) {p__law_basis : Fn} (c__law_basis : Callee P w K mg base j "_law_basis" 1 p__law_basis) {p__law_product : Fn} (c__law_product : Callee P w K mg base j "_law_product" 3 p__law_product) {p_sum_ideal : Fn} (c_sum_ideal : Callee P w K mg base j "sum_ideal" 3 p_sum_ideal) {p_product_ideal : Fn} (c_product_ideal : Callee P w K mg base j "product_ideal" 3 p_product_ideal) {p__law_conjugate : Fn} (c__law_conjugate : Callee P w K mg base j "_law_conjugate" 2 p__law_conjugate) {p_conjugate_ideal : Fn} (c_conjugate_ideal : Callee P w K mg base j "conjugate_ideal" 2 p_conjugate_ideal) {p_quotient_ideal : Fn} (c_quotient_ideal : Callee P w K mg base j "quotient_ideal" 3 p_quotient_ideal) {f : Addr} {fd : FuncData} (F : L2.Fun K "law" "law" s_law f fd) (hg : mg "law" = some (.ref f)) {ψ : Fn}
    (hψ : Den.Does N_law.length 1 (d_law p__law_start p__law_kind p__law_some_ideal p__law_bent p__law_take p_is_ideal p__law_is_ideal p_holds p__law_is_in p__law_alike p__law_ideal_of p_ideal_of p__law_spanned p__law_basis p__law_product p_sum_ideal p_product_ideal p__law_conjugate p_conjugate_ideal p_quotient_ideal) ψ) : Callee P w K mg base (j + 1) "law" 1 ψ :=
  ⟨⟨f, fd, ["script"], fn_ok F sc_law (fun _ _ _ _ _ _ hr => b_law m c__law_start c__law_kind c__law_some_ideal c__law_bent c__law_take c_is_ideal c__law_is_ideal c_holds c__law_is_in c__law_alike c__law_ideal_of c_ideal_of c__law_spanned c__law_basis c__law_product c_sum_ideal c_product_ideal c__law_conjugate c_conjugate_ideal c_quotient_ideal hr) hψ, hg, F.kp, F.binds fun _ _ _ _ _ _ us hl => match us, hl with | [_], _ => rfl⟩⟩
end K17

/-! K17b: what the defs of k17 reckon: numbers. -/
namespace K17
open PySem PySem.Spec PyProof.Rows L2 Fd Nm
def tw (d : Int) : Int := if d % 4 = 1 then 1 else 0
def nw (d : Int) : Int := if d % 4 = 1 then (1 - d) / 4 else -d
def rg (d : Int) : Ring := ⟨tw d, nw d⟩
abbrev pv (u : Pr) : PV := .tup [.int u.1, .int u.2]
/-- both parts below 2 ^ b -/
def Bd (b : Nat) (u : Pr) : Prop := u.1.natAbs < 2 ^ b ∧ u.2.natAbs < 2 ^ b
theorem tw_le (d : Int) : tw d = 0 ∨ tw d = 1 := by unfold tw; split <;> simp
theorem nw_lt {d : Int} (h : d.natAbs < 1000) : (nw d).natAbs < 2 ^ 10 := by unfold nw; split <;> omega
noncomputable def p_tr : Fn := runF 1 d_trace_of_w
noncomputable def p_nw : Fn := runF 1 d_norm_of_w
noncomputable def p_lt : Fn := runF 1 d__law_t
theorem tr_ok (d : Int) (μ : Sto) : p_tr [.int d] μ = some (.int (tw d), μ) := by
  refine runF_rt (ρ := [some (.int d)]) rfl ?_
  have h : f_int [.bl (decide (d % 4 = 1))] μ = some (.int (tw d), μ) := by
    show some (PV.int (if decide (d % 4 = 1) = true then 1 else 0), μ) = _
    unfold tw
    by_cases e : d % 4 = 1
    · rw [if_pos (decide_eq_true e), if_pos e]
    · rw [if_neg (by rw [decide_eq_false e]; exact Bool.false_ne_true), if_neg e]
  unfold d_trace_of_w
  ((first | with_reducible apply ev_set | with_reducible apply ev_par | with_reducible apply ev_par3 | with_reducible apply ev_asg | with_reducible apply ev_ex | with_reducible apply ev_ret | with_reducible exact ev_sNil | (with_reducible apply ev_aug; exact rfl)) <;> (repeat' first | (with_reducible apply ev_var; exact rfl) | with_reducible exact ev_K | with_reducible exact h | with_reducible exact ev_aNil | with_reducible exact ev_oNo | with_reducible exact ev_tAll | with_reducible exact ev_gsN | with_reducible apply ev_aCons | with_reducible apply ev_d2 | with_reducible apply ev_d1 | with_reducible apply ev_dN | with_reducible apply ev_dCall | with_reducible apply ev_dTup | with_reducible apply ev_dLst | with_reducible apply ev_dLoc | with_reducible apply ev_sl | with_reducible apply ev_oSo | with_reducible apply ev_ch2b | with_reducible apply ev_ch3b | with_reducible apply ev_tB | with_reducible apply ev_tTru | with_reducible apply ev_tNo | with_reducible apply ev_no | with_reducible apply ev_dML | with_reducible apply ev_gTu | with_reducible apply ev_gsC | with_reducible apply ev_gSb | with_reducible apply ev_gNm | (simp only [List.length_cons, List.length_nil]; exact len_le (by decide)) | exact decide_eq_true (by omega) | exact decide_eq_false (by omega) | exact ne_t (by omega) | exact ne_f (by omega) | with_reducible apply lt_ii | with_reducible apply le_ii | with_reducible apply gt_ii | with_reducible apply ge_ii | with_reducible apply eq_ii | with_reducible apply ne_ii | with_reducible apply eq_ss | with_reducible exact add_ii | with_reducible exact sub_ii | with_reducible exact neg_i | with_reducible apply mul_ii | exact okMul_small (by omega) (by omega) | exact mod_ii (by omega) | exact fdiv_ii (by omega) (by omega) | exact mod_ni (by omega) | exact fdiv_ni (by omega) (by omega) | exact pow_ii (by omega) (by omega) (by omega) | with_reducible apply ix_tup | with_reducible apply ix_lst | (simp only [List.set_cons_succ, List.set_cons_zero]; rfl) | exact rfl | exact h))
theorem lt_ok (d : Int) (μ : Sto) : p_lt [.int d] μ = some (.int (tw d), μ) := tr_ok d μ
theorem nw_ok (d : Int) (μ : Sto) : p_nw [.int d] μ = some (.int (nw d), μ) := by
  refine runF_rt (ρ := [some (.int d)]) rfl ?_
  unfold d_norm_of_w nw
  apply ev_ret
  by_cases e : d % 4 = 1
  · rw [if_pos e]
    apply ev_if_t (μ1 := μ)
    case hc => (repeat' first | (with_reducible apply ev_var; exact rfl) | with_reducible exact ev_K | with_reducible exact ev_aNil | with_reducible exact ev_oNo | with_reducible exact ev_tAll | with_reducible exact ev_gsN | with_reducible apply ev_aCons | with_reducible apply ev_d2 | with_reducible apply ev_d1 | with_reducible apply ev_dN | with_reducible apply ev_dCall | with_reducible apply ev_dTup | with_reducible apply ev_dLst | with_reducible apply ev_dLoc | with_reducible apply ev_sl | with_reducible apply ev_oSo | with_reducible apply ev_ch2b | with_reducible apply ev_ch3b | with_reducible apply ev_tB | with_reducible apply ev_tTru | with_reducible apply ev_tNo | with_reducible apply ev_no | with_reducible apply ev_dML | with_reducible apply ev_gTu | with_reducible apply ev_gsC | with_reducible apply ev_gSb | with_reducible apply ev_gNm | (simp only [List.length_cons, List.length_nil]; exact len_le (by decide)) | exact decide_eq_true (by omega) | exact decide_eq_false (by omega) | exact ne_t (by omega) | exact ne_f (by omega) | with_reducible apply lt_ii | with_reducible apply le_ii | with_reducible apply gt_ii | with_reducible apply ge_ii | with_reducible apply eq_ii | with_reducible apply ne_ii | with_reducible apply eq_ss | with_reducible exact add_ii | with_reducible exact sub_ii | with_reducible exact neg_i | with_reducible apply mul_ii | exact okMul_small (by omega) (by omega) | exact mod_ii (by omega) | exact fdiv_ii (by omega) (by omega) | exact mod_ni (by omega) | exact fdiv_ni (by omega) (by omega) | exact pow_ii (by omega) (by omega) (by omega) | with_reducible apply ix_tup | with_reducible apply ix_lst | (simp only [List.set_cons_succ, List.set_cons_zero]; rfl) | exact rfl)
    (repeat' first | (with_reducible apply ev_var; exact rfl) | with_reducible exact ev_K | with_reducible exact ev_aNil | with_reducible exact ev_oNo | with_reducible exact ev_tAll | with_reducible exact ev_gsN | with_reducible apply ev_aCons | with_reducible apply ev_d2 | with_reducible apply ev_d1 | with_reducible apply ev_dN | with_reducible apply ev_dCall | with_reducible apply ev_dTup | with_reducible apply ev_dLst | with_reducible apply ev_dLoc | with_reducible apply ev_sl | with_reducible apply ev_oSo | with_reducible apply ev_ch2b | with_reducible apply ev_ch3b | with_reducible apply ev_tB | with_reducible apply ev_tTru | with_reducible apply ev_tNo | with_reducible apply ev_no | with_reducible apply ev_dML | with_reducible apply ev_gTu | with_reducible apply ev_gsC | with_reducible apply ev_gSb | with_reducible apply ev_gNm | (simp only [List.length_cons, List.length_nil]; exact len_le (by decide)) | exact decide_eq_true (by omega) | exact decide_eq_false (by omega) | exact ne_t (by omega) | exact ne_f (by omega) | with_reducible apply lt_ii | with_reducible apply le_ii | with_reducible apply gt_ii | with_reducible apply ge_ii | with_reducible apply eq_ii | with_reducible apply ne_ii | with_reducible apply eq_ss | with_reducible exact add_ii | with_reducible exact sub_ii | with_reducible exact neg_i | with_reducible apply mul_ii | exact okMul_small (by omega) (by omega) | exact mod_ii (by omega) | exact fdiv_ii (by omega) (by omega) | exact mod_ni (by omega) | exact fdiv_ni (by omega) (by omega) | exact pow_ii (by omega) (by omega) (by omega) | with_reducible apply ix_tup | with_reducible apply ix_lst | (simp only [List.set_cons_succ, List.set_cons_zero]; rfl) | exact rfl)
  · rw [if_neg e]
    apply ev_if_f (μ1 := μ)
    case hc => (repeat' first | (with_reducible apply ev_var; exact rfl) | with_reducible exact ev_K | with_reducible exact ev_aNil | with_reducible exact ev_oNo | with_reducible exact ev_tAll | with_reducible exact ev_gsN | with_reducible apply ev_aCons | with_reducible apply ev_d2 | with_reducible apply ev_d1 | with_reducible apply ev_dN | with_reducible apply ev_dCall | with_reducible apply ev_dTup | with_reducible apply ev_dLst | with_reducible apply ev_dLoc | with_reducible apply ev_sl | with_reducible apply ev_oSo | with_reducible apply ev_ch2b | with_reducible apply ev_ch3b | with_reducible apply ev_tB | with_reducible apply ev_tTru | with_reducible apply ev_tNo | with_reducible apply ev_no | with_reducible apply ev_dML | with_reducible apply ev_gTu | with_reducible apply ev_gsC | with_reducible apply ev_gSb | with_reducible apply ev_gNm | (simp only [List.length_cons, List.length_nil]; exact len_le (by decide)) | exact decide_eq_true (by omega) | exact decide_eq_false (by omega) | exact ne_t (by omega) | exact ne_f (by omega) | with_reducible apply lt_ii | with_reducible apply le_ii | with_reducible apply gt_ii | with_reducible apply ge_ii | with_reducible apply eq_ii | with_reducible apply ne_ii | with_reducible apply eq_ss | with_reducible exact add_ii | with_reducible exact sub_ii | with_reducible exact neg_i | with_reducible apply mul_ii | exact okMul_small (by omega) (by omega) | exact mod_ii (by omega) | exact fdiv_ii (by omega) (by omega) | exact mod_ni (by omega) | exact fdiv_ni (by omega) (by omega) | exact pow_ii (by omega) (by omega) (by omega) | with_reducible apply ix_tup | with_reducible apply ix_lst | (simp only [List.set_cons_succ, List.set_cons_zero]; rfl) | exact rfl)
    (repeat' first | (with_reducible apply ev_var; exact rfl) | with_reducible exact ev_K | with_reducible exact ev_aNil | with_reducible exact ev_oNo | with_reducible exact ev_tAll | with_reducible exact ev_gsN | with_reducible apply ev_aCons | with_reducible apply ev_d2 | with_reducible apply ev_d1 | with_reducible apply ev_dN | with_reducible apply ev_dCall | with_reducible apply ev_dTup | with_reducible apply ev_dLst | with_reducible apply ev_dLoc | with_reducible apply ev_sl | with_reducible apply ev_oSo | with_reducible apply ev_ch2b | with_reducible apply ev_ch3b | with_reducible apply ev_tB | with_reducible apply ev_tTru | with_reducible apply ev_tNo | with_reducible apply ev_no | with_reducible apply ev_dML | with_reducible apply ev_gTu | with_reducible apply ev_gsC | with_reducible apply ev_gSb | with_reducible apply ev_gNm | (simp only [List.length_cons, List.length_nil]; exact len_le (by decide)) | exact decide_eq_true (by omega) | exact decide_eq_false (by omega) | exact ne_t (by omega) | exact ne_f (by omega) | with_reducible apply lt_ii | with_reducible apply le_ii | with_reducible apply gt_ii | with_reducible apply ge_ii | with_reducible apply eq_ii | with_reducible apply ne_ii | with_reducible apply eq_ss | with_reducible exact add_ii | with_reducible exact sub_ii | with_reducible exact neg_i | with_reducible apply mul_ii | exact okMul_small (by omega) (by omega) | exact mod_ii (by omega) | exact fdiv_ii (by omega) (by omega) | exact mod_ni (by omega) | exact fdiv_ni (by omega) (by omega) | exact pow_ii (by omega) (by omega) (by omega) | with_reducible apply ix_tup | with_reducible apply ix_lst | (simp only [List.set_cons_succ, List.set_cons_zero]; rfl) | exact rfl)
theorem mulW {i j : Int} {a b : Nat} (μ : Sto) (hi : i.natAbs < 2 ^ a) (hj : j.natAbs < 2 ^ b) (ha : a ≤ 199) (hb : b ≤ 199) : f_mul (.int i) (.int j) μ = some (.int (i * j), μ) :=
  mul_ii (okMul_small (Nat.lt_of_lt_of_le hi (Nat.pow_le_pow_right (by decide) (by omega))) (Nat.lt_of_lt_of_le hj (Nat.pow_le_pow_right (by decide) (by omega))))
noncomputable def p_tm : Fn := runF 4 (d_times_in p_tr p_nw)
theorem tm_ok {d : Int} (hd : d.natAbs < 1000) {u v : Pr} {b : Nat} (hb : b ≤ 60) (hu : Bd b u) (hv : Bd b v) (μ : Sto) : p_tm [.int d, pv u, pv v] μ = some (pv ((rg d).mul u v), μ) := by
  refine runF_rt (ρ := [some (.int d), some (pv u), some (pv v), none]) rfl ?_
  have x0 : ∀ w : Pr, f_ix (pv w) (.int 0) μ = some (.int w.1, μ) := fun _ => rfl
  have x1 : ∀ w : Pr, f_ix (pv w) (.int 1) μ = some (.int w.2, μ) := fun _ => rfl
  have t := tr_ok d μ
  have n := nw_ok d μ
  have ht := tw_le d
  have hn := nw_lt hd
  have h12 := wide_lt hu.2 hv.2
  have h12 : (u.2 * v.2).natAbs < 2 ^ (60 + 60) := Nat.lt_of_lt_of_le h12 (Nat.pow_le_pow_right (by decide) (by omega))
  have m1 := mulW μ hu.2 hv.2 (by omega) (by omega)
  have m2 := mulW μ hu.1 hv.1 (by omega) (by omega)
  have m3 := mulW μ h12 hn (by omega) (by omega)
  have m4 := mulW μ hu.1 hv.2 (by omega) (by omega)
  have m5 := mulW μ hu.2 hv.1 (by omega) (by omega)
  have m6 := mulW (j := tw d) (b := 2) μ h12 (by omega) (by omega) (by omega)
  unfold d_times_in
  (apply ev_seq; case' ha => ((first | with_reducible apply ev_set | with_reducible apply ev_par | with_reducible apply ev_par3 | with_reducible apply ev_asg | with_reducible apply ev_ex | with_reducible apply ev_ret | with_reducible exact ev_sNil | (with_reducible apply ev_aug; exact rfl)) <;> (repeat' first | (with_reducible apply ev_var; exact rfl) | with_reducible exact ev_K | with_reducible exact x1 u | with_reducible exact x1 v | with_reducible exact m1 | with_reducible exact ev_aNil | with_reducible exact ev_oNo | with_reducible exact ev_tAll | with_reducible exact ev_gsN | with_reducible apply ev_aCons | with_reducible apply ev_d2 | with_reducible apply ev_d1 | with_reducible apply ev_dN | with_reducible apply ev_dCall | with_reducible apply ev_dTup | with_reducible apply ev_dLst | with_reducible apply ev_dLoc | with_reducible apply ev_sl | with_reducible apply ev_oSo | with_reducible apply ev_ch2b | with_reducible apply ev_ch3b | with_reducible apply ev_tB | with_reducible apply ev_tTru | with_reducible apply ev_tNo | with_reducible apply ev_no | with_reducible apply ev_dML | with_reducible apply ev_gTu | with_reducible apply ev_gsC | with_reducible apply ev_gSb | with_reducible apply ev_gNm | (simp only [List.length_cons, List.length_nil]; exact len_le (by decide)) | exact decide_eq_true (by omega) | exact decide_eq_false (by omega) | exact ne_t (by omega) | exact ne_f (by omega) | with_reducible apply lt_ii | with_reducible apply le_ii | with_reducible apply gt_ii | with_reducible apply ge_ii | with_reducible apply eq_ii | with_reducible apply ne_ii | with_reducible apply eq_ss | with_reducible exact add_ii | with_reducible exact sub_ii | with_reducible exact neg_i | with_reducible apply mul_ii | exact okMul_small (by omega) (by omega) | exact mod_ii (by omega) | exact fdiv_ii (by omega) (by omega) | exact mod_ni (by omega) | exact fdiv_ni (by omega) (by omega) | exact pow_ii (by omega) (by omega) (by omega) | with_reducible apply ix_tup | with_reducible apply ix_lst | (simp only [List.set_cons_succ, List.set_cons_zero]; rfl) | exact rfl | exact x1 u | exact x1 v | exact m1)))
  ((first | with_reducible apply ev_set | with_reducible apply ev_par | with_reducible apply ev_par3 | with_reducible apply ev_asg | with_reducible apply ev_ex | with_reducible apply ev_ret | with_reducible exact ev_sNil | (with_reducible apply ev_aug; exact rfl)) <;> (repeat' first | (with_reducible apply ev_var; exact rfl) | with_reducible exact ev_K | with_reducible exact x0 u | with_reducible exact x0 v | with_reducible exact x1 u | with_reducible exact x1 v | with_reducible exact m2 | with_reducible exact m3 | with_reducible exact m4 | with_reducible exact m5 | with_reducible exact m6 | with_reducible exact t | with_reducible exact n | with_reducible exact ev_aNil | with_reducible exact ev_oNo | with_reducible exact ev_tAll | with_reducible exact ev_gsN | with_reducible apply ev_aCons | with_reducible apply ev_d2 | with_reducible apply ev_d1 | with_reducible apply ev_dN | with_reducible apply ev_dCall | with_reducible apply ev_dTup | with_reducible apply ev_dLst | with_reducible apply ev_dLoc | with_reducible apply ev_sl | with_reducible apply ev_oSo | with_reducible apply ev_ch2b | with_reducible apply ev_ch3b | with_reducible apply ev_tB | with_reducible apply ev_tTru | with_reducible apply ev_tNo | with_reducible apply ev_no | with_reducible apply ev_dML | with_reducible apply ev_gTu | with_reducible apply ev_gsC | with_reducible apply ev_gSb | with_reducible apply ev_gNm | (simp only [List.length_cons, List.length_nil]; exact len_le (by decide)) | exact decide_eq_true (by omega) | exact decide_eq_false (by omega) | exact ne_t (by omega) | exact ne_f (by omega) | with_reducible apply lt_ii | with_reducible apply le_ii | with_reducible apply gt_ii | with_reducible apply ge_ii | with_reducible apply eq_ii | with_reducible apply ne_ii | with_reducible apply eq_ss | with_reducible exact add_ii | with_reducible exact sub_ii | with_reducible exact neg_i | with_reducible apply mul_ii | exact okMul_small (by omega) (by omega) | exact mod_ii (by omega) | exact fdiv_ii (by omega) (by omega) | exact mod_ni (by omega) | exact fdiv_ni (by omega) (by omega) | exact pow_ii (by omega) (by omega) (by omega) | with_reducible apply ix_tup | with_reducible apply ix_lst | (simp only [List.set_cons_succ, List.set_cons_zero]; rfl) | exact rfl | exact x0 u | exact x0 v | exact x1 u | exact x1 v | exact m2 | exact m3 | exact m4 | exact m5 | exact m6 | exact t | exact n))
noncomputable def p_cj : Fn := runF 2 (d_conjugate_in p_tr)
noncomputable def p_lcj : Fn := runF 2 (d__law_conjugate p_lt)
theorem cj_ok {d : Int} {u : Pr} {b : Nat} (hb : b ≤ 190) (hu : Bd b u) (μ : Sto) : p_cj [.int d, pv u] μ = some (pv ((rg d).cj u), μ) ∧ p_lcj [.int d, pv u] μ = some (pv ((rg d).cj u), μ) := by
  have x0 : ∀ w : Pr, f_ix (pv w) (.int 0) μ = some (.int w.1, μ) := fun _ => rfl
  have x1 : ∀ w : Pr, f_ix (pv w) (.int 1) μ = some (.int w.2, μ) := fun _ => rfl
  have t := tr_ok d μ
  have t2 := lt_ok d μ
  have ht := tw_le d
  have m6 := mulW (i := tw d) (a := 2) μ (by omega) hu.2 (by omega) (by omega)
  constructor
  · refine runF_rt (ρ := [some (.int d), some (pv u)]) rfl ?_
    unfold d_conjugate_in
    ((first | with_reducible apply ev_set | with_reducible apply ev_par | with_reducible apply ev_par3 | with_reducible apply ev_asg | with_reducible apply ev_ex | with_reducible apply ev_ret | with_reducible exact ev_sNil | (with_reducible apply ev_aug; exact rfl)) <;> (repeat' first | (with_reducible apply ev_var; exact rfl) | with_reducible exact ev_K | with_reducible exact x0 u | with_reducible exact x1 u | with_reducible exact t | with_reducible exact m6 | with_reducible exact ev_aNil | with_reducible exact ev_oNo | with_reducible exact ev_tAll | with_reducible exact ev_gsN | with_reducible apply ev_aCons | with_reducible apply ev_d2 | with_reducible apply ev_d1 | with_reducible apply ev_dN | with_reducible apply ev_dCall | with_reducible apply ev_dTup | with_reducible apply ev_dLst | with_reducible apply ev_dLoc | with_reducible apply ev_sl | with_reducible apply ev_oSo | with_reducible apply ev_ch2b | with_reducible apply ev_ch3b | with_reducible apply ev_tB | with_reducible apply ev_tTru | with_reducible apply ev_tNo | with_reducible apply ev_no | with_reducible apply ev_dML | with_reducible apply ev_gTu | with_reducible apply ev_gsC | with_reducible apply ev_gSb | with_reducible apply ev_gNm | (simp only [List.length_cons, List.length_nil]; exact len_le (by decide)) | exact decide_eq_true (by omega) | exact decide_eq_false (by omega) | exact ne_t (by omega) | exact ne_f (by omega) | with_reducible apply lt_ii | with_reducible apply le_ii | with_reducible apply gt_ii | with_reducible apply ge_ii | with_reducible apply eq_ii | with_reducible apply ne_ii | with_reducible apply eq_ss | with_reducible exact add_ii | with_reducible exact sub_ii | with_reducible exact neg_i | with_reducible apply mul_ii | exact okMul_small (by omega) (by omega) | exact mod_ii (by omega) | exact fdiv_ii (by omega) (by omega) | exact mod_ni (by omega) | exact fdiv_ni (by omega) (by omega) | exact pow_ii (by omega) (by omega) (by omega) | with_reducible apply ix_tup | with_reducible apply ix_lst | (simp only [List.set_cons_succ, List.set_cons_zero]; rfl) | exact rfl | exact x0 u | exact x1 u | exact t | exact m6))
  · refine runF_rt (ρ := [some (.int d), some (pv u)]) rfl ?_
    unfold d__law_conjugate
    have e : (0 : Int) - u.2 = -u.2 := by omega
    have s : f_sub (.int 0) (.int u.2) μ = some (.int (-u.2), μ) := by rw [← e]; rfl
    ((first | with_reducible apply ev_set | with_reducible apply ev_par | with_reducible apply ev_par3 | with_reducible apply ev_asg | with_reducible apply ev_ex | with_reducible apply ev_ret | with_reducible exact ev_sNil | (with_reducible apply ev_aug; exact rfl)) <;> (repeat' first | (with_reducible apply ev_var; exact rfl) | with_reducible exact ev_K | with_reducible exact x0 u | with_reducible exact x1 u | with_reducible exact t2 | with_reducible exact m6 | with_reducible exact s | with_reducible exact ev_aNil | with_reducible exact ev_oNo | with_reducible exact ev_tAll | with_reducible exact ev_gsN | with_reducible apply ev_aCons | with_reducible apply ev_d2 | with_reducible apply ev_d1 | with_reducible apply ev_dN | with_reducible apply ev_dCall | with_reducible apply ev_dTup | with_reducible apply ev_dLst | with_reducible apply ev_dLoc | with_reducible apply ev_sl | with_reducible apply ev_oSo | with_reducible apply ev_ch2b | with_reducible apply ev_ch3b | with_reducible apply ev_tB | with_reducible apply ev_tTru | with_reducible apply ev_tNo | with_reducible apply ev_no | with_reducible apply ev_dML | with_reducible apply ev_gTu | with_reducible apply ev_gsC | with_reducible apply ev_gSb | with_reducible apply ev_gNm | (simp only [List.length_cons, List.length_nil]; exact len_le (by decide)) | exact decide_eq_true (by omega) | exact decide_eq_false (by omega) | exact ne_t (by omega) | exact ne_f (by omega) | with_reducible apply lt_ii | with_reducible apply le_ii | with_reducible apply gt_ii | with_reducible apply ge_ii | with_reducible apply eq_ii | with_reducible apply ne_ii | with_reducible apply eq_ss | with_reducible exact add_ii | with_reducible exact sub_ii | with_reducible exact neg_i | with_reducible apply mul_ii | exact okMul_small (by omega) (by omega) | exact mod_ii (by omega) | exact fdiv_ii (by omega) (by omega) | exact mod_ni (by omega) | exact fdiv_ni (by omega) (by omega) | exact pow_ii (by omega) (by omega) (by omega) | with_reducible apply ix_tup | with_reducible apply ix_lst | (simp only [List.set_cons_succ, List.set_cons_zero]; rfl) | exact rfl | exact x0 u | exact x1 u | exact t2 | exact m6 | exact s))
noncomputable def p_nm : Fn := runF 2 (d_norm_in p_tr p_nw)
theorem nm_ok {d : Int} (hd : d.natAbs < 1000) {u : Pr} {b : Nat} (hb : b ≤ 60) (hu : Bd b u) (μ : Sto) : p_nm [.int d, pv u] μ = some (.int ((rg d).nm u), μ) := by
  refine runF_rt (ρ := [some (.int d), some (pv u)]) rfl ?_
  have x0 : ∀ w : Pr, f_ix (pv w) (.int 0) μ = some (.int w.1, μ) := fun _ => rfl
  have x1 : ∀ w : Pr, f_ix (pv w) (.int 1) μ = some (.int w.2, μ) := fun _ => rfl
  have t := tr_ok d μ
  have n := nw_ok d μ
  have ht := tw_le d
  have hn := nw_lt hd
  have m1 := mulW μ hu.1 hu.1 (by omega) (by omega)
  have m2 := mulW (i := tw d) (a := 2) μ (by omega) hu.1 (by omega) (by omega)
  have h2 : (tw d * u.1).natAbs < 2 ^ (2 + b) := wide_lt (by omega) hu.1
  have m3 := mulW μ h2 hu.2 (by omega) (by omega)
  have m4 := mulW μ hn hu.2 (by omega) (by omega)
  have h4 : (nw d * u.2).natAbs < 2 ^ (10 + b) := wide_lt hn hu.2
  have m5 := mulW μ h4 hu.2 (by omega) (by omega)
  unfold d_norm_in
  ((first | with_reducible apply ev_set | with_reducible apply ev_par | with_reducible apply ev_par3 | with_reducible apply ev_asg | with_reducible apply ev_ex | with_reducible apply ev_ret | with_reducible exact ev_sNil | (with_reducible apply ev_aug; exact rfl)) <;> (repeat' first | (with_reducible apply ev_var; exact rfl) | with_reducible exact ev_K | with_reducible exact x0 u | with_reducible exact x1 u | with_reducible exact t | with_reducible exact n | with_reducible exact m1 | with_reducible exact m2 | with_reducible exact m3 | with_reducible exact m4 | with_reducible exact m5 | with_reducible exact ev_aNil | with_reducible exact ev_oNo | with_reducible exact ev_tAll | with_reducible exact ev_gsN | with_reducible apply ev_aCons | with_reducible apply ev_d2 | with_reducible apply ev_d1 | with_reducible apply ev_dN | with_reducible apply ev_dCall | with_reducible apply ev_dTup | with_reducible apply ev_dLst | with_reducible apply ev_dLoc | with_reducible apply ev_sl | with_reducible apply ev_oSo | with_reducible apply ev_ch2b | with_reducible apply ev_ch3b | with_reducible apply ev_tB | with_reducible apply ev_tTru | with_reducible apply ev_tNo | with_reducible apply ev_no | with_reducible apply ev_dML | with_reducible apply ev_gTu | with_reducible apply ev_gsC | with_reducible apply ev_gSb | with_reducible apply ev_gNm | (simp only [List.length_cons, List.length_nil]; exact len_le (by decide)) | exact decide_eq_true (by omega) | exact decide_eq_false (by omega) | exact ne_t (by omega) | exact ne_f (by omega) | with_reducible apply lt_ii | with_reducible apply le_ii | with_reducible apply gt_ii | with_reducible apply ge_ii | with_reducible apply eq_ii | with_reducible apply ne_ii | with_reducible apply eq_ss | with_reducible exact add_ii | with_reducible exact sub_ii | with_reducible exact neg_i | with_reducible apply mul_ii | exact okMul_small (by omega) (by omega) | exact mod_ii (by omega) | exact fdiv_ii (by omega) (by omega) | exact mod_ni (by omega) | exact fdiv_ni (by omega) (by omega) | exact pow_ii (by omega) (by omega) (by omega) | with_reducible apply ix_tup | with_reducible apply ix_lst | (simp only [List.set_cons_succ, List.set_cons_zero]; rfl) | exact rfl | exact x0 u | exact x1 u | exact t | exact n | exact m1 | exact m2 | exact m3 | exact m4 | exact m5))

theorem ltm_math {d : Int} (u v : Pr) : ∃ w r : Int, (2 * u.1 + tw d * u.2) * (2 * v.1 + tw d * v.2) + d * (u.2 * (2 - tw d)) * (v.2 * (2 - tw d)) = 2 * w ∧
    (2 * u.1 + tw d * u.2) * (v.2 * (2 - tw d)) + u.2 * (2 - tw d) * (2 * v.1 + tw d * v.2) = 2 * r ∧ r / (2 - tw d) = ((rg d).mul u v).2 ∧ (w - tw d * ((rg d).mul u v).2) / 2 = ((rg d).mul u v).1 := by
  unfold rg tw nw Ring.mul
  simp only
  by_cases h : d % 4 = 1
  · rw [if_pos h, if_pos h]
    obtain ⟨e, he⟩ : ∃ e, d = 4 * e + 1 := ⟨d / 4, by omega⟩
    have hn : (1 - d) / 4 = -e := by omega
    rw [hn]
    refine ⟨2 * u.1 * v.1 + u.1 * v.2 + u.2 * v.1 + (2 * e + 1) * (u.2 * v.2), u.1 * v.2 + u.2 * v.1 + u.2 * v.2, by subst he; grind, by grind, ?_, ?_⟩
    · rw [show (2 : Int) - 1 = 1 by decide, Int.ediv_one]; grind
    · rw [show 2 * u.1 * v.1 + u.1 * v.2 + u.2 * v.1 + (2 * e + 1) * (u.2 * v.2) - 1 * (u.1 * v.2 + u.2 * v.1 + u.2 * v.2 * 1) = 2 * (u.1 * v.1 - u.2 * v.2 * -e) by grind]
      exact Int.mul_ediv_cancel_left _ (by decide)
  · rw [if_neg h, if_neg h]
    refine ⟨2 * (u.1 * v.1 - u.2 * v.2 * -d), 2 * (u.1 * v.2 + u.2 * v.1), by grind, by grind, ?_, ?_⟩
    · rw [show (2 : Int) - 0 = 2 by decide, Int.mul_ediv_cancel_left _ (by decide)]; grind
    · rw [show 2 * (u.1 * v.1 - u.2 * v.2 * -d) - 0 * (u.1 * v.2 + u.2 * v.1 + u.2 * v.2 * 0) = 2 * (u.1 * v.1 - u.2 * v.2 * -d) by grind]
      exact Int.mul_ediv_cancel_left _ (by decide)
noncomputable def p_ltm : Fn := runF 10 (d__law_times_in p_lt)
theorem ltm_ok {d : Int} (hd : d.natAbs < 1000) {u v : Pr} {b : Nat} (hb : b ≤ 60) (hu : Bd b u) (hv : Bd b v) (μ : Sto) : p_ltm [.int d, pv u, pv v] μ = some (pv ((rg d).mul u v), μ) := by
  have ht := tw_le d
  have c1 : (tw d).natAbs < 2 ^ 2 := by omega
  have c2 : (2 - tw d).natAbs < 2 ^ 2 := by omega
  have c3 : 0 < 2 - tw d := by omega
  have c4 : (2 - tw d).natAbs < 2 ^ 100 := by omega
  have cd : d.natAbs < 2 ^ 10 := by omega
  have lift : ∀ {z : Int}, z.natAbs < 2 ^ b → z.natAbs < 2 ^ 60 := fun h => Nat.lt_of_lt_of_le h (Nat.pow_le_pow_right (by decide) hb)
  have tm : ∀ z : Int, z.natAbs < 2 ^ 60 → (tw d * z).natAbs < 2 ^ 60 := fun z hz => by
    rcases ht with h | h
    · rw [h, Int.zero_mul]; exact Nat.lt_of_le_of_lt (Nat.zero_le _) hz
    · rw [h, Int.one_mul]; exact hz
  have t2 : ∀ z : Int, z.natAbs < 2 ^ 60 → (z * (2 - tw d)).natAbs < 2 ^ (60 + 2) := fun z hz => wide_lt hz c2
  have sm : ∀ y z : Int, y.natAbs < 2 ^ 60 → z.natAbs < 2 ^ 60 → (2 * y + z).natAbs < 2 ^ 62 := fun y z h1 h2 => by omega
  clear hd
  obtain ⟨w, r, e1, e2, e3, e4⟩ := ltm_math (d := d) u v
  refine runF_rt (ρ := [some (.int d), some (pv u), some (pv v), none, none, none, none, none, none, none]) rfl ?_
  have x0 : ∀ w : Pr, f_ix (pv w) (.int 0) μ = some (.int w.1, μ) := fun _ => rfl
  have x1 : ∀ w : Pr, f_ix (pv w) (.int 1) μ = some (.int w.2, μ) := fun _ => rfl
  have t := lt_ok d μ
  have hu1 := lift hu.1
  have hu2 := lift hu.2
  have hv1 := lift hv.1
  have hv2 := lift hv.2
  have b1 := t2 _ hu2
  have b2' := t2 _ hv2
  have A := sm _ _ hu1 (tm _ hu2)
  have X := sm _ _ hv1 (tm _ hv2)
  have two : (2 : Int).natAbs < 2 ^ 2 := by decide
  have m1 := mulW (i := 2) μ two hu1 (by decide) (by decide)
  have m2 := mulW μ c1 hu2 (by decide) (by decide)
  have m3 := mulW μ hu2 c2 (by decide) (by decide)
  have m4 := mulW (i := 2) μ two hv1 (by decide) (by decide)
  have m5 := mulW μ c1 hv2 (by decide) (by decide)
  have m6 := mulW μ hv2 c2 (by decide) (by decide)
  have m7 := mulW μ A X (by decide) (by decide)
  have m8 := mulW μ cd b1 (by decide) (by decide)
  have h8 : (d * (u.2 * (2 - tw d))).natAbs < 2 ^ (10 + (60 + 2)) := wide_lt cd b1
  have m9 := mulW μ h8 b2' (by decide) (by decide)
  have m10 := mulW μ A b2' (by decide) (by decide)
  have m11 := mulW μ b1 X (by decide) (by decide)
  have ad1 : f_add (.int ((2 * u.1 + tw d * u.2) * (2 * v.1 + tw d * v.2))) (.int (d * (u.2 * (2 - tw d)) * (v.2 * (2 - tw d)))) μ = some (.int (2 * w), μ) := by rw [← e1]; rfl
  have ad2 : f_add (.int ((2 * u.1 + tw d * u.2) * (v.2 * (2 - tw d)))) (.int (u.2 * (2 - tw d) * (2 * v.1 + tw d * v.2))) μ = some (.int (2 * r), μ) := by rw [← e2]; rfl
  have d1 : f_fdiv (.int (2 * w)) (.int 2) μ = some (.int w, μ) := by rw [fdiv_ii (by decide) (by decide), Int.mul_ediv_cancel_left _ (by decide)]
  have d2' : f_fdiv (.int (2 * r)) (.int 2) μ = some (.int r, μ) := by rw [fdiv_ii (by decide) (by decide), Int.mul_ediv_cancel_left _ (by decide)]
  have d3 : f_fdiv (.int r) (.int (2 - tw d)) μ = some (.int ((rg d).mul u v).2, μ) := by rw [fdiv_ii c3 c4, e3]
  have h2 : ((rg d).mul u v).2.natAbs < 2 ^ 190 := by
    have q : ((rg d).mul u v).2 = u.1 * v.2 + u.2 * v.1 + u.2 * v.2 * tw d := rfl
    have q1 : (u.1 * v.2).natAbs < 2 ^ (60 + 60) := wide_lt hu1 hv2
    have q2 : (u.2 * v.1).natAbs < 2 ^ (60 + 60) := wide_lt hu2 hv1
    have q3 : (u.2 * v.2).natAbs < 2 ^ (60 + 60) := wide_lt hu2 hv2
    have q4 : (u.2 * v.2 * tw d).natAbs < 2 ^ (60 + 60 + 2) := wide_lt q3 c1
    rw [q]
    generalize u.1 * v.2 = p1 at *
    generalize u.2 * v.1 = p2 at *
    generalize u.2 * v.2 * tw d = p3 at *
    clear e1 e2 e3 e4 m1 m2 m3 m4 m5 m6 m7 m8 m9 m10 m11 ad1 ad2 d1 d2' d3 h8 b1 b2' A X
    omega
  have m12 := mulW μ c1 h2 (by decide) (by decide)
  have d4 : f_fdiv (.int (w - tw d * ((rg d).mul u v).2)) (.int 2) μ = some (.int ((rg d).mul u v).1, μ) := by rw [fdiv_ii (by decide) (by decide), e4]
  unfold d__law_times_in
  (apply ev_seq; case' ha => ((first | with_reducible apply ev_set | with_reducible apply ev_par | with_reducible apply ev_par3 | with_reducible apply ev_asg | with_reducible apply ev_ex | with_reducible apply ev_ret | with_reducible exact ev_sNil | (with_reducible apply ev_aug; exact rfl)) <;> (repeat' first | (with_reducible apply ev_var; exact rfl) | with_reducible exact ev_K | with_reducible exact t | with_reducible exact ev_aNil | with_reducible exact ev_oNo | with_reducible exact ev_tAll | with_reducible exact ev_gsN | with_reducible apply ev_aCons | with_reducible apply ev_d2 | with_reducible apply ev_d1 | with_reducible apply ev_dN | with_reducible apply ev_dCall | with_reducible apply ev_dTup | with_reducible apply ev_dLst | with_reducible apply ev_dLoc | with_reducible apply ev_sl | with_reducible apply ev_oSo | with_reducible apply ev_ch2b | with_reducible apply ev_ch3b | with_reducible apply ev_tB | with_reducible apply ev_tTru | with_reducible apply ev_tNo | with_reducible apply ev_no | with_reducible apply ev_dML | with_reducible apply ev_gTu | with_reducible apply ev_gsC | with_reducible apply ev_gSb | with_reducible apply ev_gNm | (simp only [List.length_cons, List.length_nil]; exact len_le (by decide)) | exact decide_eq_true (by omega) | exact decide_eq_false (by omega) | exact ne_t (by omega) | exact ne_f (by omega) | with_reducible apply lt_ii | with_reducible apply le_ii | with_reducible apply gt_ii | with_reducible apply ge_ii | with_reducible apply eq_ii | with_reducible apply ne_ii | with_reducible apply eq_ss | with_reducible exact add_ii | with_reducible exact sub_ii | with_reducible exact neg_i | with_reducible apply mul_ii | exact okMul_small (by omega) (by omega) | exact mod_ii (by omega) | exact fdiv_ii (by omega) (by omega) | exact mod_ni (by omega) | exact fdiv_ni (by omega) (by omega) | exact pow_ii (by omega) (by omega) (by omega) | with_reducible apply ix_tup | with_reducible apply ix_lst | (simp only [List.set_cons_succ, List.set_cons_zero]; rfl) | exact rfl | exact t)))
  (apply ev_seq; case' ha => ((first | with_reducible apply ev_set | with_reducible apply ev_par | with_reducible apply ev_par3 | with_reducible apply ev_asg | with_reducible apply ev_ex | with_reducible apply ev_ret | with_reducible exact ev_sNil | (with_reducible apply ev_aug; exact rfl)) <;> (repeat' first | (with_reducible apply ev_var; exact rfl) | with_reducible exact ev_K | with_reducible exact x0 u | with_reducible exact x1 u | with_reducible exact m1 | with_reducible exact m2 | with_reducible exact m3 | with_reducible exact ev_aNil | with_reducible exact ev_oNo | with_reducible exact ev_tAll | with_reducible exact ev_gsN | with_reducible apply ev_aCons | with_reducible apply ev_d2 | with_reducible apply ev_d1 | with_reducible apply ev_dN | with_reducible apply ev_dCall | with_reducible apply ev_dTup | with_reducible apply ev_dLst | with_reducible apply ev_dLoc | with_reducible apply ev_sl | with_reducible apply ev_oSo | with_reducible apply ev_ch2b | with_reducible apply ev_ch3b | with_reducible apply ev_tB | with_reducible apply ev_tTru | with_reducible apply ev_tNo | with_reducible apply ev_no | with_reducible apply ev_dML | with_reducible apply ev_gTu | with_reducible apply ev_gsC | with_reducible apply ev_gSb | with_reducible apply ev_gNm | (simp only [List.length_cons, List.length_nil]; exact len_le (by decide)) | exact decide_eq_true (by omega) | exact decide_eq_false (by omega) | exact ne_t (by omega) | exact ne_f (by omega) | with_reducible apply lt_ii | with_reducible apply le_ii | with_reducible apply gt_ii | with_reducible apply ge_ii | with_reducible apply eq_ii | with_reducible apply ne_ii | with_reducible apply eq_ss | with_reducible exact add_ii | with_reducible exact sub_ii | with_reducible exact neg_i | with_reducible apply mul_ii | exact okMul_small (by omega) (by omega) | exact mod_ii (by omega) | exact fdiv_ii (by omega) (by omega) | exact mod_ni (by omega) | exact fdiv_ni (by omega) (by omega) | exact pow_ii (by omega) (by omega) (by omega) | with_reducible apply ix_tup | with_reducible apply ix_lst | (simp only [List.set_cons_succ, List.set_cons_zero]; rfl) | exact rfl | exact x0 u | exact x1 u | exact m1 | exact m2 | exact m3)))
  (apply ev_seq; case' ha => ((first | with_reducible apply ev_set | with_reducible apply ev_par | with_reducible apply ev_par3 | with_reducible apply ev_asg | with_reducible apply ev_ex | with_reducible apply ev_ret | with_reducible exact ev_sNil | (with_reducible apply ev_aug; exact rfl)) <;> (repeat' first | (with_reducible apply ev_var; exact rfl) | with_reducible exact ev_K | with_reducible exact x0 v | with_reducible exact x1 v | with_reducible exact m4 | with_reducible exact m5 | with_reducible exact m6 | with_reducible exact ev_aNil | with_reducible exact ev_oNo | with_reducible exact ev_tAll | with_reducible exact ev_gsN | with_reducible apply ev_aCons | with_reducible apply ev_d2 | with_reducible apply ev_d1 | with_reducible apply ev_dN | with_reducible apply ev_dCall | with_reducible apply ev_dTup | with_reducible apply ev_dLst | with_reducible apply ev_dLoc | with_reducible apply ev_sl | with_reducible apply ev_oSo | with_reducible apply ev_ch2b | with_reducible apply ev_ch3b | with_reducible apply ev_tB | with_reducible apply ev_tTru | with_reducible apply ev_tNo | with_reducible apply ev_no | with_reducible apply ev_dML | with_reducible apply ev_gTu | with_reducible apply ev_gsC | with_reducible apply ev_gSb | with_reducible apply ev_gNm | (simp only [List.length_cons, List.length_nil]; exact len_le (by decide)) | exact decide_eq_true (by omega) | exact decide_eq_false (by omega) | exact ne_t (by omega) | exact ne_f (by omega) | with_reducible apply lt_ii | with_reducible apply le_ii | with_reducible apply gt_ii | with_reducible apply ge_ii | with_reducible apply eq_ii | with_reducible apply ne_ii | with_reducible apply eq_ss | with_reducible exact add_ii | with_reducible exact sub_ii | with_reducible exact neg_i | with_reducible apply mul_ii | exact okMul_small (by omega) (by omega) | exact mod_ii (by omega) | exact fdiv_ii (by omega) (by omega) | exact mod_ni (by omega) | exact fdiv_ni (by omega) (by omega) | exact pow_ii (by omega) (by omega) (by omega) | with_reducible apply ix_tup | with_reducible apply ix_lst | (simp only [List.set_cons_succ, List.set_cons_zero]; rfl) | exact rfl | exact x0 v | exact x1 v | exact m4 | exact m5 | exact m6)))
  (apply ev_seq; case' ha => ((first | with_reducible apply ev_set | with_reducible apply ev_par | with_reducible apply ev_par3 | with_reducible apply ev_asg | with_reducible apply ev_ex | with_reducible apply ev_ret | with_reducible exact ev_sNil | (with_reducible apply ev_aug; exact rfl)) <;> (repeat' first | (with_reducible apply ev_var; exact rfl) | with_reducible exact ev_K | with_reducible exact m7 | with_reducible exact m8 | with_reducible exact m9 | with_reducible exact m10 | with_reducible exact m11 | with_reducible exact ad1 | with_reducible exact ad2 | with_reducible exact d1 | with_reducible exact d2' | with_reducible exact ev_aNil | with_reducible exact ev_oNo | with_reducible exact ev_tAll | with_reducible exact ev_gsN | with_reducible apply ev_aCons | with_reducible apply ev_d2 | with_reducible apply ev_d1 | with_reducible apply ev_dN | with_reducible apply ev_dCall | with_reducible apply ev_dTup | with_reducible apply ev_dLst | with_reducible apply ev_dLoc | with_reducible apply ev_sl | with_reducible apply ev_oSo | with_reducible apply ev_ch2b | with_reducible apply ev_ch3b | with_reducible apply ev_tB | with_reducible apply ev_tTru | with_reducible apply ev_tNo | with_reducible apply ev_no | with_reducible apply ev_dML | with_reducible apply ev_gTu | with_reducible apply ev_gsC | with_reducible apply ev_gSb | with_reducible apply ev_gNm | (simp only [List.length_cons, List.length_nil]; exact len_le (by decide)) | exact decide_eq_true (by omega) | exact decide_eq_false (by omega) | exact ne_t (by omega) | exact ne_f (by omega) | with_reducible apply lt_ii | with_reducible apply le_ii | with_reducible apply gt_ii | with_reducible apply ge_ii | with_reducible apply eq_ii | with_reducible apply ne_ii | with_reducible apply eq_ss | with_reducible exact add_ii | with_reducible exact sub_ii | with_reducible exact neg_i | with_reducible apply mul_ii | exact okMul_small (by omega) (by omega) | exact mod_ii (by omega) | exact fdiv_ii (by omega) (by omega) | exact mod_ni (by omega) | exact fdiv_ni (by omega) (by omega) | exact pow_ii (by omega) (by omega) (by omega) | with_reducible apply ix_tup | with_reducible apply ix_lst | (simp only [List.set_cons_succ, List.set_cons_zero]; rfl) | exact rfl | exact m7 | exact m8 | exact m9 | exact m10 | exact m11 | exact ad1 | exact ad2 | exact d1 | exact d2')))
  (apply ev_seq; case' ha => ((first | with_reducible apply ev_set | with_reducible apply ev_par | with_reducible apply ev_par3 | with_reducible apply ev_asg | with_reducible apply ev_ex | with_reducible apply ev_ret | with_reducible exact ev_sNil | (with_reducible apply ev_aug; exact rfl)) <;> (repeat' first | (with_reducible apply ev_var; exact rfl) | with_reducible exact ev_K | with_reducible exact d3 | with_reducible exact ev_aNil | with_reducible exact ev_oNo | with_reducible exact ev_tAll | with_reducible exact ev_gsN | with_reducible apply ev_aCons | with_reducible apply ev_d2 | with_reducible apply ev_d1 | with_reducible apply ev_dN | with_reducible apply ev_dCall | with_reducible apply ev_dTup | with_reducible apply ev_dLst | with_reducible apply ev_dLoc | with_reducible apply ev_sl | with_reducible apply ev_oSo | with_reducible apply ev_ch2b | with_reducible apply ev_ch3b | with_reducible apply ev_tB | with_reducible apply ev_tTru | with_reducible apply ev_tNo | with_reducible apply ev_no | with_reducible apply ev_dML | with_reducible apply ev_gTu | with_reducible apply ev_gsC | with_reducible apply ev_gSb | with_reducible apply ev_gNm | (simp only [List.length_cons, List.length_nil]; exact len_le (by decide)) | exact decide_eq_true (by omega) | exact decide_eq_false (by omega) | exact ne_t (by omega) | exact ne_f (by omega) | with_reducible apply lt_ii | with_reducible apply le_ii | with_reducible apply gt_ii | with_reducible apply ge_ii | with_reducible apply eq_ii | with_reducible apply ne_ii | with_reducible apply eq_ss | with_reducible exact add_ii | with_reducible exact sub_ii | with_reducible exact neg_i | with_reducible apply mul_ii | exact okMul_small (by omega) (by omega) | exact mod_ii (by omega) | exact fdiv_ii (by omega) (by omega) | exact mod_ni (by omega) | exact fdiv_ni (by omega) (by omega) | exact pow_ii (by omega) (by omega) (by omega) | with_reducible apply ix_tup | with_reducible apply ix_lst | (simp only [List.set_cons_succ, List.set_cons_zero]; rfl) | exact rfl | exact d3)))
  ((first | with_reducible apply ev_set | with_reducible apply ev_par | with_reducible apply ev_par3 | with_reducible apply ev_asg | with_reducible apply ev_ex | with_reducible apply ev_ret | with_reducible exact ev_sNil | (with_reducible apply ev_aug; exact rfl)) <;> (repeat' first | (with_reducible apply ev_var; exact rfl) | with_reducible exact ev_K | with_reducible exact m12 | with_reducible exact d4 | with_reducible exact ev_aNil | with_reducible exact ev_oNo | with_reducible exact ev_tAll | with_reducible exact ev_gsN | with_reducible apply ev_aCons | with_reducible apply ev_d2 | with_reducible apply ev_d1 | with_reducible apply ev_dN | with_reducible apply ev_dCall | with_reducible apply ev_dTup | with_reducible apply ev_dLst | with_reducible apply ev_dLoc | with_reducible apply ev_sl | with_reducible apply ev_oSo | with_reducible apply ev_ch2b | with_reducible apply ev_ch3b | with_reducible apply ev_tB | with_reducible apply ev_tTru | with_reducible apply ev_tNo | with_reducible apply ev_no | with_reducible apply ev_dML | with_reducible apply ev_gTu | with_reducible apply ev_gsC | with_reducible apply ev_gSb | with_reducible apply ev_gNm | (simp only [List.length_cons, List.length_nil]; exact len_le (by decide)) | exact decide_eq_true (by omega) | exact decide_eq_false (by omega) | exact ne_t (by omega) | exact ne_f (by omega) | with_reducible apply lt_ii | with_reducible apply le_ii | with_reducible apply gt_ii | with_reducible apply ge_ii | with_reducible apply eq_ii | with_reducible apply ne_ii | with_reducible apply eq_ss | with_reducible exact add_ii | with_reducible exact sub_ii | with_reducible exact neg_i | with_reducible apply mul_ii | exact okMul_small (by omega) (by omega) | exact mod_ii (by omega) | exact fdiv_ii (by omega) (by omega) | exact mod_ni (by omega) | exact fdiv_ni (by omega) (by omega) | exact pow_ii (by omega) (by omega) (by omega) | with_reducible apply ix_tup | with_reducible apply ix_lst | (simp only [List.set_cons_succ, List.set_cons_zero]; rfl) | exact rfl | exact m12 | exact d4))
noncomputable def p_ln : Fn := runF 2 (d__law_norm p_ltm p_lcj)
theorem ln_ok {d : Int} (hd : d.natAbs < 1000) {u : Pr} {b : Nat} (hb : b ≤ 58) (hu : Bd b u) (μ : Sto) : p_ln [.int d, pv u] μ = some (.int ((rg d).nm u), μ) := by
  refine runF_rt (ρ := [some (.int d), some (pv u)]) rfl ?_
  have c := (cj_ok (d := d) (by omega : b ≤ 190) hu μ).2
  have ht := tw_le d
  have hu1 : u.1.natAbs < 2 ^ 58 := Nat.lt_of_lt_of_le hu.1 (Nat.pow_le_pow_right (by decide) hb)
  have hu2 : u.2.natAbs < 2 ^ 58 := Nat.lt_of_lt_of_le hu.2 (Nat.pow_le_pow_right (by decide) hb)
  have hc : Bd 60 ((rg d).cj u) := by
    constructor
    · show (u.1 + tw d * u.2).natAbs < _
      rcases ht with h | h <;> rw [h] <;> omega
    · show (-u.2).natAbs < _
      omega
  have t := ltm_ok hd (Nat.le_refl 60) ⟨by omega, by omega⟩ hc μ (u := u)
  rw [Ring.mul_cj] at t
  have x : f_ix (pv ((rg d).nm u, 0)) (.int 0) μ = some (.int ((rg d).nm u), μ) := rfl
  unfold d__law_norm
  ((first | with_reducible apply ev_set | with_reducible apply ev_par | with_reducible apply ev_par3 | with_reducible apply ev_asg | with_reducible apply ev_ex | with_reducible apply ev_ret | with_reducible exact ev_sNil | (with_reducible apply ev_aug; exact rfl)) <;> (repeat' first | (with_reducible apply ev_var; exact rfl) | with_reducible exact ev_K | with_reducible exact c | with_reducible exact t | with_reducible exact x | with_reducible exact ev_aNil | with_reducible exact ev_oNo | with_reducible exact ev_tAll | with_reducible exact ev_gsN | with_reducible apply ev_aCons | with_reducible apply ev_d2 | with_reducible apply ev_d1 | with_reducible apply ev_dN | with_reducible apply ev_dCall | with_reducible apply ev_dTup | with_reducible apply ev_dLst | with_reducible apply ev_dLoc | with_reducible apply ev_sl | with_reducible apply ev_oSo | with_reducible apply ev_ch2b | with_reducible apply ev_ch3b | with_reducible apply ev_tB | with_reducible apply ev_tTru | with_reducible apply ev_tNo | with_reducible apply ev_no | with_reducible apply ev_dML | with_reducible apply ev_gTu | with_reducible apply ev_gsC | with_reducible apply ev_gSb | with_reducible apply ev_gNm | (simp only [List.length_cons, List.length_nil]; exact len_le (by decide)) | exact decide_eq_true (by omega) | exact decide_eq_false (by omega) | exact ne_t (by omega) | exact ne_f (by omega) | with_reducible apply lt_ii | with_reducible apply le_ii | with_reducible apply gt_ii | with_reducible apply ge_ii | with_reducible apply eq_ii | with_reducible apply ne_ii | with_reducible apply eq_ss | with_reducible exact add_ii | with_reducible exact sub_ii | with_reducible exact neg_i | with_reducible apply mul_ii | exact okMul_small (by omega) (by omega) | exact mod_ii (by omega) | exact fdiv_ii (by omega) (by omega) | exact mod_ni (by omega) | exact fdiv_ni (by omega) (by omega) | exact pow_ii (by omega) (by omega) (by omega) | with_reducible apply ix_tup | with_reducible apply ix_lst | (simp only [List.set_cons_succ, List.set_cons_zero]; rfl) | exact rfl | exact c | exact t | exact x))
end K17

/-! K17c: rows of three. -/
namespace K17
open PySem PySem.Spec PyProof.Rows L2 Fd Nm
theorem ev_anb {ρ : En} {μ : Sto} {da db : Den} {b c : Bool} (h : da ρ μ = some (.bl b, μ)) (h2 : db ρ μ = some (.bl c, μ)) : dAn da db ρ μ = some (.bl (b && c), μ) := by
  cases b with
  | true => exact ev_an_t h rfl h2
  | false => exact ev_an_f h rfl
def p3 (k a b : Int) : PV := .tup [.int k, .int a, .int b]
noncomputable def p_holds : Fn := runF 6 d_holds
noncomputable def p_in : Fn := runF 5 d__law_is_in
theorem in_ok {k a b : Int} (hk : 0 < k) (hk2 : k.natAbs < 2 ^ 60) (ha : 0 < a) (hb : b.natAbs < 2 ^ 60) {u : Pr} (hu : u.2.natAbs < 2 ^ 60) (μ : Sto) :
    p_in [p3 k a b, pv u] μ = some (.bl (inM k a b u), μ) ∧ ∀ d : PV, p_holds [d, p3 k a b, pv u] μ = some (.bl (inM k a b u), μ) := by
  have k100 : k.natAbs < 2 ^ 100 := Nat.lt_trans hk2 (by decide)
  have x0 : f_ix (pv u) (.int 0) μ = some (.int u.1, μ) := rfl
  have x1 : f_ix (pv u) (.int 1) μ = some (.int u.2, μ) := rfl
  have m1 : f_mod (.int u.1) (.int k) μ = some (.int (u.1 % k), μ) := mod_ii hk
  have m2 : f_mod (.int u.2) (.int k) μ = some (.int (u.2 % k), μ) := mod_ii hk
  have d1' : f_fdiv (.int u.1) (.int k) μ = some (.int (u.1 / k), μ) := fdiv_ii hk k100
  have d2' : f_fdiv (.int u.2) (.int k) μ = some (.int (u.2 / k), μ) := fdiv_ii hk k100
  have hq : (u.2 / k).natAbs < 2 ^ 60 := Nat.lt_of_le_of_lt (Int.natAbs_ediv_le_natAbs _ _) hu
  have m3 : f_mul (.int (u.2 / k)) (.int b) μ = some (.int (u.2 / k * b), μ) := mulW μ hq hb (by decide) (by decide)
  have m4 : f_mod (.int (u.1 / k - u.2 / k * b)) (.int a) μ = some (.int ((u.1 / k - u.2 / k * b) % a), μ) := mod_ii ha
  have q1 : ∀ z : Int, f_eq (.int z) (.int 0) μ = some (.bl (decide (z = 0)), μ) := fun _ => rfl
  constructor
  · refine runF_rt (ρ := [some (p3 k a b), some (pv u), none, none, none]) rfl ?_
    unfold d__law_is_in
    apply ev_seq (ρ' := [some (p3 k a b), some (pv u), some (.int k), some (.int a), some (.int b)]) (μ' := μ)
    case ha => rfl
    apply ev_ret
    refine ev_anb ?_ (ev_anb ?_ ?_)
    · (repeat' first | (with_reducible apply ev_var; exact rfl) | with_reducible exact ev_K | with_reducible exact x0 | with_reducible exact m1 | with_reducible exact q1 _ | with_reducible exact ev_aNil | with_reducible exact ev_oNo | with_reducible exact ev_tAll | with_reducible exact ev_gsN | with_reducible apply ev_aCons | with_reducible apply ev_d2 | with_reducible apply ev_d1 | with_reducible apply ev_dN | with_reducible apply ev_dCall | with_reducible apply ev_dTup | with_reducible apply ev_dLst | with_reducible apply ev_dLoc | with_reducible apply ev_sl | with_reducible apply ev_oSo | with_reducible apply ev_ch2b | with_reducible apply ev_ch3b | with_reducible apply ev_tB | with_reducible apply ev_tTru | with_reducible apply ev_tNo | with_reducible apply ev_no | with_reducible apply ev_dML | with_reducible apply ev_gTu | with_reducible apply ev_gsC | with_reducible apply ev_gSb | with_reducible apply ev_gNm | (simp only [List.length_cons, List.length_nil]; exact len_le (by decide)) | exact decide_eq_true (by omega) | exact decide_eq_false (by omega) | exact ne_t (by omega) | exact ne_f (by omega) | with_reducible apply lt_ii | with_reducible apply le_ii | with_reducible apply gt_ii | with_reducible apply ge_ii | with_reducible apply eq_ii | with_reducible apply ne_ii | with_reducible apply eq_ss | with_reducible exact add_ii | with_reducible exact sub_ii | with_reducible exact neg_i | with_reducible apply mul_ii | exact okMul_small (by omega) (by omega) | exact mod_ii (by omega) | exact fdiv_ii (by omega) (by omega) | exact mod_ni (by omega) | exact fdiv_ni (by omega) (by omega) | exact pow_ii (by omega) (by omega) (by omega) | with_reducible apply ix_tup | with_reducible apply ix_lst | (simp only [List.set_cons_succ, List.set_cons_zero]; rfl) | exact rfl | exact x0 | exact m1 | exact q1 _)
    · (repeat' first | (with_reducible apply ev_var; exact rfl) | with_reducible exact ev_K | with_reducible exact x1 | with_reducible exact m2 | with_reducible exact q1 _ | with_reducible exact ev_aNil | with_reducible exact ev_oNo | with_reducible exact ev_tAll | with_reducible exact ev_gsN | with_reducible apply ev_aCons | with_reducible apply ev_d2 | with_reducible apply ev_d1 | with_reducible apply ev_dN | with_reducible apply ev_dCall | with_reducible apply ev_dTup | with_reducible apply ev_dLst | with_reducible apply ev_dLoc | with_reducible apply ev_sl | with_reducible apply ev_oSo | with_reducible apply ev_ch2b | with_reducible apply ev_ch3b | with_reducible apply ev_tB | with_reducible apply ev_tTru | with_reducible apply ev_tNo | with_reducible apply ev_no | with_reducible apply ev_dML | with_reducible apply ev_gTu | with_reducible apply ev_gsC | with_reducible apply ev_gSb | with_reducible apply ev_gNm | (simp only [List.length_cons, List.length_nil]; exact len_le (by decide)) | exact decide_eq_true (by omega) | exact decide_eq_false (by omega) | exact ne_t (by omega) | exact ne_f (by omega) | with_reducible apply lt_ii | with_reducible apply le_ii | with_reducible apply gt_ii | with_reducible apply ge_ii | with_reducible apply eq_ii | with_reducible apply ne_ii | with_reducible apply eq_ss | with_reducible exact add_ii | with_reducible exact sub_ii | with_reducible exact neg_i | with_reducible apply mul_ii | exact okMul_small (by omega) (by omega) | exact mod_ii (by omega) | exact fdiv_ii (by omega) (by omega) | exact mod_ni (by omega) | exact fdiv_ni (by omega) (by omega) | exact pow_ii (by omega) (by omega) (by omega) | with_reducible apply ix_tup | with_reducible apply ix_lst | (simp only [List.set_cons_succ, List.set_cons_zero]; rfl) | exact rfl | exact x1 | exact m2 | exact q1 _)
    · (repeat' first | (with_reducible apply ev_var; exact rfl) | with_reducible exact ev_K | with_reducible exact x0 | with_reducible exact x1 | with_reducible exact d1' | with_reducible exact d2' | with_reducible exact m3 | with_reducible exact m4 | with_reducible exact q1 _ | with_reducible exact ev_aNil | with_reducible exact ev_oNo | with_reducible exact ev_tAll | with_reducible exact ev_gsN | with_reducible apply ev_aCons | with_reducible apply ev_d2 | with_reducible apply ev_d1 | with_reducible apply ev_dN | with_reducible apply ev_dCall | with_reducible apply ev_dTup | with_reducible apply ev_dLst | with_reducible apply ev_dLoc | with_reducible apply ev_sl | with_reducible apply ev_oSo | with_reducible apply ev_ch2b | with_reducible apply ev_ch3b | with_reducible apply ev_tB | with_reducible apply ev_tTru | with_reducible apply ev_tNo | with_reducible apply ev_no | with_reducible apply ev_dML | with_reducible apply ev_gTu | with_reducible apply ev_gsC | with_reducible apply ev_gSb | with_reducible apply ev_gNm | (simp only [List.length_cons, List.length_nil]; exact len_le (by decide)) | exact decide_eq_true (by omega) | exact decide_eq_false (by omega) | exact ne_t (by omega) | exact ne_f (by omega) | with_reducible apply lt_ii | with_reducible apply le_ii | with_reducible apply gt_ii | with_reducible apply ge_ii | with_reducible apply eq_ii | with_reducible apply ne_ii | with_reducible apply eq_ss | with_reducible exact add_ii | with_reducible exact sub_ii | with_reducible exact neg_i | with_reducible apply mul_ii | exact okMul_small (by omega) (by omega) | exact mod_ii (by omega) | exact fdiv_ii (by omega) (by omega) | exact mod_ni (by omega) | exact fdiv_ni (by omega) (by omega) | exact pow_ii (by omega) (by omega) (by omega) | with_reducible apply ix_tup | with_reducible apply ix_lst | (simp only [List.set_cons_succ, List.set_cons_zero]; rfl) | exact rfl | exact x0 | exact x1 | exact d1' | exact d2' | exact m3 | exact m4 | exact q1 _)
  · intro d
    refine runF_rt (ρ := [some d, some (p3 k a b), some (pv u), none, none, none]) rfl ?_
    unfold d_holds
    apply ev_seq (ρ' := [some d, some (p3 k a b), some (pv u), some (.int k), some (.int a), some (.int b)]) (μ' := μ)
    case ha => rfl
    apply ev_ret
    refine ev_anb ?_ (ev_anb ?_ ?_)
    · (repeat' first | (with_reducible apply ev_var; exact rfl) | with_reducible exact ev_K | with_reducible exact x0 | with_reducible exact m1 | with_reducible exact q1 _ | with_reducible exact ev_aNil | with_reducible exact ev_oNo | with_reducible exact ev_tAll | with_reducible exact ev_gsN | with_reducible apply ev_aCons | with_reducible apply ev_d2 | with_reducible apply ev_d1 | with_reducible apply ev_dN | with_reducible apply ev_dCall | with_reducible apply ev_dTup | with_reducible apply ev_dLst | with_reducible apply ev_dLoc | with_reducible apply ev_sl | with_reducible apply ev_oSo | with_reducible apply ev_ch2b | with_reducible apply ev_ch3b | with_reducible apply ev_tB | with_reducible apply ev_tTru | with_reducible apply ev_tNo | with_reducible apply ev_no | with_reducible apply ev_dML | with_reducible apply ev_gTu | with_reducible apply ev_gsC | with_reducible apply ev_gSb | with_reducible apply ev_gNm | (simp only [List.length_cons, List.length_nil]; exact len_le (by decide)) | exact decide_eq_true (by omega) | exact decide_eq_false (by omega) | exact ne_t (by omega) | exact ne_f (by omega) | with_reducible apply lt_ii | with_reducible apply le_ii | with_reducible apply gt_ii | with_reducible apply ge_ii | with_reducible apply eq_ii | with_reducible apply ne_ii | with_reducible apply eq_ss | with_reducible exact add_ii | with_reducible exact sub_ii | with_reducible exact neg_i | with_reducible apply mul_ii | exact okMul_small (by omega) (by omega) | exact mod_ii (by omega) | exact fdiv_ii (by omega) (by omega) | exact mod_ni (by omega) | exact fdiv_ni (by omega) (by omega) | exact pow_ii (by omega) (by omega) (by omega) | with_reducible apply ix_tup | with_reducible apply ix_lst | (simp only [List.set_cons_succ, List.set_cons_zero]; rfl) | exact rfl | exact x0 | exact m1 | exact q1 _)
    · (repeat' first | (with_reducible apply ev_var; exact rfl) | with_reducible exact ev_K | with_reducible exact x1 | with_reducible exact m2 | with_reducible exact q1 _ | with_reducible exact ev_aNil | with_reducible exact ev_oNo | with_reducible exact ev_tAll | with_reducible exact ev_gsN | with_reducible apply ev_aCons | with_reducible apply ev_d2 | with_reducible apply ev_d1 | with_reducible apply ev_dN | with_reducible apply ev_dCall | with_reducible apply ev_dTup | with_reducible apply ev_dLst | with_reducible apply ev_dLoc | with_reducible apply ev_sl | with_reducible apply ev_oSo | with_reducible apply ev_ch2b | with_reducible apply ev_ch3b | with_reducible apply ev_tB | with_reducible apply ev_tTru | with_reducible apply ev_tNo | with_reducible apply ev_no | with_reducible apply ev_dML | with_reducible apply ev_gTu | with_reducible apply ev_gsC | with_reducible apply ev_gSb | with_reducible apply ev_gNm | (simp only [List.length_cons, List.length_nil]; exact len_le (by decide)) | exact decide_eq_true (by omega) | exact decide_eq_false (by omega) | exact ne_t (by omega) | exact ne_f (by omega) | with_reducible apply lt_ii | with_reducible apply le_ii | with_reducible apply gt_ii | with_reducible apply ge_ii | with_reducible apply eq_ii | with_reducible apply ne_ii | with_reducible apply eq_ss | with_reducible exact add_ii | with_reducible exact sub_ii | with_reducible exact neg_i | with_reducible apply mul_ii | exact okMul_small (by omega) (by omega) | exact mod_ii (by omega) | exact fdiv_ii (by omega) (by omega) | exact mod_ni (by omega) | exact fdiv_ni (by omega) (by omega) | exact pow_ii (by omega) (by omega) (by omega) | with_reducible apply ix_tup | with_reducible apply ix_lst | (simp only [List.set_cons_succ, List.set_cons_zero]; rfl) | exact rfl | exact x1 | exact m2 | exact q1 _)
    · (repeat' first | (with_reducible apply ev_var; exact rfl) | with_reducible exact ev_K | with_reducible exact x0 | with_reducible exact x1 | with_reducible exact d1' | with_reducible exact d2' | with_reducible exact m3 | with_reducible exact m4 | with_reducible exact q1 _ | with_reducible exact ev_aNil | with_reducible exact ev_oNo | with_reducible exact ev_tAll | with_reducible exact ev_gsN | with_reducible apply ev_aCons | with_reducible apply ev_d2 | with_reducible apply ev_d1 | with_reducible apply ev_dN | with_reducible apply ev_dCall | with_reducible apply ev_dTup | with_reducible apply ev_dLst | with_reducible apply ev_dLoc | with_reducible apply ev_sl | with_reducible apply ev_oSo | with_reducible apply ev_ch2b | with_reducible apply ev_ch3b | with_reducible apply ev_tB | with_reducible apply ev_tTru | with_reducible apply ev_tNo | with_reducible apply ev_no | with_reducible apply ev_dML | with_reducible apply ev_gTu | with_reducible apply ev_gsC | with_reducible apply ev_gSb | with_reducible apply ev_gNm | (simp only [List.length_cons, List.length_nil]; exact len_le (by decide)) | exact decide_eq_true (by omega) | exact decide_eq_false (by omega) | exact ne_t (by omega) | exact ne_f (by omega) | with_reducible apply lt_ii | with_reducible apply le_ii | with_reducible apply gt_ii | with_reducible apply ge_ii | with_reducible apply eq_ii | with_reducible apply ne_ii | with_reducible apply eq_ss | with_reducible exact add_ii | with_reducible exact sub_ii | with_reducible exact neg_i | with_reducible apply mul_ii | exact okMul_small (by omega) (by omega) | exact mod_ii (by omega) | exact fdiv_ii (by omega) (by omega) | exact mod_ni (by omega) | exact fdiv_ni (by omega) (by omega) | exact pow_ii (by omega) (by omega) (by omega) | with_reducible apply ix_tup | with_reducible apply ix_lst | (simp only [List.set_cons_succ, List.set_cons_zero]; rfl) | exact rfl | exact x0 | exact x1 | exact d1' | exact d2' | exact m3 | exact m4 | exact q1 _)
end K17

/-! K17d: spanned. -/
namespace K17
open PySem PySem.Spec PyProof.Rows L2 Fd Nm
noncomputable def p_sp : Fn := runF 10 (d_spanned p_wc p_gcd)
noncomputable def spB : DenS := (sSeq (sAsg (dCall 2 p_wc (aCons (cVar 3) (aCons (cVar 5) aNil))) (gTu 3 (gsCons (gNm 6) (gsCons (gNm 7) (gsCons (gNm 8) gsNil)))))
  (sSeq (sIf (tB1 (d2 f_eq (cVar 6) (cK (.int 0)))) (sSeq (sAsg (dCall 2 p_gcd (aCons (cVar 1) (aCons (cVar 4) aNil))) (gNm 1))
  sCt) sNil)
  (sSeq (sAsg (dCall 2 p_gcd (aCons (cVar 1) (aCons (d2 f_fdiv (d2 f_sub (d2 f_mul (cVar 2) (cVar 5)) (d2 f_mul (cVar 4) (cVar 3))) (cVar 6)) aNil))) (gNm 1))
  (sSeq (sPar 2 3 (aCons (d2 f_add (d2 f_mul (cVar 7) (cVar 2)) (d2 f_mul (cVar 8) (cVar 4))) (aCons (cVar 6) aNil)))
  (sIf (tB1 (d2 f_ne (cVar 1) (cK (.int 0)))) (sAsg (d2 f_mod (cVar 2) (cVar 1)) (gNm 2)) sNil)))))
theorem gcd_le_l {a b : Int} (h : a ≠ 0) : Int.gcd a b ≤ a.natAbs := Nat.le_of_dvd (by omega) (Nat.gcd_dvd_left _ _)
theorem gcd_z (b : Int) : Int.gcd 0 b = b.natAbs := Nat.gcd_zero_left _
theorem low_lt {low z : Int} {B : Nat} (hl : low.natAbs < B) (hz : low = 0 → z.natAbs < B) : ((Int.gcd low z : Nat) : Int).natAbs < B := by
  by_cases h : low = 0
  · subst h
    rw [gcd_z]
    have := hz rfl
    omega
  · have := gcd_le_l (b := z) h
    omega
theorem ediv_abs_le {z g : Int} : (z / g).natAbs ≤ z.natAbs := Int.natAbs_ediv_le_natAbs _ _
def Bs (rs : List Pr) : Prop := ∀ r ∈ rs, r.1.natAbs < 2 ^ 50 ∧ r.2.natAbs < 2 ^ 50
theorem sub_lt {p q : Int} (hp : p.natAbs < 2 ^ 100) (hq : q.natAbs < 2 ^ 100) : (p - q).natAbs < 2 ^ 101 := by omega
abbrev spE (R : PV) (low x y : Int) (o4 o5 o6 o7 o8 : Option PV) : En := [some R, some (.int low), some (.int x), some (.int y), o4, o5, o6, o7, o8, none]
theorem sp_step {R : PV} {done : List Pr} {low x y one two : Int} (I : LowI done low x y) (hB : Bs (done ++ [(one, two)])) (hl : low.natAbs < 2 ^ 102) (hx : x.natAbs < 2 ^ 102) (o6 o7 o8 : Option PV) (μ : Sto) :
    ∃ (low' x' y' : Int) (s6 s7 s8 : Option PV), LowI (done ++ [(one, two)]) low' x' y' ∧ low'.natAbs < 2 ^ 102 ∧ x'.natAbs < 2 ^ 102 ∧
      (spB (spE R low x y (some (.int one)) (some (.int two)) o6 o7 o8) μ = some (.nx (spE R low' x' y' (some (.int one)) (some (.int two)) s6 s7 s8) μ) ∨
       spB (spE R low x y (some (.int one)) (some (.int two)) o6 o7 o8) μ = some (.ct (spE R low' x' y' (some (.int one)) (some (.int two)) s6 s7 s8) μ)) := by
  have hr := hB (one, two) (List.mem_append_right _ (List.mem_singleton.mpr rfl))
  have h1 : one.natAbs < 2 ^ 50 := hr.1
  have h2 : two.natAbs < 2 ^ 50 := hr.2
  have hy : y.natAbs < 2 ^ 50 := I.y_le (fun r hr => (hB r (List.mem_append_left _ hr)).2) (by decide)
  obtain ⟨s, t, e, hs, ht, hw⟩ := told_ok (a := y) (b := two) (Nat.lt_trans hy (by decide)) (Nat.lt_trans h2 (by decide)) μ
  have dy := Int.gcd_dvd_left y two
  have dt := Int.gcd_dvd_right y two
  by_cases hg : Int.gcd y two = 0
  · obtain ⟨y0, t0⟩ := Int.gcd_eq_zero_iff.mp hg
    refine ⟨_, x, y, some (.int (Int.gcd y two : Int)), some (.int s), some (.int t), I.flat y0 t0, low_lt hl (fun _ => Nat.lt_trans h1 (by decide)), hx, Or.inr ?_⟩
    have hg0 : ((Int.gcd y two : Nat) : Int) = 0 := by omega
    rw [hg0] at hw
    rw [hg0]
    have gk := gcd_ok low one μ
    unfold spB
    clear e hs ht dy dt hr hB hl hx hy h1 h2 hg hg0
    (apply ev_seq; case' ha => ((first | with_reducible apply ev_set | with_reducible apply ev_par | with_reducible apply ev_par3 | with_reducible apply ev_asg | with_reducible apply ev_ex | with_reducible apply ev_ret | with_reducible exact ev_sNil | (with_reducible apply ev_aug; exact rfl)) <;> (repeat' first | (with_reducible apply ev_var; exact rfl) | with_reducible exact ev_K | with_reducible exact hw | with_reducible exact ev_aNil | with_reducible exact ev_oNo | with_reducible exact ev_tAll | with_reducible exact ev_gsN | with_reducible apply ev_aCons | with_reducible apply ev_d2 | with_reducible apply ev_d1 | with_reducible apply ev_dN | with_reducible apply ev_dCall | with_reducible apply ev_dTup | with_reducible apply ev_dLst | with_reducible apply ev_dLoc | with_reducible apply ev_sl | with_reducible apply ev_oSo | with_reducible apply ev_ch2b | with_reducible apply ev_ch3b | with_reducible apply ev_tB | with_reducible apply ev_tTru | with_reducible apply ev_tNo | with_reducible apply ev_no | with_reducible apply ev_dML | with_reducible apply ev_gTu | with_reducible apply ev_gsC | with_reducible apply ev_gSb | with_reducible apply ev_gNm | (simp only [List.length_cons, List.length_nil]; exact len_le (by decide)) | exact decide_eq_true (by omega) | exact decide_eq_false (by omega) | exact ne_t (by omega) | exact ne_f (by omega) | with_reducible apply lt_ii | with_reducible apply le_ii | with_reducible apply gt_ii | with_reducible apply ge_ii | with_reducible apply eq_ii | with_reducible apply ne_ii | with_reducible apply eq_ss | with_reducible exact add_ii | with_reducible exact sub_ii | with_reducible exact neg_i | with_reducible apply mul_ii | exact okMul_small (by omega) (by omega) | exact mod_ii (by omega) | exact fdiv_ii (by omega) (by omega) | exact mod_ni (by omega) | exact fdiv_ni (by omega) (by omega) | exact pow_ii (by omega) (by omega) (by omega) | with_reducible apply ix_tup | with_reducible apply ix_lst | (simp only [List.set_cons_succ, List.set_cons_zero]; rfl) | exact rfl | exact hw)))
    apply ev_seq_ct
    (apply ev_sIf_t; case' hc => (repeat' first | (with_reducible apply ev_var; exact rfl) | with_reducible exact ev_K | with_reducible exact ev_aNil | with_reducible exact ev_oNo | with_reducible exact ev_tAll | with_reducible exact ev_gsN | with_reducible apply ev_aCons | with_reducible apply ev_d2 | with_reducible apply ev_d1 | with_reducible apply ev_dN | with_reducible apply ev_dCall | with_reducible apply ev_dTup | with_reducible apply ev_dLst | with_reducible apply ev_dLoc | with_reducible apply ev_sl | with_reducible apply ev_oSo | with_reducible apply ev_ch2b | with_reducible apply ev_ch3b | with_reducible apply ev_tB | with_reducible apply ev_tTru | with_reducible apply ev_tNo | with_reducible apply ev_no | with_reducible apply ev_dML | with_reducible apply ev_gTu | with_reducible apply ev_gsC | with_reducible apply ev_gSb | with_reducible apply ev_gNm | (simp only [List.length_cons, List.length_nil]; exact len_le (by decide)) | exact decide_eq_true (by omega) | exact decide_eq_false (by omega) | exact ne_t (by omega) | exact ne_f (by omega) | with_reducible apply lt_ii | with_reducible apply le_ii | with_reducible apply gt_ii | with_reducible apply ge_ii | with_reducible apply eq_ii | with_reducible apply ne_ii | with_reducible apply eq_ss | with_reducible exact add_ii | with_reducible exact sub_ii | with_reducible exact neg_i | with_reducible apply mul_ii | exact okMul_small (by omega) (by omega) | exact mod_ii (by omega) | exact fdiv_ii (by omega) (by omega) | exact mod_ni (by omega) | exact fdiv_ni (by omega) (by omega) | exact pow_ii (by omega) (by omega) (by omega) | with_reducible apply ix_tup | with_reducible apply ix_lst | (simp only [List.set_cons_succ, List.set_cons_zero]; rfl) | exact rfl))
    (apply ev_seq; case' ha => ((first | with_reducible apply ev_set | with_reducible apply ev_par | with_reducible apply ev_par3 | with_reducible apply ev_asg | with_reducible apply ev_ex | with_reducible apply ev_ret | with_reducible exact ev_sNil | (with_reducible apply ev_aug; exact rfl)) <;> (repeat' first | (with_reducible apply ev_var; exact rfl) | with_reducible exact ev_K | with_reducible exact gk | with_reducible exact ev_aNil | with_reducible exact ev_oNo | with_reducible exact ev_tAll | with_reducible exact ev_gsN | with_reducible apply ev_aCons | with_reducible apply ev_d2 | with_reducible apply ev_d1 | with_reducible apply ev_dN | with_reducible apply ev_dCall | with_reducible apply ev_dTup | with_reducible apply ev_dLst | with_reducible apply ev_dLoc | with_reducible apply ev_sl | with_reducible apply ev_oSo | with_reducible apply ev_ch2b | with_reducible apply ev_ch3b | with_reducible apply ev_tB | with_reducible apply ev_tTru | with_reducible apply ev_tNo | with_reducible apply ev_no | with_reducible apply ev_dML | with_reducible apply ev_gTu | with_reducible apply ev_gsC | with_reducible apply ev_gSb | with_reducible apply ev_gNm | (simp only [List.length_cons, List.length_nil]; exact len_le (by decide)) | exact decide_eq_true (by omega) | exact decide_eq_false (by omega) | exact ne_t (by omega) | exact ne_f (by omega) | with_reducible apply lt_ii | with_reducible apply le_ii | with_reducible apply gt_ii | with_reducible apply ge_ii | with_reducible apply eq_ii | with_reducible apply ne_ii | with_reducible apply eq_ss | with_reducible exact add_ii | with_reducible exact sub_ii | with_reducible exact neg_i | with_reducible apply mul_ii | exact okMul_small (by omega) (by omega) | exact mod_ii (by omega) | exact fdiv_ii (by omega) (by omega) | exact mod_ni (by omega) | exact fdiv_ni (by omega) (by omega) | exact pow_ii (by omega) (by omega) (by omega) | with_reducible apply ix_tup | with_reducible apply ix_lst | (simp only [List.set_cons_succ, List.set_cons_zero]; rfl) | exact rfl | exact gk)))
    rfl
  · generalize hG : ((Int.gcd y two : Nat) : Int) = g at e dy dt hw
    have g0 : 0 < g := by omega
    have gle : g.natAbs < 2 ^ 50 := by
      by_cases hy0 : y = 0
      · rw [hy0, gcd_z] at hG; omega
      · have := gcd_le_l (b := two) hy0; omega
    have g100 : g.natAbs < 2 ^ 100 := Nat.lt_trans gle (by decide)
    have T := I.turn (one := one) g0 e dy dt
    have m1 := mulW μ hx h2 (by decide) (by decide)
    have m2 := mulW μ h1 hy (by decide) (by decide)
    have m3 := mulW μ hs hx (by decide) (by decide)
    have m4 := mulW μ ht h1 (by decide) (by decide)
    have fd1 : f_fdiv (.int (x * two - one * y)) (.int g) μ = some (.int ((x * two - one * y) / g), μ) := fdiv_ii g0 g100
    have gk := gcd_ok low ((x * two - one * y) / g) μ
    have hlow : (((Int.gcd low ((x * two - one * y) / g) : Nat)) : Int).natAbs < 2 ^ 102 := low_lt hl (fun z => by
      subst z
      have hx' : x.natAbs < 2 ^ 50 := I.x_le (fun r hr => (hB r (List.mem_append_left _ hr)).1) (by decide)
      have q1 : (x * two).natAbs < 2 ^ (50 + 50) := wide_lt hx' h2
      have q2 : (one * y).natAbs < 2 ^ (50 + 50) := wide_lt h1 hy
      exact Nat.lt_of_le_of_lt ediv_abs_le (Nat.lt_trans (sub_lt q1 q2) (by decide)))
    generalize hL : (((Int.gcd low ((x * two - one * y) / g) : Nat)) : Int) = L at hlow T gk
    have gne : (g = 0) = False := by simp only [eq_iff_iff, iff_false]; omega
    have hq : f_eq (.int g) (.int 0) μ = some (.bl false, μ) := eq_ii (decide_eq_false (by omega))
    by_cases hL0 : L = 0
    · refine ⟨L, s * x + t * one, g, some (.int g), some (.int s), some (.int t), T, hlow, ?_, Or.inl ?_⟩
      · rw [hL0] at T
        have := T.x_le (fun r hr => (hB r hr).1) (by decide)
        exact Nat.lt_trans this (by decide)
      · have hn : f_ne (.int L) (.int 0) μ = some (.bl false, μ) := ne_ii (ne_f hL0)
        clear e hs ht dy dt hr hB hl hx hy h1 h2 hg T hlow gle g100 gne hL hL0 g0 I hG
        unfold spB
        (apply ev_seq; case' ha => ((first | with_reducible apply ev_set | with_reducible apply ev_par | with_reducible apply ev_par3 | with_reducible apply ev_asg | with_reducible apply ev_ex | with_reducible apply ev_ret | with_reducible exact ev_sNil | (with_reducible apply ev_aug; exact rfl)) <;> (repeat' first | (with_reducible apply ev_var; exact rfl) | with_reducible exact ev_K | with_reducible exact hw | with_reducible exact ev_aNil | with_reducible exact ev_oNo | with_reducible exact ev_tAll | with_reducible exact ev_gsN | with_reducible apply ev_aCons | with_reducible apply ev_d2 | with_reducible apply ev_d1 | with_reducible apply ev_dN | with_reducible apply ev_dCall | with_reducible apply ev_dTup | with_reducible apply ev_dLst | with_reducible apply ev_dLoc | with_reducible apply ev_sl | with_reducible apply ev_oSo | with_reducible apply ev_ch2b | with_reducible apply ev_ch3b | with_reducible apply ev_tB | with_reducible apply ev_tTru | with_reducible apply ev_tNo | with_reducible apply ev_no | with_reducible apply ev_dML | with_reducible apply ev_gTu | with_reducible apply ev_gsC | with_reducible apply ev_gSb | with_reducible apply ev_gNm | (simp only [List.length_cons, List.length_nil]; exact len_le (by decide)) | exact decide_eq_true (by omega) | exact decide_eq_false (by omega) | exact ne_t (by omega) | exact ne_f (by omega) | with_reducible apply lt_ii | with_reducible apply le_ii | with_reducible apply gt_ii | with_reducible apply ge_ii | with_reducible apply eq_ii | with_reducible apply ne_ii | with_reducible apply eq_ss | with_reducible exact add_ii | with_reducible exact sub_ii | with_reducible exact neg_i | with_reducible apply mul_ii | exact okMul_small (by omega) (by omega) | exact mod_ii (by omega) | exact fdiv_ii (by omega) (by omega) | exact mod_ni (by omega) | exact fdiv_ni (by omega) (by omega) | exact pow_ii (by omega) (by omega) (by omega) | with_reducible apply ix_tup | with_reducible apply ix_lst | (simp only [List.set_cons_succ, List.set_cons_zero]; rfl) | exact rfl | exact hw)))
        apply ev_seq
        case ha =>
          apply ev_sIf_f
          case hc => (repeat' first | (with_reducible apply ev_var; exact rfl) | with_reducible exact ev_K | with_reducible exact hq | with_reducible exact ev_aNil | with_reducible exact ev_oNo | with_reducible exact ev_tAll | with_reducible exact ev_gsN | with_reducible apply ev_aCons | with_reducible apply ev_d2 | with_reducible apply ev_d1 | with_reducible apply ev_dN | with_reducible apply ev_dCall | with_reducible apply ev_dTup | with_reducible apply ev_dLst | with_reducible apply ev_dLoc | with_reducible apply ev_sl | with_reducible apply ev_oSo | with_reducible apply ev_ch2b | with_reducible apply ev_ch3b | with_reducible apply ev_tB | with_reducible apply ev_tTru | with_reducible apply ev_tNo | with_reducible apply ev_no | with_reducible apply ev_dML | with_reducible apply ev_gTu | with_reducible apply ev_gsC | with_reducible apply ev_gSb | with_reducible apply ev_gNm | (simp only [List.length_cons, List.length_nil]; exact len_le (by decide)) | exact decide_eq_true (by omega) | exact decide_eq_false (by omega) | exact ne_t (by omega) | exact ne_f (by omega) | with_reducible apply lt_ii | with_reducible apply le_ii | with_reducible apply gt_ii | with_reducible apply ge_ii | with_reducible apply eq_ii | with_reducible apply ne_ii | with_reducible apply eq_ss | with_reducible exact add_ii | with_reducible exact sub_ii | with_reducible exact neg_i | with_reducible apply mul_ii | exact okMul_small (by omega) (by omega) | exact mod_ii (by omega) | exact fdiv_ii (by omega) (by omega) | exact mod_ni (by omega) | exact fdiv_ni (by omega) (by omega) | exact pow_ii (by omega) (by omega) (by omega) | with_reducible apply ix_tup | with_reducible apply ix_lst | (simp only [List.set_cons_succ, List.set_cons_zero]; rfl) | exact rfl | exact hq)
          exact ev_sNil
        (apply ev_seq; case' ha => ((first | with_reducible apply ev_set | with_reducible apply ev_par | with_reducible apply ev_par3 | with_reducible apply ev_asg | with_reducible apply ev_ex | with_reducible apply ev_ret | with_reducible exact ev_sNil | (with_reducible apply ev_aug; exact rfl)) <;> (repeat' first | (with_reducible apply ev_var; exact rfl) | with_reducible exact ev_K | with_reducible exact m1 | with_reducible exact m2 | with_reducible exact fd1 | with_reducible exact gk | with_reducible exact ev_aNil | with_reducible exact ev_oNo | with_reducible exact ev_tAll | with_reducible exact ev_gsN | with_reducible apply ev_aCons | with_reducible apply ev_d2 | with_reducible apply ev_d1 | with_reducible apply ev_dN | with_reducible apply ev_dCall | with_reducible apply ev_dTup | with_reducible apply ev_dLst | with_reducible apply ev_dLoc | with_reducible apply ev_sl | with_reducible apply ev_oSo | with_reducible apply ev_ch2b | with_reducible apply ev_ch3b | with_reducible apply ev_tB | with_reducible apply ev_tTru | with_reducible apply ev_tNo | with_reducible apply ev_no | with_reducible apply ev_dML | with_reducible apply ev_gTu | with_reducible apply ev_gsC | with_reducible apply ev_gSb | with_reducible apply ev_gNm | (simp only [List.length_cons, List.length_nil]; exact len_le (by decide)) | exact decide_eq_true (by omega) | exact decide_eq_false (by omega) | exact ne_t (by omega) | exact ne_f (by omega) | with_reducible apply lt_ii | with_reducible apply le_ii | with_reducible apply gt_ii | with_reducible apply ge_ii | with_reducible apply eq_ii | with_reducible apply ne_ii | with_reducible apply eq_ss | with_reducible exact add_ii | with_reducible exact sub_ii | with_reducible exact neg_i | with_reducible apply mul_ii | exact okMul_small (by omega) (by omega) | exact mod_ii (by omega) | exact fdiv_ii (by omega) (by omega) | exact mod_ni (by omega) | exact fdiv_ni (by omega) (by omega) | exact pow_ii (by omega) (by omega) (by omega) | with_reducible apply ix_tup | with_reducible apply ix_lst | (simp only [List.set_cons_succ, List.set_cons_zero]; rfl) | exact rfl | exact m1 | exact m2 | exact fd1 | exact gk)))
        (apply ev_seq; case' ha => ((first | with_reducible apply ev_set | with_reducible apply ev_par | with_reducible apply ev_par3 | with_reducible apply ev_asg | with_reducible apply ev_ex | with_reducible apply ev_ret | with_reducible exact ev_sNil | (with_reducible apply ev_aug; exact rfl)) <;> (repeat' first | (with_reducible apply ev_var; exact rfl) | with_reducible exact ev_K | with_reducible exact m3 | with_reducible exact m4 | with_reducible exact ev_aNil | with_reducible exact ev_oNo | with_reducible exact ev_tAll | with_reducible exact ev_gsN | with_reducible apply ev_aCons | with_reducible apply ev_d2 | with_reducible apply ev_d1 | with_reducible apply ev_dN | with_reducible apply ev_dCall | with_reducible apply ev_dTup | with_reducible apply ev_dLst | with_reducible apply ev_dLoc | with_reducible apply ev_sl | with_reducible apply ev_oSo | with_reducible apply ev_ch2b | with_reducible apply ev_ch3b | with_reducible apply ev_tB | with_reducible apply ev_tTru | with_reducible apply ev_tNo | with_reducible apply ev_no | with_reducible apply ev_dML | with_reducible apply ev_gTu | with_reducible apply ev_gsC | with_reducible apply ev_gSb | with_reducible apply ev_gNm | (simp only [List.length_cons, List.length_nil]; exact len_le (by decide)) | exact decide_eq_true (by omega) | exact decide_eq_false (by omega) | exact ne_t (by omega) | exact ne_f (by omega) | with_reducible apply lt_ii | with_reducible apply le_ii | with_reducible apply gt_ii | with_reducible apply ge_ii | with_reducible apply eq_ii | with_reducible apply ne_ii | with_reducible apply eq_ss | with_reducible exact add_ii | with_reducible exact sub_ii | with_reducible exact neg_i | with_reducible apply mul_ii | exact okMul_small (by omega) (by omega) | exact mod_ii (by omega) | exact fdiv_ii (by omega) (by omega) | exact mod_ni (by omega) | exact fdiv_ni (by omega) (by omega) | exact pow_ii (by omega) (by omega) (by omega) | with_reducible apply ix_tup | with_reducible apply ix_lst | (simp only [List.set_cons_succ, List.set_cons_zero]; rfl) | exact rfl | exact m3 | exact m4)))
        apply ev_sIf_f
        case hc => (repeat' first | (with_reducible apply ev_var; exact rfl) | with_reducible exact ev_K | with_reducible exact hn | with_reducible exact ev_aNil | with_reducible exact ev_oNo | with_reducible exact ev_tAll | with_reducible exact ev_gsN | with_reducible apply ev_aCons | with_reducible apply ev_d2 | with_reducible apply ev_d1 | with_reducible apply ev_dN | with_reducible apply ev_dCall | with_reducible apply ev_dTup | with_reducible apply ev_dLst | with_reducible apply ev_dLoc | with_reducible apply ev_sl | with_reducible apply ev_oSo | with_reducible apply ev_ch2b | with_reducible apply ev_ch3b | with_reducible apply ev_tB | with_reducible apply ev_tTru | with_reducible apply ev_tNo | with_reducible apply ev_no | with_reducible apply ev_dML | with_reducible apply ev_gTu | with_reducible apply ev_gsC | with_reducible apply ev_gSb | with_reducible apply ev_gNm | (simp only [List.length_cons, List.length_nil]; exact len_le (by decide)) | exact decide_eq_true (by omega) | exact decide_eq_false (by omega) | exact ne_t (by omega) | exact ne_f (by omega) | with_reducible apply lt_ii | with_reducible apply le_ii | with_reducible apply gt_ii | with_reducible apply ge_ii | with_reducible apply eq_ii | with_reducible apply ne_ii | with_reducible apply eq_ss | with_reducible exact add_ii | with_reducible exact sub_ii | with_reducible exact neg_i | with_reducible apply mul_ii | exact okMul_small (by omega) (by omega) | exact mod_ii (by omega) | exact fdiv_ii (by omega) (by omega) | exact mod_ni (by omega) | exact fdiv_ni (by omega) (by omega) | exact pow_ii (by omega) (by omega) (by omega) | with_reducible apply ix_tup | with_reducible apply ix_lst | (simp only [List.set_cons_succ, List.set_cons_zero]; rfl) | exact rfl | exact hn)
        exact ev_sNil
    · have L0 : 0 < L := by have := T.l0; omega
      refine ⟨L, (s * x + t * one) % L, g, some (.int g), some (.int s), some (.int t), T.mod (by omega), hlow, ?_, Or.inl ?_⟩
      · have a1 := Int.emod_nonneg (s * x + t * one) (show L ≠ 0 by omega)
        have a2 := Int.emod_lt_of_pos (s * x + t * one) L0
        generalize (s * x + t * one) % L = z at a1 a2
        clear e hs ht dy dt hr hB hl hx hy h1 h2 hg T gle g100 gne hL hL0 g0 I m1 m2 m3 m4 fd1 gk hq hw hG
        omega
      · have hn : f_ne (.int L) (.int 0) μ = some (.bl true, μ) := ne_ii (ne_t hL0)
        have hm : f_mod (.int (s * x + t * one)) (.int L) μ = some (.int ((s * x + t * one) % L), μ) := mod_ii L0
        clear e hs ht dy dt hr hB hl hx hy h1 h2 hg T hlow gle g100 gne hL hL0 g0 I hG L0
        unfold spB
        (apply ev_seq; case' ha => ((first | with_reducible apply ev_set | with_reducible apply ev_par | with_reducible apply ev_par3 | with_reducible apply ev_asg | with_reducible apply ev_ex | with_reducible apply ev_ret | with_reducible exact ev_sNil | (with_reducible apply ev_aug; exact rfl)) <;> (repeat' first | (with_reducible apply ev_var; exact rfl) | with_reducible exact ev_K | with_reducible exact hw | with_reducible exact ev_aNil | with_reducible exact ev_oNo | with_reducible exact ev_tAll | with_reducible exact ev_gsN | with_reducible apply ev_aCons | with_reducible apply ev_d2 | with_reducible apply ev_d1 | with_reducible apply ev_dN | with_reducible apply ev_dCall | with_reducible apply ev_dTup | with_reducible apply ev_dLst | with_reducible apply ev_dLoc | with_reducible apply ev_sl | with_reducible apply ev_oSo | with_reducible apply ev_ch2b | with_reducible apply ev_ch3b | with_reducible apply ev_tB | with_reducible apply ev_tTru | with_reducible apply ev_tNo | with_reducible apply ev_no | with_reducible apply ev_dML | with_reducible apply ev_gTu | with_reducible apply ev_gsC | with_reducible apply ev_gSb | with_reducible apply ev_gNm | (simp only [List.length_cons, List.length_nil]; exact len_le (by decide)) | exact decide_eq_true (by omega) | exact decide_eq_false (by omega) | exact ne_t (by omega) | exact ne_f (by omega) | with_reducible apply lt_ii | with_reducible apply le_ii | with_reducible apply gt_ii | with_reducible apply ge_ii | with_reducible apply eq_ii | with_reducible apply ne_ii | with_reducible apply eq_ss | with_reducible exact add_ii | with_reducible exact sub_ii | with_reducible exact neg_i | with_reducible apply mul_ii | exact okMul_small (by omega) (by omega) | exact mod_ii (by omega) | exact fdiv_ii (by omega) (by omega) | exact mod_ni (by omega) | exact fdiv_ni (by omega) (by omega) | exact pow_ii (by omega) (by omega) (by omega) | with_reducible apply ix_tup | with_reducible apply ix_lst | (simp only [List.set_cons_succ, List.set_cons_zero]; rfl) | exact rfl | exact hw)))
        apply ev_seq
        case ha =>
          apply ev_sIf_f
          case hc => (repeat' first | (with_reducible apply ev_var; exact rfl) | with_reducible exact ev_K | with_reducible exact hq | with_reducible exact ev_aNil | with_reducible exact ev_oNo | with_reducible exact ev_tAll | with_reducible exact ev_gsN | with_reducible apply ev_aCons | with_reducible apply ev_d2 | with_reducible apply ev_d1 | with_reducible apply ev_dN | with_reducible apply ev_dCall | with_reducible apply ev_dTup | with_reducible apply ev_dLst | with_reducible apply ev_dLoc | with_reducible apply ev_sl | with_reducible apply ev_oSo | with_reducible apply ev_ch2b | with_reducible apply ev_ch3b | with_reducible apply ev_tB | with_reducible apply ev_tTru | with_reducible apply ev_tNo | with_reducible apply ev_no | with_reducible apply ev_dML | with_reducible apply ev_gTu | with_reducible apply ev_gsC | with_reducible apply ev_gSb | with_reducible apply ev_gNm | (simp only [List.length_cons, List.length_nil]; exact len_le (by decide)) | exact decide_eq_true (by omega) | exact decide_eq_false (by omega) | exact ne_t (by omega) | exact ne_f (by omega) | with_reducible apply lt_ii | with_reducible apply le_ii | with_reducible apply gt_ii | with_reducible apply ge_ii | with_reducible apply eq_ii | with_reducible apply ne_ii | with_reducible apply eq_ss | with_reducible exact add_ii | with_reducible exact sub_ii | with_reducible exact neg_i | with_reducible apply mul_ii | exact okMul_small (by omega) (by omega) | exact mod_ii (by omega) | exact fdiv_ii (by omega) (by omega) | exact mod_ni (by omega) | exact fdiv_ni (by omega) (by omega) | exact pow_ii (by omega) (by omega) (by omega) | with_reducible apply ix_tup | with_reducible apply ix_lst | (simp only [List.set_cons_succ, List.set_cons_zero]; rfl) | exact rfl | exact hq)
          exact ev_sNil
        (apply ev_seq; case' ha => ((first | with_reducible apply ev_set | with_reducible apply ev_par | with_reducible apply ev_par3 | with_reducible apply ev_asg | with_reducible apply ev_ex | with_reducible apply ev_ret | with_reducible exact ev_sNil | (with_reducible apply ev_aug; exact rfl)) <;> (repeat' first | (with_reducible apply ev_var; exact rfl) | with_reducible exact ev_K | with_reducible exact m1 | with_reducible exact m2 | with_reducible exact fd1 | with_reducible exact gk | with_reducible exact ev_aNil | with_reducible exact ev_oNo | with_reducible exact ev_tAll | with_reducible exact ev_gsN | with_reducible apply ev_aCons | with_reducible apply ev_d2 | with_reducible apply ev_d1 | with_reducible apply ev_dN | with_reducible apply ev_dCall | with_reducible apply ev_dTup | with_reducible apply ev_dLst | with_reducible apply ev_dLoc | with_reducible apply ev_sl | with_reducible apply ev_oSo | with_reducible apply ev_ch2b | with_reducible apply ev_ch3b | with_reducible apply ev_tB | with_reducible apply ev_tTru | with_reducible apply ev_tNo | with_reducible apply ev_no | with_reducible apply ev_dML | with_reducible apply ev_gTu | with_reducible apply ev_gsC | with_reducible apply ev_gSb | with_reducible apply ev_gNm | (simp only [List.length_cons, List.length_nil]; exact len_le (by decide)) | exact decide_eq_true (by omega) | exact decide_eq_false (by omega) | exact ne_t (by omega) | exact ne_f (by omega) | with_reducible apply lt_ii | with_reducible apply le_ii | with_reducible apply gt_ii | with_reducible apply ge_ii | with_reducible apply eq_ii | with_reducible apply ne_ii | with_reducible apply eq_ss | with_reducible exact add_ii | with_reducible exact sub_ii | with_reducible exact neg_i | with_reducible apply mul_ii | exact okMul_small (by omega) (by omega) | exact mod_ii (by omega) | exact fdiv_ii (by omega) (by omega) | exact mod_ni (by omega) | exact fdiv_ni (by omega) (by omega) | exact pow_ii (by omega) (by omega) (by omega) | with_reducible apply ix_tup | with_reducible apply ix_lst | (simp only [List.set_cons_succ, List.set_cons_zero]; rfl) | exact rfl | exact m1 | exact m2 | exact fd1 | exact gk)))
        (apply ev_seq; case' ha => ((first | with_reducible apply ev_set | with_reducible apply ev_par | with_reducible apply ev_par3 | with_reducible apply ev_asg | with_reducible apply ev_ex | with_reducible apply ev_ret | with_reducible exact ev_sNil | (with_reducible apply ev_aug; exact rfl)) <;> (repeat' first | (with_reducible apply ev_var; exact rfl) | with_reducible exact ev_K | with_reducible exact m3 | with_reducible exact m4 | with_reducible exact ev_aNil | with_reducible exact ev_oNo | with_reducible exact ev_tAll | with_reducible exact ev_gsN | with_reducible apply ev_aCons | with_reducible apply ev_d2 | with_reducible apply ev_d1 | with_reducible apply ev_dN | with_reducible apply ev_dCall | with_reducible apply ev_dTup | with_reducible apply ev_dLst | with_reducible apply ev_dLoc | with_reducible apply ev_sl | with_reducible apply ev_oSo | with_reducible apply ev_ch2b | with_reducible apply ev_ch3b | with_reducible apply ev_tB | with_reducible apply ev_tTru | with_reducible apply ev_tNo | with_reducible apply ev_no | with_reducible apply ev_dML | with_reducible apply ev_gTu | with_reducible apply ev_gsC | with_reducible apply ev_gSb | with_reducible apply ev_gNm | (simp only [List.length_cons, List.length_nil]; exact len_le (by decide)) | exact decide_eq_true (by omega) | exact decide_eq_false (by omega) | exact ne_t (by omega) | exact ne_f (by omega) | with_reducible apply lt_ii | with_reducible apply le_ii | with_reducible apply gt_ii | with_reducible apply ge_ii | with_reducible apply eq_ii | with_reducible apply ne_ii | with_reducible apply eq_ss | with_reducible exact add_ii | with_reducible exact sub_ii | with_reducible exact neg_i | with_reducible apply mul_ii | exact okMul_small (by omega) (by omega) | exact mod_ii (by omega) | exact fdiv_ii (by omega) (by omega) | exact mod_ni (by omega) | exact fdiv_ni (by omega) (by omega) | exact pow_ii (by omega) (by omega) (by omega) | with_reducible apply ix_tup | with_reducible apply ix_lst | (simp only [List.set_cons_succ, List.set_cons_zero]; rfl) | exact rfl | exact m3 | exact m4)))
        apply ev_sIf_t
        case hc => (repeat' first | (with_reducible apply ev_var; exact rfl) | with_reducible exact ev_K | with_reducible exact hn | with_reducible exact ev_aNil | with_reducible exact ev_oNo | with_reducible exact ev_tAll | with_reducible exact ev_gsN | with_reducible apply ev_aCons | with_reducible apply ev_d2 | with_reducible apply ev_d1 | with_reducible apply ev_dN | with_reducible apply ev_dCall | with_reducible apply ev_dTup | with_reducible apply ev_dLst | with_reducible apply ev_dLoc | with_reducible apply ev_sl | with_reducible apply ev_oSo | with_reducible apply ev_ch2b | with_reducible apply ev_ch3b | with_reducible apply ev_tB | with_reducible apply ev_tTru | with_reducible apply ev_tNo | with_reducible apply ev_no | with_reducible apply ev_dML | with_reducible apply ev_gTu | with_reducible apply ev_gsC | with_reducible apply ev_gSb | with_reducible apply ev_gNm | (simp only [List.length_cons, List.length_nil]; exact len_le (by decide)) | exact decide_eq_true (by omega) | exact decide_eq_false (by omega) | exact ne_t (by omega) | exact ne_f (by omega) | with_reducible apply lt_ii | with_reducible apply le_ii | with_reducible apply gt_ii | with_reducible apply ge_ii | with_reducible apply eq_ii | with_reducible apply ne_ii | with_reducible apply eq_ss | with_reducible exact add_ii | with_reducible exact sub_ii | with_reducible exact neg_i | with_reducible apply mul_ii | exact okMul_small (by omega) (by omega) | exact mod_ii (by omega) | exact fdiv_ii (by omega) (by omega) | exact mod_ni (by omega) | exact fdiv_ni (by omega) (by omega) | exact pow_ii (by omega) (by omega) (by omega) | with_reducible apply ix_tup | with_reducible apply ix_lst | (simp only [List.set_cons_succ, List.set_cons_zero]; rfl) | exact rfl | exact hn)
        ((first | with_reducible apply ev_set | with_reducible apply ev_par | with_reducible apply ev_par3 | with_reducible apply ev_asg | with_reducible apply ev_ex | with_reducible apply ev_ret | with_reducible exact ev_sNil | (with_reducible apply ev_aug; exact rfl)) <;> (repeat' first | (with_reducible apply ev_var; exact rfl) | with_reducible exact ev_K | with_reducible exact hm | with_reducible exact ev_aNil | with_reducible exact ev_oNo | with_reducible exact ev_tAll | with_reducible exact ev_gsN | with_reducible apply ev_aCons | with_reducible apply ev_d2 | with_reducible apply ev_d1 | with_reducible apply ev_dN | with_reducible apply ev_dCall | with_reducible apply ev_dTup | with_reducible apply ev_dLst | with_reducible apply ev_dLoc | with_reducible apply ev_sl | with_reducible apply ev_oSo | with_reducible apply ev_ch2b | with_reducible apply ev_ch3b | with_reducible apply ev_tB | with_reducible apply ev_tTru | with_reducible apply ev_tNo | with_reducible apply ev_no | with_reducible apply ev_dML | with_reducible apply ev_gTu | with_reducible apply ev_gsC | with_reducible apply ev_gSb | with_reducible apply ev_gNm | (simp only [List.length_cons, List.length_nil]; exact len_le (by decide)) | exact decide_eq_true (by omega) | exact decide_eq_false (by omega) | exact ne_t (by omega) | exact ne_f (by omega) | with_reducible apply lt_ii | with_reducible apply le_ii | with_reducible apply gt_ii | with_reducible apply ge_ii | with_reducible apply eq_ii | with_reducible apply ne_ii | with_reducible apply eq_ss | with_reducible exact add_ii | with_reducible exact sub_ii | with_reducible exact neg_i | with_reducible apply mul_ii | exact okMul_small (by omega) (by omega) | exact mod_ii (by omega) | exact fdiv_ii (by omega) (by omega) | exact mod_ni (by omega) | exact fdiv_ni (by omega) (by omega) | exact pow_ii (by omega) (by omega) (by omega) | with_reducible apply ix_tup | with_reducible apply ix_lst | (simp only [List.set_cons_succ, List.set_cons_zero]; rfl) | exact rfl | exact hm))
theorem sp_loop {R : PV} {ch : List (Nat × List PV)} {μ : Sto} (hc : ChkOk ch μ) : ∀ (rest done : List Pr) {low x y : Int} (o4 o5 o6 o7 o8 : Option PV), LowI done low x y → Bs (done ++ rest) → low.natAbs < 2 ^ 102 → x.natAbs < 2 ^ 102 →
    ∃ (low' x' y' : Int) (s4 s5 s6 s7 s8 : Option PV), LowI (done ++ rest) low' x' y' ∧ forL (gTu 2 (gsCons (gNm 4) (gsCons (gNm 5) gsNil))) spB ch (rest.map pv) (spE R low x y o4 o5 o6 o7 o8) μ = some (.nx (spE R low' x' y' s4 s5 s6 s7 s8) μ)
  | [], done, low, x, y, o4, o5, o6, o7, o8, I, _, _, _ => ⟨low, x, y, o4, o5, o6, o7, o8, by rw [List.append_nil]; exact I, for_nil⟩
  | (one, two) :: rest, done, low, x, y, o4, o5, o6, o7, o8, I, hB, hl, hx => by
    have hB' : Bs (done ++ [(one, two)]) := fun r hr => hB r (by
      rcases List.mem_append.mp hr with h | h
      · exact List.mem_append_left _ h
      · rw [List.mem_singleton.mp h]; exact List.mem_append_right _ List.mem_cons_self)
    obtain ⟨low', x', y', s6, s7, s8, I', hl', hx', hb⟩ := sp_step (R := R) I hB' hl hx o6 o7 o8 μ
    have e : done ++ (one, two) :: rest = (done ++ [(one, two)]) ++ rest := by simp
    rw [e] at hB
    obtain ⟨low2, x2, y2, q4, q5, q6, q7, q8, I2, h2⟩ := sp_loop hc rest (done ++ [(one, two)]) (some (.int one)) (some (.int two)) s6 s7 s8 I' hB hl' hx'
    refine ⟨low2, x2, y2, q4, q5, q6, q7, q8, by rw [e]; exact I2, ?_⟩
    have hg : gTu 2 (gsCons (gNm 4) (gsCons (gNm 5) gsNil)) (pv (one, two)) (spE R low x y o4 o5 o6 o7 o8) μ = some (spE R low x y (some (.int one)) (some (.int two)) o6 o7 o8, μ) := rfl
    rcases hb with hb | hb
    · exact for_step hg hb hc h2
    · exact for_ct hg hb hc h2
theorem sp_run {R : PV} {rows : List Pr} {k a b : Int} (Z : Hnf k a b) (h : ∀ u, Sp rows u ↔ Mt k a b u) (hB : Bs rows) {ch : List (Nat × List PV)} {μ : Sto} (hi : itSeq (cVar 0) (spE R 0 0 0 none none none none none) μ = some ((rows.map pv, ch), μ)) (hc : ChkOk ch μ) : p_sp [R] μ = some (p3 k a b, μ) := by
  obtain ⟨low, x, y, s4, s5, s6, s7, s8, I, hf⟩ := sp_loop (R := R) hc rows [] none none none none none LowI.nil hB (by decide) (by decide)
  have I : LowI rows low x y := I
  obtain ⟨hy, hl, hb⟩ := I.hnf Z h
  have k0 := Z.k0; have b0 := Z.b0; have ba := Z.ba
  have yl : y.natAbs < 2 ^ 50 := I.y_le (fun r hr => (hB r hr).2) (by decide)
  have y0 : 0 < y := by omega
  have a0 : 0 < a := by omega
  have y100 : y.natAbs < 2 ^ 100 := Nat.lt_trans yl (by decide)
  have d1' : f_fdiv (.int low) (.int y) μ = some (.int a, μ) := by
    rw [fdiv_ii y0 y100, hl, hy, Int.mul_ediv_cancel_left _ (by omega)]
  have d2' : f_fdiv (.int x) (.int y) μ = some (.int (x / y), μ) := fdiv_ii y0 y100
  have m1 : f_mod (.int (x / y)) (.int a) μ = some (.int b, μ) := by rw [mod_ii a0, hb]
  have hk : (p3 k a b) = .tup [.int y, .int a, .int b] := by rw [hy]; rfl
  rw [hk]
  clear hk hy hl hb k0 b0 ba yl y0 a0 y100 I hB h Z
  refine runF_rt (ρ := [some R, none, none, none, none, none, none, none, none, none]) rfl ?_
  unfold d_spanned
  apply ev_seq (ρ' := spE R 0 0 0 none none none none none) (μ' := μ)
  case ha => rfl
  apply ev_seq (ev_for hi hf)
  (apply ev_seq; case' ha => ((first | with_reducible apply ev_set | with_reducible apply ev_par | with_reducible apply ev_par3 | with_reducible apply ev_asg | with_reducible apply ev_ex | with_reducible apply ev_ret | with_reducible exact ev_sNil | (with_reducible apply ev_aug; exact rfl)) <;> (repeat' first | (with_reducible apply ev_var; exact rfl) | with_reducible exact ev_K | with_reducible exact d1' | with_reducible exact ev_aNil | with_reducible exact ev_oNo | with_reducible exact ev_tAll | with_reducible exact ev_gsN | with_reducible apply ev_aCons | with_reducible apply ev_d2 | with_reducible apply ev_d1 | with_reducible apply ev_dN | with_reducible apply ev_dCall | with_reducible apply ev_dTup | with_reducible apply ev_dLst | with_reducible apply ev_dLoc | with_reducible apply ev_sl | with_reducible apply ev_oSo | with_reducible apply ev_ch2b | with_reducible apply ev_ch3b | with_reducible apply ev_tB | with_reducible apply ev_tTru | with_reducible apply ev_tNo | with_reducible apply ev_no | with_reducible apply ev_dML | with_reducible apply ev_gTu | with_reducible apply ev_gsC | with_reducible apply ev_gSb | with_reducible apply ev_gNm | (simp only [List.length_cons, List.length_nil]; exact len_le (by decide)) | exact decide_eq_true (by omega) | exact decide_eq_false (by omega) | exact ne_t (by omega) | exact ne_f (by omega) | with_reducible apply lt_ii | with_reducible apply le_ii | with_reducible apply gt_ii | with_reducible apply ge_ii | with_reducible apply eq_ii | with_reducible apply ne_ii | with_reducible apply eq_ss | with_reducible exact add_ii | with_reducible exact sub_ii | with_reducible exact neg_i | with_reducible apply mul_ii | exact okMul_small (by omega) (by omega) | exact mod_ii (by omega) | exact fdiv_ii (by omega) (by omega) | exact mod_ni (by omega) | exact fdiv_ni (by omega) (by omega) | exact pow_ii (by omega) (by omega) (by omega) | with_reducible apply ix_tup | with_reducible apply ix_lst | (simp only [List.set_cons_succ, List.set_cons_zero]; rfl) | exact rfl | exact d1')))
  ((first | with_reducible apply ev_set | with_reducible apply ev_par | with_reducible apply ev_par3 | with_reducible apply ev_asg | with_reducible apply ev_ex | with_reducible apply ev_ret | with_reducible exact ev_sNil | (with_reducible apply ev_aug; exact rfl)) <;> (repeat' first | (with_reducible apply ev_var; exact rfl) | with_reducible exact ev_K | with_reducible exact d2' | with_reducible exact m1 | with_reducible exact ev_aNil | with_reducible exact ev_oNo | with_reducible exact ev_tAll | with_reducible exact ev_gsN | with_reducible apply ev_aCons | with_reducible apply ev_d2 | with_reducible apply ev_d1 | with_reducible apply ev_dN | with_reducible apply ev_dCall | with_reducible apply ev_dTup | with_reducible apply ev_dLst | with_reducible apply ev_dLoc | with_reducible apply ev_sl | with_reducible apply ev_oSo | with_reducible apply ev_ch2b | with_reducible apply ev_ch3b | with_reducible apply ev_tB | with_reducible apply ev_tTru | with_reducible apply ev_tNo | with_reducible apply ev_no | with_reducible apply ev_dML | with_reducible apply ev_gTu | with_reducible apply ev_gsC | with_reducible apply ev_gSb | with_reducible apply ev_gNm | (simp only [List.length_cons, List.length_nil]; exact len_le (by decide)) | exact decide_eq_true (by omega) | exact decide_eq_false (by omega) | exact ne_t (by omega) | exact ne_f (by omega) | with_reducible apply lt_ii | with_reducible apply le_ii | with_reducible apply gt_ii | with_reducible apply ge_ii | with_reducible apply eq_ii | with_reducible apply ne_ii | with_reducible apply eq_ss | with_reducible exact add_ii | with_reducible exact sub_ii | with_reducible exact neg_i | with_reducible apply mul_ii | exact okMul_small (by omega) (by omega) | exact mod_ii (by omega) | exact fdiv_ii (by omega) (by omega) | exact mod_ni (by omega) | exact fdiv_ni (by omega) (by omega) | exact pow_ii (by omega) (by omega) (by omega) | with_reducible apply ix_tup | with_reducible apply ix_lst | (simp only [List.set_cons_succ, List.set_cons_zero]; rfl) | exact rfl | exact d2' | exact m1))
theorem sp_ok {rows : List Pr} {k a b : Int} (Z : Hnf k a b) (h : ∀ u, Sp rows u ↔ Mt k a b u) (hB : Bs rows) (μ : Sto) : p_sp [.lst (rows.map pv)] μ = some (p3 k a b, μ) :=
  sp_run Z h hB (ch := []) (it_lst rfl) (by intro p hp; cases hp)
theorem sp_loc {rows : List Pr} {k a b : Int} (Z : Hnf k a b) (h : ∀ u, Sp rows u ↔ Mt k a b u) (hB : Bs rows) {μ : Sto} {l : Nat} (hl : μ[l]? = some (.lst (rows.map pv))) : p_sp [.loc l] μ = some (p3 k a b, μ) :=
  sp_run Z h hB (ch := [(l, rows.map pv)]) (it_loc rfl hl) (by intro p hp; cases List.mem_singleton.mp hp; exact hl)
end K17

/-! K17e: _law_spanned. -/
namespace K17
open PySem PySem.Spec PyProof.Rows L2 Fd Nm
/-- G is the common divisor of all of P -/
structure Gc (P : Int → Prop) (G : Int) : Prop where
  g0 : 0 ≤ G
  eq : ∀ c : Int, c ∣ G ↔ ∀ z, P z → c ∣ z
theorem Gc.nil {P : Int → Prop} (h : ∀ z, ¬ P z) : Gc P 0 := ⟨Int.le_refl _, fun c => ⟨fun _ z hz => absurd hz (h z), fun _ => Int.dvd_zero c⟩⟩
theorem Gc.add {P Q : Int → Prop} {G w : Int} (g : Gc P G) (h : ∀ z, Q z ↔ P z ∨ z = w) : Gc Q (Int.gcd G w : Nat) := by
  refine ⟨by omega, fun c => ?_⟩
  constructor
  · intro hc z hz
    rcases (h z).mp hz with hp | rfl
    · exact (g.eq c).mp (Int.dvd_trans hc (Int.gcd_dvd_left _ _)) z hp
    · exact Int.dvd_trans hc (Int.gcd_dvd_right _ _)
  · intro hc
    exact Int.dvd_coe_gcd ((g.eq c).mpr fun z hz => hc z ((h z).mpr (Or.inl hz))) (hc w ((h w).mpr (Or.inr rfl)))
theorem Gc.congr {P Q : Int → Prop} {G : Int} (g : Gc P G) (h : ∀ z, Q z ↔ P z) : Gc Q G := ⟨g.g0, fun c => by rw [g.eq c]; exact ⟨fun k z hz => k z ((h z).mp hz), fun k z hz => k z ((h z).mpr hz)⟩⟩
def rw' (rows : List Pr) (p : Nat) : Pr := rows.getD p (0, 0)
def P1 (rows : List Pr) (i : Nat) (z : Int) : Prop := ∃ p, p < i ∧ z = (rw' rows p).2
def P2 (rows : List Pr) (i j : Nat) (z : Int) : Prop := ∃ p q, (q < p ∧ p < i ∨ p = i ∧ q < j) ∧ z = mnr (rw' rows p) (rw' rows q)
noncomputable def p_lsp : Fn := runF 8 (d__law_spanned p_gcd p_in)
noncomputable def lsB2 : DenS := (sAsg (dCall 2 p_gcd (aCons (cVar 2) (aCons (d2 f_sub (d2 f_mul (d2 f_ix (d2 f_ix (cVar 0) (cVar 3)) (cK (.int 0))) (d2 f_ix (d2 f_ix (cVar 0) (cVar 4)) (cK (.int 1)))) (d2 f_mul (d2 f_ix (d2 f_ix (cVar 0) (cVar 3)) (cK (.int 1))) (d2 f_ix (d2 f_ix (cVar 0) (cVar 4)) (cK (.int 0))))) aNil))) (gNm 2))
noncomputable def lsB1 : DenS := (sSeq (sAsg (dCall 2 p_gcd (aCons (cVar 1) (aCons (d2 f_ix (d2 f_ix (cVar 0) (cVar 3)) (cK (.int 1))) aNil))) (gNm 1))
  (sFor (itRg1 (aCons (cVar 3) aNil)) (gNm 4) lsB2))
abbrev lsE (rows : List Pr) (k size : Int) (o3 o4 : Option PV) : En := [some (.lst (rows.map pv)), some (.int k), some (.int size), o3, o4, none, none, none]
theorem rw_mem {rows : List Pr} {p : Nat} (h : p < rows.length) : rw' rows p ∈ rows := by
  unfold rw'
  rw [List.getD_eq_getElem?_getD, List.getElem?_eq_getElem h]
  exact List.getElem_mem h
theorem ix_row {rows : List Pr} {p : Nat} (h : p < rows.length) (μ : Sto) : f_ix (.lst (rows.map pv)) (.int p) μ = some (pv (rw' rows p), μ) := by
  refine ix_lst (Fd.atI_nat ?_)
  rw [List.getElem?_map, List.getElem?_eq_getElem h]
  unfold rw'
  rw [List.getD_eq_getElem?_getD, List.getElem?_eq_getElem h]
  rfl
theorem ls2_loop {rows : List Pr} (hB : Bs rows) {i : Nat} (hi : i < rows.length) (k : Int) (μ : Sto) : ∀ (n j : Nat) (size : Int) (o4 : Option PV), j + n ≤ i → Gc (P2 rows i j) size →
    ∃ (size' : Int) (s4 : Option PV), Gc (P2 rows i (j + n)) size' ∧ forL (gNm 4) lsB2 [] (rgP j n) (lsE rows k size (some (.int i)) o4) μ = some (.nx (lsE rows k size' (some (.int i)) s4) μ)
  | 0, j, size, o4, _, g => ⟨size, o4, g, for_nil⟩
  | n + 1, j, size, o4, hj, g => by
    have bi := hB _ (rw_mem hi)
    have bj := hB _ (rw_mem (show j < rows.length by omega))
    have r1 := ix_row hi μ
    have r2 := ix_row (show j < rows.length by omega) μ
    have x0 : ∀ w : Pr, f_ix (pv w) (.int 0) μ = some (.int w.1, μ) := fun _ => rfl
    have x1 : ∀ w : Pr, f_ix (pv w) (.int 1) μ = some (.int w.2, μ) := fun _ => rfl
    have m1 := mulW μ bi.1 bj.2 (by decide) (by decide)
    have m2 := mulW μ bi.2 bj.1 (by decide) (by decide)
    have gk := gcd_ok size (mnr (rw' rows i) (rw' rows j)) μ
    have G2 : Gc (P2 rows i (j + 1)) (Int.gcd size (mnr (rw' rows i) (rw' rows j)) : Nat) := g.add (w := mnr (rw' rows i) (rw' rows j)) fun z => by
      constructor
      · rintro ⟨p, q, hpq, e⟩
        by_cases h : p = i ∧ q = j
        · exact Or.inr (by rw [e, h.1, h.2])
        · exact Or.inl ⟨p, q, by omega, e⟩
      · rintro (⟨p, q, hpq, e⟩ | e)
        · exact ⟨p, q, by omega, e⟩
        · exact ⟨i, j, by omega, e⟩
    obtain ⟨size', s4, g', h'⟩ := ls2_loop hB hi k μ n (j + 1) _ (some (.int (j : Int))) (by omega) G2
    refine ⟨size', s4, by rw [show j + (n + 1) = j + 1 + n by omega]; exact g', ?_⟩
    refine for_step (ρ1 := lsE rows k size (some (.int i)) (some (.int j))) (μ1 := μ) rfl ?_ (by intro p hp; cases hp) h'
    clear g g' h' G2 hB bi bj hj
    unfold lsB2
    ((first | with_reducible apply ev_set | with_reducible apply ev_par | with_reducible apply ev_par3 | with_reducible apply ev_asg | with_reducible apply ev_ex | with_reducible apply ev_ret | with_reducible exact ev_sNil | (with_reducible apply ev_aug; exact rfl)) <;> (repeat' first | (with_reducible apply ev_var; exact rfl) | with_reducible exact ev_K | with_reducible exact r1 | with_reducible exact r2 | with_reducible exact x0 (rw' rows i) | with_reducible exact x1 (rw' rows i) | with_reducible exact x0 (rw' rows j) | with_reducible exact x1 (rw' rows j) | with_reducible exact m1 | with_reducible exact m2 | with_reducible exact gk | with_reducible exact ev_aNil | with_reducible exact ev_oNo | with_reducible exact ev_tAll | with_reducible exact ev_gsN | with_reducible apply ev_aCons | with_reducible apply ev_d2 | with_reducible apply ev_d1 | with_reducible apply ev_dN | with_reducible apply ev_dCall | with_reducible apply ev_dTup | with_reducible apply ev_dLst | with_reducible apply ev_dLoc | with_reducible apply ev_sl | with_reducible apply ev_oSo | with_reducible apply ev_ch2b | with_reducible apply ev_ch3b | with_reducible apply ev_tB | with_reducible apply ev_tTru | with_reducible apply ev_tNo | with_reducible apply ev_no | with_reducible apply ev_dML | with_reducible apply ev_gTu | with_reducible apply ev_gsC | with_reducible apply ev_gSb | with_reducible apply ev_gNm | (simp only [List.length_cons, List.length_nil]; exact len_le (by decide)) | exact decide_eq_true (by omega) | exact decide_eq_false (by omega) | exact ne_t (by omega) | exact ne_f (by omega) | with_reducible apply lt_ii | with_reducible apply le_ii | with_reducible apply gt_ii | with_reducible apply ge_ii | with_reducible apply eq_ii | with_reducible apply ne_ii | with_reducible apply eq_ss | with_reducible exact add_ii | with_reducible exact sub_ii | with_reducible exact neg_i | with_reducible apply mul_ii | exact okMul_small (by omega) (by omega) | exact mod_ii (by omega) | exact fdiv_ii (by omega) (by omega) | exact mod_ni (by omega) | exact fdiv_ni (by omega) (by omega) | exact pow_ii (by omega) (by omega) (by omega) | with_reducible apply ix_tup | with_reducible apply ix_lst | (simp only [List.set_cons_succ, List.set_cons_zero]; rfl) | exact rfl | exact r1 | exact r2 | exact x0 (rw' rows i) | exact x1 (rw' rows i) | exact x0 (rw' rows j) | exact x1 (rw' rows j) | exact m1 | exact m2 | exact gk))
theorem ls1_loop {rows : List Pr} (hB : Bs rows) (hlen : rows.length < 1000) (μ : Sto) : ∀ (n i : Nat) (k size : Int) (o3 o4 : Option PV), i + n = rows.length → Gc (P1 rows i) k → Gc (P2 rows i 0) size →
    ∃ (k' size' : Int) (s3 s4 : Option PV), Gc (P1 rows rows.length) k' ∧ Gc (P2 rows rows.length 0) size' ∧ forL (gNm 3) lsB1 [] (rgP i n) (lsE rows k size o3 o4) μ = some (.nx (lsE rows k' size' s3 s4) μ)
  | 0, i, k, size, o3, o4, hi, g, g2 => ⟨k, size, o3, o4, by rw [← hi]; exact g, by rw [← hi]; exact g2, for_nil⟩
  | n + 1, i, k, size, o3, o4, hi, g, g2 => by
    have hil : i < rows.length := by omega
    have r1 := ix_row hil μ
    have x1 : ∀ w : Pr, f_ix (pv w) (.int 1) μ = some (.int w.2, μ) := fun _ => rfl
    have gk := gcd_ok k (rw' rows i).2 μ
    have G1 : Gc (P1 rows (i + 1)) (Int.gcd k (rw' rows i).2 : Nat) := g.add (w := (rw' rows i).2) fun z => by
      constructor
      · rintro ⟨p, hp, e⟩
        by_cases h : p = i
        · exact Or.inr (by rw [e, h])
        · exact Or.inl ⟨p, by omega, e⟩
      · rintro (⟨p, hp, e⟩ | e)
        · exact ⟨p, by omega, e⟩
        · exact ⟨i, by omega, e⟩
    obtain ⟨size1, s4, g3, h3⟩ := ls2_loop hB hil (Int.gcd k (rw' rows i).2 : Nat) μ i 0 size o4 (by omega) g2
    have G2 : Gc (P2 rows (i + 1) 0) size1 := g3.congr fun z => by
      constructor
      · rintro ⟨p, q, hpq, e⟩
        exact ⟨p, q, by omega, e⟩
      · rintro ⟨p, q, hpq, e⟩
        exact ⟨p, q, by omega, e⟩
    obtain ⟨k', size', s3', s4', a1, a2, h'⟩ := ls1_loop hB hlen μ n (i + 1) _ size1 (some (.int (i : Int))) s4 (by omega) G1 G2
    refine ⟨k', size', s3', s4', a1, a2, ?_⟩
    refine for_step (ρ1 := lsE rows k size (some (.int i)) o4) (μ1 := μ) rfl ?_ (by intro p hp; cases hp) h'
    have hr : itRg1 (aCons (cVar 3) aNil) (lsE rows (Int.gcd k (rw' rows i).2 : Nat) size (some (.int i)) o4) μ = some ((rgP 0 i, []), μ) := it_rg1 (j := i) rfl (rgIn_of (by omega) (by omega)) (by omega)
    clear g g2 g3 G1 G2 a1 a2 h' hB
    unfold lsB1
    apply ev_seq (ρ' := lsE rows (Int.gcd k (rw' rows i).2 : Nat) size (some (.int i)) o4) (μ' := μ)
    case ha => ((first | with_reducible apply ev_set | with_reducible apply ev_par | with_reducible apply ev_par3 | with_reducible apply ev_asg | with_reducible apply ev_ex | with_reducible apply ev_ret | with_reducible exact ev_sNil | (with_reducible apply ev_aug; exact rfl)) <;> (repeat' first | (with_reducible apply ev_var; exact rfl) | with_reducible exact ev_K | with_reducible exact r1 | with_reducible exact x1 (rw' rows i) | with_reducible exact gk | with_reducible exact ev_aNil | with_reducible exact ev_oNo | with_reducible exact ev_tAll | with_reducible exact ev_gsN | with_reducible apply ev_aCons | with_reducible apply ev_d2 | with_reducible apply ev_d1 | with_reducible apply ev_dN | with_reducible apply ev_dCall | with_reducible apply ev_dTup | with_reducible apply ev_dLst | with_reducible apply ev_dLoc | with_reducible apply ev_sl | with_reducible apply ev_oSo | with_reducible apply ev_ch2b | with_reducible apply ev_ch3b | with_reducible apply ev_tB | with_reducible apply ev_tTru | with_reducible apply ev_tNo | with_reducible apply ev_no | with_reducible apply ev_dML | with_reducible apply ev_gTu | with_reducible apply ev_gsC | with_reducible apply ev_gSb | with_reducible apply ev_gNm | (simp only [List.length_cons, List.length_nil]; exact len_le (by decide)) | exact decide_eq_true (by omega) | exact decide_eq_false (by omega) | exact ne_t (by omega) | exact ne_f (by omega) | with_reducible apply lt_ii | with_reducible apply le_ii | with_reducible apply gt_ii | with_reducible apply ge_ii | with_reducible apply eq_ii | with_reducible apply ne_ii | with_reducible apply eq_ss | with_reducible exact add_ii | with_reducible exact sub_ii | with_reducible exact neg_i | with_reducible apply mul_ii | exact okMul_small (by omega) (by omega) | exact mod_ii (by omega) | exact fdiv_ii (by omega) (by omega) | exact mod_ni (by omega) | exact fdiv_ni (by omega) (by omega) | exact pow_ii (by omega) (by omega) (by omega) | with_reducible apply ix_tup | with_reducible apply ix_lst | (simp only [List.set_cons_succ, List.set_cons_zero]; rfl) | exact rfl | exact r1 | exact x1 (rw' rows i) | exact gk))
    exact ev_for hr h3
theorem filter_range (b : Nat) : ∀ (n : Nat), b < n → (List.range n).filter (fun v => decide (v = b)) = [b]
  | 0, h => by omega
  | n + 1, h => by
    rw [List.range_succ, List.filter_append]
    by_cases e : n = b
    · subst e
      rw [List.filter_eq_nil_iff.mpr (fun x hx => by simp only [decide_eq_true_eq]; have := List.mem_range.mp hx; omega)]
      simp
    · rw [filter_range b n (by omega)]
      rw [List.filter_eq_nil_iff.mpr (fun x hx => by rw [List.mem_singleton.mp hx]; simp only [decide_eq_true_eq]; exact e)]
      simp
theorem lsp_ok {rows : List Pr} {k a b : Int} (Z : Hnf k a b) (h : ∀ u, Sp rows u ↔ Mt k a b u) (hB : Bs rows) (hlen : rows.length < 1000) (ha : a < 2 ^ 20) (μ : Sto) : p_lsp [.lst (rows.map pv)] μ = some (p3 k a b, μ) := by
  obtain ⟨k', size', s3, s4, g1, g2, hf⟩ := ls1_loop hB hlen μ rows.length 0 0 0 none none (by omega) (Gc.nil fun z ⟨p, hp, _⟩ => by omega) (Gc.nil fun z ⟨p, q, hp, _⟩ => by omega)
  have mem_ix : ∀ r ∈ rows, ∃ p, p < rows.length ∧ r = rw' rows p := fun r hr => by
    obtain ⟨p, hp, e⟩ := List.getElem_of_mem hr
    refine ⟨p, hp, ?_⟩
    unfold rw'
    rw [List.getD_eq_getElem?_getD, List.getElem?_eq_getElem hp, e]
    rfl
  have hk : k' = k := snd_gcd Z h g1.g0 (fun r hr => by
    obtain ⟨p, hp, e⟩ := mem_ix r hr
    exact (g1.eq k').mp (Int.dvd_refl _) _ ⟨p, hp, by rw [e]⟩) (fun c hc => (g1.eq c).mpr fun z ⟨p, hp, e⟩ => by rw [e]; exact hc _ (rw_mem hp))
  have hs : size' = k * k * a := mnr_gcd Z h g2.g0 (fun r hr s hs => by
    obtain ⟨p, hp, e⟩ := mem_ix r hr
    obtain ⟨q, hq, e2⟩ := mem_ix s hs
    rcases Nat.lt_trichotomy p q with hpq | hpq | hpq
    · have := (g2.eq size').mp (Int.dvd_refl _) _ ⟨q, p, Or.inl ⟨hpq, hq⟩, rfl⟩
      have e3 : mnr r s = -mnr (rw' rows q) (rw' rows p) := by rw [e, e2]; unfold mnr; grind
      rw [e3]; exact Int.dvd_neg.mpr this
    · have e3 : mnr r s = 0 := by rw [e, e2, hpq]; unfold mnr; grind
      rw [e3]; exact Int.dvd_zero _
    · have := (g2.eq size').mp (Int.dvd_refl _) _ ⟨p, q, Or.inl ⟨hpq, hp⟩, rfl⟩
      rw [e, e2]; exact this) (fun c hc => (g2.eq c).mpr fun z ⟨p, q, hpq, e⟩ => by rw [e]; exact hc _ (rw_mem (by omega)) _ (rw_mem (by omega)))
  have k0 := Z.k0; have b0 := Z.b0; have ba := Z.ba
  have a0 : 0 < a := by omega
  have kb : k.natAbs < 2 ^ 50 := by
    by_cases hz : ∃ r ∈ rows, r.2 ≠ 0
    · obtain ⟨r, hr, hne⟩ := hz
      obtain ⟨i, j, e⟩ := (h r).mp (Sp.mem hr)
      have e1 : r.2 = k * j := by rw [e]
      have h2 := (hB r hr).2
      have hj : j ≠ 0 := fun z => hne (by rw [e1, z, Int.mul_zero])
      rw [e1, Int.natAbs_mul] at h2
      have h3 : k.natAbs * 1 ≤ k.natAbs * j.natAbs := Nat.mul_le_mul_left _ (by omega)
      omega
    · have all : ∀ r ∈ rows, (0 : Int) ∣ r.2 := fun r hr => by
        have : r.2 = 0 := Classical.byContradiction fun h => hz ⟨r, hr, h⟩
        rw [this]; exact Int.dvd_zero _
      have h3 := dvd_snd all ((h (k * b, k)).mpr ⟨0, 1, by ext <;> simp⟩)
      have h4 : k = 0 := Int.zero_dvd.mp h3
      omega
  have k60 : k.natAbs < 2 ^ 60 := Nat.lt_trans kb (by decide)
  have kk : (k * k).natAbs < 2 ^ (50 + 50) := wide_lt kb kb
  have kk0 : 0 < k * k := Int.mul_pos k0 k0
  have mm := mulW μ kb kb (by decide) (by decide)
  have fd : f_fdiv (.int size') (.int (k * k)) μ = some (.int a, μ) := by
    rw [fdiv_ii kk0 kk, hs, Int.mul_ediv_cancel_left _ (by omega)]
  rw [hk] at hf
  have len_ok : ∀ n : Nat, n < 2 ^ 20 → n ≤ sizeLine := fun n h => Nat.le_of_lt (Nat.lt_trans h (by decide))
  obtain ⟨n, hn⟩ := Int.eq_ofNat_of_zero_le (show 0 ≤ a by omega)
  obtain ⟨bn, hbn⟩ := Int.eq_ofNat_of_zero_le b0
  have hn20 : n < 2 ^ 20 := by omega
  have hbnn : bn < n := by omega
  have key : ∀ t : Nat, t < n → rows.all (fun r => inM k a t r) = decide (t = bn) := fun t ht => by
    rw [Bool.eq_iff_iff, List.all_eq_true, decide_eq_true_eq]
    constructor
    · intro hall
      have := b_uniq (b' := t) Z h (by omega) (by omega) fun r hr => (inM_iff k0).mp (hall r hr)
      omega
    · rintro rfl r hr
      rw [← hbn]
      exact (inM_iff k0).mpr ((h r).mp (Sp.mem hr))
  have comp : dLc [6] (itRg1 (aCons (cVar 5) aNil)) (gNm 6) (tTru (dN f_all (aCons (dLc [7] (itSeq (cVar 0)) (gNm 7) tAll (dCall 2 p_in (aCons (dTup (aCons (cVar 1) (aCons (cVar 5) (aCons (cVar 6) aNil)))) (aCons (cVar 7) aNil)))) aNil))) (dTup (aCons (cVar 1) (aCons (cVar 5) (aCons (cVar 6) aNil))))
      [some (.lst (rows.map pv)), some (.int k), some (.int size'), s3, s4, some (.int a), none, none] μ = some (.lst [p3 k a b], μ) := by
    refine ev_lc (xs := (List.range n).map (fun i : Nat => PV.int i)) (ch := []) (μ1 := μ) (ρ' := [some (.lst (rows.map pv)), some (.int k), some (.int size'), s3, s4, some (.int a), none, none]) ?_ rfl ?_
    · rw [← rgP_range]
      exact it_rg1 (j := a) rfl (rgIn_of (by omega) (by omega)) (by omega)
    · rw [lc_map (fun i : Nat => PV.int i) (fun t => decide (t = bn)) (fun t => p3 k a t) (List.range n) [] (by intro p hp; cases hp) (by rw [List.length_range]; simpa using len_ok n hn20) ?_]
      · rw [filter_range bn n hbnn, hbn]; rfl
      · intro t ht
        have ht' := List.mem_range.mp ht
        refine ⟨[some (.lst (rows.map pv)), some (.int k), some (.int size'), s3, s4, some (.int a), some (.int t), none], rfl, ?_, fun _ => ?_⟩
        · refine ev_tTru (ev_dN (ev_aCons (ev_lc (xs := rows.map pv) (ch := []) (out := rows.map fun r => .bl (inM k a t r)) (μ1 := μ) (μ2 := μ) (it_lst rfl) rfl ?_) ev_aNil) (all_bl' rows _)) ?_
          · refine lc_map0 pv _ rows (by intro p hp; cases hp) (len_ok _ (by omega)) fun r hr => ⟨_, rfl, ?_⟩
            have q := (in_ok k0 k60 a0 (b := t) (by omega) (u := r) (Nat.lt_trans (hB r hr).2 (by decide)) μ).1
            exact ev_dCall (ev_aCons (ev_dTup (ev_aCons (ev_var rfl) (ev_aCons (ev_var rfl) (ev_aCons (ev_var rfl) ev_aNil))) (len_le (by show 3 ≤ 1000; decide))) (ev_aCons (ev_var rfl) ev_aNil)) q rfl
          · rw [key t ht']; rfl
        · exact ev_dTup (ev_aCons (ev_var rfl) (ev_aCons (ev_var rfl) (ev_aCons (ev_var rfl) ev_aNil))) (len_le (by show 3 ≤ 1000; decide))
  have hr : itRg1 (aCons (dN f_len (aCons (cVar 0) aNil)) aNil) (lsE rows 0 0 none none) μ = some ((rgP 0 rows.length, []), μ) := it_rg1 (j := rows.length) (by
    refine ev_aCons (ev_dN (ev_aCons (ev_var rfl) ev_aNil) ?_) ev_aNil
    show some (PV.int ((rows.map pv).length : Nat), μ) = _
    rw [List.length_map]) (rgIn_of (by omega) (by omega)) (by omega)
  refine runF_rt (ρ := [some (.lst (rows.map pv)), none, none, none, none, none, none, none]) rfl ?_
  unfold d__law_spanned
  apply ev_seq (ρ' := lsE rows 0 0 none none) (μ' := μ)
  case ha => rfl
  apply ev_seq (ev_for hr hf)
  clear hr hf key g1 g2 hk hs Z h hB mem_ix
  (apply ev_seq; case' ha => ((first | with_reducible apply ev_set | with_reducible apply ev_par | with_reducible apply ev_par3 | with_reducible apply ev_asg | with_reducible apply ev_ex | with_reducible apply ev_ret | with_reducible exact ev_sNil | (with_reducible apply ev_aug; exact rfl)) <;> (repeat' first | (with_reducible apply ev_var; exact rfl) | with_reducible exact ev_K | with_reducible exact mm | with_reducible exact fd | with_reducible exact ev_aNil | with_reducible exact ev_oNo | with_reducible exact ev_tAll | with_reducible exact ev_gsN | with_reducible apply ev_aCons | with_reducible apply ev_d2 | with_reducible apply ev_d1 | with_reducible apply ev_dN | with_reducible apply ev_dCall | with_reducible apply ev_dTup | with_reducible apply ev_dLst | with_reducible apply ev_dLoc | with_reducible apply ev_sl | with_reducible apply ev_oSo | with_reducible apply ev_ch2b | with_reducible apply ev_ch3b | with_reducible apply ev_tB | with_reducible apply ev_tTru | with_reducible apply ev_tNo | with_reducible apply ev_no | with_reducible apply ev_dML | with_reducible apply ev_gTu | with_reducible apply ev_gsC | with_reducible apply ev_gSb | with_reducible apply ev_gNm | (simp only [List.length_cons, List.length_nil]; exact len_le (by decide)) | exact decide_eq_true (by omega) | exact decide_eq_false (by omega) | exact ne_t (by omega) | exact ne_f (by omega) | with_reducible apply lt_ii | with_reducible apply le_ii | with_reducible apply gt_ii | with_reducible apply ge_ii | with_reducible apply eq_ii | with_reducible apply ne_ii | with_reducible apply eq_ss | with_reducible exact add_ii | with_reducible exact sub_ii | with_reducible exact neg_i | with_reducible apply mul_ii | exact okMul_small (by omega) (by omega) | exact mod_ii (by omega) | exact fdiv_ii (by omega) (by omega) | exact mod_ni (by omega) | exact fdiv_ni (by omega) (by omega) | exact pow_ii (by omega) (by omega) (by omega) | with_reducible apply ix_tup | with_reducible apply ix_lst | (simp only [List.set_cons_succ, List.set_cons_zero]; rfl) | exact rfl | exact mm | exact fd)))
  exact ev_ret (ev_d2 comp rfl rfl)
end K17

/-! K17f: sums, products, conjugates of ideals. -/
namespace K17
open PySem PySem.Spec PyProof.Rows L2 Fd Nm
/-- a row of three of small numbers -/
structure Sz (n : Nat) (k a b : Int) : Prop extends Hnf k a b where
  lt : k * a < 2 ^ n
theorem Sz.mono {n m : Nat} {k a b : Int} (S : Sz n k a b) (h : n ≤ m) : Sz m k a b := ⟨S.toHnf, by
  have h1 : (2 : Nat) ^ n ≤ 2 ^ m := Nat.pow_le_pow_right (by decide) h
  have h2 := S.lt
  have h3 : ((2 : Nat) ^ n : Int) ≤ ((2 : Nat) ^ m : Int) := by exact_mod_cast h1
  push_cast at h3
  omega⟩
theorem Sz.bd {n : Nat} {k a b : Int} (S : Sz n k a b) : (k * a).natAbs < 2 ^ n ∧ k.natAbs < 2 ^ n ∧ a.natAbs < 2 ^ n ∧ (k * b).natAbs < 2 ^ n ∧ b.natAbs < 2 ^ n := by
  have k0 := S.k0; have b0 := S.b0; have ba := S.ba; have lt := S.lt
  have h1 : k * 1 ≤ k * a := Int.mul_le_mul_of_nonneg_left (by omega) (by omega)
  have h2 : 1 * a ≤ k * a := Int.mul_le_mul_of_nonneg_right (by omega) (by omega)
  have h3 : k * b ≤ k * a := Int.mul_le_mul_of_nonneg_left (by omega) (by omega)
  have h4 : 0 ≤ k * b := Int.mul_nonneg (by omega) (by omega)
  have e : ((2 : Nat) ^ n : Int) = (2 : Int) ^ n := by push_cast; rfl
  rw [← e] at lt
  generalize k * a = p at *
  generalize k * b = q at *
  have lt' : p < ((2 ^ n : Nat) : Int) := by push_cast; exact lt
  generalize 2 ^ n = N at *
  refine ⟨?_, ?_, ?_, ?_, ?_⟩ <;> omega
theorem Sz.rows {n : Nat} {k a b : Int} (S : Sz n k a b) : ∀ r ∈ bs k a b, Bd n r := by
  intro r hr
  have B := S.bd
  have p : (0 : Int).natAbs < 2 ^ n := Nat.two_pow_pos n
  simp only [bs, List.mem_cons, List.not_mem_nil, or_false] at hr
  rcases hr with rfl | rfl
  · exact ⟨B.1, p⟩
  · exact ⟨B.2.2.2.1, B.2.1⟩
theorem Bd.mono {n m : Nat} {u : Pr} (h : Bd n u) (hm : n ≤ m) : Bd m u := ⟨Nat.lt_of_lt_of_le h.1 (Nat.pow_le_pow_right (by decide) hm), Nat.lt_of_lt_of_le h.2 (Nat.pow_le_pow_right (by decide) hm)⟩
theorem Bs.of {n : Nat} {rs : List Pr} (h : ∀ r ∈ rs, Bd n r) (hn : n ≤ 50) : Bs rs := fun r hr => (h r hr).mono hn
theorem mul_bd {d : Int} (hd : d.natAbs < 1000) {u v : Pr} {n m : Nat} (hu : Bd n u) (hv : Bd m v) : Bd (n + m + 11) ((rg d).mul u v) := by
  have h1 : (u.1 * v.1).natAbs < 2 ^ (n + m) := wide_lt hu.1 hv.1
  have h2 : (u.2 * v.2).natAbs < 2 ^ (n + m) := wide_lt hu.2 hv.2
  have h3 : (u.1 * v.2).natAbs < 2 ^ (n + m) := wide_lt hu.1 hv.2
  have h4 : (u.2 * v.1).natAbs < 2 ^ (n + m) := wide_lt hu.2 hv.1
  have h5 : (u.2 * v.2 * nw d).natAbs < 2 ^ (n + m + 10) := wide_lt h2 (nw_lt hd)
  have ht := tw_le d
  have e10 : 2 ^ (n + m + 10) = 2 ^ (n + m) * 1024 := by rw [Nat.pow_add]
  have e11 : 2 ^ (n + m + 11) = 2 ^ (n + m) * 2048 := by rw [Nat.pow_add]
  have h6 : (u.2 * v.2 * tw d).natAbs < 2 ^ (n + m) := by
    rcases ht with h | h
    · rw [h, Int.mul_zero]; exact Nat.two_pow_pos _
    · rw [h, Int.mul_one]; exact h2
  unfold Bd rg Ring.mul
  simp only
  rw [e11]
  rw [e10] at h5
  generalize u.1 * v.1 = p1 at *
  generalize u.2 * v.2 * nw d = p2 at *
  generalize u.1 * v.2 = p3 at *
  generalize u.2 * v.1 = p4 at *
  generalize u.2 * v.2 * tw d = p5 at *
  generalize 2 ^ (n + m) = N at *
  constructor <;> omega
theorem cj_bd {d : Int} {u : Pr} {n : Nat} (hu : Bd n u) : Bd (n + 1) ((rg d).cj u) := by
  have ht := tw_le d
  have e1 : 2 ^ (n + 1) = 2 ^ n * 2 := by rw [Nat.pow_add]
  have h1 := hu.1
  have h2 := hu.2
  have h6 : (tw d * u.2).natAbs < 2 ^ n := by
    rcases ht with h | h
    · rw [h, Int.zero_mul]; exact Nat.two_pow_pos _
    · rw [h, Int.one_mul]; exact h2
  unfold Bd rg Ring.cj
  simp only
  rw [e1]
  generalize tw d * u.2 = p at *
  generalize 2 ^ n = N at *
  constructor <;> omega
/-- a number of the ideal bounds k a -/
theorem ka_le {rs : List Pr} {k a b m : Int} (Z : Hnf k a b) (h : ∀ u, Sp rs u ↔ Mt k a b u) (hm : Sp rs (m, 0)) (hm0 : m ≠ 0) : k * a ≤ m.natAbs := by
  obtain ⟨i, j, e⟩ := (h _).mp hm
  obtain ⟨e1, e2⟩ := pr_ext e
  have k0 := Z.k0; have b0 := Z.b0; have ba := Z.ba
  have hj : j = 0 := by
    rcases Int.mul_eq_zero.mp e2.symm with z | z
    · omega
    · exact z
  subst hj
  have e3 : m = k * a * i := by rw [e1]; grind
  exact Int.le_of_dvd (by omega) (Int.dvd_natAbs.mpr ⟨i, e3⟩)
theorem Sz.of {n : Nat} {rs : List Pr} {k a b m : Int} (Z : Hnf k a b) (h : ∀ u, Sp rs u ↔ Mt k a b u) (hm : Sp rs (m, 0)) (hm0 : m ≠ 0) (hn : m.natAbs < 2 ^ n) : Sz n k a b := ⟨Z, by
  have := ka_le Z h hm hm0
  have e : (m.natAbs : Int) < ((2 ^ n : Nat) : Int) := by exact_mod_cast hn
  push_cast at e
  omega⟩
/-! ### basis -/
noncomputable def p_ba : Fn := runF 4 d_basis_of
noncomputable def p_lba : Fn := runF 4 d__law_basis
theorem ba_ok {n : Nat} {k a b : Int} (S : Sz n k a b) (hn : n ≤ 50) (μ : Sto) : p_ba [p3 k a b] μ = some (.lst ((bs k a b).map pv), μ) ∧ p_lba [p3 k a b] μ = some (.lst ((bs k a b).map pv), μ) := by
  have B := S.bd
  have m1 := mulW μ B.2.1 B.2.2.1 (by omega) (by omega)
  have m2 := mulW μ B.2.1 B.2.2.2.2 (by omega) (by omega)
  clear S B
  constructor
  · refine runF_rt (ρ := [some (p3 k a b), none, none, none]) rfl ?_
    unfold d_basis_of
    apply ev_seq (ρ' := [some (p3 k a b), some (.int k), some (.int a), some (.int b)]) (μ' := μ)
    case ha => rfl
    show _ = some (Out.rt (.lst [.tup [.int (k * a), .int 0], .tup [.int (k * b), .int k]]) μ)
    ((first | with_reducible apply ev_set | with_reducible apply ev_par | with_reducible apply ev_par3 | with_reducible apply ev_asg | with_reducible apply ev_ex | with_reducible apply ev_ret | with_reducible exact ev_sNil | (with_reducible apply ev_aug; exact rfl)) <;> (repeat' first | (with_reducible apply ev_var; exact rfl) | with_reducible exact ev_K | with_reducible exact m1 | with_reducible exact m2 | with_reducible exact ev_aNil | with_reducible exact ev_oNo | with_reducible exact ev_tAll | with_reducible exact ev_gsN | with_reducible apply ev_aCons | with_reducible apply ev_d2 | with_reducible apply ev_d1 | with_reducible apply ev_dN | with_reducible apply ev_dCall | with_reducible apply ev_dTup | with_reducible apply ev_dLst | with_reducible apply ev_dLoc | with_reducible apply ev_sl | with_reducible apply ev_oSo | with_reducible apply ev_ch2b | with_reducible apply ev_ch3b | with_reducible apply ev_tB | with_reducible apply ev_tTru | with_reducible apply ev_tNo | with_reducible apply ev_no | with_reducible apply ev_dML | with_reducible apply ev_gTu | with_reducible apply ev_gsC | with_reducible apply ev_gSb | with_reducible apply ev_gNm | (simp only [List.length_cons, List.length_nil]; exact len_le (by decide)) | exact decide_eq_true (by omega) | exact decide_eq_false (by omega) | exact ne_t (by omega) | exact ne_f (by omega) | with_reducible apply lt_ii | with_reducible apply le_ii | with_reducible apply gt_ii | with_reducible apply ge_ii | with_reducible apply eq_ii | with_reducible apply ne_ii | with_reducible apply eq_ss | with_reducible exact add_ii | with_reducible exact sub_ii | with_reducible exact neg_i | with_reducible apply mul_ii | exact okMul_small (by omega) (by omega) | exact mod_ii (by omega) | exact fdiv_ii (by omega) (by omega) | exact mod_ni (by omega) | exact fdiv_ni (by omega) (by omega) | exact pow_ii (by omega) (by omega) (by omega) | with_reducible apply ix_tup | with_reducible apply ix_lst | (simp only [List.set_cons_succ, List.set_cons_zero]; rfl) | exact rfl | exact m1 | exact m2))
  · refine runF_rt (ρ := [some (p3 k a b), none, none, none]) rfl ?_
    unfold d__law_basis
    apply ev_seq (ρ' := [some (p3 k a b), some (.int k), some (.int a), some (.int b)]) (μ' := μ)
    case ha => rfl
    show _ = some (Out.rt (.lst [.tup [.int (k * a), .int 0], .tup [.int (k * b), .int k]]) μ)
    ((first | with_reducible apply ev_set | with_reducible apply ev_par | with_reducible apply ev_par3 | with_reducible apply ev_asg | with_reducible apply ev_ex | with_reducible apply ev_ret | with_reducible exact ev_sNil | (with_reducible apply ev_aug; exact rfl)) <;> (repeat' first | (with_reducible apply ev_var; exact rfl) | with_reducible exact ev_K | with_reducible exact m1 | with_reducible exact m2 | with_reducible exact ev_aNil | with_reducible exact ev_oNo | with_reducible exact ev_tAll | with_reducible exact ev_gsN | with_reducible apply ev_aCons | with_reducible apply ev_d2 | with_reducible apply ev_d1 | with_reducible apply ev_dN | with_reducible apply ev_dCall | with_reducible apply ev_dTup | with_reducible apply ev_dLst | with_reducible apply ev_dLoc | with_reducible apply ev_sl | with_reducible apply ev_oSo | with_reducible apply ev_ch2b | with_reducible apply ev_ch3b | with_reducible apply ev_tB | with_reducible apply ev_tTru | with_reducible apply ev_tNo | with_reducible apply ev_no | with_reducible apply ev_dML | with_reducible apply ev_gTu | with_reducible apply ev_gsC | with_reducible apply ev_gSb | with_reducible apply ev_gNm | (simp only [List.length_cons, List.length_nil]; exact len_le (by decide)) | exact decide_eq_true (by omega) | exact decide_eq_false (by omega) | exact ne_t (by omega) | exact ne_f (by omega) | with_reducible apply lt_ii | with_reducible apply le_ii | with_reducible apply gt_ii | with_reducible apply ge_ii | with_reducible apply eq_ii | with_reducible apply ne_ii | with_reducible apply eq_ss | with_reducible exact add_ii | with_reducible exact sub_ii | with_reducible exact neg_i | with_reducible apply mul_ii | exact okMul_small (by omega) (by omega) | exact mod_ii (by omega) | exact fdiv_ii (by omega) (by omega) | exact mod_ni (by omega) | exact fdiv_ni (by omega) (by omega) | exact pow_ii (by omega) (by omega) (by omega) | with_reducible apply ix_tup | with_reducible apply ix_lst | (simp only [List.set_cons_succ, List.set_cons_zero]; rfl) | exact rfl | exact m1 | exact m2))
theorem add_ll {xs ys : List PV} {μ : Sto} (h : xs.length + ys.length ≤ 1000) : f_add (.lst xs) (.lst ys) μ = some (.lst (xs ++ ys), μ) := by
  show (if _ then _ else _) = _
  rw [if_pos (sz h)]
/-! ### sums -/
noncomputable def p_su : Fn := runF 3 (d_sum_ideal p_sp p_ba)
theorem su_ok {n m : Nat} {k a b k' a' b' K A B : Int} (S : Sz n k a b) (S' : Sz m k' a' b') (hn : n ≤ 50) (hm : m ≤ 50) (Z : Hnf K A B) (h : ∀ u, Sp (bs k a b ++ bs k' a' b') u ↔ Mt K A B u) (d : PV) (μ : Sto) : p_su [d, p3 k a b, p3 k' a' b'] μ = some (p3 K A B, μ) := by
  have hB : Bs (bs k a b ++ bs k' a' b') := fun r hr => by
    rcases List.mem_append.mp hr with q | q
    · exact (S.rows r q).mono hn
    · exact (S'.rows r q).mono hm
  have e1 := (ba_ok S hn μ).1
  have e2 := (ba_ok S' hm μ).1
  have e3 := sp_ok Z h hB μ
  rw [List.map_append] at e3
  have e4 : f_add (.lst ((bs k a b).map pv)) (.lst ((bs k' a' b').map pv)) μ = some (.lst ((bs k a b).map pv ++ (bs k' a' b').map pv), μ) := add_ll (by simp [bs])
  refine runF_rt (ρ := [some d, some (p3 k a b), some (p3 k' a' b')]) rfl ?_
  unfold d_sum_ideal
  exact ev_ret (ev_dCall (ev_aCons (ev_d2 (ev_dCall (ev_aCons (ev_var rfl) ev_aNil) e1 rfl) (ev_dCall (ev_aCons (ev_var rfl) ev_aNil) e2 rfl) e4) ev_aNil) e3 rfl)
/-! ### products -/
noncomputable def p_pr : Fn := runF 5 (d_product_ideal p_sp p_ba p_tm)
noncomputable def p_lpr : Fn := runF 6 (d__law_product p_lba p_ltm p_lsp)
theorem pd_bd {d : Int} (hd : d.natAbs < 1000) {rs ss : List Pr} {n m : Nat} (h : ∀ r ∈ rs, Bd n r) (h2 : ∀ s ∈ ss, Bd m s) : ∀ z ∈ (rg d).pd rs ss, Bd (n + m + 11) z := fun z hz => by
  obtain ⟨u, hu, v, hv, rfl⟩ := Ring.mem_pd.mp hz
  exact mul_bd hd (h u hu) (h2 v hv)
theorem pr_ok {d : Int} (hd : d.natAbs < 1000) {n m : Nat} {k a b k' a' b' K A B : Int} (S : Sz n k a b) (S' : Sz m k' a' b') (hn : n + m ≤ 39) (Z : Hnf K A B) (h : ∀ u, Sp ((rg d).pd (bs k a b) (bs k' a' b')) u ↔ Mt K A B u) (μ : Sto) : p_pr [.int d, p3 k a b, p3 k' a' b'] μ = some (p3 K A B, μ) := by
  have hB : Bs ((rg d).pd (bs k a b) (bs k' a' b')) := Bs.of (pd_bd hd S.rows S'.rows) (by omega)
  have e1 := (ba_ok S (by omega) μ).1
  have e2 := (ba_ok S' (by omega) μ).1
  have e3 := sp_ok Z h hB μ
  have tm : ∀ u ∈ bs k a b, ∀ v ∈ bs k' a' b', p_tm [.int d, pv u, pv v] μ = some (pv ((rg d).mul u v), μ) := fun u hu v hv => tm_ok hd (Nat.le_refl 60) ((S.rows u hu).mono (by omega)) ((S'.rows v hv).mono (by omega)) μ
  have comp : dLc2 [3, 4] [4] (itSeq (dCall 1 p_ba (aCons (cVar 1) aNil))) (gNm 3) tAll (itSeq (dCall 1 p_ba (aCons (cVar 2) aNil))) (gNm 4) tAll (dCall 3 p_tm (aCons (cVar 0) (aCons (cVar 3) (aCons (cVar 4) aNil)))) [some (.int d), some (p3 k a b), some (p3 k' a' b'), none, none] μ = some (.lst (((rg d).pd (bs k a b) (bs k' a' b')).map pv), μ) := by
    refine ev_lc2 (xs := (bs k a b).map pv) (ch := []) (μ1 := μ) (ρ' := [some (.int d), some (p3 k a b), some (p3 k' a' b'), none, none]) (it_lst (ev_dCall (ev_aCons (ev_var rfl) ev_aNil) e1 rfl)) rfl ?_
    have q := lc2_map (ρ := [some (.int d), some (p3 k a b), some (p3 k' a' b'), none, none]) (μ := μ) (g := gNm 3) (g1 := gNm 4) (d1 := itSeq (dCall 1 p_ba (aCons (cVar 2) aNil))) (e := dCall 3 p_tm (aCons (cVar 0) (aCons (cVar 3) (aCons (cVar 4) aNil)))) (vs1 := [4]) (ch := []) pv pv (fun u v => pv ((rg d).mul u v)) (bs k' a' b') (by intro p hp; cases hp) (bs k a b) [] (by show 0 + 2 * 2 ≤ sizeLine; exact len_le (by decide)) fun u hu => ⟨_, rfl, it_lst (ev_dCall (ev_aCons (ev_var rfl) ev_aNil) e2 rfl), fun v hv => ⟨_, rfl, ev_dCall (ev_aCons (ev_var rfl) (ev_aCons (ev_var rfl) (ev_aCons (ev_var rfl) ev_aNil))) (tm u hu v hv) rfl⟩⟩
    rw [q]
    rfl
  refine runF_rt (ρ := [some (.int d), some (p3 k a b), some (p3 k' a' b'), none, none]) rfl ?_
  unfold d_product_ideal
  exact ev_ret (ev_dCall (ev_aCons comp ev_aNil) e3 rfl)
theorem lpr_ok {d : Int} (hd : d.natAbs < 1000) {n m : Nat} {k a b k' a' b' K A B : Int} (S : Sz n k a b) (S' : Sz m k' a' b') (hn : n + m ≤ 39) (Z : Hnf K A B) (h : ∀ u, Sp ((rg d).pd (bs k a b) (bs k' a' b')) u ↔ Mt K A B u) (hA : A < 2 ^ 20) (μ : Sto) : p_lpr [.int d, p3 k a b, p3 k' a' b'] μ = some (p3 K A B, μ) := by
  have hB : Bs ((rg d).pd (bs k a b) (bs k' a' b')) := Bs.of (pd_bd hd S.rows S'.rows) (by omega)
  have e1 := (ba_ok S (by omega) μ).2
  have e2 := (ba_ok S' (by omega) μ).2
  have e3 := lsp_ok Z h hB (by show 4 < 1000; decide) hA μ
  have tm : ∀ u ∈ bs k a b, ∀ v ∈ bs k' a' b', p_ltm [.int d, pv u, pv v] μ = some (pv ((rg d).mul u v), μ) := fun u hu v hv => ltm_ok hd (Nat.le_refl 60) ((S.rows u hu).mono (by omega)) ((S'.rows v hv).mono (by omega)) μ
  have comp : ∀ (u : Pr), u ∈ bs k a b → ∀ (r : PV) (o5 : Option PV), dLc [5] (itSeq (dCall 1 p_lba (aCons (cVar 2) aNil))) (gNm 5) tAll (dCall 3 p_ltm (aCons (cVar 0) (aCons (cVar 4) (aCons (cVar 5) aNil)))) [some (.int d), some (p3 k a b), some (p3 k' a' b'), some r, some (pv u), o5] μ = some (.lst ((bs k' a' b').map fun v => pv ((rg d).mul u v)), μ) := fun u hu r o5 => by
    refine ev_lc (xs := (bs k' a' b').map pv) (ch := []) (μ1 := μ) (ρ' := [some (.int d), some (p3 k a b), some (p3 k' a' b'), some r, some (pv u), none]) (it_lst (ev_dCall (ev_aCons (ev_var rfl) ev_aNil) e2 rfl)) rfl ?_
    exact lc_map0 pv _ (bs k' a' b') (by intro p hp; cases hp) (len_le (by show 2 ≤ 1000; decide)) fun v hv => ⟨_, rfl, ev_dCall (ev_aCons (ev_var rfl) (ev_aCons (ev_var rfl) (ev_aCons (ev_var rfl) ev_aNil))) (tm u hu v hv) rfl⟩
  refine runF_rt (ρ := [some (.int d), some (p3 k a b), some (p3 k' a' b'), none, none, none]) rfl ?_
  unfold d__law_product
  apply ev_seq (ρ' := [some (.int d), some (p3 k a b), some (p3 k' a' b'), some (.lst []), none, none]) (μ' := μ)
  case ha => rfl
  obtain ⟨ρ', hf⟩ : ∃ o4 : Option PV, sFor (itSeq (dCall 1 p_lba (aCons (cVar 1) aNil))) (gNm 4) (sAsg (d2 f_add (cVar 3) (dLc [5] (itSeq (dCall 1 p_lba (aCons (cVar 2) aNil))) (gNm 5) tAll (dCall 3 p_ltm (aCons (cVar 0) (aCons (cVar 4) (aCons (cVar 5) aNil)))))) (gNm 3)) [some (.int d), some (p3 k a b), some (p3 k' a' b'), some (.lst []), none, none] μ
      = some (.nx [some (.int d), some (p3 k a b), some (p3 k' a' b'), some (.lst (((rg d).pd (bs k a b) (bs k' a' b')).map pv)), o4, none] μ) := by
    refine ⟨some (pv (k * b, k)), ?_⟩
    refine ev_for (xs := [pv (k * a, 0), pv (k * b, k)]) (ch := []) (μ1 := μ) (it_lst (ev_dCall (ev_aCons (ev_var rfl) ev_aNil) e1 rfl)) ?_
    refine for_step (ρ' := [some (.int d), some (p3 k a b), some (p3 k' a' b'), some (.lst ([] ++ (bs k' a' b').map fun v => pv ((rg d).mul (k * a, 0) v))), some (pv (k * a, 0)), none]) (μ' := μ) rfl ?_ chk_nil ?_
    · exact ev_set (ev_d2 (ev_var rfl) (comp _ (by simp [bs]) _ _) (add_ll (by simp [bs]))) rfl
    refine for_step (ρ' := [some (.int d), some (p3 k a b), some (p3 k' a' b'), some (.lst (([] ++ (bs k' a' b').map fun v => pv ((rg d).mul (k * a, 0) v)) ++ (bs k' a' b').map fun v => pv ((rg d).mul (k * b, k) v))), some (pv (k * b, k)), none]) (μ' := μ) rfl ?_ chk_nil ?_
    · exact ev_set (ev_d2 (ev_var rfl) (comp _ (by simp [bs]) _ _) (add_ll (by simp [bs]))) rfl
    exact for_nil
  apply ev_seq hf
  exact ev_ret (ev_dCall (ev_aCons (ev_var rfl) ev_aNil) e3 rfl)
/-! ### conjugates -/
noncomputable def p_ci : Fn := runF 3 (d_conjugate_ideal p_sp p_ba p_cj)
theorem cj_rows {d : Int} {n : Nat} {k a b : Int} (S : Sz n k a b) : ∀ r ∈ (bs k a b).map (rg d).cj, Bd (n + 1) r := fun r hr => by
  obtain ⟨u, hu, rfl⟩ := List.mem_map.mp hr
  exact cj_bd (S.rows u hu)
theorem ci_ok {d : Int} {n : Nat} {k a b K A B : Int} (S : Sz n k a b) (hn : n ≤ 48) (Z : Hnf K A B) (h : ∀ u, Sp ((bs k a b).map (rg d).cj) u ↔ Mt K A B u) (μ : Sto) : p_ci [.int d, p3 k a b] μ = some (p3 K A B, μ) := by
  have hB : Bs ((bs k a b).map (rg d).cj) := Bs.of (cj_rows S) (by omega)
  have e1 := (ba_ok S (by omega) μ).1
  have e3 := sp_ok Z h hB μ
  have comp : dLc [2] (itSeq (dCall 1 p_ba (aCons (cVar 1) aNil))) (gNm 2) tAll (dCall 2 p_cj (aCons (cVar 0) (aCons (cVar 2) aNil))) [some (.int d), some (p3 k a b), none] μ = some (.lst (((bs k a b).map (rg d).cj).map pv), μ) := by
    rw [List.map_map]
    refine ev_lc (xs := (bs k a b).map pv) (ch := []) (μ1 := μ) (ρ' := [some (.int d), some (p3 k a b), none]) (it_lst (ev_dCall (ev_aCons (ev_var rfl) ev_aNil) e1 rfl)) rfl ?_
    exact lc_map0 pv _ (bs k a b) (by intro p hp; cases hp) (len_le (by show 2 ≤ 1000; decide)) fun u hu => ⟨_, rfl, ev_dCall (ev_aCons (ev_var rfl) (ev_aCons (ev_var rfl) ev_aNil)) (cj_ok (d := d) (by omega : n ≤ 190) (S.rows u hu) μ).1 rfl⟩
  refine runF_rt (ρ := [some (.int d), some (p3 k a b), none]) rfl ?_
  unfold d_conjugate_ideal
  exact ev_ret (ev_dCall (ev_aCons comp ev_aNil) e3 rfl)
/-! ### norms, quotients -/
noncomputable def p_no : Fn := runF 1 d_norm_of
noncomputable def p_qu : Fn := runF 5 (d_quotient_ideal p_pr p_ci p_no)
theorem no_ok {n : Nat} {k a b : Int} (S : Sz n k a b) (hn : n ≤ 50) (μ : Sto) : p_no [p3 k a b] μ = some (.int (k * k * a), μ) := by
  have B := S.bd
  have m1 := mulW μ B.2.1 B.2.1 (by omega) (by omega)
  have h1 : (k * k).natAbs < 2 ^ (n + n) := wide_lt B.2.1 B.2.1
  have m2 := mulW μ h1 B.2.2.1 (by omega) (by omega)
  have x0 : f_ix (p3 k a b) (.int 0) μ = some (.int k, μ) := rfl
  have x1 : f_ix (p3 k a b) (.int 1) μ = some (.int a, μ) := rfl
  clear S B
  refine runF_rt (ρ := [some (p3 k a b)]) rfl ?_
  unfold d_norm_of
  ((first | with_reducible apply ev_set | with_reducible apply ev_par | with_reducible apply ev_par3 | with_reducible apply ev_asg | with_reducible apply ev_ex | with_reducible apply ev_ret | with_reducible exact ev_sNil | (with_reducible apply ev_aug; exact rfl)) <;> (repeat' first | (with_reducible apply ev_var; exact rfl) | with_reducible exact ev_K | with_reducible exact x0 | with_reducible exact x1 | with_reducible exact m1 | with_reducible exact m2 | with_reducible exact ev_aNil | with_reducible exact ev_oNo | with_reducible exact ev_tAll | with_reducible exact ev_gsN | with_reducible apply ev_aCons | with_reducible apply ev_d2 | with_reducible apply ev_d1 | with_reducible apply ev_dN | with_reducible apply ev_dCall | with_reducible apply ev_dTup | with_reducible apply ev_dLst | with_reducible apply ev_dLoc | with_reducible apply ev_sl | with_reducible apply ev_oSo | with_reducible apply ev_ch2b | with_reducible apply ev_ch3b | with_reducible apply ev_tB | with_reducible apply ev_tTru | with_reducible apply ev_tNo | with_reducible apply ev_no | with_reducible apply ev_dML | with_reducible apply ev_gTu | with_reducible apply ev_gsC | with_reducible apply ev_gSb | with_reducible apply ev_gNm | (simp only [List.length_cons, List.length_nil]; exact len_le (by decide)) | exact decide_eq_true (by omega) | exact decide_eq_false (by omega) | exact ne_t (by omega) | exact ne_f (by omega) | with_reducible apply lt_ii | with_reducible apply le_ii | with_reducible apply gt_ii | with_reducible apply ge_ii | with_reducible apply eq_ii | with_reducible apply ne_ii | with_reducible apply eq_ss | with_reducible exact add_ii | with_reducible exact sub_ii | with_reducible exact neg_i | with_reducible apply mul_ii | exact okMul_small (by omega) (by omega) | exact mod_ii (by omega) | exact fdiv_ii (by omega) (by omega) | exact mod_ni (by omega) | exact fdiv_ni (by omega) (by omega) | exact pow_ii (by omega) (by omega) (by omega) | with_reducible apply ix_tup | with_reducible apply ix_lst | (simp only [List.set_cons_succ, List.set_cons_zero]; rfl) | exact rfl | exact x0 | exact x1 | exact m1 | exact m2))
/-- the quotient: from the row of three of one times the conjugate of the other -/
theorem qu_ok {d : Int} (hd : d.natAbs < 1000) {n m m' : Nat} {k a b k' a' b' c1 c2 c3 K A B : Int} (S : Sz n k a b) (S' : Sz m k' a' b') (hm : m ≤ 48) (hn : n + m' ≤ 39) (SC : Sz m' c1 c2 c3) (hC : ∀ u, Sp ((bs k' a' b').map (rg d).cj) u ↔ Mt c1 c2 c3 u)
    (Z : Hnf K A B) (h : ∀ u, Sp ((rg d).pd (bs k a b) ((bs k' a' b').map (rg d).cj)) u ↔ Mt K A B u) (hM : (k' * k' * a').natAbs < 2 ^ 100) (μ : Sto) :
    p_qu [.int d, p3 k a b, p3 k' a' b'] μ = some (if k' * k' * a' ∣ K then p3 (K / (k' * k' * a')) A B else .non, μ) := by
  have e1 := ci_ok S' hm SC.toHnf hC μ
  have h' : ∀ u, Sp ((rg d).pd (bs k a b) (bs c1 c2 c3)) u ↔ Mt K A B u := fun u => by
    rw [← h u]
    exact ⟨Ring.pd_congr (fun u hu => hu) (fun u hu => (hC u).mpr (Mt.bs.mpr hu)), Ring.pd_congr (fun u hu => hu) (fun u hu => Mt.bs.mp ((hC u).mp hu))⟩
  have e2 := pr_ok hd S SC hn Z h' μ
  have e3 := no_ok S' (by omega) μ
  have k0 := S'.k0; have b0 := S'.b0; have ba := S'.ba
  have M0 : 0 < k' * k' * a' := Int.mul_pos (Int.mul_pos k0 k0) (by omega)
  have x0 : f_ix (p3 K A B) (.int 0) μ = some (.int K, μ) := rfl
  generalize k' * k' * a' = M at *
  have m1 : f_mod (.int K) (.int M) μ = some (.int (K % M), μ) := mod_ii M0
  have m2 : f_fdiv (.int K) (.int M) μ = some (.int (K / M), μ) := fdiv_ii M0 hM
  refine runF_rt (ρ := [some (.int d), some (p3 k a b), some (p3 k' a' b'), none, none]) rfl ?_
  unfold d_quotient_ideal
  apply ev_seq (ρ' := [some (.int d), some (p3 k a b), some (p3 k' a' b'), some (p3 K A B), none]) (μ' := μ)
  case ha => exact ev_set (ev_dCall (ev_aCons (ev_var rfl) (ev_aCons (ev_var rfl) (ev_aCons (ev_dCall (ev_aCons (ev_var rfl) (ev_aCons (ev_var rfl) ev_aNil)) e1 rfl) ev_aNil))) e2 rfl) rfl
  apply ev_seq (ρ' := [some (.int d), some (p3 k a b), some (p3 k' a' b'), some (p3 K A B), some (.int M)]) (μ' := μ)
  case ha => exact ev_set (ev_dCall (ev_aCons (ev_var rfl) ev_aNil) e3 rfl) rfl
  clear S S' SC hC Z h h' e1 e2 e3 k0 b0 ba
  by_cases hz : M ∣ K
  · rw [if_pos hz]
    have t1 : f_eq (.int (K % M)) (.int 0) μ = some (.bl true, μ) := eq_ii (decide_eq_true (Int.emod_eq_zero_of_dvd hz))
    refine ev_ret (ev_if_t (μ1 := μ) ?_ ?_)
    · exact ev_tB (ev_d2 (ev_d2 (ev_d2 (ev_var rfl) ev_K x0) (ev_var rfl) m1) ev_K t1)
    · refine ev_d2 (ev_dTup (ev_aCons (ev_d2 (ev_d2 (ev_var rfl) ev_K x0) (ev_var rfl) m2) ev_aNil) (len_le (by show 1 ≤ 1000; decide))) (ev_sl (ev_var rfl) (ev_oSo ev_K) ev_oNo sl_t) ?_
      exact add_tt (by show 1 + 2 ≤ 1000; decide)
  · rw [if_neg hz]
    have t1 : f_eq (.int (K % M)) (.int 0) μ = some (.bl false, μ) := eq_ii (decide_eq_false fun e => hz (Int.dvd_of_emod_eq_zero e))
    refine ev_ret (ev_if_f (μ1 := μ) ?_ ev_K)
    exact ev_tB (ev_d2 (ev_d2 (ev_d2 (ev_var rfl) ev_K x0) (ev_var rfl) m1) ev_K t1)
end K17

/-! K17g: ideals of numbers; what is an ideal. -/
namespace K17
open PySem PySem.Spec PyProof.Rows L2 Fd Nm
theorem w_bd {d : Int} (hd : d.natAbs < 1000) {u : Pr} {n : Nat} (hu : Bd n u) : Bd (n + 12) ((rg d).w u) := by
  have := mul_bd hd hu (v := (0, 1)) (m := 1) ⟨by decide, by decide⟩
  exact this
theorem gen_bd {d : Int} (hd : d.natAbs < 1000) {us : List Pr} {n : Nat} (h : ∀ u ∈ us, Bd n u) : ∀ r ∈ (rg d).gen us, Bd (n + 12) r := fun r hr => by
  unfold Ring.gen at hr
  obtain ⟨u, hu, h2⟩ := List.mem_flatMap.mp hr
  simp only [List.mem_cons, List.not_mem_nil, or_false] at h2
  rcases h2 with rfl | rfl
  · exact (h _ hu).mono (by omega)
  · exact w_bd hd (h _ hu)
theorem gen_len {R : Ring} : ∀ us : List Pr, (R.gen us).length = 2 * us.length
  | [] => rfl
  | u :: us => by
    have := gen_len (R := R) us
    unfold Ring.gen at this ⊢
    rw [List.flatMap_cons, List.length_append, this]
    simp only [List.length_cons, List.length_nil]
    omega
/-! ### ideal_of -/
noncomputable def p_io : Fn := runZ 4 (d_ideal_of p_tm p_sp)
noncomputable def p_lio : Fn := runF 4 (d__law_ideal_of p_ltm p_lsp)
noncomputable def ioB : DenS := (sEx (dML f_ext (cVar 2) (aCons (dLst (aCons (cVar 3) (aCons (dCall 3 p_tm (aCons (cVar 0) (aCons (cVar 3) (aCons (dTup (aCons (cK (.int 0)) (aCons (cK (.int 1)) aNil))) aNil)))) aNil))) aNil)))
theorem ext_loc {μ : Sto} {xs ys : List PV} (h : xs.length + ys.length ≤ 1000) : f_ext (.loc μ.length) [.lst ys] (μ ++ [.lst xs]) = some (.non, μ ++ [.lst (xs ++ ys)]) := by
  have e : (μ ++ [Ob.lst xs])[μ.length]? = some (.lst xs) := by rw [List.getElem?_append_right (Nat.le_refl _), Nat.sub_self]; rfl
  unfold f_ext
  simp only [e, rdL]
  rw [if_pos (sz h)]
  congr 2
  rw [List.set_append_right _ _ (Nat.le_refl _), Nat.sub_self]
  rfl
theorem io_loop {d : Int} (hd : d.natAbs < 1000) (N : PV) (μ : Sto) : ∀ (us done : List Pr) (o : Option PV), (∀ u ∈ us, Bd 30 u) → done.length + 2 * us.length ≤ 1000 →
    ∃ o', forL (gNm 3) ioB [] (us.map pv) [some (.int d), some N, some (.loc μ.length), o] (μ ++ [.lst (done.map pv)]) = some (.nx [some (.int d), some N, some (.loc μ.length), o'] (μ ++ [.lst ((done ++ (rg d).gen us).map pv)]))
  | [], done, o, _, _ => ⟨o, by show forL _ _ _ [] _ _ = _; rw [for_nil]; unfold Ring.gen; rw [List.flatMap_nil, List.append_nil]⟩
  | u :: us, done, o, hu, hl => by
    have hl : done.length + 2 * (us.length + 1) ≤ 1000 := hl
    have e : done ++ (rg d).gen (u :: us) = (done ++ [u, (rg d).w u]) ++ (rg d).gen us := by
      unfold Ring.gen; rw [List.flatMap_cons, List.append_assoc]
    obtain ⟨o', h'⟩ := io_loop hd N μ us (done ++ [u, (rg d).w u]) (some (pv u)) (fun v hv => hu v (List.mem_cons_of_mem _ hv)) (by rw [List.length_append]; simp only [List.length_cons, List.length_nil]; omega)
    refine ⟨o', ?_⟩
    rw [e]
    refine for_step (ρ1 := [some (.int d), some N, some (.loc μ.length), some (pv u)]) (μ1 := μ ++ [.lst (done.map pv)]) rfl ?_ chk_nil h'
    have t := tm_ok hd (Nat.le_refl 60) (u := u) (v := (0, 1)) ((hu u List.mem_cons_self).mono (by omega)) ⟨by decide, by decide⟩ (μ ++ [.lst (done.map pv)])
    have x := ext_loc (μ := μ) (xs := done.map pv) (ys := [pv u, pv ((rg d).w u)]) (by rw [List.length_map]; show _ + 2 ≤ _; omega)
    rw [List.map_append]
    have hL : isLs (μ ++ [.lst (done.map pv)]) (.loc μ.length) = true := by
      unfold isLs
      have e : (μ ++ [Ob.lst (done.map pv)])[μ.length]? = some (.lst (done.map pv)) := by rw [List.getElem?_append_right (Nat.le_refl _), Nat.sub_self]; rfl
      simp only [rdL, e]
      try rfl
    unfold ioB
    exact ev_ex (ev_dML (ev_var rfl) hL (ev_aCons (ev_dLst (ev_aCons (ev_var rfl) (ev_aCons (ev_dCall (ev_aCons (ev_var rfl) (ev_aCons (ev_var rfl) (ev_aCons (ev_dTup (ev_aCons ev_K (ev_aCons ev_K ev_aNil)) (len_le (by show 2 ≤ 1000; decide))) ev_aNil))) t rfl) ev_aNil)) (len_le (by show 2 ≤ 1000; decide))) ev_aNil) x)
theorem io_ok {d : Int} (hd : d.natAbs < 1000) {us : List Pr} (hu : ∀ u ∈ us, Bd 30 u) (hl : us.length ≤ 100) {k a b : Int} (Z : Hnf k a b) (h : ∀ u, Sp ((rg d).gen us) u ↔ Mt k a b u) (μ : Sto) : p_io [.int d, .tup (us.map pv)] μ = some (p3 k a b, μ) := by
  obtain ⟨o', hf⟩ := io_loop hd (.tup (us.map pv)) μ us [] none hu (by show 0 + _ ≤ _; omega)
  rw [List.nil_append] at hf
  have hB : Bs ((rg d).gen us) := Bs.of (gen_bd hd hu) (by omega)
  have e3 := sp_loc Z h hB (μ := μ ++ [.lst (((rg d).gen us).map pv)]) (l := μ.length) (by rw [List.getElem?_append_right (Nat.le_refl _), Nat.sub_self]; rfl)
  refine runZ_v (ρ := [some (.int d), some (.tup (us.map pv)), none, none]) (g := [.lst (((rg d).gen us).map pv)]) rfl ?_ (fun l => by intro h; cases h) rfl
  unfold d_ideal_of
  apply ev_seq (ρ' := [some (.int d), some (.tup (us.map pv)), some (.loc μ.length), none]) (μ' := μ ++ [.lst []])
  case ha => rfl
  apply ev_seq (ev_for (it_tup (ev_var rfl)) hf)
  exact ev_ret (ev_dCall (ev_aCons (ev_var rfl) ev_aNil) e3 rfl)
noncomputable def lioB : DenS := (sAsg (d2 f_add (cVar 2) (dLst (aCons (cVar 3) (aCons (dCall 3 p_ltm (aCons (cVar 0) (aCons (cVar 3) (aCons (dTup (aCons (cK (.int 0)) (aCons (cK (.int 1)) aNil))) aNil)))) aNil)))) (gNm 2))
theorem lio_loop {d : Int} (hd : d.natAbs < 1000) (N : PV) (μ : Sto) : ∀ (us done : List Pr) (o : Option PV), (∀ u ∈ us, Bd 30 u) → done.length + 2 * us.length ≤ 1000 →
    ∃ o', forL (gNm 3) lioB [] (us.map pv) [some (.int d), some N, some (.lst (done.map pv)), o] μ = some (.nx [some (.int d), some N, some (.lst ((done ++ (rg d).gen us).map pv)), o'] μ)
  | [], done, o, _, _ => ⟨o, by show forL _ _ _ [] _ _ = _; rw [for_nil]; unfold Ring.gen; rw [List.flatMap_nil, List.append_nil]⟩
  | u :: us, done, o, hu, hl => by
    have hl : done.length + 2 * (us.length + 1) ≤ 1000 := hl
    have e : done ++ (rg d).gen (u :: us) = (done ++ [u, (rg d).w u]) ++ (rg d).gen us := by
      unfold Ring.gen; rw [List.flatMap_cons, List.append_assoc]
    obtain ⟨o', h'⟩ := lio_loop hd N μ us (done ++ [u, (rg d).w u]) (some (pv u)) (fun v hv => hu v (List.mem_cons_of_mem _ hv)) (by rw [List.length_append]; simp only [List.length_cons, List.length_nil]; omega)
    refine ⟨o', ?_⟩
    rw [e]
    refine for_step (ρ1 := [some (.int d), some N, some (.lst (done.map pv)), some (pv u)]) (μ1 := μ) rfl ?_ chk_nil h'
    have t := ltm_ok hd (Nat.le_refl 60) (u := u) (v := (0, 1)) ((hu u List.mem_cons_self).mono (by omega)) ⟨by decide, by decide⟩ μ
    have x := add_ll (μ := μ) (xs := done.map pv) (ys := [pv u, pv ((rg d).w u)]) (by rw [List.length_map]; show _ + 2 ≤ _; omega)
    rw [List.map_append]
    unfold lioB
    exact ev_set (ev_d2 (ev_var rfl) (ev_dLst (ev_aCons (ev_var rfl) (ev_aCons (ev_dCall (ev_aCons (ev_var rfl) (ev_aCons (ev_var rfl) (ev_aCons (ev_dTup (ev_aCons ev_K (ev_aCons ev_K ev_aNil)) (len_le (by show 2 ≤ 1000; decide))) ev_aNil))) t rfl) ev_aNil)) (len_le (by show 2 ≤ 1000; decide))) x) rfl
theorem lio_ok {d : Int} (hd : d.natAbs < 1000) {us : List Pr} (hu : ∀ u ∈ us, Bd 30 u) (hl : us.length ≤ 100) {k a b : Int} (Z : Hnf k a b) (h : ∀ u, Sp ((rg d).gen us) u ↔ Mt k a b u) (ha : a < 2 ^ 20) (μ : Sto) : p_lio [.int d, .lst (us.map pv)] μ = some (p3 k a b, μ) := by
  obtain ⟨o', hf⟩ := lio_loop hd (.lst (us.map pv)) μ us [] none hu (by show 0 + _ ≤ _; omega)
  rw [List.nil_append] at hf
  have hB : Bs ((rg d).gen us) := Bs.of (gen_bd hd hu) (by omega)
  have e3 := lsp_ok Z h hB (by rw [gen_len]; omega) ha μ
  refine runF_rt (ρ := [some (.int d), some (.lst (us.map pv)), none, none]) rfl ?_
  unfold d__law_ideal_of
  apply ev_seq (ρ' := [some (.int d), some (.lst (us.map pv)), some (.lst []), none]) (μ' := μ)
  case ha => rfl
  apply ev_seq (ev_for (it_lst (ev_var rfl)) hf)
  exact ev_ret (ev_dCall (ev_aCons (ev_var rfl) ev_aNil) e3 rfl)
/-! ### is_ideal -/
def idB (d k a b : Int) : Bool := decide (0 < k) && ((decide (0 ≤ b) && decide (b < a)) && decide ((rg d).nm (b, 1) % a = 0))
def isIdl (d : Int) : PV → Bool
  | .tup [.int k, .int a, .int b] => idB d k a b
  | _ => false
noncomputable def p_ii : Fn := runF 1 d_is_integer
noncomputable def p_lii : Fn := runF 1 d__law_is_int
noncomputable def p_isd : Fn := runF 6 (d_is_ideal p_ii p_nm)
noncomputable def p_lisd : Fn := runF 6 (d__law_is_ideal p_lii p_ln)
noncomputable def dIsd (pi pn : Fn) : DenS := d_is_ideal pi pn
theorem lisd_eq (pi pn : Fn) : d__law_is_ideal pi pn = dIsd pi pn := rfl
theorem isd_gen {pi pn : Fn} (hpi : ∀ (x : PV) (μ : Sto), (∀ l, x ≠ .loc l) → (∀ l, x ≠ .scr l) → pi [x] μ = some (.bl (isIntP x), μ)) {d : Int} (hpn : ∀ (b : Int) (μ : Sto), b.natAbs < 2 ^ 58 → pn [.int d, pv (b, 1)] μ = some (.int ((rg d).nm (b, 1)), μ))
    {x : PV} {n e : Nat} (hx : tre n x e = true) (μ : Sto) : runF 6 (dIsd pi pn) [.int d, x] μ = some (.bl (isIdl d x), μ) := by
  refine runF_rt (ρ := [some (.int d), some x, none, none, none, none]) rfl ?_
  unfold dIsd d_is_ideal
  by_cases ht : ∃ xs, x = .tup xs
  · obtain ⟨xs, rfl⟩ := ht
    have t1 : tNo (tTru (d1 (f_isi .tuple) (cVar 1))) [some (.int d), some (.tup xs), none, none, none, none] μ = some (false, μ) := ev_tNo (b := true) (ev_tTru (b := true) rfl rfl) rfl
    by_cases hl : xs.length = 3
    · have t2 : tB1 (d2 f_ne (dN f_len (aCons (cVar 1) aNil)) (cK (.int 3))) [some (.int d), some (.tup xs), none, none, none, none] μ = some (false, μ) :=
        ev_tB (ev_d2 (ev_dN (ev_aCons (ev_var rfl) ev_aNil) lenT) ev_K (ne_ii (by rw [hl]; rfl)))
      have hxs : ∀ y ∈ xs, (∀ l, y ≠ .loc l) ∧ (∀ l, y ≠ .scr l) := fun y hy => by
        cases e with
        | zero => cases hx
        | succ e =>
          have := (tre_tup.mp hx).2 y hy
          exact ⟨fun l h => (by subst h; cases this), fun l h => (by subst h; cases this)⟩
      have comp : dLc [5] (itSeq (cVar 1)) (gNm 5) tAll (dCall 1 pi (aCons (cVar 5) aNil)) [some (.int d), some (.tup xs), none, none, none, none] μ = some (.lst (xs.map fun y => .bl (isIntP y)), μ) := by
        refine ev_lc (xs := xs) (ch := []) (μ1 := μ) (ρ' := [some (.int d), some (.tup xs), none, none, none, none]) (it_tup (ev_var rfl)) rfl ?_
        have q := lc_map0 (ρ := [some (.int d), some (.tup xs), none, none, none, none]) (μ := μ) (g := gNm 5) (e := dCall 1 pi (aCons (cVar 5) aNil)) (ch := []) id (fun y => PV.bl (isIntP y)) xs chk_nil (len_le (by omega)) fun y hy => ⟨_, rfl, ev_dCall (ev_aCons (ev_var rfl) ev_aNil) (hpi y μ (hxs y hy).1 (hxs y hy).2) rfl⟩
        rw [List.map_id] at q
        exact q
      have t3 : tNo (tTru (dN f_all (aCons (dLc [5] (itSeq (cVar 1)) (gNm 5) tAll (dCall 1 pi (aCons (cVar 5) aNil))) aNil))) [some (.int d), some (.tup xs), none, none, none, none] μ = some (!(xs.all isIntP), μ) :=
        ev_tNo (ev_tTru (ev_dN (ev_aCons comp ev_aNil) (all_bl' xs isIntP)) rfl) rfl
      match xs, hl with
      | [x, y, z], _ =>
        by_cases hall : [x, y, z].all isIntP = true
        · rw [hall] at t3
          have hall := List.all_eq_true.mp hall
          have gi : ∀ w : PV, isIntP w = true → ∃ i, w = .int i := fun w hw => by
            cases w with
            | int i => exact ⟨i, rfl⟩
            | _ => cases hw
          obtain ⟨k, rfl⟩ := gi x (hall x (by simp))
          obtain ⟨a, rfl⟩ := gi y (hall y (by simp))
          obtain ⟨b, rfl⟩ := gi z (hall z (by simp))
          have hb : b.natAbs < 2 ^ 58 := by
            cases e with
            | zero => cases hx
            | succ e =>
              have := (tre_tup.mp hx).2 (.int b) (by simp)
              exact of_decide_eq_true this
          apply ev_seq
          case ha => exact ev_sIf_f (ev_tOr_f t1 (ev_tOr_f t2 t3)) ev_sNil
          apply ev_seq (ρ' := [some (.int d), some (.tup [.int k, .int a, .int b]), some (.int k), some (.int a), some (.int b), none]) (μ' := μ)
          case ha => rfl
          have n1 := hpn b μ hb
          have g1 : f_gt (.int k) (.int 0) μ = some (.bl (decide (0 < k)), μ) := rfl
          have l1 : f_le (.int 0) (.int b) μ = some (.bl (decide (0 ≤ b)), μ) := rfl
          have l2 : f_lt (.int b) (.int a) μ = some (.bl (decide (b < a)), μ) := rfl
          have q1 : f_eq (.int ((rg d).nm (b, 1) % a)) (.int 0) μ = some (.bl (decide ((rg d).nm (b, 1) % a = 0)), μ) := rfl
          apply ev_ret
          show dAn _ _ _ _ = some (PV.bl (idB d k a b), μ)
          unfold idB
          refine ev_anb (ev_d2 (ev_var rfl) ev_K g1) ?_
          have c := ev_ch2b (f := f_le) (g := f_lt) (da := cK (.int 0)) (db := cVar 4) (dc := cVar 3) (ρ := [some (.int d), some (.tup [.int k, .int a, .int b]), some (.int k), some (.int a), some (.int b), none]) (μ := μ) ev_K (ev_var rfl) l1 (ev_var rfl) l2
          by_cases hc : (decide (0 ≤ b) && decide (b < a)) = true
          · rw [hc] at c ⊢
            refine ev_an_t c rfl ?_
            have ha : 0 < a := by
              rw [Bool.and_eq_true, decide_eq_true_eq, decide_eq_true_eq] at hc; omega
            have m1 : f_mod (.int ((rg d).nm (b, 1))) (.int a) μ = some (.int ((rg d).nm (b, 1) % a), μ) := mod_ii ha
            exact ev_d2 (ev_d2 (ev_dCall (ev_aCons (ev_var rfl) (ev_aCons (ev_dTup (ev_aCons (ev_var rfl) (ev_aCons ev_K ev_aNil)) (len_le (by show 2 ≤ 1000; decide))) ev_aNil)) n1 rfl) (ev_var rfl) m1) ev_K q1
          · have hc : (decide (0 ≤ b) && decide (b < a)) = false := by
              cases h : (decide (0 ≤ b) && decide (b < a)) with
              | true => exact absurd h hc
              | false => rfl
            rw [hc] at c ⊢
            exact ev_an_f c rfl
        · have hall' : [x, y, z].all isIntP = false := by
            cases h : [x, y, z].all isIntP with
            | true => exact absurd h hall
            | false => rfl
          rw [hall'] at t3
          have hf : isIdl d (.tup [x, y, z]) = false := by
            unfold isIdl
            split
            · rename_i k a b e
              cases e
              exact absurd rfl hall
            · rfl
          rw [hf]
          exact ev_seq_rt (ev_sIf_t (ev_tOr_f t1 (ev_tOr_f t2 t3)) (ev_ret ev_K))
    · have t2 : tB1 (d2 f_ne (dN f_len (aCons (cVar 1) aNil)) (cK (.int 3))) [some (.int d), some (.tup xs), none, none, none, none] μ = some (true, μ) :=
        ev_tB (ev_d2 (ev_dN (ev_aCons (ev_var rfl) ev_aNil) lenT) ev_K (ne_ii (ne_t (by omega))))
      have hf : isIdl d (.tup xs) = false := by
        unfold isIdl
        split
        · rename_i k a b e
          cases e
          exact absurd rfl hl
        · rfl
      rw [hf]
      exact ev_seq_rt (ev_sIf_t (ev_tOr_f t1 (ev_tOr_t t2)) (ev_ret ev_K))
  · have t1 : tNo (tTru (d1 (f_isi .tuple) (cVar 1))) [some (.int d), some x, none, none, none, none] μ = some (true, μ) := by
      cases x with
      | tup xs => exact absurd ⟨xs, rfl⟩ ht
      | loc l => cases hx
      | scr l => cases hx
      | bl b => cases b <;> exact ev_tNo (b := false) (ev_tTru (b := false) rfl rfl) rfl
      | _ => exact ev_tNo (b := false) (ev_tTru (b := false) rfl rfl) rfl
    have hf : isIdl d x = false := by
      unfold isIdl
      split
      · rename_i k a b
        exact absurd ⟨_, rfl⟩ ht
      · rfl
    rw [hf]
    exact ev_seq_rt (ev_sIf_t (ev_tOr_t t1) (ev_ret ev_K))
theorem isd_ok {d : Int} (hd : d.natAbs < 1000) {x : PV} {n e : Nat} (hx : tre n x e = true) (μ : Sto) : p_isd [.int d, x] μ = some (.bl (isIdl d x), μ) ∧ p_lisd [.int d, x] μ = some (.bl (isIdl d x), μ) := by
  constructor
  · exact isd_gen (fun x μ h1 h2 => isInt_ok h1 h2) (fun b μ hb => nm_ok hd (Nat.le_refl 60) ⟨Nat.lt_trans hb (by decide), by show 1 < 2 ^ 60; decide⟩ μ) hx μ
  · unfold p_lisd
    rw [lisd_eq]
    exact isd_gen (fun x μ h1 h2 => isInt_ok h1 h2) (fun b μ hb => ln_ok hd (Nat.le_refl 58) ⟨hb, by show 1 < 2 ^ 58; decide⟩ μ) hx μ
end K17

/-! K17h: the kind and the ideals that are drawn. -/
namespace K17
open PySem PySem.Spec PyProof.Rows L2 Fd Nm
theorem kinds_lt : ∀ d ∈ kindsL, d.natAbs < 1000 := by decide
noncomputable def p_ki (pt : Fn) : Fn := runF 2 (d__law_kind pt)
theorem ki_ok {pt : Fn} (ht : TakeOk pt) {s : Dr} {n : Nat} {r : Sto} (ok : s.Ok (n + 1)) : ∃ (d : Int) (s' : Dr), d ∈ kindsL ∧ s'.Ok n ∧ p_ki pt [.loc 0] (s.ob :: r) = some (.int d, s'.ob :: r) := by
  obtain ⟨k, s', k0, k1, ok', e⟩ := take0 ht (r := r) 34 ok (by decide) (by decide)
  obtain ⟨d, hd, ed⟩ := atI_some (xs := kindsL) k0 (by show k < 34; exact k1)
  refine ⟨d, s', hd, ok', ?_⟩
  have ix : f_ix (.lst (kindsL.map PV.int)) (.int k) (s'.ob :: r) = some (.int d, s'.ob :: r) := by
    refine ix_lst ?_
    obtain ⟨m, rfl⟩ := Int.eq_ofNat_of_zero_le k0
    have hm : m < kindsL.length := by show m < 34; omega
    have e1 : L2.atI kindsL (m : Int) = some kindsL[m] := L2.atI_nat (by simp [hm])
    rw [e1] at ed
    cases ed
    exact L2.atI_nat (by simp [hm])
  refine runF_rt (ρ := [some (.loc 0), none]) rfl ?_
  unfold d__law_kind
  apply ev_seq (ρ' := [some (.loc 0), some (.lst ((kindsL.take 15).map PV.int))]) (μ' := s.ob :: r)
  case ha => rfl
  apply ev_seq (ρ' := [some (.loc 0), some (.lst (kindsL.map PV.int))]) (μ' := s.ob :: r)
  case ha => rfl
  exact ev_ret (ev_d2 (ev_var rfl) (ev_dCall (ev_aCons (ev_var rfl) (ev_aCons (ev_dN (ev_aCons (ev_var rfl) ev_aNil) lenL) ev_aNil)) e rfl) ix)
/-! ### the ideals with k = 1 -/
noncomputable def p_lid : Fn := runF 5 (d__law_ideals p_ln)
def okI (d : Int) (p : Pr) : Prop := 1 ≤ p.1 ∧ p.1 ≤ 24 ∧ 0 ≤ p.2 ∧ p.2 < p.1 ∧ p.1 ∣ (rg d).nm (p.2, 1)
noncomputable def lidB : DenS := (sAsg (d2 f_add (cVar 2) (dLc [4] (itRg1 (aCons (cVar 3) aNil)) (gNm 4) (tB1 (d2 f_eq (d2 f_mod (dCall 2 p_ln (aCons (cVar 0) (aCons (dTup (aCons (cVar 4) (aCons (cK (.int 1)) aNil))) aNil))) (cVar 3)) (cK (.int 0)))) (dTup (aCons (cK (.int 1)) (aCons (cVar 3) (aCons (cVar 4) aNil)))))) (gNm 2))
abbrev i3 (p : Pr) : PV := p3 1 p.1 p.2
theorem lid_loop {d : Int} (hd : d.natAbs < 1000) (N : PV) (μ : Sto) : ∀ (n i : Nat) (L : List Pr) (o3 : Option PV), i + n = 24 → L.length ≤ 24 * i → (∀ p ∈ L, okI d p) → (0 < i → ((1, 0) : Pr) ∈ L) →
    ∃ (L' : List Pr) (o3' : Option PV), L'.length ≤ 576 ∧ (∀ p ∈ L', okI d p) ∧ ((1, 0) : Pr) ∈ L' ∧ forL (gNm 3) lidB [] (rgP ((i + 1 : Nat) : Int) n) [some (.int d), some N, some (.lst (L.map i3)), o3, none] μ = some (.nx [some (.int d), some N, some (.lst (L'.map i3)), o3', none] μ)
  | 0, i, L, o3, hi, hl, hL, h1 => ⟨L, o3, by omega, hL, h1 (by omega), for_nil⟩
  | n + 1, i, L, o3, hi, hl, hL, h1 => by
    let a : Int := ((i + 1 : Nat) : Int)
    let M : List Pr := ((List.range (i + 1)).filter fun b : Nat => decide ((rg d).nm ((b : Int), 1) % a = 0)).map fun b : Nat => (a, (b : Int))
    have hM : ∀ p ∈ M, okI d p := fun p hp => by
      obtain ⟨b, hb, rfl⟩ := List.mem_map.mp hp
      obtain ⟨hb1, hb2⟩ := List.mem_filter.mp hb
      have hb1 := List.mem_range.mp hb1
      exact ⟨by show (1 : Int) ≤ ((i + 1 : Nat) : Int); omega, by show ((i + 1 : Nat) : Int) ≤ 24; omega, by show (0 : Int) ≤ (b : Int); omega, by show (b : Int) < ((i + 1 : Nat) : Int); omega, Int.dvd_of_emod_eq_zero (of_decide_eq_true hb2)⟩
    have hMl : M.length ≤ 24 := by
      show (List.map _ _).length ≤ 24
      rw [List.length_map]
      have := List.length_filter_le (fun b : Nat => decide ((rg d).nm ((b : Int), 1) % a = 0)) (List.range (i + 1))
      rw [List.length_range] at this
      omega
    have h1' : 0 < i + 1 → ((1, 0) : Pr) ∈ L ++ M := fun _ => by
      by_cases z : 0 < i
      · exact List.mem_append_left _ (h1 z)
      · have z : i = 0 := by omega
        subst z
        refine List.mem_append_right _ (List.mem_map.mpr ⟨0, List.mem_filter.mpr ⟨by decide, ?_⟩, rfl⟩)
        exact decide_eq_true (Int.emod_one _)
    obtain ⟨L', o3', k1, k2, k3, h'⟩ := lid_loop hd N μ n (i + 1) (L ++ M) (some (.int a)) (by omega) (by rw [List.length_append]; omega) (fun p hp => by
      rcases List.mem_append.mp hp with q | q
      · exact hL p q
      · exact hM p q) h1'
    refine ⟨L', o3', k1, k2, k3, ?_⟩
    have comp : dLc [4] (itRg1 (aCons (cVar 3) aNil)) (gNm 4) (tB1 (d2 f_eq (d2 f_mod (dCall 2 p_ln (aCons (cVar 0) (aCons (dTup (aCons (cVar 4) (aCons (cK (.int 1)) aNil))) aNil))) (cVar 3)) (cK (.int 0)))) (dTup (aCons (cK (.int 1)) (aCons (cVar 3) (aCons (cVar 4) aNil)))) [some (.int d), some N, some (.lst (L.map i3)), some (.int a), none] μ = some (.lst (M.map i3), μ) := by
      refine ev_lc (xs := (List.range (i + 1)).map (fun b : Nat => PV.int b)) (ch := []) (μ1 := μ) (ρ' := [some (.int d), some N, some (.lst (L.map i3)), some (.int a), none]) ?_ rfl ?_
      · rw [← rgP_range]
        exact it_rg1 (j := a) rfl (rgIn_of (by show -2 ^ 62 ≤ ((i + 1 : Nat) : Int); omega) (by show ((i + 1 : Nat) : Int) < 2 ^ 62; omega)) (by show ((i + 1 : Nat) : Int).toNat = i + 1; omega)
      · rw [lc_map (fun b : Nat => PV.int b) (fun b : Nat => decide ((rg d).nm ((b : Int), 1) % a = 0)) (fun b : Nat => i3 (a, (b : Int))) (List.range (i + 1)) [] chk_nil (len_le (by rw [List.length_range]; show 0 + (i + 1) ≤ 1000; omega)) ?_]
        · rw [List.nil_append]
          show _ = some (List.map i3 (List.map _ _), μ)
          rw [List.map_map]
          rfl
        · intro b hb
          have hb := List.mem_range.mp hb
          have e1 := ln_ok hd (Nat.le_refl 58) (u := ((b : Int), 1)) ⟨by show (b : Int).natAbs < 2 ^ 58; omega, by show (1 : Int).natAbs < 2 ^ 58; decide⟩ μ
          have m1 : f_mod (.int ((rg d).nm ((b : Int), 1))) (.int a) μ = some (.int ((rg d).nm ((b : Int), 1) % a), μ) := mod_ii (by show (0 : Int) < ((i + 1 : Nat) : Int); omega)
          refine ⟨[some (.int d), some N, some (.lst (L.map i3)), some (.int a), some (.int b)], rfl, ?_, fun _ => ?_⟩
          · exact ev_tB (ev_d2 (ev_d2 (ev_dCall (ev_aCons (ev_var rfl) (ev_aCons (ev_dTup (ev_aCons (ev_var rfl) (ev_aCons ev_K ev_aNil)) (len_le (by show 2 ≤ 1000; decide))) ev_aNil)) e1 rfl) (ev_var rfl) m1) ev_K rfl)
          · exact ev_dTup (ev_aCons ev_K (ev_aCons (ev_var rfl) (ev_aCons (ev_var rfl) ev_aNil))) (len_le (by show 3 ≤ 1000; decide))
    show forL _ _ _ (PV.int a :: rgP (a + 1) n) _ _ = _
    refine for_step (ρ1 := [some (.int d), some N, some (.lst (L.map i3)), some (.int a), none]) (μ1 := μ) rfl ?_ chk_nil h'
    unfold lidB
    refine ev_set (ev_d2 (ev_var rfl) comp (add_ll (by rw [List.length_map, List.length_map]; omega))) ?_
    rw [List.map_append]
    rfl
theorem lid_ok {d : Int} (hd : d.natAbs < 1000) (μ : Sto) : ∃ L : List Pr, L.length ≤ 576 ∧ (∀ p ∈ L, okI d p) ∧ ((1, 0) : Pr) ∈ L ∧ p_lid [.int d, .int 24] μ = some (.lst (L.map i3), μ) := by
  obtain ⟨L, o3, h1, h2, h3, hf⟩ := lid_loop hd (.int 24) μ 24 0 [] none rfl (Nat.zero_le _) (fun p hp => nomatch hp) (fun h => absurd h (by decide))
  refine ⟨L, h1, h2, h3, ?_⟩
  refine runF_rt (ρ := [some (.int d), some (.int 24), none, none, none]) rfl ?_
  unfold d__law_ideals
  apply ev_seq (ρ' := [some (.int d), some (.int 24), some (.lst []), none, none]) (μ' := μ)
  case ha => rfl
  apply ev_seq (ev_for (it_rg2 (i := 1) (j := 25) (n := 24) rfl (by decide) (by decide) rfl) hf)
  exact ev_ret (ev_var rfl)
/-! ### an ideal that is drawn -/
structure One (d k a b : Int) : Prop extends Idl (rg d) k a b where
  k3 : k ≤ 3
  a24 : a ≤ 24
theorem One.sz {d k a b : Int} (I : One d k a b) : Sz 7 k a b := ⟨I.toHnf, by
  have h1 := I.k0; have h2 := I.k3; have h3 := I.a24; have h4 := I.b0; have h5 := I.ba
  have h6 : k * a ≤ 3 * a := Int.mul_le_mul_of_nonneg_right h2 (by omega)
  omega⟩
noncomputable def p_sid (pt : Fn) : Fn := runF 6 (d__law_some_ideal p_lid pt)
theorem sid_ok {pt : Fn} (ht : TakeOk pt) {d : Int} (hd : d.natAbs < 1000) {s : Dr} {n : Nat} {r : Sto} (ok : s.Ok (n + 2)) : ∃ (k a b : Int) (s' : Dr), One d k a b ∧ s'.Ok n ∧ p_sid pt [.loc 0, .int d] (s.ob :: r) = some (p3 k a b, s'.ob :: r) := by
  obtain ⟨L, l1, l2, l3, e0⟩ := lid_ok hd (s.ob :: r)
  have lp : 0 < L.length := List.length_pos_iff.mpr (fun h => by rw [h] at l3; cases l3)
  obtain ⟨i, s1, i0, i1, ok1, e1⟩ := take0 ht (r := r) (L.length : Int) ok (by omega) (by omega)
  obtain ⟨j, s2, j0, j1, ok2, e2⟩ := take0 ht (r := r) 4 ok1 (by decide) (by decide)
  obtain ⟨m, rfl⟩ := Int.eq_ofNat_of_zero_le i0
  have hm : m < L.length := by omega
  have hp := l2 L[m] (List.getElem_mem hm)
  have ix : f_ix (.lst (L.map i3)) (.int m) (s1.ob :: r) = some (i3 L[m], s1.ob :: r) := ix_lst (L2.atI_nat (by simp [hm]))
  obtain ⟨y, hy, ey⟩ := atI_some (xs := [PV.int 1, .int 1, .int 2, .int 3]) j0 j1
  obtain ⟨k, rfl, k1, k2⟩ : ∃ k : Int, y = .int k ∧ 0 < k ∧ k ≤ 3 := by
    simp only [List.mem_cons, List.not_mem_nil, or_false] at hy
    rcases hy with rfl | rfl | rfl | rfl
    · exact ⟨1, rfl, by decide, by decide⟩
    · exact ⟨1, rfl, by decide, by decide⟩
    · exact ⟨2, rfl, by decide, by decide⟩
    · exact ⟨3, rfl, by decide, by decide⟩
  refine ⟨k, L[m].1, L[m].2, s2, ⟨⟨⟨k1, hp.2.2.1, hp.2.2.2.1⟩, hp.2.2.2.2⟩, k2, hp.2.1⟩, ok2, ?_⟩
  generalize L[m] = p at *
  have hlen : f_len [.lst (L.map i3)] (s.ob :: r) = some (.int (L.length : Int), s.ob :: r) := by rw [lenL, List.length_map]
  refine runF_rt (ρ := [some (.loc 0), some (.int d), none, none, none, none]) rfl ?_
  unfold d__law_some_ideal
  apply ev_seq (ρ' := [some (.loc 0), some (.int d), some (.lst (L.map i3)), none, none, none]) (μ' := s.ob :: r)
  case ha => exact ev_set (ev_dCall (ev_aCons (ev_var rfl) (ev_aCons ev_K ev_aNil)) e0 rfl) rfl
  apply ev_seq (ρ' := [some (.loc 0), some (.int d), some (.lst (L.map i3)), some (.int 1), some (.int p.1), some (.int p.2)]) (μ' := s1.ob :: r)
  case ha => exact ev_asg (ev_d2 (ev_var rfl) (ev_dCall (ev_aCons (ev_var rfl) (ev_aCons (ev_dN (ev_aCons (ev_var rfl) ev_aNil) hlen) ev_aNil)) e1 rfl) ix) rfl
  refine ev_ret (ev_dTup (vs := [.int k, .int p.1, .int p.2]) (ev_aCons (ev_d2 (x := .lst [PV.int 1, .int 1, .int 2, .int 3]) (μ1 := s1.ob :: r) rfl (ev_dCall (ev_aCons (ev_var rfl) (ev_aCons ev_K ev_aNil)) e2 rfl) (ix_lst ey)) (ev_aCons (ev_var rfl) (ev_aCons (ev_var rfl) ev_aNil))) (len_le (by show 3 ≤ 1000; decide)))
end K17

/-! K17i: the law. -/
namespace K17
open PySem PySem.Spec PyProof.Rows L2 Fd Nm
noncomputable def p_st : Fn := runF 2 d__law_start
noncomputable def p_bt (pt : Fn) : Fn := runF 4 (dBent pt (pSpoilt pt 2))
noncomputable def La0 (pt : Fn) : DenS := (sAsg (dCall 1 p_st (aCons (cVar 0) aNil)) (gNm 1))
noncomputable def La1 (pt : Fn) : DenS := (sAsg (dCall 1 (p_ki pt) (aCons (cVar 1) aNil)) (gNm 2))
noncomputable def La2 (pt : Fn) : DenS := (sAsg (dTup (aCons (dCall 2 (p_sid pt) (aCons (cVar 1) (aCons (cVar 2) aNil))) (aCons (dCall 2 (p_sid pt) (aCons (cVar 1) (aCons (cVar 2) aNil))) aNil))) (gTu 2 (gsCons (gNm 3) (gsCons (gNm 4) gsNil))))
noncomputable def La3_0 (pt : Fn) : DenS := (sAsg (dIf (tB1 (d2 f_lt (cVar 5) (cK (.int 4)))) (dCall 3 (p_bt pt) (aCons (cVar 1) (aCons (cVar 3) (aCons (cVar 5) aNil)))) (dTup (aCons (d2 f_add (cK (.int 1)) (dCall 2 pt (aCons (cVar 1) (aCons (cK (.int 2)) aNil)))) (aCons (d2 f_add (cK (.int 1)) (dCall 2 pt (aCons (cVar 1) (aCons (cK (.int 9)) aNil)))) (aCons (dCall 2 pt (aCons (cVar 1) (aCons (cK (.int 9)) aNil))) aNil))))) (gNm 6))
noncomputable def La3_1 (pt : Fn) : DenS := (sAsg (dCall 2 p_isd (aCons (cVar 2) (aCons (cVar 6) aNil))) (gNm 7))
noncomputable def La3_2 (pt : Fn) : DenS := (sIf (tOr' (tNo (tTru (d1 (f_isi .bool) (cVar 7)))) (tB1 (d2 f_ne (cVar 7) (dCall 2 p_lisd (aCons (cVar 2) (aCons (cVar 6) aNil)))))) (sRet (cK (.bl false))) sNil)
noncomputable def La3_3 (pt : Fn) : DenS := (sAsg (dTup (aCons (d2 f_sub (dCall 2 pt (aCons (cVar 1) (aCons (cK (.int 41)) aNil))) (cK (.int 20))) (aCons (d2 f_sub (dCall 2 pt (aCons (cVar 1) (aCons (cK (.int 21)) aNil))) (cK (.int 10))) aNil))) (gNm 8))
noncomputable def La3_4 (pt : Fn) : DenS := (sAsg (dCall 3 p_holds (aCons (cVar 2) (aCons (cVar 3) (aCons (cVar 8) aNil)))) (gNm 7))
noncomputable def La3_5 (pt : Fn) : DenS := (sIf (tOr' (tNo (tTru (d1 (f_isi .bool) (cVar 7)))) (tB1 (d2 f_ne (cVar 7) (dCall 2 p_in (aCons (cVar 3) (aCons (cVar 8) aNil)))))) (sRet (cK (.bl false))) sNil)
noncomputable def Bla3 (pt : Fn) : DenS := (sSeq (La3_0 pt) (sSeq (La3_1 pt) (sSeq (La3_2 pt) (sSeq (La3_3 pt) (sSeq (La3_4 pt) (La3_5 pt))))))
noncomputable def La3 (pt : Fn) : DenS := sFor (itRg1 (aCons (cK (.int 6)) aNil)) (gNm 5) (Bla3 pt)
noncomputable def La4 (pt : Fn) : DenS := (sAsg (dLc [5] (itRg1 (aCons (d2 f_add (cK (.int 1)) (dCall 2 pt (aCons (cVar 1) (aCons (cK (.int 3)) aNil)))) aNil)) (gNm 5) tAll (dTup (aCons (d2 f_sub (dCall 2 pt (aCons (cVar 1) (aCons (cK (.int 25)) aNil))) (cK (.int 12))) (aCons (d2 f_sub (dCall 2 pt (aCons (cVar 1) (aCons (cK (.int 9)) aNil))) (cK (.int 4))) aNil)))) (gNm 9))
noncomputable def La5 (pt : Fn) : DenS := (sIf (tTru (dN f_any (aCons (dLc [8] (itSeq (cVar 9)) (gNm 8) tAll (d2 f_ne (cVar 8) (dTup (aCons (cK (.int 0)) (aCons (cK (.int 0)) aNil))))) aNil))) (sIf (tNo (tTru (dCall 2 p_al (aCons (dCall 2 p_io (aCons (cVar 2) (aCons (dN f_tuple (aCons (cVar 9) aNil)) aNil))) (aCons (dCall 2 p_lio (aCons (cVar 2) (aCons (dLc [8] (itSeq (cVar 9)) (gNm 8) (tB1 (d2 f_ne (cVar 8) (dTup (aCons (cK (.int 0)) (aCons (cK (.int 0)) aNil))))) (cVar 8)) aNil))) aNil))))) (sRet (cK (.bl false))) sNil) sNil)
noncomputable def La6 (pt : Fn) : DenS := (sAsg (dCall 1 p_lsp (aCons (d2 f_add (dCall 1 p_lba (aCons (cVar 3) aNil)) (dCall 1 p_lba (aCons (cVar 4) aNil))) aNil)) (gNm 10))
noncomputable def La7 (pt : Fn) : DenS := (sAsg (dCall 3 p_lpr (aCons (cVar 2) (aCons (cVar 3) (aCons (cVar 4) aNil)))) (gNm 11))
noncomputable def La8 (pt : Fn) : DenS := (sIf (tOr' (tNo (tTru (dCall 2 p_al (aCons (dCall 3 p_su (aCons (cVar 2) (aCons (cVar 3) (aCons (cVar 4) aNil)))) (aCons (cVar 10) aNil))))) (tNo (tTru (dCall 2 p_al (aCons (dCall 3 p_pr (aCons (cVar 2) (aCons (cVar 3) (aCons (cVar 4) aNil)))) (aCons (cVar 11) aNil)))))) (sRet (cK (.bl false))) sNil)
noncomputable def La9 (pt : Fn) : DenS := (sAsg (dCall 1 p_lsp (aCons (dLc [8] (itSeq (dCall 1 p_lba (aCons (cVar 3) aNil))) (gNm 8) tAll (dCall 2 p_lcj (aCons (cVar 2) (aCons (cVar 8) aNil)))) aNil)) (gNm 12))
noncomputable def La10 (pt : Fn) : DenS := (sIf (tNo (tTru (dCall 2 p_al (aCons (dCall 2 p_ci (aCons (cVar 2) (aCons (cVar 3) aNil))) (aCons (cVar 12) aNil))))) (sRet (cK (.bl false))) sNil)
noncomputable def La11 (pt : Fn) : DenS := (sIf (tOr' (tB1 (d2 f_ne (dCall 3 p_qu (aCons (cVar 2) (aCons (cVar 11) (aCons (cVar 4) aNil)))) (cVar 3))) (tB1 (d2 f_ne (dCall 3 p_lpr (aCons (cVar 2) (aCons (cVar 3) (aCons (cVar 12) aNil)))) (dTup (aCons (d2 f_mul (d2 f_mul (d2 f_ix (cVar 3) (cK (.int 0))) (d2 f_ix (cVar 3) (cK (.int 0)))) (d2 f_ix (cVar 3) (cK (.int 1)))) (aCons (cK (.int 1)) (aCons (cK (.int 0)) aNil))))))) (sRet (cK (.bl false))) sNil)
noncomputable def La12 (pt : Fn) : DenS := (sAsg (dCall 3 p_qu (aCons (cVar 2) (aCons (cVar 3) (aCons (cVar 4) aNil)))) (gNm 13))
noncomputable def La13 (pt : Fn) : DenS := (sIf (tTru (dN f_all (aCons (dLc [8] (itSeq (dCall 1 p_lba (aCons (cVar 3) aNil))) (gNm 8) tAll (dCall 2 p_in (aCons (cVar 4) (aCons (cVar 8) aNil)))) aNil))) (sRet (dAn (d2 f_isn (cVar 13) (cK .non)) (dAn (dCall 2 p_lisd (aCons (cVar 2) (aCons (cVar 13) aNil))) (d2 f_eq (dCall 3 p_lpr (aCons (cVar 2) (aCons (cVar 13) (aCons (cVar 4) aNil)))) (cVar 3))))) sNil)
noncomputable def La14 (pt : Fn) : DenS := (sRet (d2 f_is (cVar 13) (cK .non)))
noncomputable def LL (pt : Fn) : DenS := (sSeq (La0 pt) (sSeq (La1 pt) (sSeq (La2 pt) (sSeq (La3 pt) (sSeq (La4 pt) (sSeq (La5 pt) (sSeq (La6 pt) (sSeq (La7 pt) (sSeq (La8 pt) (sSeq (La9 pt) (sSeq (La10 pt) (sSeq (La11 pt) (sSeq (La12 pt) (sSeq (La13 pt) (La14 pt)))))))))))))))
theorem LL_eq (pt : Fn) : d_law p_st (p_ki pt) (p_sid pt) (p_bt pt) pt p_isd p_lisd p_holds p_in p_al p_lio p_io p_lsp p_lba p_lpr p_su p_pr p_lcj p_ci p_qu = LL pt := rfl
/-! ### what the drawn ideals are -/
theorem One.bs0 {d k a b : Int} (I : One d k a b) : ((k * a, 0) : Pr) ∈ bs k a b := by simp [bs]
theorem One.ka {d k a b : Int} (I : One d k a b) : 0 < k * a ∧ k * a ≤ 72 := by
  have h1 := I.k0; have h2 := I.k3; have h3 := I.a24; have h4 := I.b0; have h5 := I.ba
  have h6 : k * a ≤ 3 * a := Int.mul_le_mul_of_nonneg_right h2 (by omega)
  exact ⟨Int.mul_pos h1 (by omega), by omega⟩
theorem One.M {d k a b : Int} (I : One d k a b) : 0 < k * k * a ∧ k * k * a ≤ 216 := by
  have h1 := I.k0; have h2 := I.k3; have h := I.ka
  rw [Int.mul_assoc]
  have h6 : k * (k * a) ≤ 3 * (k * a) := Int.mul_le_mul_of_nonneg_right h2 (by omega)
  exact ⟨Int.mul_pos h1 h.1, by omega⟩
theorem One.span {d k a b : Int} (hd : d ∈ kindsL) (I : One d k a b) (u : Pr) : Sp ((rg d).pd (bs k a b) ((bs k a b).map (rg d).cj)) u ↔ Mt (k * k * a) 1 0 u := by
  obtain ⟨c, p, q, r, h1, h2⟩ := gcd3 hd I.a24 I.b0 I.ba I.dv
  exact norm_span (R := rg d) h1 h2 u
theorem nm_m0 {R : Ring} {m : Int} (h : m ≠ 0) : R.nm (m, 0) ≠ 0 := by
  have e : R.nm (m, 0) = m * m := by unfold Ring.nm; simp
  rw [e]
  exact Int.mul_ne_zero h h
/-- a closed span with m in it: its row of three -/
theorem row_ex {d : Int} {rs : List Pr} {m : Int} {n : Nat} (C : (rg d).Closed rs) (hm : Sp rs (m, 0)) (h0 : m ≠ 0) (hn : m.natAbs < 2 ^ n) : ∃ K A B, Idl (rg d) K A B ∧ Sz n K A B ∧ ∀ u, Sp rs u ↔ Mt K A B u := by
  obtain ⟨K, A, B, I, h⟩ := hnf_ex C ⟨_, hm, nm_m0 h0⟩
  exact ⟨K, A, B, I, Sz.of I.toHnf h hm h0 hn, h⟩
theorem Sz.a20 {n : Nat} {k a b : Int} (S : Sz n k a b) (hn : n ≤ 20) : a < 2 ^ 20 := by
  have h := (S.mono hn).bd.2.2.1
  omega
theorem mul_m0 {R : Ring} (m m' : Int) : R.mul (m, 0) (m', 0) = (m * m', 0) := by unfold Ring.mul; ext <;> simp
theorem cj_m0 {R : Ring} (m : Int) : R.cj (m, 0) = (m, 0) := by unfold Ring.cj; ext <;> simp
theorem p3_eq (k a b : Int) (μ : Sto) : f_eq (p3 k a b) (p3 k a b) μ = some (.bl true, μ) := by
  show some (PV.bl (decide (k = k) && (decide (a = a) && (decide (b = b) && true))), μ) = _
  simp
theorem p3_ne (k a b : Int) (μ : Sto) : f_ne (p3 k a b) (p3 k a b) μ = some (.bl false, μ) := by
  show some (PV.bl !(decide (k = k) && (decide (a = a) && (decide (b = b) && true))), μ) = _
  simp
theorem p3_al (k a b : Int) (μ : Sto) : p_al [p3 k a b, p3 k a b] μ = some (.bl true, μ) := al_ok rfl
theorem ne_pv (u : Pr) (μ : Sto) : f_ne (pv u) (pv (0, 0)) μ = some (.bl (!decide (u = (0, 0))), μ) := by
  show some (PV.bl !(decide (u.1 = 0) && (decide (u.2 = 0) && true)), μ) = _
  congr 3
  have : ((decide (u.1 = 0) && (decide (u.2 = 0) && true))) = decide (u = (0, 0)) := by
    rw [Bool.and_true, Bool.eq_iff_iff, Bool.and_eq_true, decide_eq_true_eq, decide_eq_true_eq, decide_eq_true_eq]
    exact ⟨fun h => Prod.ext h.1 h.2, fun h => ⟨congrArg Prod.fst h, congrArg Prod.snd h⟩⟩
  rw [this]
/-! ### the six turns -/
theorem turn_ok {pt : Fn} (ht : TakeOk pt) (sc : PV) {d k a b : Int} (hd : d.natAbs < 1000) (I : One d k a b) (oth : PV) {t : Int} (s : Dr) (m : Nat) (hs : s.Ok (m + 20)) (o6 o7 o8 : Option PV) : ∃ (o6' o7' o8' : Option PV) (s' : Dr), s'.Ok m ∧
    Bla3 pt [some sc, some (.loc 0), some (.int d), some (p3 k a b), some oth, some (.int t), o6, o7, o8, none, none, none, none, none] [s.ob] = some (.nx [some sc, some (.loc 0), some (.int d), some (p3 k a b), some oth, some (.int t), o6', o7', o8', none, none, none, none, none] [s'.ob]) := by
  have S := I.sz
  have hS := S.bd
  obtain ⟨v, s1, e1, tv, ok1⟩ : ∃ (v : PV) (s1 : Dr), La3_0 pt [some sc, some (.loc 0), some (.int d), some (p3 k a b), some oth, some (.int t), o6, o7, o8, none, none, none, none, none] [s.ob] = some (.nx [some sc, some (.loc 0), some (.int d), some (p3 k a b), some oth, some (.int t), some v, o7, o8, none, none, none, none, none] [s1.ob]) ∧ tre 18 v 1 = true ∧ s1.Ok (m + 2) := by
    by_cases h4 : t < 4
    · have hx : tre 3 (p3 k a b) 1 = true := by
        refine tre_tup.mpr ⟨Nat.le_refl 3, fun x hx => ?_⟩
        have h1 : k.natAbs < 2 ^ 58 := Nat.lt_trans hS.2.1 (by decide)
        have h2 : a.natAbs < 2 ^ 58 := Nat.lt_trans hS.2.2.1 (by decide)
        have h3 : b.natAbs < 2 ^ 58 := Nat.lt_trans hS.2.2.2.2 (by decide)
        simp only [List.mem_cons, List.not_mem_nil, or_false] at hx
        rcases hx with rfl | rfl | rfl
        · exact decide_eq_true h1
        · exact decide_eq_true h2
        · exact decide_eq_true h3
      obtain ⟨y, s1, ty, ok1, e1⟩ := bent_ok ht 1 3 (m + 2) (p3 k a b) s [s.ob] 0 t hx (by decide) (hs.le (by omega)) rfl
      refine ⟨y, s1, ?_, ty, ok1⟩
      unfold La3_0
      refine ev_set (ev_if_t (μ1 := [s.ob]) (ev_tB (ev_d2 (ev_var rfl) ev_K (lt_ii (decide_eq_true h4)))) (ev_dCall (ev_aCons (ev_var rfl) (ev_aCons (ev_var rfl) (ev_aCons (ev_var rfl) ev_aNil))) e1 rfl)) rfl
    · obtain ⟨k1, s1, a1, b1, c1, e1⟩ := take0 ht (r := []) 2 (hs.le (show m + 4 + 1 ≤ m + 20 by omega)) (by decide) (by decide)
      obtain ⟨k2, s2, a2, b2, c2, e2⟩ := take0 ht (r := []) 9 c1 (by decide) (by decide)
      obtain ⟨k3, s3, a3, b3, c3, e3⟩ := take0 ht (r := []) 9 c2 (by decide) (by decide)
      refine ⟨.tup [.int (1 + k1), .int (1 + k2), .int k3], s3, ?_, ?_, c3.le (by omega)⟩
      · unfold La3_0
        refine ev_set (ev_if_f (μ1 := [s.ob]) (ev_tB (ev_d2 (ev_var rfl) ev_K (lt_ii (decide_eq_false h4)))) (ev_dTup (ev_aCons (ev_d2 ev_K (ev_dCall (ev_aCons (ev_var rfl) (ev_aCons ev_K ev_aNil)) e1 rfl) add_ii) (ev_aCons (ev_d2 ev_K (ev_dCall (ev_aCons (ev_var rfl) (ev_aCons ev_K ev_aNil)) e2 rfl) add_ii) (ev_aCons (ev_dCall (ev_aCons (ev_var rfl) (ev_aCons ev_K ev_aNil)) e3 rfl) ev_aNil))) (len_le (by show 3 ≤ 1000; decide)))) rfl
      · refine tre_tup.mpr ⟨by show 3 ≤ 18; decide, fun x hx => ?_⟩
        simp only [List.mem_cons, List.not_mem_nil, or_false] at hx
        rcases hx with rfl | rfl | rfl
        · exact decide_eq_true (by omega)
        · exact decide_eq_true (by omega)
        · exact decide_eq_true (by omega)
  have e2 := isd_ok hd tv [s1.ob]
  obtain ⟨k1, s2, a1, b1, c1, e3⟩ := take0 ht (r := []) 41 ok1 (by decide) (by decide)
  obtain ⟨k2, s3, a2, b2, c2, e4⟩ := take0 ht (r := []) 21 c1 (by decide) (by decide)
  have e5 := in_ok (k := k) (a := a) (b := b) (u := (k1 - 20, k2 - 10)) I.k0 (Nat.lt_trans hS.2.1 (by decide)) (by have := I.b0; have := I.ba; omega) (Nat.lt_trans hS.2.2.2.2 (by decide)) (by show (k2 - 10).natAbs < 2 ^ 60; omega) [s3.ob]
  refine ⟨some v, some (.bl (inM k a b (k1 - 20, k2 - 10))), some (pv (k1 - 20, k2 - 10)), s3, c2, ?_⟩
  unfold Bla3
  apply ev_seq e1
  apply ev_seq (ρ' := [some sc, some (.loc 0), some (.int d), some (p3 k a b), some oth, some (.int t), some v, some (.bl (isIdl d v)), o8, none, none, none, none, none]) (μ' := [s1.ob])
  case ha =>
    unfold La3_1
    exact ev_set (ev_dCall (ev_aCons (ev_var rfl) (ev_aCons (ev_var rfl) ev_aNil)) e2.1 rfl) rfl
  apply ev_seq
  case ha =>
    unfold La3_2
    exact told_bool rfl (ev_dCall (ev_aCons (ev_var rfl) (ev_aCons (ev_var rfl) ev_aNil)) e2.2 rfl)
  apply ev_seq (ρ' := [some sc, some (.loc 0), some (.int d), some (p3 k a b), some oth, some (.int t), some v, some (.bl (isIdl d v)), some (pv (k1 - 20, k2 - 10)), none, none, none, none, none]) (μ' := [s3.ob])
  case ha =>
    unfold La3_3
    exact ev_set (ev_dTup (ev_aCons (ev_d2 (ev_dCall (ev_aCons (ev_var rfl) (ev_aCons ev_K ev_aNil)) e3 rfl) ev_K sub_ii) (ev_aCons (ev_d2 (ev_dCall (ev_aCons (ev_var rfl) (ev_aCons ev_K ev_aNil)) e4 rfl) ev_K sub_ii) ev_aNil)) (len_le (by show 2 ≤ 1000; decide))) rfl
  apply ev_seq (ρ' := [some sc, some (.loc 0), some (.int d), some (p3 k a b), some oth, some (.int t), some v, some (.bl (inM k a b (k1 - 20, k2 - 10))), some (pv (k1 - 20, k2 - 10)), none, none, none, none, none]) (μ' := [s3.ob])
  case ha =>
    unfold La3_4
    exact ev_set (ev_dCall (ev_aCons (ev_var rfl) (ev_aCons (ev_var rfl) (ev_aCons (ev_var rfl) ev_aNil))) (e5.2 (.int d)) rfl) rfl
  unfold La3_5
  exact told_bool rfl (ev_dCall (ev_aCons (ev_var rfl) (ev_aCons (ev_var rfl) ev_aNil)) e5.1 rfl)
theorem turns_ok {pt : Fn} (ht : TakeOk pt) (sc : PV) {d k a b : Int} (hd : d.natAbs < 1000) (I : One d k a b) (oth : PV) : ∀ (n : Nat) (t : Int) (s : Dr) (m : Nat) (hs : s.Ok (m + 20 * n)) (o5 o6 o7 o8 : Option PV), ∃ (o5' o6' o7' o8' : Option PV) (s' : Dr), s'.Ok m ∧
    forL (gNm 5) (Bla3 pt) [] (rgP t n) [some sc, some (.loc 0), some (.int d), some (p3 k a b), some oth, o5, o6, o7, o8, none, none, none, none, none] [s.ob] = some (.nx [some sc, some (.loc 0), some (.int d), some (p3 k a b), some oth, o5', o6', o7', o8', none, none, none, none, none] [s'.ob])
  | 0, t, s, m, hs, o5, o6, o7, o8 => ⟨o5, o6, o7, o8, s, hs.le (by omega), for_nil⟩
  | n + 1, t, s, m, hs, o5, o6, o7, o8 => by
    obtain ⟨p6, p7, p8, s1, ok1, e1⟩ := turn_ok ht sc hd I oth (t := t) s (m + 20 * n) (hs.le (by omega)) o6 o7 o8
    obtain ⟨q5, q6, q7, q8, s2, ok2, e2⟩ := turns_ok ht sc hd I oth n (t + 1) s1 m ok1 (some (.int t)) p6 p7 p8
    exact ⟨q5, q6, q7, q8, s2, ok2, for_step rfl e1 chk_nil e2⟩
end K17

/-! K17j: the law. -/
namespace K17
open PySem PySem.Spec PyProof.Rows L2 Fd Nm
abbrev lwE (sc one oth : PV) (d : Int) (o5 o6 o7 o8 o9 o10 o11 o12 o13 : Option PV) : En := [some sc, some (.loc 0), some (.int d), some one, some oth, o5, o6, o7, o8, o9, o10, o11, o12, o13]
/-! ### the numbers -/
def smN (u : Pr) : Prop := u.1.natAbs < 2 ^ 4 ∧ u.2.natAbs < 2 ^ 3
theorem nums_ok {pt : Fn} (ht : TakeOk pt) (sc one oth : PV) (d : Int) (s : Dr) (m : Nat) (hs : s.Ok (m + 7)) (o5 o6 o7 o8 : Option PV) : ∃ (us : List Pr) (s' : Dr), us.length ≤ 3 ∧ (∀ u ∈ us, smN u) ∧ s'.Ok m ∧
    La4 pt (lwE sc one oth d o5 o6 o7 o8 none none none none none) [s.ob] = some (.nx (lwE sc one oth d o5 o6 o7 o8 (some (.lst (us.map pv))) none none none none) [s'.ob]) := by
  obtain ⟨k, s1, k0, k1, ok1, e1⟩ := take0 ht (r := []) 3 (hs.le (show m + 6 + 1 ≤ m + 7 by omega)) (by decide) (by decide)
  have n3 : (1 + k).toNat ≤ 3 := by omega
  obtain ⟨vs, μ', h1, ⟨s2, rfl, ok2⟩, h3, h4⟩ := lc_draw (ρ := lwE sc one oth d none o6 o7 o8 none none none none none) (g := gNm 5) (e := (dTup (aCons (d2 f_sub (dCall 2 pt (aCons (cVar 1) (aCons (cK (.int 25)) aNil))) (cK (.int 12))) (aCons (d2 f_sub (dCall 2 pt (aCons (cVar 1) (aCons (cK (.int 9)) aNil))) (cK (.int 4))) aNil))))
    (fun i : Nat => PV.int i) (fun j μ => ∃ s : Dr, μ = [s.ob] ∧ s.Ok (m + 2 * j)) (fun v => ∃ u : Pr, v = pv u ∧ smN u) (List.range (1 + k).toNat) [] [s1.ob] ⟨s1, rfl, ok1.le (by rw [List.length_range]; omega)⟩ (by rw [List.length_range]; exact len_le (by show 0 + _ ≤ 1000; omega)) fun x hx j μ hS => by
      obtain ⟨s, rfl, ok⟩ := hS
      obtain ⟨k1, s1, a1, b1, c1, e1⟩ := take0 ht (r := []) 25 (ok.le (show m + 2 * j + 1 + 1 ≤ m + 2 * (j + 1) by omega)) (by decide) (by decide)
      obtain ⟨k2, s2, a2, b2, c2, e2⟩ := take0 ht (r := []) 9 c1 (by decide) (by decide)
      refine ⟨lwE sc one oth d (some (.int x)) o6 o7 o8 none none none none none, pv (k1 - 12, k2 - 4), [s2.ob], rfl, ?_, ⟨_, rfl, ?_⟩, ⟨s2, rfl, c2⟩⟩
      · exact ev_dTup (ev_aCons (ev_d2 (ev_dCall (ev_aCons (ev_var rfl) (ev_aCons ev_K ev_aNil)) e1 rfl) ev_K sub_ii) (ev_aCons (ev_d2 (ev_dCall (ev_aCons (ev_var rfl) (ev_aCons ev_K ev_aNil)) e2 rfl) ev_K sub_ii) ev_aNil)) (len_le (by show 2 ≤ 1000; decide))
      · exact ⟨by show (k1 - 12).natAbs < 2 ^ 4; omega, by show (k2 - 4).natAbs < 2 ^ 3; omega⟩
  obtain ⟨us, rfl, hus⟩ := unmap h4
  refine ⟨us, s2, ?_, hus, ok2.le (by omega), ?_⟩
  · rw [List.length_map, List.length_range] at h3; omega
  unfold La4
  rw [← rgP_range, List.nil_append] at h1
  refine ev_set (ev_lc (xs := rgP 0 (1 + k).toNat) (ch := []) (μ1 := [s1.ob]) ?_ rfl h1) rfl
  exact it_rg1 (ev_aCons (ev_d2 ev_K (ev_dCall (ev_aCons (ev_var rfl) (ev_aCons ev_K ev_aNil)) e1 rfl) add_ii) ev_aNil) (rgIn_of (by omega) (by omega)) rfl
theorem nm_small {d : Int} (hd : d.natAbs < 1000) {u : Pr} (h : smN u) : ((rg d).nm u).natAbs < 2 ^ 18 := by
  have h1 : (u.1 * u.1).natAbs < 2 ^ (4 + 4) := wide_lt h.1 h.1
  have ht : (tw d).natAbs < 2 ^ 1 := by have := tw_le d; omega
  have h2 : (tw d * u.1).natAbs < 2 ^ (1 + 4) := wide_lt ht h.1
  have h3 : (tw d * u.1 * u.2).natAbs < 2 ^ (1 + 4 + 3) := wide_lt h2 h.2
  have h4 : (nw d * u.2).natAbs < 2 ^ (10 + 3) := wide_lt (nw_lt hd) h.2
  have h5 : (nw d * u.2 * u.2).natAbs < 2 ^ (10 + 3 + 3) := wide_lt h4 h.2
  show (u.1 * u.1 + tw d * u.1 * u.2 + nw d * u.2 * u.2).natAbs < 2 ^ 18
  generalize u.1 * u.1 = p1 at *
  generalize tw d * u.1 * u.2 = p2 at *
  generalize nw d * u.2 * u.2 = p3 at *
  clear hd h ht h2 h4
  omega
theorem tup_lst {xs : List PV} {μ : Sto} : f_tuple [.lst xs] μ = some (.tup xs, μ) := rfl
theorem ids_ok {pt : Fn} (sc one oth : PV) {d : Int} (hk : d ∈ kindsL) {us : List Pr} (hl : us.length ≤ 3) (hu : ∀ u ∈ us, smN u) (o5 o6 o7 o8 : Option PV) (μ : Sto) :
    La5 pt (lwE sc one oth d o5 o6 o7 o8 (some (.lst (us.map pv))) none none none none) μ = some (.nx (lwE sc one oth d o5 o6 o7 o8 (some (.lst (us.map pv))) none none none none) μ) := by
  have hd := kinds_lt d hk
  have comp : dLc [8] (itSeq (cVar 9)) (gNm 8) tAll (d2 f_ne (cVar 8) (dTup (aCons (cK (.int 0)) (aCons (cK (.int 0)) aNil)))) (lwE sc one oth d o5 o6 o7 o8 (some (.lst (us.map pv))) none none none none) μ = some (.lst (us.map fun u => .bl (!decide (u = (0, 0)))), μ) := by
    refine ev_lc (xs := us.map pv) (ch := []) (μ1 := μ) (ρ' := lwE sc one oth d o5 o6 o7 none (some (.lst (us.map pv))) none none none none) (it_lst (ev_var rfl)) rfl ?_
    exact lc_map0 pv _ us chk_nil (len_le (by omega)) fun u hu => ⟨_, rfl, ev_d2 (ev_var rfl) (ev_dTup (ev_aCons ev_K (ev_aCons ev_K ev_aNil)) (len_le (by show 2 ≤ 1000; decide))) (ne_pv u μ)⟩
  have test : tTru (dN f_any (aCons (dLc [8] (itSeq (cVar 9)) (gNm 8) tAll (d2 f_ne (cVar 8) (dTup (aCons (cK (.int 0)) (aCons (cK (.int 0)) aNil))))) aNil)) (lwE sc one oth d o5 o6 o7 o8 (some (.lst (us.map pv))) none none none none) μ = some (us.any fun u => !decide (u = (0, 0)), μ) :=
    ev_tTru (ev_dN (ev_aCons comp ev_aNil) (any_bl' us _)) rfl
  unfold La5
  cases hany : us.any fun u => !decide (u = (0, 0)) with
  | false => rw [hany] at test; exact ev_sIf_f test ev_sNil
  | true =>
    rw [hany] at test
    obtain ⟨u, hum, hune⟩ := List.any_eq_true.mp hany
    have hune : u ≠ (0, 0) := by simpa using hune
    have nn : (rg d).nm u ≠ 0 := norm_ne (kinds_noSq d hk) hune
    have usp : Sp ((rg d).gen us) u := Sp.mem (by
      unfold Ring.gen
      exact List.mem_flatMap.mpr ⟨u, hum, by simp⟩)
    have C : (rg d).Closed ((rg d).gen us) := Ring.gen_closed
    obtain ⟨K, A, B, I, S, h⟩ := row_ex C (nm_in C usp) nn (nm_small hd (hu u hum))
    have h' : ∀ v, Sp ((rg d).gen (us.filter fun u => !decide (u = (0, 0)))) v ↔ Mt K A B v := fun v => Ring.gen_zeros.symm.trans (h v)
    have bd : ∀ v ∈ us, Bd 30 v := fun v hv => ⟨Nat.lt_trans (hu v hv).1 (by decide), Nat.lt_trans (hu v hv).2 (by decide)⟩
    have e1 := io_ok hd bd (by omega) S.toHnf h μ
    have e2 := lio_ok hd (us := us.filter fun u => !decide (u = (0, 0))) (fun v hv => bd v (List.mem_filter.mp hv).1) (Nat.le_trans (List.length_filter_le _ _) (by omega)) S.toHnf h' (S.a20 (by decide)) μ
    have comp2 : dLc [8] (itSeq (cVar 9)) (gNm 8) (tB1 (d2 f_ne (cVar 8) (dTup (aCons (cK (.int 0)) (aCons (cK (.int 0)) aNil))))) (cVar 8) (lwE sc one oth d o5 o6 o7 o8 (some (.lst (us.map pv))) none none none none) μ = some (.lst ((us.filter fun u => !decide (u = (0, 0))).map pv), μ) := by
      refine ev_lc (xs := us.map pv) (ch := []) (μ1 := μ) (ρ' := lwE sc one oth d o5 o6 o7 none (some (.lst (us.map pv))) none none none none) (it_lst (ev_var rfl)) rfl ?_
      have q := lc_map (ρ := lwE sc one oth d o5 o6 o7 none (some (.lst (us.map pv))) none none none none) (μ := μ) (g := gNm 8) (t := tB1 (d2 f_ne (cVar 8) (dTup (aCons (cK (.int 0)) (aCons (cK (.int 0)) aNil))))) (e := cVar 8) (ch := []) pv (fun u => !decide (u = (0, 0))) pv us [] chk_nil (len_le (by show 0 + _ ≤ 1000; omega)) fun u hu => ⟨_, rfl, ev_tB (ev_d2 (ev_var rfl) (ev_dTup (ev_aCons ev_K (ev_aCons ev_K ev_aNil)) (len_le (by show 2 ≤ 1000; decide))) (ne_pv u μ)), fun _ => ev_var rfl⟩
      exact q
    refine ev_sIf_t test (ev_sIf_f (ev_tNo (b := true) (ev_tTru (x := .bl true) ?_ rfl) rfl) ev_sNil)
    exact ev_dCall (ev_aCons (ev_dCall (ev_aCons (ev_var rfl) (ev_aCons (ev_dN (ev_aCons (ev_var rfl) ev_aNil) tup_lst) ev_aNil)) e1 rfl) (ev_aCons (ev_dCall (ev_aCons (ev_var rfl) (ev_aCons comp2 ev_aNil)) e2 rfl) ev_aNil)) (p3_al K A B μ) rfl
/-! ### the end -/
theorem no_if {c : DenT} {a : DenS} {ρ : En} {μ : Sto} (h : c ρ μ = some (false, μ)) : sIf c a sNil ρ μ = some (.nx ρ μ) := ev_sIf_f h ev_sNil
theorem end_ok (pt : Fn) (sc : PV) {d k a b k' a' b' : Int} (hk : d ∈ kindsL) (I : One d k a b) (J : One d k' a' b') (o5 o6 o7 o8 o9 : Option PV) (μ : Sto) :
    (sSeq (La6 pt) (sSeq (La7 pt) (sSeq (La8 pt) (sSeq (La9 pt) (sSeq (La10 pt) (sSeq (La11 pt) (sSeq (La12 pt) (sSeq (La13 pt) (La14 pt))))))))) (lwE sc (p3 k a b) (p3 k' a' b') d o5 o6 o7 o8 o9 none none none none) μ = some (.rt (.bl true) μ) := by
  have hd := kinds_lt d hk
  have S := I.sz
  have S' := J.sz
  have ka := I.ka
  have ka' := J.ka
  have M := I.M
  have M' := J.M
  have hM := I.span hk
  have hM' := J.span hk
  have m1 : Sp (bs k a b) (k * a, 0) := Sp.mem I.bs0
  have m1' : Sp (bs k' a' b') (k' * a', 0) := Sp.mem J.bs0
  have m2 : Sp ((bs k a b).map (rg d).cj) (k * a, 0) := Ring.sp_cj.mpr (by rw [cj_m0]; exact m1)
  have m2' : Sp ((bs k' a' b').map (rg d).cj) (k' * a', 0) := Ring.sp_cj.mpr (by rw [cj_m0]; exact m1')
  have l7 : (k * a).natAbs < 2 ^ 7 := by omega
  have l7' : (k' * a').natAbs < 2 ^ 7 := by omega
  have l13 : (k * a * (k' * a')).natAbs < 2 ^ (7 + 7) := wide_lt l7 l7'
  have p0 : k * a * (k' * a') ≠ 0 := Int.mul_ne_zero (by omega) (by omega)
  obtain ⟨Kb, Ab, Bb, Ib, Sb, hb⟩ := row_ex (Ring.closed_app I.closed J.closed) m1.inl (by omega) l7
  obtain ⟨Kp, Ap, Bp, Ip, Sp', hp⟩ := row_ex (Ring.pd_closed I.closed) (by have := Ring.pd_mul (R := rg d) m1 m1'; rw [mul_m0] at this; exact this) p0 l13
  obtain ⟨Kt, At, Bt, It, St, htu⟩ := row_ex (Ring.cj_closed I.closed) m2 (by omega) l7
  obtain ⟨Kc, Ac, Bc, Ic, Sc, hc⟩ := row_ex (Ring.cj_closed J.closed) m2' (by omega) l7'
  obtain ⟨Kw, Aw, Bw, Iw, Sw, hw⟩ := row_ex (Ring.pd_closed I.closed) (by have := Ring.pd_mul (R := rg d) m1 m2'; rw [mul_m0] at this; exact this) p0 l13
  have Q : Quo (rg d) k a b k' a' b' (k' * k' * a') Kw Aw Bw := ⟨I.toIdl, J.toIdl, Iw, M'.1, hw, hM'⟩
  have hpr : ∀ u, Sp ((rg d).pd (bs Kp Ap Bp) ((bs k' a' b').map (rg d).cj)) u ↔ Mt (k' * k' * a' * k) a b u := prod_back I.toIdl hM' hp
  have hone : ∀ u, Sp ((rg d).pd (bs k a b) (bs Kt At Bt)) u ↔ Mt (k * k * a) 1 0 u := fun u => by
    rw [← hM u]
    exact ⟨Ring.pd_congr (fun u hu => hu) (fun u hu => (htu u).mpr (Mt.bs.mpr hu)), Ring.pd_congr (fun u hu => hu) (fun u hu => Mt.bs.mp ((htu u).mp hu))⟩
  have M100 : (k' * k' * a').natAbs < 2 ^ 100 := Nat.lt_trans (show _ < 2 ^ 10 by omega) (by decide)
  -- the calls
  have b1 := (ba_ok S (by decide) μ).2
  have b2 := (ba_ok S' (by decide) μ).2
  have both := lsp_ok Sb.toHnf hb (fun r hr => by
    rcases List.mem_append.mp hr with q | q
    · exact (S.rows r q).mono (by decide)
    · exact (S'.rows r q).mono (by decide)) (by show 4 < 1000; decide) (Sb.a20 (by decide)) μ
  rw [List.map_append] at both
  have addb : f_add (.lst ((bs k a b).map pv)) (.lst ((bs k' a' b').map pv)) μ = some (.lst ((bs k a b).map pv ++ (bs k' a' b').map pv), μ) := add_ll (by simp [bs])
  have prod := lpr_ok hd S S' (by decide) Sp'.toHnf hp (Sp'.a20 (by decide)) μ
  have su := su_ok S S' (by decide) (by decide) Sb.toHnf hb (.int d) μ
  have pr := pr_ok hd S S' (by decide) Sp'.toHnf hp μ
  have turned := lsp_ok St.toHnf htu (Bs.of (cj_rows S) (by decide)) (by show 2 < 1000; decide) (St.a20 (by decide)) μ
  have ci := ci_ok S (by decide) St.toHnf htu μ
  have Z1 : Hnf (k' * k' * a' * k) a b := ⟨Int.mul_pos M'.1 I.k0, I.b0, I.ba⟩
  have q1 := qu_ok hd Sp' S' (by decide) (by decide) Sc hc Z1 hpr M100 μ
  rw [if_pos (Int.dvd_mul_right _ _), Int.mul_ediv_cancel_left _ (by omega)] at q1
  have one1 := lpr_ok hd S St (by decide) (K := k * k * a) (A := 1) (B := 0) ⟨M.1, by decide, by decide⟩ hone (by decide) μ
  have q2 := qu_ok hd S S' (by decide) (by decide) Sc hc Iw.toHnf hw M100 μ
  have compC : dLc [8] (itSeq (dCall 1 p_lba (aCons (cVar 3) aNil))) (gNm 8) tAll (dCall 2 p_lcj (aCons (cVar 2) (aCons (cVar 8) aNil))) (lwE sc (p3 k a b) (p3 k' a' b') d o5 o6 o7 o8 o9 (some (p3 Kb Ab Bb)) (some (p3 Kp Ap Bp)) none none) μ = some (.lst (((bs k a b).map (rg d).cj).map pv), μ) := by
    rw [List.map_map]
    refine ev_lc (xs := (bs k a b).map pv) (ch := []) (μ1 := μ) (ρ' := lwE sc (p3 k a b) (p3 k' a' b') d o5 o6 o7 none o9 (some (p3 Kb Ab Bb)) (some (p3 Kp Ap Bp)) none none) (it_lst (ev_dCall (ev_aCons (ev_var rfl) ev_aNil) b1 rfl)) rfl ?_
    exact lc_map0 pv _ (bs k a b) chk_nil (len_le (by show 2 ≤ 1000; decide)) fun u hu => ⟨_, rfl, ev_dCall (ev_aCons (ev_var rfl) (ev_aCons (ev_var rfl) ev_aNil)) (cj_ok (d := d) (by decide : 7 ≤ 190) (S.rows u hu) μ).2 rfl⟩
  let rest : PV := if k' * k' * a' ∣ Kw then p3 (Kw / (k' * k' * a')) Aw Bw else .non
  have q2 : p_qu [.int d, p3 k a b, p3 k' a' b'] μ = some (rest, μ) := q2
  have compI : dLc [8] (itSeq (dCall 1 p_lba (aCons (cVar 3) aNil))) (gNm 8) tAll (dCall 2 p_in (aCons (cVar 4) (aCons (cVar 8) aNil))) (lwE sc (p3 k a b) (p3 k' a' b') d o5 o6 o7 o8 o9 (some (p3 Kb Ab Bb)) (some (p3 Kp Ap Bp)) (some (p3 Kt At Bt)) (some rest)) μ = some (.lst ((bs k a b).map fun u => .bl (inM k' a' b' u)), μ) := by
    refine ev_lc (xs := (bs k a b).map pv) (ch := []) (μ1 := μ) (ρ' := lwE sc (p3 k a b) (p3 k' a' b') d o5 o6 o7 none o9 (some (p3 Kb Ab Bb)) (some (p3 Kp Ap Bp)) (some (p3 Kt At Bt)) (some rest)) (it_lst (ev_dCall (ev_aCons (ev_var rfl) ev_aNil) b1 rfl)) rfl ?_
    have hS' := S'.bd
    exact lc_map0 pv _ (bs k a b) chk_nil (len_le (by show 2 ≤ 1000; decide)) fun u hu => ⟨_, rfl, ev_dCall (ev_aCons (ev_var rfl) (ev_aCons (ev_var rfl) ev_aNil)) (in_ok (k := k') (a := a') (b := b') (u := u) J.k0 (Nat.lt_trans hS'.2.1 (by decide)) (by have := J.b0; have := J.ba; omega) (Nat.lt_trans hS'.2.2.2.2 (by decide)) (Nat.lt_trans (S.rows u hu).2 (by decide)) μ).1 rfl⟩
  have hall : (bs k a b).all (inM k' a' b') = true ↔ ∀ u, Mt k a b u → Mt k' a' b' u := by
    rw [List.all_eq_true]
    constructor
    · intro h u hu
      exact Sp.least (Mt.zero _ _ _) (fun _ _ => Mt.add) (fun m _ => Mt.smul m) (fun r hr => (inM_iff J.k0).mp (h r hr)) (Mt.bs.mp hu)
    · intro h r hr
      exact (inM_iff J.k0).mpr (h r (Mt.bs.mpr (Sp.mem hr)))
  apply ev_seq (ρ' := lwE sc (p3 k a b) (p3 k' a' b') d o5 o6 o7 o8 o9 (some (p3 Kb Ab Bb)) none none none) (μ' := μ)
  case ha =>
    unfold La6
    exact ev_set (ev_dCall (ev_aCons (ev_d2 (ev_dCall (ev_aCons (ev_var rfl) ev_aNil) b1 rfl) (ev_dCall (ev_aCons (ev_var rfl) ev_aNil) b2 rfl) addb) ev_aNil) both rfl) rfl
  apply ev_seq (ρ' := lwE sc (p3 k a b) (p3 k' a' b') d o5 o6 o7 o8 o9 (some (p3 Kb Ab Bb)) (some (p3 Kp Ap Bp)) none none) (μ' := μ)
  case ha =>
    unfold La7
    exact ev_set (ev_dCall (ev_aCons (ev_var rfl) (ev_aCons (ev_var rfl) (ev_aCons (ev_var rfl) ev_aNil))) prod rfl) rfl
  apply ev_seq
  case ha =>
    unfold La8
    refine no_if (ev_tOr_f (μ1 := μ) (ev_tNo (b := true) (ev_tTru (x := .bl true) ?_ rfl) rfl) (ev_tNo (b := true) (ev_tTru (x := .bl true) ?_ rfl) rfl))
    · exact ev_dCall (ev_aCons (ev_dCall (ev_aCons (ev_var rfl) (ev_aCons (ev_var rfl) (ev_aCons (ev_var rfl) ev_aNil))) su rfl) (ev_aCons (ev_var rfl) ev_aNil)) (p3_al _ _ _ μ) rfl
    · exact ev_dCall (ev_aCons (ev_dCall (ev_aCons (ev_var rfl) (ev_aCons (ev_var rfl) (ev_aCons (ev_var rfl) ev_aNil))) pr rfl) (ev_aCons (ev_var rfl) ev_aNil)) (p3_al _ _ _ μ) rfl
  apply ev_seq (ρ' := lwE sc (p3 k a b) (p3 k' a' b') d o5 o6 o7 o8 o9 (some (p3 Kb Ab Bb)) (some (p3 Kp Ap Bp)) (some (p3 Kt At Bt)) none) (μ' := μ)
  case ha =>
    unfold La9
    exact ev_set (ev_dCall (ev_aCons compC ev_aNil) turned rfl) rfl
  apply ev_seq
  case ha =>
    unfold La10
    refine no_if (ev_tNo (b := true) (ev_tTru (x := .bl true) ?_ rfl) rfl)
    exact ev_dCall (ev_aCons (ev_dCall (ev_aCons (ev_var rfl) (ev_aCons (ev_var rfl) ev_aNil)) ci rfl) (ev_aCons (ev_var rfl) ev_aNil)) (p3_al _ _ _ μ) rfl
  apply ev_seq
  case ha =>
    unfold La11
    have mk := mulW μ S.bd.2.1 S.bd.2.1 (by decide) (by decide)
    have mk2 : f_mul (.int (k * k)) (.int a) μ = some (.int (k * k * a), μ) := mulW μ (show (k * k).natAbs < 2 ^ (7 + 7) from wide_lt S.bd.2.1 S.bd.2.1) S.bd.2.2.1 (by decide) (by decide)
    refine no_if (ev_tOr_f (ev_tB (ev_d2 (ev_dCall (ev_aCons (ev_var rfl) (ev_aCons (ev_var rfl) (ev_aCons (ev_var rfl) ev_aNil))) q1 rfl) (ev_var rfl) (p3_ne k a b μ))) (ev_tB (ev_d2 (ev_dCall (ev_aCons (ev_var rfl) (ev_aCons (ev_var rfl) (ev_aCons (ev_var rfl) ev_aNil))) one1 rfl) ?_ (p3_ne (k * k * a) 1 0 μ))))
    exact ev_dTup (ev_aCons (ev_d2 (ev_d2 (ev_d2 (ev_var rfl) ev_K rfl) (ev_d2 (ev_var rfl) ev_K rfl) mk) (ev_d2 (ev_var rfl) ev_K rfl) mk2) (ev_aCons ev_K (ev_aCons ev_K ev_aNil))) (len_le (by show 3 ≤ 1000; decide))
  apply ev_seq (ρ' := lwE sc (p3 k a b) (p3 k' a' b') d o5 o6 o7 o8 o9 (some (p3 Kb Ab Bb)) (some (p3 Kp Ap Bp)) (some (p3 Kt At Bt)) (some rest)) (μ' := μ)
  case ha =>
    unfold La12
    exact ev_set (ev_dCall (ev_aCons (ev_var rfl) (ev_aCons (ev_var rfl) (ev_aCons (ev_var rfl) ev_aNil))) q2 rfl) rfl
  have test : tTru (dN f_all (aCons (dLc [8] (itSeq (dCall 1 p_lba (aCons (cVar 3) aNil))) (gNm 8) tAll (dCall 2 p_in (aCons (cVar 4) (aCons (cVar 8) aNil)))) aNil)) (lwE sc (p3 k a b) (p3 k' a' b') d o5 o6 o7 o8 o9 (some (p3 Kb Ab Bb)) (some (p3 Kp Ap Bp)) (some (p3 Kt At Bt)) (some rest)) μ = some ((bs k a b).all (inM k' a' b'), μ) :=
    ev_tTru (ev_dN (ev_aCons compI ev_aNil) (all_bl' (bs k a b) _)) rfl
  cases hz : (bs k a b).all (inM k' a' b') with
  | true =>
    rw [hz] at test
    have hdv : k' * k' * a' ∣ Kw := Q.in_of (hall.mp hz)
    have hr : rest = p3 (Kw / (k' * k' * a')) Aw Bw := if_pos hdv
    obtain ⟨Ir, hrs⟩ := Q.rest hdv
    rw [hr] at test ⊢
    have Sr : Sz 14 (Kw / (k' * k' * a')) Aw Bw := ⟨Ir.toHnf, by
      have h1 : Kw / (k' * k' * a') ≤ Kw := Int.ediv_le_self _ (by have := Iw.k0; omega)
      have h2 : Kw / (k' * k' * a') * Aw ≤ Kw * Aw := Int.mul_le_mul_of_nonneg_right h1 (by have := Iw.b0; have := Iw.ba; omega)
      have h3 := Sw.lt
      omega⟩
    have q3 := lpr_ok hd Sr S' (by decide) I.toHnf hrs (S.a20 (by decide)) μ
    have tr : tre 3 (p3 (Kw / (k' * k' * a')) Aw Bw) 1 = true := by
      have B := Sr.bd
      refine tre_tup.mpr ⟨Nat.le_refl 3, fun x hx => ?_⟩
      simp only [List.mem_cons, List.not_mem_nil, or_false] at hx
      rcases hx with rfl | rfl | rfl
      · exact decide_eq_true (Nat.lt_trans B.2.1 (by decide))
      · exact decide_eq_true (Nat.lt_trans B.2.2.1 (by decide))
      · exact decide_eq_true (Nat.lt_trans B.2.2.2.2 (by decide))
    have q4 := (isd_ok hd tr μ).2
    have q5 : isIdl d (p3 (Kw / (k' * k' * a')) Aw Bw) = true := by
      show idB d _ _ _ = true
      unfold idB
      rw [decide_eq_true Ir.k0, decide_eq_true Ir.b0, decide_eq_true Ir.ba, decide_eq_true (Int.emod_eq_zero_of_dvd Ir.dv)]
      rfl
    rw [q5] at q4
    apply ev_seq_rt
    unfold La13
    refine ev_sIf_t test (ev_ret (ev_an_t (x := .bl true) (ev_d2 (ev_var rfl) ev_K rfl) rfl (ev_an_t (x := .bl true) (ev_dCall (ev_aCons (ev_var rfl) (ev_aCons (ev_var rfl) ev_aNil)) q4 rfl) rfl ?_)))
    exact ev_d2 (ev_dCall (ev_aCons (ev_var rfl) (ev_aCons (ev_var rfl) (ev_aCons (ev_var rfl) ev_aNil))) q3 rfl) (ev_var rfl) (p3_eq k a b μ)
  | false =>
    rw [hz] at test
    have hdv : ¬ k' * k' * a' ∣ Kw := fun h => by
      have := hall.mpr (Q.of_dvd h)
      rw [hz] at this
      cases this
    have hr : rest = .non := if_neg hdv
    rw [hr] at test ⊢
    apply ev_seq
    case ha =>
      unfold La13
      exact no_if test
    unfold La14
    exact ev_ret (ev_d2 (ev_var rfl) ev_K rfl)
theorem law_ok {pt : Fn} (ht : TakeOk pt) {ns : List Int} (hn : ns.length ≤ 63) : ∃ μ, LL pt [some (.scr ns), none, none, none, none, none, none, none, none, none, none, none, none, none] [] = some (.rt (.bl true) μ) := by
  obtain ⟨s, ok, e0⟩ := start_ok (μ := []) hn
  obtain ⟨d, s1, hk, ok1, e1⟩ := ki_ok ht (r := []) (s := s) (n := 1000) (ok.le (by decide))
  have hd := kinds_lt d hk
  obtain ⟨k, a, b, s2, I, ok2, e2⟩ := sid_ok ht hd (r := []) (s := s1) (n := 900) (ok1.le (by decide))
  obtain ⟨k', a', b', s3, J, ok3, e3⟩ := sid_ok ht hd (r := []) (s := s2) (n := 800) (ok2.le (by decide))
  obtain ⟨p5, p6, p7, p8, s4, ok4, e4⟩ := turns_ok ht (.scr ns) hd I (p3 k' a' b') 6 0 s3 600 (ok3.le (by decide)) none none none none
  obtain ⟨us, s5, hl, hu, ok5, e5⟩ := nums_ok ht (.scr ns) (p3 k a b) (p3 k' a' b') d s4 500 (ok4.le (by decide)) p5 p6 p7 p8
  have e6 := ids_ok (pt := pt) (.scr ns) (p3 k a b) (p3 k' a' b') hk hl hu p5 p6 p7 p8 [s5.ob]
  have e7 := end_ok pt (.scr ns) hk I J p5 p6 p7 p8 (some (.lst (us.map pv))) [s5.ob]
  refine ⟨[s5.ob], ?_⟩
  unfold LL
  apply ev_seq (ρ' := [some (.scr ns), some (.loc 0), none, none, none, none, none, none, none, none, none, none, none, none]) (μ' := [s.ob])
  case ha =>
    unfold La0
    exact ev_set (ev_dCall (ev_aCons (ev_var rfl) ev_aNil) e0 rfl) rfl
  apply ev_seq (ρ' := [some (.scr ns), some (.loc 0), some (.int d), none, none, none, none, none, none, none, none, none, none, none]) (μ' := [s1.ob])
  case ha =>
    unfold La1
    exact ev_set (ev_dCall (ev_aCons (ev_var rfl) ev_aNil) e1 rfl) rfl
  apply ev_seq (ρ' := lwE (.scr ns) (p3 k a b) (p3 k' a' b') d none none none none none none none none none) (μ' := [s3.ob])
  case ha =>
    unfold La2
    exact ev_asg (ev_dTup (ev_aCons (ev_dCall (ev_aCons (ev_var rfl) (ev_aCons (ev_var rfl) ev_aNil)) e2 rfl) (ev_aCons (ev_dCall (ev_aCons (ev_var rfl) (ev_aCons (ev_var rfl) ev_aNil)) e3 rfl) ev_aNil)) (len_le (by show 2 ≤ 1000; decide))) rfl
  apply ev_seq
  case ha =>
    unfold La3
    exact ev_for (it_rg1 (j := 6) (n := 6) rfl (by decide) rfl) e4
  exact ev_seq e5 (ev_seq e6 e7)
end K17

/-! K17y: the head's run. -/
namespace K17
open PySem PySem.Spec PyProof.Rows L2
def D0 : He.DefD := ⟨("_law_start", none), "_law_start", "_law_start", defArgs s__law_start, defBody s__law_start, defScope s__law_start, [], []⟩
def D1 : He.DefD := ⟨("_law_fill", none), "_law_fill", "_law_fill", defArgs s__law_fill, defBody s__law_fill, defScope s__law_fill, [], []⟩
def D2 : He.DefD := ⟨("_law_take", none), "_law_take", "_law_take", defArgs s__law_take, defBody s__law_take, defScope s__law_take, [], []⟩
def D3 : He.DefD := ⟨("_law_kind", none), "_law_kind", "_law_kind", defArgs s__law_kind, defBody s__law_kind, defScope s__law_kind, [], []⟩
def D4 : He.DefD := ⟨("_law_t", none), "_law_t", "_law_t", defArgs s__law_t, defBody s__law_t, defScope s__law_t, [], []⟩
def D5 : He.DefD := ⟨("_law_times_in", none), "_law_times_in", "_law_times_in", defArgs s__law_times_in, defBody s__law_times_in, defScope s__law_times_in, [], []⟩
def D6 : He.DefD := ⟨("_law_conjugate", none), "_law_conjugate", "_law_conjugate", defArgs s__law_conjugate, defBody s__law_conjugate, defScope s__law_conjugate, [], []⟩
def D7 : He.DefD := ⟨("_law_norm", none), "_law_norm", "_law_norm", defArgs s__law_norm, defBody s__law_norm, defScope s__law_norm, [], []⟩
def D8 : He.DefD := ⟨("_law_ideals", none), "_law_ideals", "_law_ideals", defArgs s__law_ideals, defBody s__law_ideals, defScope s__law_ideals, [], []⟩
def D9 : He.DefD := ⟨("_law_some_ideal", none), "_law_some_ideal", "_law_some_ideal", defArgs s__law_some_ideal, defBody s__law_some_ideal, defScope s__law_some_ideal, [], []⟩
def D10 : He.DefD := ⟨("_law_spoilt", none), "_law_spoilt", "_law_spoilt", defArgs s__law_spoilt, defBody s__law_spoilt, defScope s__law_spoilt, [], []⟩
def D11 : He.DefD := ⟨("_law_bent", none), "_law_bent", "_law_bent", defArgs s__law_bent, defBody s__law_bent, defScope s__law_bent, [], []⟩
def D12 : He.DefD := ⟨("is_integer", none), "is_integer", "is_integer", defArgs s_is_integer, defBody s_is_integer, defScope s_is_integer, [], []⟩
def D13 : He.DefD := ⟨("trace_of_w", none), "trace_of_w", "trace_of_w", defArgs s_trace_of_w, defBody s_trace_of_w, defScope s_trace_of_w, [], []⟩
def D14 : He.DefD := ⟨("norm_of_w", none), "norm_of_w", "norm_of_w", defArgs s_norm_of_w, defBody s_norm_of_w, defScope s_norm_of_w, [], []⟩
def D15 : He.DefD := ⟨("norm_in", none), "norm_in", "norm_in", defArgs s_norm_in, defBody s_norm_in, defScope s_norm_in, [], []⟩
def D16 : He.DefD := ⟨("is_ideal", none), "is_ideal", "is_ideal", defArgs s_is_ideal, defBody s_is_ideal, defScope s_is_ideal, [], []⟩
def D17 : He.DefD := ⟨("_law_is_int", none), "_law_is_int", "_law_is_int", defArgs s__law_is_int, defBody s__law_is_int, defScope s__law_is_int, [], []⟩
def D18 : He.DefD := ⟨("_law_is_ideal", none), "_law_is_ideal", "_law_is_ideal", defArgs s__law_is_ideal, defBody s__law_is_ideal, defScope s__law_is_ideal, [], []⟩
def D19 : He.DefD := ⟨("holds", none), "holds", "holds", defArgs s_holds, defBody s_holds, defScope s_holds, [], []⟩
def D20 : He.DefD := ⟨("_law_is_in", none), "_law_is_in", "_law_is_in", defArgs s__law_is_in, defBody s__law_is_in, defScope s__law_is_in, [], []⟩
def D21 : He.DefD := ⟨("_law_alike", none), "_law_alike", "_law_alike", defArgs s__law_alike, defBody s__law_alike, defScope s__law_alike, [], []⟩
def D22 : He.DefD := ⟨("_law_gcd", none), "_law_gcd", "_law_gcd", defArgs s__law_gcd, defBody s__law_gcd, defScope s__law_gcd, [], []⟩
def D23 : He.DefD := ⟨("_law_spanned", none), "_law_spanned", "_law_spanned", defArgs s__law_spanned, defBody s__law_spanned, defScope s__law_spanned, [], []⟩
def D24 : He.DefD := ⟨("_law_ideal_of", none), "_law_ideal_of", "_law_ideal_of", defArgs s__law_ideal_of, defBody s__law_ideal_of, defScope s__law_ideal_of, [], []⟩
def D25 : He.DefD := ⟨("times_in", none), "times_in", "times_in", defArgs s_times_in, defBody s_times_in, defScope s_times_in, [], []⟩
def D26 : He.DefD := ⟨("with_cofactors", none), "with_cofactors", "with_cofactors", defArgs s_with_cofactors, defBody s_with_cofactors, defScope s_with_cofactors, [], []⟩
def D27 : He.DefD := ⟨("common_divisor", none), "common_divisor", "common_divisor", defArgs s_common_divisor, defBody s_common_divisor, defScope s_common_divisor, [], []⟩
def D28 : He.DefD := ⟨("spanned", none), "spanned", "spanned", defArgs s_spanned, defBody s_spanned, defScope s_spanned, [], []⟩
def D29 : He.DefD := ⟨("ideal_of", none), "ideal_of", "ideal_of", defArgs s_ideal_of, defBody s_ideal_of, defScope s_ideal_of, [], []⟩
def D30 : He.DefD := ⟨("_law_basis", none), "_law_basis", "_law_basis", defArgs s__law_basis, defBody s__law_basis, defScope s__law_basis, [], []⟩
def D31 : He.DefD := ⟨("_law_product", none), "_law_product", "_law_product", defArgs s__law_product, defBody s__law_product, defScope s__law_product, [], []⟩
def D32 : He.DefD := ⟨("basis_of", none), "basis_of", "basis_of", defArgs s_basis_of, defBody s_basis_of, defScope s_basis_of, [], []⟩
def D33 : He.DefD := ⟨("sum_ideal", none), "sum_ideal", "sum_ideal", defArgs s_sum_ideal, defBody s_sum_ideal, defScope s_sum_ideal, [], []⟩
def D34 : He.DefD := ⟨("product_ideal", none), "product_ideal", "product_ideal", defArgs s_product_ideal, defBody s_product_ideal, defScope s_product_ideal, [], []⟩
def D35 : He.DefD := ⟨("conjugate_in", none), "conjugate_in", "conjugate_in", defArgs s_conjugate_in, defBody s_conjugate_in, defScope s_conjugate_in, [], []⟩
def D36 : He.DefD := ⟨("conjugate_ideal", none), "conjugate_ideal", "conjugate_ideal", defArgs s_conjugate_ideal, defBody s_conjugate_ideal, defScope s_conjugate_ideal, [], []⟩
def D37 : He.DefD := ⟨("norm_of", none), "norm_of", "norm_of", defArgs s_norm_of, defBody s_norm_of, defScope s_norm_of, [], []⟩
def D38 : He.DefD := ⟨("quotient_ideal", none), "quotient_ideal", "quotient_ideal", defArgs s_quotient_ideal, defBody s_quotient_ideal, defScope s_quotient_ideal, [], []⟩
def D39 : He.DefD := ⟨("law", none), "law", "law", defArgs s_law, defBody s_law, defScope s_law, [], []⟩
def fn : List He.DefD := [D0, D1, D2, D3, D4, D5, D6, D7, D8, D9, D10, D11, D12, D13, D14, D15, D16, D17, D18, D19, D20, D21, D22, D23, D24, D25, D26, D27, D28, D29, D30, D31, D32, D33, D34, D35, D36, D37, D38, D39]
def fa : List He.Fa := [.glo "_law_start", .glo "_law_fill", .glo "_law_take", .glo "_law_kind", .glo "_law_t", .glo "_law_times_in", .glo "_law_conjugate", .glo "_law_norm", .glo "_law_ideals", .glo "_law_some_ideal", .glo "_law_spoilt", .glo "_law_bent", .glo "is_integer", .glo "trace_of_w", .glo "norm_of_w", .glo "norm_in", .glo "is_ideal", .glo "_law_is_int", .glo "_law_is_ideal", .glo "holds", .glo "_law_is_in", .glo "_law_alike", .glo "_law_gcd", .glo "_law_spanned", .glo "_law_ideal_of", .glo "times_in", .glo "with_cofactors", .glo "common_divisor", .glo "spanned", .glo "ideal_of", .glo "_law_basis", .glo "_law_product", .glo "basis_of", .glo "sum_ideal", .glo "product_ideal", .glo "conjugate_in", .glo "conjugate_ideal", .glo "norm_of", .glo "quotient_ideal", .glo "law", .free "abs", .free "all", .free "any", .free "bool", .free "int", .free "isinstance", .free "len", .free "list", .free "range", .free "str", .free "tuple"]
def loose : List PySem.Str := (["is_integer", "common_divisor", "with_cofactors", "trace_of_w", "norm_of_w", "times_in", "conjugate_in", "norm_in", "is_ideal", "holds", "spanned", "ideal_of", "basis_of", "sum_ideal", "product_ideal", "conjugate_ideal", "norm_of", "quotient_ideal", "_law_start", "_law_fill"] : List PySem.Str) ++ (["_law_take", "_law_is_int", "_law_alike", "_law_spoilt", "_law_bent", "_law_gcd", "_law_power", "_law_primes", "_law_is_prime", "_law_kind", "_law_t", "_law_times_in", "_law_conjugate", "_law_norm", "_law_disc", "_law_is_in", "_law_basis", "_law_spanned", "_law_ideal_of", "_law_product"] : List PySem.Str) ++ (["_law_ideals", "_law_some_ideal", "_law_is_ideal"] : List PySem.Str)
abbrev R : PySem.W.OpenRow := PySem.W.OpenLaw.row PySem.Challenge.rw_primeworth_k17_ideals
abbrev hk : PySem.W.Hook := He.hookD 4 fa fn
def ob (s : PySem.W.SharedT) : He.AlD := He.obsDG 4 fa fn (HandSHeadRun.getT s)
theorem ob_eq (s : PySem.W.SharedT) : ob s = hk.obs s.abs := He.obsDG_eq (HandSHeadRun.getT_eq s)
theorem run (w : World) : HandSHeadRun.RunEq R (PySem.W.view R.prog [47]) hk ob 4000 loose w := by
  intro os
  kernel_rfl
end K17

/-! K17z: the joining. -/
namespace K17
open PySem PySem.Spec PyProof.Rows L2 Fd
noncomputable def p_fill : Fn := runF 2 d__law_fill
noncomputable def p_take : Fn := runF 3 (d__law_take p_fill)
theorem p_take_ok : TakeOk p_take := by first | exact takeOk fillOk1 | exact takeOk fillOk2
noncomputable def p_law : Fn := runF 14 (LL p_take)
theorem p_law_ok (ns : List Int) (hn : ns.length ≤ 63) : ∃ μ', p_law [.scr ns] [] = some (.bl true, μ') := by
  obtain ⟨μ, e⟩ := law_ok p_take_ok hn
  exact ⟨μ, runF_rt rfl e⟩
theorem facts {P : Program} {w : World} {K : PySem.W.Frag} {h : Heap} {mg : Str → Option Value} {f : Addr} (X : K.In h) (G : h.Ns mainGlobals mg) (hfa : mg ("law" : Str) = some (.ref f)) (c : He.SaysD fa fn K) :
    ∃ fd : FuncData, (∀ (s : Shared) (v : Value), BindsTo s fd ⟨[v], []⟩ [("script", v)]) ∧ ∀ base : Heap, K.In base → base.Ns mainGlobals mg → FnOk P w K mg base CX0 40 f fd ["script"] (spLaw K) := by
  obtain ⟨fd__law_start, F__law_start⟩ := c.def_ 0 (d := D0) rfl
  have g__law_start := He.glo_ok X G (c.fact 0 (f := .glo "_law_start") rfl)
  have F__law_start := fun_of (x := "_law_start") (qual := "_law_start") (st := s__law_start) F__law_start
  obtain ⟨fd__law_fill, F__law_fill⟩ := c.def_ 1 (d := D1) rfl
  have g__law_fill := He.glo_ok X G (c.fact 1 (f := .glo "_law_fill") rfl)
  have F__law_fill := fun_of (x := "_law_fill") (qual := "_law_fill") (st := s__law_fill) F__law_fill
  obtain ⟨fd__law_take, F__law_take⟩ := c.def_ 2 (d := D2) rfl
  have g__law_take := He.glo_ok X G (c.fact 2 (f := .glo "_law_take") rfl)
  have F__law_take := fun_of (x := "_law_take") (qual := "_law_take") (st := s__law_take) F__law_take
  obtain ⟨fd__law_kind, F__law_kind⟩ := c.def_ 3 (d := D3) rfl
  have g__law_kind := He.glo_ok X G (c.fact 3 (f := .glo "_law_kind") rfl)
  have F__law_kind := fun_of (x := "_law_kind") (qual := "_law_kind") (st := s__law_kind) F__law_kind
  obtain ⟨fd__law_t, F__law_t⟩ := c.def_ 4 (d := D4) rfl
  have g__law_t := He.glo_ok X G (c.fact 4 (f := .glo "_law_t") rfl)
  have F__law_t := fun_of (x := "_law_t") (qual := "_law_t") (st := s__law_t) F__law_t
  obtain ⟨fd__law_times_in, F__law_times_in⟩ := c.def_ 5 (d := D5) rfl
  have g__law_times_in := He.glo_ok X G (c.fact 5 (f := .glo "_law_times_in") rfl)
  have F__law_times_in := fun_of (x := "_law_times_in") (qual := "_law_times_in") (st := s__law_times_in) F__law_times_in
  obtain ⟨fd__law_conjugate, F__law_conjugate⟩ := c.def_ 6 (d := D6) rfl
  have g__law_conjugate := He.glo_ok X G (c.fact 6 (f := .glo "_law_conjugate") rfl)
  have F__law_conjugate := fun_of (x := "_law_conjugate") (qual := "_law_conjugate") (st := s__law_conjugate) F__law_conjugate
  obtain ⟨fd__law_norm, F__law_norm⟩ := c.def_ 7 (d := D7) rfl
  have g__law_norm := He.glo_ok X G (c.fact 7 (f := .glo "_law_norm") rfl)
  have F__law_norm := fun_of (x := "_law_norm") (qual := "_law_norm") (st := s__law_norm) F__law_norm
  obtain ⟨fd__law_ideals, F__law_ideals⟩ := c.def_ 8 (d := D8) rfl
  have g__law_ideals := He.glo_ok X G (c.fact 8 (f := .glo "_law_ideals") rfl)
  have F__law_ideals := fun_of (x := "_law_ideals") (qual := "_law_ideals") (st := s__law_ideals) F__law_ideals
  obtain ⟨fd__law_some_ideal, F__law_some_ideal⟩ := c.def_ 9 (d := D9) rfl
  have g__law_some_ideal := He.glo_ok X G (c.fact 9 (f := .glo "_law_some_ideal") rfl)
  have F__law_some_ideal := fun_of (x := "_law_some_ideal") (qual := "_law_some_ideal") (st := s__law_some_ideal) F__law_some_ideal
  obtain ⟨fd__law_spoilt, F__law_spoilt⟩ := c.def_ 10 (d := D10) rfl
  have g__law_spoilt := He.glo_ok X G (c.fact 10 (f := .glo "_law_spoilt") rfl)
  have F__law_spoilt := fun_of (x := "_law_spoilt") (qual := "_law_spoilt") (st := s__law_spoilt) F__law_spoilt
  obtain ⟨fd__law_bent, F__law_bent⟩ := c.def_ 11 (d := D11) rfl
  have g__law_bent := He.glo_ok X G (c.fact 11 (f := .glo "_law_bent") rfl)
  have F__law_bent := fun_of (x := "_law_bent") (qual := "_law_bent") (st := s__law_bent) F__law_bent
  obtain ⟨fd_is_integer, F_is_integer⟩ := c.def_ 12 (d := D12) rfl
  have g_is_integer := He.glo_ok X G (c.fact 12 (f := .glo "is_integer") rfl)
  have F_is_integer := fun_of (x := "is_integer") (qual := "is_integer") (st := s_is_integer) F_is_integer
  obtain ⟨fd_trace_of_w, F_trace_of_w⟩ := c.def_ 13 (d := D13) rfl
  have g_trace_of_w := He.glo_ok X G (c.fact 13 (f := .glo "trace_of_w") rfl)
  have F_trace_of_w := fun_of (x := "trace_of_w") (qual := "trace_of_w") (st := s_trace_of_w) F_trace_of_w
  obtain ⟨fd_norm_of_w, F_norm_of_w⟩ := c.def_ 14 (d := D14) rfl
  have g_norm_of_w := He.glo_ok X G (c.fact 14 (f := .glo "norm_of_w") rfl)
  have F_norm_of_w := fun_of (x := "norm_of_w") (qual := "norm_of_w") (st := s_norm_of_w) F_norm_of_w
  obtain ⟨fd_norm_in, F_norm_in⟩ := c.def_ 15 (d := D15) rfl
  have g_norm_in := He.glo_ok X G (c.fact 15 (f := .glo "norm_in") rfl)
  have F_norm_in := fun_of (x := "norm_in") (qual := "norm_in") (st := s_norm_in) F_norm_in
  obtain ⟨fd_is_ideal, F_is_ideal⟩ := c.def_ 16 (d := D16) rfl
  have g_is_ideal := He.glo_ok X G (c.fact 16 (f := .glo "is_ideal") rfl)
  have F_is_ideal := fun_of (x := "is_ideal") (qual := "is_ideal") (st := s_is_ideal) F_is_ideal
  obtain ⟨fd__law_is_int, F__law_is_int⟩ := c.def_ 17 (d := D17) rfl
  have g__law_is_int := He.glo_ok X G (c.fact 17 (f := .glo "_law_is_int") rfl)
  have F__law_is_int := fun_of (x := "_law_is_int") (qual := "_law_is_int") (st := s__law_is_int) F__law_is_int
  obtain ⟨fd__law_is_ideal, F__law_is_ideal⟩ := c.def_ 18 (d := D18) rfl
  have g__law_is_ideal := He.glo_ok X G (c.fact 18 (f := .glo "_law_is_ideal") rfl)
  have F__law_is_ideal := fun_of (x := "_law_is_ideal") (qual := "_law_is_ideal") (st := s__law_is_ideal) F__law_is_ideal
  obtain ⟨fd_holds, F_holds⟩ := c.def_ 19 (d := D19) rfl
  have g_holds := He.glo_ok X G (c.fact 19 (f := .glo "holds") rfl)
  have F_holds := fun_of (x := "holds") (qual := "holds") (st := s_holds) F_holds
  obtain ⟨fd__law_is_in, F__law_is_in⟩ := c.def_ 20 (d := D20) rfl
  have g__law_is_in := He.glo_ok X G (c.fact 20 (f := .glo "_law_is_in") rfl)
  have F__law_is_in := fun_of (x := "_law_is_in") (qual := "_law_is_in") (st := s__law_is_in) F__law_is_in
  obtain ⟨fd__law_alike, F__law_alike⟩ := c.def_ 21 (d := D21) rfl
  have g__law_alike := He.glo_ok X G (c.fact 21 (f := .glo "_law_alike") rfl)
  have F__law_alike := fun_of (x := "_law_alike") (qual := "_law_alike") (st := s__law_alike) F__law_alike
  obtain ⟨fd__law_gcd, F__law_gcd⟩ := c.def_ 22 (d := D22) rfl
  have g__law_gcd := He.glo_ok X G (c.fact 22 (f := .glo "_law_gcd") rfl)
  have F__law_gcd := fun_of (x := "_law_gcd") (qual := "_law_gcd") (st := s__law_gcd) F__law_gcd
  obtain ⟨fd__law_spanned, F__law_spanned⟩ := c.def_ 23 (d := D23) rfl
  have g__law_spanned := He.glo_ok X G (c.fact 23 (f := .glo "_law_spanned") rfl)
  have F__law_spanned := fun_of (x := "_law_spanned") (qual := "_law_spanned") (st := s__law_spanned) F__law_spanned
  obtain ⟨fd__law_ideal_of, F__law_ideal_of⟩ := c.def_ 24 (d := D24) rfl
  have g__law_ideal_of := He.glo_ok X G (c.fact 24 (f := .glo "_law_ideal_of") rfl)
  have F__law_ideal_of := fun_of (x := "_law_ideal_of") (qual := "_law_ideal_of") (st := s__law_ideal_of) F__law_ideal_of
  obtain ⟨fd_times_in, F_times_in⟩ := c.def_ 25 (d := D25) rfl
  have g_times_in := He.glo_ok X G (c.fact 25 (f := .glo "times_in") rfl)
  have F_times_in := fun_of (x := "times_in") (qual := "times_in") (st := s_times_in) F_times_in
  obtain ⟨fd_with_cofactors, F_with_cofactors⟩ := c.def_ 26 (d := D26) rfl
  have g_with_cofactors := He.glo_ok X G (c.fact 26 (f := .glo "with_cofactors") rfl)
  have F_with_cofactors := fun_of (x := "with_cofactors") (qual := "with_cofactors") (st := s_with_cofactors) F_with_cofactors
  obtain ⟨fd_common_divisor, F_common_divisor⟩ := c.def_ 27 (d := D27) rfl
  have g_common_divisor := He.glo_ok X G (c.fact 27 (f := .glo "common_divisor") rfl)
  have F_common_divisor := fun_of (x := "common_divisor") (qual := "common_divisor") (st := s_common_divisor) F_common_divisor
  obtain ⟨fd_spanned, F_spanned⟩ := c.def_ 28 (d := D28) rfl
  have g_spanned := He.glo_ok X G (c.fact 28 (f := .glo "spanned") rfl)
  have F_spanned := fun_of (x := "spanned") (qual := "spanned") (st := s_spanned) F_spanned
  obtain ⟨fd_ideal_of, F_ideal_of⟩ := c.def_ 29 (d := D29) rfl
  have g_ideal_of := He.glo_ok X G (c.fact 29 (f := .glo "ideal_of") rfl)
  have F_ideal_of := fun_of (x := "ideal_of") (qual := "ideal_of") (st := s_ideal_of) F_ideal_of
  obtain ⟨fd__law_basis, F__law_basis⟩ := c.def_ 30 (d := D30) rfl
  have g__law_basis := He.glo_ok X G (c.fact 30 (f := .glo "_law_basis") rfl)
  have F__law_basis := fun_of (x := "_law_basis") (qual := "_law_basis") (st := s__law_basis) F__law_basis
  obtain ⟨fd__law_product, F__law_product⟩ := c.def_ 31 (d := D31) rfl
  have g__law_product := He.glo_ok X G (c.fact 31 (f := .glo "_law_product") rfl)
  have F__law_product := fun_of (x := "_law_product") (qual := "_law_product") (st := s__law_product) F__law_product
  obtain ⟨fd_basis_of, F_basis_of⟩ := c.def_ 32 (d := D32) rfl
  have g_basis_of := He.glo_ok X G (c.fact 32 (f := .glo "basis_of") rfl)
  have F_basis_of := fun_of (x := "basis_of") (qual := "basis_of") (st := s_basis_of) F_basis_of
  obtain ⟨fd_sum_ideal, F_sum_ideal⟩ := c.def_ 33 (d := D33) rfl
  have g_sum_ideal := He.glo_ok X G (c.fact 33 (f := .glo "sum_ideal") rfl)
  have F_sum_ideal := fun_of (x := "sum_ideal") (qual := "sum_ideal") (st := s_sum_ideal) F_sum_ideal
  obtain ⟨fd_product_ideal, F_product_ideal⟩ := c.def_ 34 (d := D34) rfl
  have g_product_ideal := He.glo_ok X G (c.fact 34 (f := .glo "product_ideal") rfl)
  have F_product_ideal := fun_of (x := "product_ideal") (qual := "product_ideal") (st := s_product_ideal) F_product_ideal
  obtain ⟨fd_conjugate_in, F_conjugate_in⟩ := c.def_ 35 (d := D35) rfl
  have g_conjugate_in := He.glo_ok X G (c.fact 35 (f := .glo "conjugate_in") rfl)
  have F_conjugate_in := fun_of (x := "conjugate_in") (qual := "conjugate_in") (st := s_conjugate_in) F_conjugate_in
  obtain ⟨fd_conjugate_ideal, F_conjugate_ideal⟩ := c.def_ 36 (d := D36) rfl
  have g_conjugate_ideal := He.glo_ok X G (c.fact 36 (f := .glo "conjugate_ideal") rfl)
  have F_conjugate_ideal := fun_of (x := "conjugate_ideal") (qual := "conjugate_ideal") (st := s_conjugate_ideal) F_conjugate_ideal
  obtain ⟨fd_norm_of, F_norm_of⟩ := c.def_ 37 (d := D37) rfl
  have g_norm_of := He.glo_ok X G (c.fact 37 (f := .glo "norm_of") rfl)
  have F_norm_of := fun_of (x := "norm_of") (qual := "norm_of") (st := s_norm_of) F_norm_of
  obtain ⟨fd_quotient_ideal, F_quotient_ideal⟩ := c.def_ 38 (d := D38) rfl
  have g_quotient_ideal := He.glo_ok X G (c.fact 38 (f := .glo "quotient_ideal") rfl)
  have F_quotient_ideal := fun_of (x := "quotient_ideal") (qual := "quotient_ideal") (st := s_quotient_ideal) F_quotient_ideal
  obtain ⟨fd_law, F_law⟩ := c.def_ 39 (d := D39) rfl
  have g_law := He.glo_ok X G (c.fact 39 (f := .glo "law") rfl)
  have F0_law := F_law
  have F_law := fun_of (x := "law") (qual := "law") (st := s_law) F_law
  have m : MG mg := ⟨He.free_ok X G (c.fact 40 (f := .free "abs") rfl), He.free_ok X G (c.fact 41 (f := .free "all") rfl), He.free_ok X G (c.fact 42 (f := .free "any") rfl), He.free_ok X G (c.fact 43 (f := .free "bool") rfl), He.free_ok X G (c.fact 44 (f := .free "int") rfl), He.free_ok X G (c.fact 45 (f := .free "isinstance") rfl), He.free_ok X G (c.fact 46 (f := .free "len") rfl), He.free_ok X G (c.fact 47 (f := .free "list") rfl), He.free_ok X G (c.fact 48 (f := .free "range") rfl), He.free_ok X G (c.fact 49 (f := .free "str") rfl), He.free_ok X G (c.fact 50 (f := .free "tuple") rfl)⟩
  have e := hfa.symm.trans g_law
  cases e
  have hb := FunD.bindsA (ps := ["script"]) F0_law fun _ _ _ _ _ _ us hl => match us, hl with | [_], _ => rfl
  refine ⟨fd_law, fun s v => hb s [v] rfl, fun base _ _ => ?_⟩
  have c__law_start : Callee P w K mg base 1 "_law_start" 1 p_st := w__law_start (j := 0) m  F__law_start g__law_start runF_does
  have c__law_fill : Callee P w K mg base 1 "_law_fill" 1 p_fill := w__law_fill (j := 0) m  F__law_fill g__law_fill runF_does
  have c__law_take : Callee P w K mg base 2 "_law_take" 2 p_take := w__law_take (j := 1) m (c__law_fill.mono (by decide)) F__law_take g__law_take runF_does
  have c__law_kind : Callee P w K mg base 3 "_law_kind" 1 (p_ki p_take) := w__law_kind (j := 2) m (c__law_take.mono (by decide)) F__law_kind g__law_kind runF_does
  have c__law_t : Callee P w K mg base 1 "_law_t" 1 p_lt := w__law_t (j := 0) m  F__law_t g__law_t runF_does
  have c__law_times_in : Callee P w K mg base 2 "_law_times_in" 3 p_ltm := w__law_times_in (j := 1) m (c__law_t.mono (by decide)) F__law_times_in g__law_times_in runF_does
  have c__law_conjugate : Callee P w K mg base 2 "_law_conjugate" 2 p_lcj := w__law_conjugate (j := 1) m (c__law_t.mono (by decide)) F__law_conjugate g__law_conjugate runF_does
  have c__law_norm : Callee P w K mg base 3 "_law_norm" 2 p_ln := w__law_norm (j := 2) m (c__law_times_in.mono (by decide)) (c__law_conjugate.mono (by decide)) F__law_norm g__law_norm runF_does
  have c__law_ideals : Callee P w K mg base 4 "_law_ideals" 2 p_lid := w__law_ideals (j := 3) m (c__law_norm.mono (by decide)) F__law_ideals g__law_ideals runF_does
  have c__law_some_ideal : Callee P w K mg base 5 "_law_some_ideal" 2 (p_sid p_take) := w__law_some_ideal (j := 4) m (c__law_ideals.mono (by decide)) (c__law_take.mono (by decide)) F__law_some_ideal g__law_some_ideal runF_does
  have r__law_spoilt : ∀ k : Nat, Callee P w K mg base (k + 2) "_law_spoilt" 2 (pSpoilt p_take k) := fun k => by
    induction k with
    | zero => exact (callee_bot (ps := ["c", "value"]) g__law_spoilt F__law_spoilt.kp (F__law_spoilt.binds fun _ _ _ _ _ _ us hl => match us, hl with | [_, _], _ => rfl) : Callee P w K mg base 0 "_law_spoilt" 2 _).mono (Nat.zero_le _)
    | succ k ih =>
      have ih : Callee P w K mg base (k + 2) "_law_spoilt" 2 (pSpoilt p_take k) := ih
      have q := w__law_spoilt (j := k + 2) m (c__law_take.mono (by omega)) ih F__law_spoilt g__law_spoilt runF_does
      rw [show k + 1 + 2 = k + 2 + 1 by omega]
      exact q
  have c__law_spoilt := r__law_spoilt 2
  have c__law_bent : Callee P w K mg base 5 "_law_bent" 3 (p_bt p_take) := w__law_bent (j := 4) m (c__law_take.mono (by decide)) (c__law_spoilt.mono (by decide)) F__law_bent g__law_bent runF_does
  have c_is_integer : Callee P w K mg base 1 "is_integer" 1 p_ii := w_is_integer (j := 0) m  F_is_integer g_is_integer runF_does
  have c_trace_of_w : Callee P w K mg base 1 "trace_of_w" 1 p_tr := w_trace_of_w (j := 0) m  F_trace_of_w g_trace_of_w runF_does
  have c_norm_of_w : Callee P w K mg base 1 "norm_of_w" 1 p_nw := w_norm_of_w (j := 0) m  F_norm_of_w g_norm_of_w runF_does
  have c_norm_in : Callee P w K mg base 2 "norm_in" 2 p_nm := w_norm_in (j := 1) m (c_trace_of_w.mono (by decide)) (c_norm_of_w.mono (by decide)) F_norm_in g_norm_in runF_does
  have c_is_ideal : Callee P w K mg base 3 "is_ideal" 2 p_isd := w_is_ideal (j := 2) m (c_is_integer.mono (by decide)) (c_norm_in.mono (by decide)) F_is_ideal g_is_ideal runF_does
  have c__law_is_int : Callee P w K mg base 1 "_law_is_int" 1 p_lii := w__law_is_int (j := 0) m  F__law_is_int g__law_is_int runF_does
  have c__law_is_ideal : Callee P w K mg base 4 "_law_is_ideal" 2 p_lisd := w__law_is_ideal (j := 3) m (c__law_is_int.mono (by decide)) (c__law_norm.mono (by decide)) F__law_is_ideal g__law_is_ideal runF_does
  have c_holds : Callee P w K mg base 1 "holds" 3 p_holds := w_holds (j := 0) m  F_holds g_holds runF_does
  have c__law_is_in : Callee P w K mg base 1 "_law_is_in" 2 p_in := w__law_is_in (j := 0) m  F__law_is_in g__law_is_in runF_does
  have r__law_alike : ∀ k : Nat, Callee P w K mg base (k + 0) "_law_alike" 2 (pAlike k) := fun k => by
    induction k with
    | zero => exact (callee_bot (ps := ["value", "due"]) g__law_alike F__law_alike.kp (F__law_alike.binds fun _ _ _ _ _ _ us hl => match us, hl with | [_, _], _ => rfl) : Callee P w K mg base 0 "_law_alike" 2 _).mono (Nat.zero_le _)
    | succ k ih =>
      have ih : Callee P w K mg base (k + 0) "_law_alike" 2 (pAlike k) := ih
      have q := w__law_alike (j := k + 0) m ih F__law_alike g__law_alike runF_does
      rw [show k + 1 + 0 = k + 0 + 1 by omega]
      exact q
  have c__law_alike := r__law_alike 8
  have c__law_gcd : Callee P w K mg base 1 "_law_gcd" 2 p_gcd := w__law_gcd (j := 0) m  F__law_gcd g__law_gcd runF_does
  have c__law_spanned : Callee P w K mg base 2 "_law_spanned" 1 p_lsp := w__law_spanned (j := 1) m (c__law_gcd.mono (by decide)) (c__law_is_in.mono (by decide)) F__law_spanned g__law_spanned runF_does
  have c__law_ideal_of : Callee P w K mg base 3 "_law_ideal_of" 2 p_lio := w__law_ideal_of (j := 2) m (c__law_times_in.mono (by decide)) (c__law_spanned.mono (by decide)) F__law_ideal_of g__law_ideal_of runF_does
  have c_times_in : Callee P w K mg base 2 "times_in" 3 p_tm := w_times_in (j := 1) m (c_trace_of_w.mono (by decide)) (c_norm_of_w.mono (by decide)) F_times_in g_times_in runF_does
  have c_with_cofactors : Callee P w K mg base 1 "with_cofactors" 2 p_wc := w_with_cofactors (j := 0) m  F_with_cofactors g_with_cofactors runF_does
  have c_common_divisor : Callee P w K mg base 1 "common_divisor" 2 p_gcd := w_common_divisor (j := 0) m  F_common_divisor g_common_divisor runF_does
  have c_spanned : Callee P w K mg base 2 "spanned" 1 p_sp := w_spanned (j := 1) m (c_with_cofactors.mono (by decide)) (c_common_divisor.mono (by decide)) F_spanned g_spanned runF_does
  have c_ideal_of : Callee P w K mg base 3 "ideal_of" 2 p_io := w_ideal_of (j := 2) m (c_times_in.mono (by decide)) (c_spanned.mono (by decide)) F_ideal_of g_ideal_of runZ_does
  have c__law_basis : Callee P w K mg base 1 "_law_basis" 1 p_lba := w__law_basis (j := 0) m  F__law_basis g__law_basis runF_does
  have c__law_product : Callee P w K mg base 3 "_law_product" 3 p_lpr := w__law_product (j := 2) m (c__law_basis.mono (by decide)) (c__law_times_in.mono (by decide)) (c__law_spanned.mono (by decide)) F__law_product g__law_product runF_does
  have c_basis_of : Callee P w K mg base 1 "basis_of" 1 p_ba := w_basis_of (j := 0) m  F_basis_of g_basis_of runF_does
  have c_sum_ideal : Callee P w K mg base 3 "sum_ideal" 3 p_su := w_sum_ideal (j := 2) m (c_spanned.mono (by decide)) (c_basis_of.mono (by decide)) F_sum_ideal g_sum_ideal runF_does
  have c_product_ideal : Callee P w K mg base 3 "product_ideal" 3 p_pr := w_product_ideal (j := 2) m (c_spanned.mono (by decide)) (c_basis_of.mono (by decide)) (c_times_in.mono (by decide)) F_product_ideal g_product_ideal runF_does
  have c_conjugate_in : Callee P w K mg base 2 "conjugate_in" 2 p_cj := w_conjugate_in (j := 1) m (c_trace_of_w.mono (by decide)) F_conjugate_in g_conjugate_in runF_does
  have c_conjugate_ideal : Callee P w K mg base 3 "conjugate_ideal" 2 p_ci := w_conjugate_ideal (j := 2) m (c_spanned.mono (by decide)) (c_basis_of.mono (by decide)) (c_conjugate_in.mono (by decide)) F_conjugate_ideal g_conjugate_ideal runF_does
  have c_norm_of : Callee P w K mg base 1 "norm_of" 1 p_no := w_norm_of (j := 0) m  F_norm_of g_norm_of runF_does
  have c_quotient_ideal : Callee P w K mg base 4 "quotient_ideal" 3 p_qu := w_quotient_ideal (j := 3) m (c_product_ideal.mono (by decide)) (c_conjugate_ideal.mono (by decide)) (c_norm_of.mono (by decide)) F_quotient_ideal g_quotient_ideal runF_does
  refine FnOk.imp (fn_ok (j := 39) (ψ := p_law) F_law sc_law (fun _ _ _ _ _ _ hr => b_law m (c__law_start.mono (by decide)) (c__law_kind.mono (by decide)) (c__law_some_ideal.mono (by decide)) (c__law_bent.mono (by decide)) (c__law_take.mono (by decide)) (c_is_ideal.mono (by decide)) (c__law_is_ideal.mono (by decide)) (c_holds.mono (by decide)) (c__law_is_in.mono (by decide)) (c__law_alike.mono (by decide)) (c__law_ideal_of.mono (by decide)) (c_ideal_of.mono (by decide)) (c__law_spanned.mono (by decide)) (c__law_basis.mono (by decide)) (c__law_product.mono (by decide)) (c_sum_ideal.mono (by decide)) (c_product_ideal.mono (by decide)) (c__law_conjugate.mono (by decide)) (c_conjugate_ideal.mono (by decide)) (c_quotient_ideal.mono (by decide)) hr) ?_) (spLaw_of p_law_ok)
  exact runF_does (n := 14) (k := 1) (d := LL p_take)
end K17
open PySem PySem.W PySem.Calls PyProof.Rows
theorem PySem.Challenge.cw_primeworth_k17_ideals_holds : PySem.Challenge.rw_primeworth_k17_ideals.Holds := by
  w_on; o_law
  refine HandSHeadRun.head_any (r := OpenLaw.row PySem.Challenge.rw_primeworth_k17_ideals) (q := view (OpenLaw.row PySem.Challenge.rw_primeworth_k17_ideals).prog [47]) (H := K17.hk) (ob := K17.ob) (M := 4000) (loose := K17.loose) (d := HandSHeadRun.topDef (OpenLaw.row PySem.Challenge.rw_primeworth_k17_ideals).prog 47) (kwd := []) K17.ob_eq
    (by kernel_rfl) (fun s => by kernel_rfl) K17.run (by kernel_rfl) (by kernel_rfl) (by kernel_rfl) (by rfl) (by first | assumption | decide +kernel) (by decide +kernel) ⟨rfl, rfl, rfl, rfl, rfl, by decide +kernel⟩ ?hw ?hc
  case hw => w_witness2
  case hc =>
    refine L2.walk_ofE (l := PySem.Challenge.rw_primeworth_k17_ideals) (n := 63) (k := 40) (x := "script") (CX := L2.CX0) rfl (by decide) (by kernel_rfl) ⟨rfl, by decide, by decide⟩ ?F (fun _ _ _ _ z => z)
    intro w mg fa h Y G hmg0
    obtain ⟨K, KX, c⟩ := Y
    have hmg : mg ("law" : PySem.Str) = some (.ref fa) := by
      have e : (HandSHeadRun.topDef (OpenLaw.row PySem.Challenge.rw_primeworth_k17_ideals).prog 47).name = ("law" : PySem.Str) := by kernel_rfl
      rw [← e]
      exact hmg0
    obtain ⟨fd, hb, hF⟩ := K17.facts (P := (PySem.Challenge.rw_primeworth_k17_ideals).prog) (w := w) KX G hmg c
    exact ⟨K, fd, Fd.spLaw K, KX, hb, fun H a ns hl ho hS => ⟨a, ns, rfl, ho, hS, hl, fun _ => rfl⟩, hF⟩
