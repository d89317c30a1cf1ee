import PyProof.Rows.All
import HandS.ForMost
import HandS.Style
import HandS.Flow
import HandS.Walk
import HandS.IsInst
import HandS.SortInts
import HandS.Wide
import HandS.TupAny
import HandS.RaiseMore
import HandS.Deep
import HandS.Defaults
import HandS.HeadEnd
import HandS.Iter
import HandS.WideMore
import HandS.More
import HandS.SetFor
import HandS.Strs
import PySem.Challenge.RW_primeworth_k11_papers_of_primes
import Wide.All
import OpenK.AllK
import Wide.FinOn
import KE.KStateDown
import HandS.Head0
import HandS.Head1
import HandS.Head2
import HandS.HeadHook1
import HandS.HeadHook2
set_option Elab.async false
set_option linter.all false
set_option maxRecDepth 100000
set_option maxHeartbeats 0
set_option autoImplicit false
/-! Fd1: values as trees, a store for what is changed in place, what stands for them in the heap. -/
namespace Fd
open PySem PySem.Spec PyProof.Rows L2

abbrev Frg := PySem.W.Frag

/-- a value: tuples and lists that nobody changes are trees; a list or dict that is changed is a place of the store -/
inductive PV where
  | non | bl (b : Bool) | int (i : Int) | str (x : Str) | tup (xs : List PV) | lst (xs : List PV) | loc (n : Nat) | scr (ns : List Int)
/-- what is changed in place -/
inductive Ob where
  | lst (xs : List PV) | dic (t : Bool) (kvs : List (PV × PV))
abbrev Sto := List Ob
abbrev En := List (Option PV)

/-- where the store's places stand; Z: addresses that no value names (a list that is being made) -/
structure Ad where
  f : Nat → Addr
  Z : Addr → Prop
instance : CoeFun Ad fun _ => Nat → Addr := ⟨Ad.f⟩
def Off (ι : Ad) (n : Nat) (a : Addr) : Prop := (∀ l, l < n → ι l ≠ a) ∧ ¬ ι.Z a
/-- a tuple of the written part -/
def KTup (K : Frg) (a : Addr) (xs : List V) : Prop := ∃ (o : Obj) (its : Array Value) (n : Nat), K.lookup a = some o ∧ o.cls = .type "tuple" ∧ o.data = .seq its n ∧ its.size ≤ sizeLine ∧ Vals xs its.toList
def TupAt (K : Frg) (ι : Ad) (n : Nat) (H : Hp) (a : Addr) (ys : List V) : Prop := (H a = some (.tup ys) ∧ Off ι n a) ∨ KTup K a ys
theorem TupAt.sq {K : Frg} {ι : Ad} {n : Nat} {H : Hp} {a : Addr} {ys : List V} (h : TupAt K ι n H a ys) : SqT K H a ys := by
  rcases h with h | h
  · exact .of h.1
  · exact .inr h
def ScrAt (K : Frg) (ι : Ad) (n : Nat) (H : Hp) (a : Addr) (ys : List V) : Prop := (∃ o, H a = some (.frz o (.lst ys)) ∧ Off ι n a) ∨
  ∃ (o : Obj) (its : Array Value) (n : Nat), K.lookup a = some o ∧ o.cls = .type "list" ∧ o.dict = none ∧ o.data = .seq its n ∧ its.size ≤ sizeLine ∧ Vals ys its.toList
theorem ScrAt.sq {K : Frg} {ι : Ad} {n : Nat} {H : Hp} {a : Addr} {ys : List V} (h : ScrAt K ι n H a ys) : SqL K H a ys := by
  rcases h with ⟨o, h, _⟩ | h
  · exact .inl (.inr ⟨o, h⟩)
  · exact .inr h
mutual
def RepV (K : Frg) (ι : Ad) (n : Nat) (H : Hp) : PV → V → Prop
  | .non, v => v = .non
  | .bl b, v => v = .bl b
  | .int i, v => v = .int i
  | .str x, v => v = .str x
  | .tup xs, v => ∃ a ys, v = .ref a ∧ TupAt K ι n H a ys ∧ RepVs K ι n H xs ys
  | .lst xs, v => ∃ a ys, v = .ref a ∧ (H a = some (.lst ys) ∧ Off ι n a) ∧ RepVs K ι n H xs ys
  | .loc l, v => l < n ∧ v = .ref (ι l)
  | .scr ns, v => ∃ a, v = .ref a ∧ ScrAt K ι n H a (ns.map V.int)
def RepVs (K : Frg) (ι : Ad) (n : Nat) (H : Hp) : List PV → List V → Prop
  | [], ys => ys = []
  | x :: xs, ys => ∃ y r, ys = y :: r ∧ RepV K ι n H x y ∧ RepVs K ι n H xs r
end

/-- the heap has grown: what is tracked stays, but for the store's places -/
structure Ext (ι : Ad) (n : Nat) (H : Hp) (ι' : Ad) (n' : Nat) (H' : Hp) : Prop where
  le : n ≤ n'
  same : ∀ l, l < n → ι' l = ι l
  keep : ∀ b o, H b = some o → (∀ l, l < n → ι l ≠ b) → H' b = some o
  dom : ∀ b, H b ≠ none → H' b ≠ none
  new : ∀ l, n ≤ l → l < n' → H (ι' l) = none
  zup : ∀ a, ι.Z a → ι'.Z a
  zdn : ∀ a, ι'.Z a → ι.Z a ∨ H a = none

theorem Ext.refl {ι : Ad} {n : Nat} {H : Hp} : Ext ι n H ι n H := ⟨Nat.le_refl _, fun _ _ => rfl, fun _ _ h _ => h, fun _ h => h, fun _ h1 h2 => absurd h2 (by omega), fun _ h => h, fun _ h => .inl h⟩

section
variable {K : Frg} {ι ι1 ι2 : Ad} {n n1 n2 : Nat} {H H1 H2 : Hp}
theorem Ext.off1 (e : Ext ι n H ι1 n1 H1) {a : Addr} {o : HO} (h : H a = some o) (g : ∀ l, l < n → ι l ≠ a) : ∀ l, l < n1 → ι1 l ≠ a := fun l hl z => by
  by_cases hn : l < n
  · exact g l hn ((e.same l hn).symm.trans z)
  · have q := e.new l (by omega) hl
    rw [z, h] at q
    cases q
theorem Ext.off (e : Ext ι n H ι1 n1 H1) {a : Addr} {o : HO} (h : H a = some o) (g : Off ι n a) : Off ι1 n1 a := ⟨e.off1 h g.1, fun z => (e.zdn a z).elim g.2 fun q => by rw [h] at q; cases q⟩
theorem Ext.trans (a : Ext ι n H ι1 n1 H1) (b : Ext ι1 n1 H1 ι2 n2 H2) : Ext ι n H ι2 n2 H2 where
  le := Nat.le_trans a.le b.le
  same := fun l hl => (b.same l (Nat.lt_of_lt_of_le hl a.le)).trans (a.same l hl)
  zup := fun c z => b.zup c (a.zup c z)
  zdn := fun c z => (b.zdn c z).elim (a.zdn c) fun q => .inr (by
    cases w : H c with
    | none => rfl
    | some o => exact absurd q (a.dom c (by rw [w]; exact fun k => nomatch k)))
  keep := fun c o h g => b.keep c o (a.keep c o h g) (a.off1 h g)
  dom := fun c h => b.dom c (a.dom c h)
  new := fun l h1 h2 => by
    by_cases hl : l < n1
    · rw [b.same l hl]
      exact a.new l h1 hl
    · have q := b.new l (by omega) h2
      cases z : H (ι2 l) with
      | none => rfl
      | some o => exact absurd q (a.dom _ (by rw [z]; exact fun k => nomatch k))
theorem TupAt.mono (e : Ext ι n H ι1 n1 H1) {a : Addr} {ys : List V} (h : TupAt K ι n H a ys) : TupAt K ι1 n1 H1 a ys := by
  rcases h with ⟨h, g⟩ | h
  · exact .inl ⟨e.keep a _ h g.1, e.off h g⟩
  · exact .inr h
mutual
theorem RepV.mono (e : Ext ι n H ι1 n1 H1) : ∀ {x : PV} {v : V}, RepV K ι n H x v → RepV K ι1 n1 H1 x v
  | .non, _, h => h
  | .bl _, _, h => h
  | .int _, _, h => h
  | .str _, _, h => h
  | .tup xs, v, h => by
    obtain ⟨a, ys, rfl, t, r⟩ := h
    exact ⟨a, ys, rfl, t.mono e, RepVs.mono e r⟩
  | .lst xs, v, h => by
    obtain ⟨a, ys, rfl, ⟨t, g⟩, r⟩ := h
    exact ⟨a, ys, rfl, ⟨e.keep a _ t g.1, e.off t g⟩, RepVs.mono e r⟩
  | .loc l, v, h => by
    obtain ⟨h, rfl⟩ := h
    exact ⟨Nat.lt_of_lt_of_le h e.le, by rw [e.same l h]⟩
  | .scr ns, v, h => by
    obtain ⟨a, rfl, ⟨o, s, g⟩ | s⟩ := h
    · exact ⟨a, rfl, .inl ⟨o, e.keep a _ s g.1, e.off s g⟩⟩
    · exact ⟨a, rfl, .inr s⟩
theorem RepVs.mono (e : Ext ι n H ι1 n1 H1) : ∀ {xs : List PV} {vs : List V}, RepVs K ι n H xs vs → RepVs K ι1 n1 H1 xs vs
  | [], _, h => h
  | x :: xs, _, h => by
    obtain ⟨y, r, rfl, h1, h2⟩ := h
    exact ⟨y, r, rfl, RepV.mono e h1, RepVs.mono e h2⟩
end

/-- the same, but the private places may have been changed -/
structure ExtP (ι : Ad) (n : Nat) (H : Hp) (ι' : Ad) (n' : Nat) (H' : Hp) : Prop where
  le : n ≤ n'
  same : ∀ l, l < n → ι' l = ι l
  keep : ∀ b o, H b = some o → (∀ l, l < n → ι l ≠ b) → ¬ ι.Z b → H' b = some o
  dom : ∀ b, H b ≠ none → H' b ≠ none
  new : ∀ l, n ≤ l → l < n' → H (ι' l) = none
  zup : ∀ a, ι.Z a → ι'.Z a
  zdn : ∀ a, ι'.Z a → ι.Z a ∨ H a = none
theorem Ext.p {ι ι' : Ad} {n n' : Nat} {H H' : Hp} (e : Ext ι n H ι' n' H') : ExtP ι n H ι' n' H' := ⟨e.le, e.same, fun b o h g _ => e.keep b o h g, e.dom, e.new, e.zup, e.zdn⟩
section
variable {K : Frg} {ι ι1 ι2 : Ad} {n n1 n2 : Nat} {H H1 H2 : Hp}
theorem ExtP.off1 (e : ExtP ι n H ι1 n1 H1) {a : Addr} {o : HO} (h : H a = some o) (g : ∀ l, l < n → ι l ≠ a) : ∀ l, l < n1 → ι1 l ≠ a := fun l hl z => by
  by_cases hn : l < n
  · exact g l hn ((e.same l hn).symm.trans z)
  · have q := e.new l (by omega) hl
    rw [z, h] at q
    cases q
theorem ExtP.off (e : ExtP ι n H ι1 n1 H1) {a : Addr} {o : HO} (h : H a = some o) (g : Off ι n a) : Off ι1 n1 a := ⟨e.off1 h g.1, fun z => (e.zdn a z).elim g.2 fun q => by rw [h] at q; cases q⟩
theorem ExtP.trans (a : ExtP ι n H ι1 n1 H1) (b : ExtP ι1 n1 H1 ι2 n2 H2) : ExtP ι n H ι2 n2 H2 where
  le := Nat.le_trans a.le b.le
  same := fun l hl => (b.same l (Nat.lt_of_lt_of_le hl a.le)).trans (a.same l hl)
  zup := fun c z => b.zup c (a.zup c z)
  zdn := fun c z => (b.zdn c z).elim (a.zdn c) fun q => .inr (by
    cases w : H c with
    | none => rfl
    | some o => exact absurd q (a.dom c (by rw [w]; exact fun k => nomatch k)))
  keep := fun c o h g z => b.keep c o (a.keep c o h g z) (a.off1 h g) fun z1 => (a.zdn c z1).elim z fun q => by rw [h] at q; cases q
  dom := fun c h => b.dom c (a.dom c h)
  new := fun l h1 h2 => by
    by_cases hl : l < n1
    · rw [b.same l hl]
      exact a.new l h1 hl
    · have q := b.new l (by omega) h2
      cases z : H (ι2 l) with
      | none => rfl
      | some o => exact absurd q (a.dom _ (by rw [z]; exact fun k => nomatch k))
theorem TupAt.monoP (e : ExtP ι n H ι1 n1 H1) {a : Addr} {ys : List V} (h : TupAt K ι n H a ys) : TupAt K ι1 n1 H1 a ys := by
  rcases h with ⟨h, g⟩ | h
  · exact .inl ⟨e.keep a _ h g.1 g.2, e.off h g⟩
  · exact .inr h
mutual
theorem RepV.monoP (e : ExtP ι n H ι1 n1 H1) : ∀ {x : PV} {v : V}, RepV K ι n H x v → RepV K ι1 n1 H1 x v
  | .non, _, h => h
  | .bl _, _, h => h
  | .int _, _, h => h
  | .str _, _, h => h
  | .tup xs, v, h => by
    obtain ⟨a, ys, rfl, t, r⟩ := h
    exact ⟨a, ys, rfl, t.monoP e, RepVs.monoP e r⟩
  | .lst xs, v, h => by
    obtain ⟨a, ys, rfl, ⟨t, g⟩, r⟩ := h
    exact ⟨a, ys, rfl, ⟨e.keep a _ t g.1 g.2, e.off t g⟩, RepVs.monoP e r⟩
  | .loc l, v, h => by
    obtain ⟨h, rfl⟩ := h
    exact ⟨Nat.lt_of_lt_of_le h e.le, by rw [e.same l h]⟩
  | .scr ns, v, h => by
    obtain ⟨a, rfl, ⟨o, s, g⟩ | s⟩ := h
    · exact ⟨a, rfl, .inl ⟨o, e.keep a _ s g.1 g.2, e.off s g⟩⟩
    · exact ⟨a, rfl, .inr s⟩
theorem RepVs.monoP (e : ExtP ι n H ι1 n1 H1) : ∀ {xs : List PV} {vs : List V}, RepVs K ι n H xs vs → RepVs K ι1 n1 H1 xs vs
  | [], _, h => h
  | x :: xs, _, h => by
    obtain ⟨y, r, rfl, h1, h2⟩ := h
    exact ⟨y, r, rfl, RepV.monoP e h1, RepVs.monoP e h2⟩
end
end

/-! ### the store -/
def keyOf : PV → Option Key
  | .int i => some (.inl i)
  | .str x => some (.inr x)
  | _ => none
def keysOf : List PV → Option (List Key)
  | [] => some []
  | x :: xs => match keyOf x, keysOf xs with
    | some k, some ks => some (k :: ks)
    | _, _ => none
def tkeyOf : PV → Option (List Key)
  | .tup xs => keysOf xs
  | _ => none
/-- a dict's pairs by their keys -/
def RepKs {κ : Type} (K : Frg) (ι : Ad) (n : Nat) (H : Hp) (key : PV → Option κ) : List (PV × PV) → List (κ × V) → Prop
  | [], ys => ys = []
  | (k, x) :: xs, ys => ∃ q y r, ys = (q, y) :: r ∧ key k = some q ∧ RepV K ι n H x y ∧ RepKs K ι n H key xs r
def RepO (K : Frg) (ι : Ad) (n : Nat) (H : Hp) (a : Addr) : Ob → Prop
  | .lst xs => ∃ ys, H a = some (.lst ys) ∧ RepVs K ι n H xs ys
  | .dic false kvs => ∃ ys, H a = some (.dK ys) ∧ RepKs K ι n H keyOf kvs ys
  | .dic true kvs => ∃ ys, H a = some (.dT ys) ∧ RepKs K ι n H tkeyOf kvs ys
structure RepS (K : Frg) (ι : Ad) (H : Hp) (μ : Sto) : Prop where
  inj : ∀ i j, i < μ.length → j < μ.length → ι i = ι j → i = j
  obj : ∀ (l : Nat) (o : Ob), μ[l]? = some o → RepO K ι μ.length H (ι l) o
  zin : ∀ a, ι.Z a → H a ≠ none
  zap : ∀ l, l < μ.length → ¬ ι.Z (ι l)
/-- the slots: what is known of them -/
structure RepE (K : Frg) (ι : Ad) (n : Nat) (H : Hp) (ρ : En) (σ : L2.St) : Prop where
  len : σ.length = ρ.length
  at_ : ∀ (i : Nat) (x : PV), ρ[i]? = some (some x) → ∃ v, σ[i]? = some (some v) ∧ RepV K ι n H x v

theorem RepKs.mono {κ : Type} {key : PV → Option κ} (e : Ext ι n H ι1 n1 H1) : ∀ {xs : List (PV × PV)} {ys : List (κ × V)}, RepKs K ι n H key xs ys → RepKs K ι1 n1 H1 key xs ys
  | [], _, h => h
  | (k, x) :: xs, _, h => by
    obtain ⟨q, y, r, rfl, hk, h1, h2⟩ := h
    exact ⟨q, y, r, rfl, hk, RepV.mono e h1, RepKs.mono e h2⟩
theorem RepE.mono {ρ : En} {σ : L2.St} (e : Ext ι n H ι1 n1 H1) (h : RepE K ι n H ρ σ) : RepE K ι1 n1 H1 ρ σ :=
  ⟨h.len, fun i x hx => let ⟨v, h1, h2⟩ := h.at_ i x hx; ⟨v, h1, h2.mono e⟩⟩
theorem RepE.set {ρ : En} {σ : L2.St} (h : RepE K ι n H ρ σ) (i : Nat) {x : PV} {v : V} (r : RepV K ι n H x v) : RepE K ι n H (ρ.set i (some x)) (σ.set i (some v)) := by
  refine ⟨by rw [List.length_set, List.length_set, h.len], fun j y hy => ?_⟩
  by_cases hj : i = j
  · subst hj
    by_cases hi : i < ρ.length
    · rw [List.getElem?_set_self hi] at hy
      cases hy
      exact ⟨v, List.getElem?_set_self (by rw [h.len]; exact hi), r⟩
    · rw [List.getElem?_eq_none (by rw [List.length_set]; omega)] at hy
      cases hy
  · rw [List.getElem?_set_ne hj] at hy
    obtain ⟨w, h1, h2⟩ := h.at_ j y hy
    exact ⟨w, by rw [List.getElem?_set_ne hj]; exact h1, h2⟩
/-- slots forgotten -/
theorem RepE.wipe1 {ρ : En} {σ : L2.St} (h : RepE K ι n H ρ σ) (i : Nat) (o : Option V) : RepE K ι n H (ρ.set i none) (σ.set i o) := by
  refine ⟨by rw [List.length_set, List.length_set, h.len], fun j y hy => ?_⟩
  by_cases hj : i = j
  · subst hj
    by_cases hi : i < ρ.length
    · rw [List.getElem?_set_self hi] at hy
      cases hy
    · rw [List.getElem?_eq_none (by rw [List.length_set]; omega)] at hy
      cases hy
  · rw [List.getElem?_set_ne hj] at hy
    obtain ⟨w, h1, h2⟩ := h.at_ j y hy
    exact ⟨w, by rw [List.getElem?_set_ne hj]; exact h1, h2⟩
def wipeE (ρ : En) : List Nat → En
  | [] => ρ
  | v :: vs => (wipeE ρ vs).set v none
theorem RepE.wipe {ρ : En} {σ : L2.St} (h : RepE K ι n H ρ σ) : ∀ vs : List Nat, RepE K ι n H (wipeE ρ vs) (L2.wipe σ vs)
  | [] => h
  | v :: vs => (RepE.wipe h vs).wipe1 v none

theorem RepS.some {μ : Sto} (S : RepS K ι H μ) {l : Nat} (h : l < μ.length) : ∃ o, H (ι l) = some o := by
  have q := S.obj l μ[l] (by simp [h])
  cases e : μ[l] with
  | lst xs => rw [e] at q; obtain ⟨ys, q, _⟩ := q; exact ⟨_, q⟩
  | dic t kvs => cases t <;> (rw [e] at q; obtain ⟨ys, q, _⟩ := q; exact ⟨_, q⟩)
theorem RepO.mono {a : Addr} {o : Ob} (e : Ext ι n H ι1 n1 H1) (ha : H1 a = H a) (h : RepO K ι n H a o) : RepO K ι1 n1 H1 a o := by
  cases o with
  | lst xs => obtain ⟨ys, q, r⟩ := h; exact ⟨ys, ha.trans q, RepVs.mono e r⟩
  | dic t kvs => cases t <;> (obtain ⟨ys, q, r⟩ := h; exact ⟨ys, ha.trans q, RepKs.mono e r⟩)

/-! three steps of the heap -/
/-- a new object that the store does not hold -/
theorem Ext.new1 {μ : Sto} (S : RepS K ι H μ) {p : Addr} {o : HO} (hp : H p = none) : Ext ι μ.length H ι μ.length (upd H p o) where
  le := Nat.le_refl _
  same := fun _ _ => rfl
  keep := fun b u h _ => by rw [upd_ne (ne_of_none h hp)]; exact h
  dom := fun b h => by
    by_cases e : b = p
    · subst e; exact absurd hp h
    · rw [upd_ne e]; exact h
  new := fun _ h1 h2 => absurd h2 (by omega)
  zup := fun _ h => h
  zdn := fun _ h => .inl h
theorem RepS.new1 {μ : Sto} (S : RepS K ι H μ) {p : Addr} {o : HO} (hp : H p = none) : RepS K ι (upd H p o) μ :=
  ⟨S.inj, fun l ob h => by
    have hl : l < μ.length := (List.getElem?_eq_some_iff.mp h).1
    obtain ⟨u, hu⟩ := S.some hl
    exact (S.obj l ob h).mono (Ext.new1 S hp) (upd_ne (ne_of_none hu hp)), fun a z => (Ext.new1 S hp).dom a (S.zin a z), S.zap⟩
theorem RepS.off1 {μ : Sto} (S : RepS K ι H μ) {p : Addr} (hp : H p = none) : ∀ l, l < μ.length → ι l ≠ p := fun l hl e => by
  obtain ⟨u, hu⟩ := S.some hl
  rw [e, hp] at hu
  cases hu
theorem RepS.off {μ : Sto} (S : RepS K ι H μ) {p : Addr} (hp : H p = none) : Off ι μ.length p := ⟨S.off1 hp, fun z => S.zin p z hp⟩
/-- a new place of the store -/
def addI (ι : Ad) (n : Nat) (p : Addr) : Ad := ⟨fun l => if l = n then p else ι l, ι.Z⟩
theorem addI_lt {l : Nat} {p : Addr} (h : l < n) : addI ι n p l = ι l := if_neg (by omega)
theorem addI_at {p : Addr} : addI ι n p n = p := if_pos rfl
theorem Ext.add {μ : Sto} (S : RepS K ι H μ) {p : Addr} {o : HO} (hp : H p = none) : Ext ι μ.length H (addI ι μ.length p) (μ.length + 1) (upd H p o) where
  le := Nat.le_succ _
  same := fun l hl => addI_lt hl
  keep := fun b u h _ => by rw [upd_ne (ne_of_none h hp)]; exact h
  dom := fun b h => by
    by_cases e : b = p
    · subst e; exact absurd hp h
    · rw [upd_ne e]; exact h
  new := fun l h1 h2 => by
    have : l = μ.length := by omega
    subst this
    rw [addI_at]; exact hp
  zup := fun _ h => h
  zdn := fun _ h => .inl h
theorem RepS.add {μ : Sto} (S : RepS K ι H μ) {p : Addr} {o : HO} {ob : Ob} (hp : H p = none) (r : RepO K (addI ι μ.length p) (μ.length + 1) (upd H p o) p ob) :
    RepS K (addI ι μ.length p) (upd H p o) (μ ++ [ob]) := by
  refine ⟨fun i j hi hj e => ?_, fun l u h => ?_, fun a z => (Ext.add S hp).dom a (S.zin a z), fun l hl z => ?_⟩
  · rw [List.length_append, List.length_singleton] at hi hj
    by_cases h1 : i < μ.length
    · by_cases h2 : j < μ.length
      · rw [addI_lt h1, addI_lt h2] at e
        exact S.inj i j h1 h2 e
      · have : j = μ.length := by omega
        subst this
        rw [addI_lt h1, addI_at] at e
        exact absurd e (S.off1 hp i h1)
    · have : i = μ.length := by omega
      subst this
      by_cases h2 : j < μ.length
      · rw [addI_at, addI_lt h2] at e
        exact absurd e.symm (S.off1 hp j h2)
      · omega
  · rw [List.length_append, List.length_singleton]
    by_cases h1 : l < μ.length
    · rw [List.getElem?_append_left h1] at h
      rw [addI_lt h1]
      obtain ⟨w, hw⟩ := S.some h1
      exact (S.obj l u h).mono (Ext.add S hp) (upd_ne (ne_of_none hw hp))
    · have hl : l = μ.length := by
        have := (List.getElem?_eq_some_iff.mp h).1
        rw [List.length_append, List.length_singleton] at this
        omega
      subst hl
      rw [List.getElem?_append_right (Nat.le_refl _), Nat.sub_self] at h
      cases h
      rw [addI_at]
      exact r
  · rw [List.length_append, List.length_singleton] at hl
    have z : ι.Z (addI ι μ.length p l) := z
    by_cases h1 : l < μ.length
    · rw [addI_lt h1] at z
      exact S.zap l h1 z
    · have : l = μ.length := by omega
      subst this
      rw [addI_at] at z
      exact S.zin p z hp
/-- a place of the store is changed -/
theorem Ext.put {μ : Sto} (S : RepS K ι H μ) {l : Nat} (hl : l < μ.length) {o : HO} : Ext ι μ.length H ι μ.length (upd H (ι l) o) where
  le := Nat.le_refl _
  same := fun _ _ => rfl
  keep := fun b u h g => by rw [upd_ne (g l hl).symm]; exact h
  dom := fun b h => by
    by_cases e : b = ι l
    · rw [e, upd_same]; exact fun k => nomatch k
    · rw [upd_ne e]; exact h
  new := fun _ h1 h2 => absurd h2 (by omega)
  zup := fun _ h => h
  zdn := fun _ h => .inl h
theorem RepS.put {μ : Sto} (S : RepS K ι H μ) {l : Nat} (hl : l < μ.length) {o : HO} {ob : Ob} (r : RepO K ι μ.length (upd H (ι l) o) (ι l) ob) :
    RepS K ι (upd H (ι l) o) (μ.set l ob) := by
  refine ⟨fun i j hi hj => ?_, fun k u h => ?_, fun a z => (Ext.put S hl).dom a (S.zin a z), fun k hk => S.zap k (by rw [List.length_set] at hk; exact hk)⟩
  · rw [List.length_set] at hi hj
    exact S.inj i j hi hj
  · rw [List.length_set]
    by_cases hk : l = k
    · subst hk
      rw [List.getElem?_set_self hl] at h
      cases h
      exact r
    · rw [List.getElem?_set_ne hk] at h
      have hk' : k < μ.length := (List.getElem?_eq_some_iff.mp h).1
      exact (S.obj k u h).mono (Ext.put S hl) (upd_ne fun e => hk (S.inj l k hl hk' e.symm))

/-! ### lists of values -/
theorem RepVs.length : ∀ {xs : List PV} {ys : List V}, RepVs K ι n H xs ys → xs.length = ys.length
  | [], _, h => by cases h; rfl
  | x :: xs, _, h => by
    obtain ⟨y, r, rfl, _, h2⟩ := h
    rw [List.length_cons, List.length_cons, RepVs.length h2]
theorem RepVs.get : ∀ {xs : List PV} {ys : List V} {i : Nat} {x : PV}, RepVs K ι n H xs ys → xs[i]? = some x → ∃ y, ys[i]? = some y ∧ RepV K ι n H x y
  | [], _, _, _, _, e => by simp at e
  | x :: xs, _, 0, z, h, e => by
    obtain ⟨y, r, rfl, h1, _⟩ := h
    simp at e; subst e
    exact ⟨y, rfl, h1⟩
  | x :: xs, _, i + 1, z, h, e => by
    obtain ⟨y, r, rfl, _, h2⟩ := h
    obtain ⟨w, h3, h4⟩ := RepVs.get (i := i) h2 (by simpa using e)
    exact ⟨w, by simpa using h3, h4⟩
theorem RepVs.append : ∀ {xs xs' : List PV} {ys ys' : List V}, RepVs K ι n H xs ys → RepVs K ι n H xs' ys' → RepVs K ι n H (xs ++ xs') (ys ++ ys')
  | [], _, _, _, h, g => by cases h; exact g
  | x :: xs, _, _, _, h, g => by
    obtain ⟨y, r, rfl, h1, h2⟩ := h
    exact ⟨y, r ++ _, rfl, h1, RepVs.append h2 g⟩
theorem RepVs.take : ∀ (k : Nat) {xs : List PV} {ys : List V}, RepVs K ι n H xs ys → RepVs K ι n H (xs.take k) (ys.take k)
  | 0, _, _, _ => rfl
  | k + 1, [], _, h => by cases h; rfl
  | k + 1, x :: xs, _, h => by
    obtain ⟨y, r, rfl, h1, h2⟩ := h
    exact ⟨y, r.take k, rfl, h1, RepVs.take k h2⟩
theorem RepVs.drop : ∀ (k : Nat) {xs : List PV} {ys : List V}, RepVs K ι n H xs ys → RepVs K ι n H (xs.drop k) (ys.drop k)
  | 0, _, _, h => h
  | k + 1, [], _, h => by cases h; rfl
  | k + 1, x :: xs, _, h => by
    obtain ⟨y, r, rfl, h1, h2⟩ := h
    exact RepVs.drop k h2
theorem RepVs.set : ∀ {xs : List PV} {ys : List V} (i : Nat) {x : PV} {y : V}, RepV K ι n H x y → RepVs K ι n H xs ys → RepVs K ι n H (xs.set i x) (ys.set i y)
  | [], _, _, _, _, _, h => by cases h; rfl
  | x :: xs, _, 0, _, _, g, h => by
    obtain ⟨y, r, rfl, h1, h2⟩ := h
    exact ⟨_, r, rfl, g, h2⟩
  | x :: xs, _, i + 1, _, _, g, h => by
    obtain ⟨y, r, rfl, h1, h2⟩ := h
    exact ⟨y, r.set i _, rfl, h1, RepVs.set i g h2⟩
theorem RepVs.reverse : ∀ {xs : List PV} {ys : List V}, RepVs K ι n H xs ys → RepVs K ι n H xs.reverse ys.reverse
  | [], _, h => by cases h; rfl
  | x :: xs, _, h => by
    obtain ⟨y, r, rfl, h1, h2⟩ := h
    rw [List.reverse_cons, List.reverse_cons]
    exact RepVs.append (RepVs.reverse h2) ⟨y, [], rfl, h1, rfl⟩
theorem RepVs.cons {x : PV} {y : V} {xs : List PV} {ys : List V} (h : RepV K ι n H x y) (g : RepVs K ι n H xs ys) : RepVs K ι n H (x :: xs) (y :: ys) := ⟨y, ys, rfl, h, g⟩
theorem RepVs.one {x : PV} {y : V} (h : RepV K ι n H x y) : RepVs K ι n H [x] [y] := .cons h rfl
theorem RepVs.dropLast {xs : List PV} {ys : List V} (h : RepVs K ι n H xs ys) : RepVs K ι n H xs.dropLast ys.dropLast := by
  rw [List.dropLast_eq_take, List.dropLast_eq_take, ← h.length]
  exact h.take _
theorem RepVs.rep {xs : List PV} {ys : List V} (h : RepVs K ι n H xs ys) : ∀ k : Nat, RepVs K ι n H (List.replicate k xs).flatten (List.replicate k ys).flatten
  | 0 => rfl
  | k + 1 => by
    rw [List.replicate_succ, List.replicate_succ, List.flatten_cons, List.flatten_cons]
    exact h.append (RepVs.rep h k)
end
end Fd

/-! Fd2: denotations, their readings; operators, comparisons, tests. -/
namespace Fd
open PySem PySem.Spec PyProof.Rows L2

abbrev Den := En → Sto → Option (PV × Sto)
abbrev DenT := En → Sto → Option (Bool × Sto)
abbrev DenA := En → Sto → Option (List PV × Sto)

/-- what is wanted behind a value -/
abbrev Aft (K : Frg) (ι : Ad) (μ : Sto) (H : Hp) (v : PV) (μ' : Sto) (Q : VK) : Prop := ∀ hv ι' H', Ext ι μ.length H ι' μ'.length H' → RepV K ι' μ'.length H' v hv → RepS K ι' H' μ' → Q hv H'
abbrev AftT (K : Frg) (ι : Ad) (μ : Sto) (H : Hp) (b : Bool) (μ' : Sto) (Q : Bool → Hp → Prop) : Prop := ∀ ι' H', Ext ι μ.length H ι' μ'.length H' → RepS K ι' H' μ' → Q b H'
abbrev AftA (K : Frg) (ι : Ad) (μ : Sto) (H : Hp) (vs : List PV) (μ' : Sto) (Q : List V → Hp → Prop) : Prop := ∀ hs ι' H', Ext ι μ.length H ι' μ'.length H' → RepVs K ι' μ'.length H' vs hs → RepS K ι' H' μ' → Q hs H'

def tD (K : Frg) (d : Den) : TE := fun σ H Q => ∃ ι ρ μ v μ', RepE K ι μ.length H ρ σ ∧ RepS K ι H μ ∧ d ρ μ = some (v, μ') ∧ Aft K ι μ H v μ' Q
def tT (K : Frg) (d : DenT) : TT := fun σ H Q => ∃ ι ρ μ b μ', RepE K ι μ.length H ρ σ ∧ RepS K ι H μ ∧ d ρ μ = some (b, μ') ∧ AftT K ι μ H b μ' Q
def tA (K : Frg) (d : DenA) : TA := fun σ H Q => ∃ ι ρ μ vs μ', RepE K ι μ.length H ρ σ ∧ RepS K ι H μ ∧ d ρ μ = some (vs, μ') ∧ AftA K ι μ H vs μ' Q

section
variable {X : Cx} {e : Expr}
theorem _root_.L2.PE.weak {t t' : TE} (h : PE X e t) (g : ∀ σ H Q, t' σ H Q → t σ H Q) : PE X e t' := ⟨fun pins s σ H Q I q => h.run pins s σ H Q I (g σ H Q q)⟩
theorem _root_.L2.PT.weak {t t' : TT} (h : PT X e t) (g : ∀ σ H Q, t' σ H Q → t σ H Q) : PT X e t' := ⟨fun pins s σ H Q I q => h.run pins s σ H Q I (g σ H Q q)⟩
theorem _root_.L2.PW.weak {t t' : TT} (h : PW X e t) (g : ∀ σ H Q, t' σ H Q → t σ H Q) : PW X e t' := ⟨fun wh pins s σ H Q I q => h.run wh pins s σ H Q I (g σ H Q q)⟩
theorem _root_.L2.PA.weak {es : List Expr} {t t' : TA} (h : PA X es t) (g : ∀ σ H Q, t' σ H Q → t σ H Q) : PA X es t' := ⟨fun pos pins s σ H Q I q => h.run pos pins s σ H Q I (g σ H Q q)⟩
theorem _root_.L2.PS.weak {st : Stmt} {t t' : TS} (h : PS X st t) (g : ∀ D σ H, t' D σ H → t D σ H) : PS X st t' := ⟨fun pins s σ H D I q => h.run pins s σ H D I (g D σ H q)⟩
theorem _root_.L2.PSs.weak {st : List Stmt} {t t' : TS} (h : PSs X st t) (g : ∀ D σ H, t' D σ H → t D σ H) : PSs X st t' := ⟨fun pins s σ H D I q => h.run pins s σ H D I (g D σ H q)⟩
end

/-! ### names, constants -/
def cVar (i : Nat) : Den := fun ρ μ => match ρ[i]? with
  | some (some v) => some (v, μ)
  | _ => none
def cK (v : PV) : Den := fun _ μ => some (v, μ)
theorem Aft.pure {K : Frg} {ι : Ad} {μ : Sto} {H : Hp} {v : PV} {Q : VK} (S : RepS K ι H μ) (q : Aft K ι μ H v μ Q) {hv : V} (r : RepV K ι μ.length H v hv) : Q hv H := q hv ι H .refl r S
theorem t_var {K : Frg} {i : Nat} (σ : L2.St) (H : Hp) (Q : VK) (h : tD K (cVar i) σ H Q) : tVar i σ H Q := by
  obtain ⟨ι, ρ, μ, v, μ', E, S, d, q⟩ := h
  unfold cVar at d
  split at d
  · rename_i w hw
    cases d
    obtain ⟨u, h1, h2⟩ := E.at_ i _ hw
    exact ⟨u, h1, q.pure S h2⟩
  · cases d
section
variable {X : Cx}
theorem e_var (i : Nat) {x : Str} {pos : Pos} (hN : X.N[i]? = some x := by rfl) (hv : Vis X.env.scope x := by first | exact Or.inl rfl | exact Or.inr (Or.inl rfl) | exact Or.inr (Or.inr rfl)) (hd : (x == ("__debug__" : Str)) = false := by decide)
    (hcd : (x == ("__classdict__" : Str)) = false := by decide) : PE X (.Name x pos) (tD X.K (cVar i)) := (pe_var hN hv hd hcd).weak t_var
theorem t_c {K : Frg} {v : PV} {u : V} (r : ∀ ι n H, RepV K ι n H v u) (σ : L2.St) (H : Hp) (Q : VK) (h : tD K (cK v) σ H Q) : tC u σ H Q := by
  obtain ⟨ι, ρ, μ, w, μ', E, S, d, q⟩ := h
  cases d
  exact q.pure S (r _ _ _)
theorem e_int {i : Int} {j pos} : PE X (.Constant (.int i) j pos) (tD X.K (cK (.int i))) := pe_int.weak (t_c fun _ _ _ => rfl)
theorem e_bl {b j pos} : PE X (.Constant (.bool b) j pos) (tD X.K (cK (.bl b))) := pe_bl.weak (t_c fun _ _ _ => rfl)
theorem e_non {j pos} : PE X (.Constant .none j pos) (tD X.K (cK .non)) := pe_non.weak (t_c fun _ _ _ => rfl)
theorem e_str {x j pos} : PE X (.Constant (.str x) j pos) (tD X.K (cK (.str x))) := pe_str.weak (t_c fun _ _ _ => rfl)
/-- a module's constant: an int -/
theorem e_gint {x : Str} {i : Int} {t : Tok} {pos : Pos} (hg : Gl X x) (hm : X.mg x = some (.int i t)) (hd : (x == ("__debug__" : Str)) = false := by decide) : PE X (.Name x pos) (tD X.K (cK (.int i))) :=
  (pe_glob (v := .int i) hg hm ⟨t, rfl⟩ hd).weak (t_c fun _ _ _ => rfl)
/-- a module's constant: a tuple of ints -/
theorem ktup_rep {K : Frg} {ι : Ad} {n : Nat} {H : Hp} {a : Addr} : ∀ {ns : List Int}, KTup K a (ns.map V.int) → RepV K ι n H (.tup (ns.map PV.int)) (.ref a) := fun {ns} h => by
  refine ⟨a, ns.map V.int, rfl, .inr h, ?_⟩
  clear h
  induction ns with
  | nil => rfl
  | cons k r ih => exact ⟨.int k, r.map V.int, rfl, rfl, ih⟩
theorem e_gtup {x : Str} {a : Addr} {ns : List Int} {pos : Pos} (hg : Gl X x) (hm : X.mg x = some (.ref a)) (hk : KTup X.K a (ns.map V.int)) (hd : (x == ("__debug__" : Str)) = false := by decide) : PE X (.Name x pos) (tD X.K (cK (.tup (ns.map PV.int)))) :=
  (pe_glob (v := .ref a) hg hm rfl hd).weak (t_c fun _ _ _ => ktup_rep hk)
end

/-! ### one, two values -/
abbrev Op1 := PV → Sto → Option (PV × Sto)
abbrev Op2 := PV → PV → Sto → Option (PV × Sto)
def d1 (f : Op1) (da : Den) : Den := fun ρ μ => (da ρ μ).bind fun p => f p.1 p.2
def d2 (f : Op2) (da db : Den) : Den := fun ρ μ => (da ρ μ).bind fun p => (db ρ p.2).bind fun q => f p.1 q.1 q.2
def S1 (K : Frg) (r : V → Hp → VK → Prop) (f : Op1) : Prop := ∀ ι H μ x v μ' hx (Q : VK), RepS K ι H μ → RepV K ι μ.length H x hx → f x μ = some (v, μ') → Aft K ι μ H v μ' Q → r hx H Q
def S2 (K : Frg) (r : R2) (f : Op2) : Prop := ∀ ι H μ x y v μ' hx hy (Q : VK), RepS K ι H μ → RepV K ι μ.length H x hx → RepV K ι μ.length H y hy → f x y μ = some (v, μ') → Aft K ι μ H v μ' Q → r hx hy H Q
section
variable {K : Frg} {ι ι1 : Ad} {μ μ1 μ' : Sto} {H H1 : Hp} {v : PV} {Q : VK}
theorem Aft.mono (e : Ext ι μ.length H ι1 μ1.length H1) (q : Aft K ι μ H v μ' Q) : Aft K ι1 μ1 H1 v μ' Q := fun hv ι' H' X R S => q hv ι' H' (e.trans X) R S
theorem AftT.mono {b : Bool} {Q : Bool → Hp → Prop} (e : Ext ι μ.length H ι1 μ1.length H1) (q : AftT K ι μ H b μ' Q) : AftT K ι1 μ1 H1 b μ' Q := fun ι' H' X S => q ι' H' (e.trans X) S
theorem AftA.mono {vs : List PV} {Q : List V → Hp → Prop} (e : Ext ι μ.length H ι1 μ1.length H1) (q : AftA K ι μ H vs μ' Q) : AftA K ι1 μ1 H1 vs μ' Q := fun hv ι' H' X R S => q hv ι' H' (e.trans X) R S
end
section
variable {K : Frg} {σ : L2.St} {H : Hp} {Q : VK}
theorem t_1 {f : Op1} {da : Den} {r : V → Hp → VK → Prop} (hr : S1 K r f) (h : tD K (d1 f da) σ H Q) : tUn r (tD K da) σ H Q := by
  obtain ⟨ι, ρ, μ, v, μ', E, S, d, q⟩ := h
  obtain ⟨⟨x, μ1⟩, e1, e2⟩ := Option.bind_eq_some_iff.mp d
  exact ⟨ι, ρ, μ, x, μ1, E, S, e1, fun hx ι1 H1 X1 R1 S1 => hr ι1 H1 μ1 x v μ' hx Q S1 R1 e2 (q.mono X1)⟩
theorem t_2 {f : Op2} {da db : Den} {r : R2} (hr : S2 K r f) (h : tD K (d2 f da db) σ H Q) : tOp r (tD K da) (tD K db) σ H Q := by
  obtain ⟨ι, ρ, μ, v, μ', E, S, d, q⟩ := h
  obtain ⟨⟨x, μ1⟩, e1, d⟩ := Option.bind_eq_some_iff.mp d
  obtain ⟨⟨y, μ2⟩, e2, e3⟩ := Option.bind_eq_some_iff.mp d
  exact ⟨ι, ρ, μ, x, μ1, E, S, e1, fun hx ι1 H1 X1 R1 S1 => ⟨ι1, ρ, μ1, y, μ2, E.mono X1, S1, e2, fun hy ι2 H2 X2 R2 S2 =>
    hr ι2 H2 μ2 x y v μ' hx hy Q S2 (R1.mono X2) R2 e3 (q.mono (X1.trans X2))⟩⟩
end
section
variable {X : Cx} {a b : Expr} {da db : Den} {pos : Pos}
theorem e_op {op : Operator} {r : R2} {f : Op2} (ho : OpR X (binaryOp op) r) (hr : S2 X.K r f) (ha : PE X a (tD X.K da)) (hb : PE X b (tD X.K db)) : PE X (.BinOp a op b pos) (tD X.K (d2 f da db)) :=
  (pe_op ho ha hb).weak fun _ _ _ h => t_2 hr h
theorem e_un {op : UnaryOp} {r : V → Hp → VK → Prop} {f : Op1} (ho : UnR X (unaryOp op) r) (hr : S1 X.K r f) (ha : PE X a (tD X.K da)) : PE X (.UnaryOp op a pos) (tD X.K (d1 f da)) :=
  (pe_un ho ha).weak fun _ _ _ h => t_1 hr h
theorem e_cmp {op : CmpOp} {r : R2} {f : Op2} (ho : OpR X (compareOp op) r) (hr : S2 X.K r f) (ha : PE X a (tD X.K da)) (hb : PE X b (tD X.K db)) (hm : behindInMarks op b = false) : PE X (.Compare a [op] [b] pos) (tD X.K (d2 f da db)) :=
  (pe_cmpR ho ha hb hm).weak fun _ _ _ h => t_2 hr h
end

/-! ### tests -/
def asB : Option (PV × Sto) → Option (Bool × Sto)
  | some (.bl b, μ) => some (b, μ)
  | _ => none
def tB1 (d : Den) : DenT := fun ρ μ => asB (d ρ μ)
theorem t_b {K : Frg} {d : Den} (σ : L2.St) (H : Hp) (Q : Bool → Hp → Prop) (h : tT K (tB1 d) σ H Q) : tD K d σ H fun x H' => ∃ k, x = .bl k ∧ Q k H' := by
  obtain ⟨ι, ρ, μ, b, μ', E, S, e, q⟩ := h
  unfold tB1 asB at e
  split at e
  · rename_i c μ1 h1
    cases e
    exact ⟨ι, ρ, μ, _, _, E, S, h1, fun hv ι' H' X R S => ⟨b, R, q ι' H' X S⟩⟩
  · cases e
section
variable {X : Cx} {a b : Expr} {da db : Den} {pos : Pos}
theorem x_cmp {op : CmpOp} {r : R2} {f : Op2} (ho : OpR X (compareOp op) r) (hr : S2 X.K r f) (ha : PE X a (tD X.K da)) (hb : PE X b (tD X.K db)) (hm : behindInMarks op b = false) : PT X (.Compare a [op] [b] pos) (tT X.K (tB1 (d2 f da db))) :=
  (pt_cmpR ho ha hb hm).weak fun _ _ _ h => t_2 hr (t_b _ _ _ h)
end
/-- a value's truth -/
def truP : PV → Sto → Option Bool
  | .non, _ => some false
  | .bl b, _ => some b
  | .int i, _ => some (i != 0)
  | .str x, _ => if x.length ≤ sizeLine then some ((x.length : Int) != 0) else none
  | .tup xs, _ => some !xs.isEmpty
  | .lst xs, _ => some !xs.isEmpty
  | .loc l, μ => match μ[l]? with
    | some (.lst xs) => some !xs.isEmpty
    | some (.dic false kvs) => some !kvs.isEmpty
    | _ => none
  | .scr _, _ => none
theorem RepVs.isEmpty {K : Frg} {ι : Ad} {n : Nat} {H : Hp} : ∀ {xs : List PV} {ys : List V}, RepVs K ι n H xs ys → xs.isEmpty = ys.isEmpty
  | [], _, h => by cases h; rfl
  | x :: xs, _, h => by obtain ⟨y, r, rfl, _, _⟩ := h; rfl
theorem RepKs.isEmpty {κ : Type} {key : PV → Option κ} {K : Frg} {ι : Ad} {n : Nat} {H : Hp} : ∀ {xs : List (PV × PV)} {ys : List (κ × V)}, RepKs K ι n H key xs ys → xs.isEmpty = ys.isEmpty
  | [], _, h => by cases h; rfl
  | (k, x) :: xs, _, h => by obtain ⟨q, y, r, rfl, _, _⟩ := h; rfl
theorem tru_rep {K : Frg} {ι : Ad} {μ : Sto} {H : Hp} (S : RepS K ι H μ) {x : PV} {v : V} {b : Bool} (r : RepV K ι μ.length H x v) (h : truP x μ = some b) : TruV K v H b := by
  cases x with
  | non => cases r; cases h; rfl
  | bl c => cases r; cases h; rfl
  | int i => cases r; cases h; rfl
  | str z =>
    cases r
    have h : (if z.length ≤ sizeLine then some ((z.length : Int) != 0) else none) = some b := h
    by_cases hz : z.length ≤ sizeLine
    · rw [if_pos hz] at h; cases h; exact ⟨hz, rfl⟩
    · rw [if_neg hz] at h; cases h
  | tup xs =>
    obtain ⟨a, ys, rfl, t, q⟩ := r
    cases h
    exact .inr (.inl ⟨ys, t.sq, by rw [q.isEmpty]⟩)
  | lst xs =>
    obtain ⟨a, ys, rfl, ⟨t, _⟩, q⟩ := r
    cases h
    exact .inl ⟨ys, .of t, by rw [q.isEmpty]⟩
  | loc l =>
    obtain ⟨hl, rfl⟩ := r
    simp only [truP] at h
    split at h
    · rename_i xs e
      obtain ⟨ys, t, q⟩ := S.obj l _ e
      cases h
      exact .inl ⟨ys, .of t, by rw [q.isEmpty]⟩
    · rename_i kvs e
      obtain ⟨ys, t, q⟩ := S.obj l _ e
      cases h
      exact .inr (.inr ⟨ys, t, by rw [q.isEmpty]⟩)
    · cases h
  | scr ns => cases h
def tTru (d : Den) : DenT := fun ρ μ => (d ρ μ).bind fun p => (truP p.1 p.2).map fun b => (b, p.2)
theorem t_tru {K : Frg} {d : Den} (σ : L2.St) (H : Hp) (Q : Bool → Hp → Prop) (h : tT K (tTru d) σ H Q) : tD K d σ H fun x H' => ∃ k, TruV K x H' k ∧ Q k H' := by
  obtain ⟨ι, ρ, μ, b, μ', E, S, e, q⟩ := h
  obtain ⟨⟨x, μ1⟩, e1, e2⟩ := Option.bind_eq_some_iff.mp e
  obtain ⟨c, e3, e4⟩ := Option.map_eq_some_iff.mp e2
  cases e4
  exact ⟨ι, ρ, μ, x, _, E, S, e1, fun hv ι' H' X R S => ⟨b, tru_rep S R e3, q ι' H' X S⟩⟩
def tAn (c d : DenT) : DenT := fun ρ μ => (c ρ μ).bind fun p => if p.1 = true then d ρ p.2 else some (false, p.2)
def tOr' (c d : DenT) : DenT := fun ρ μ => (c ρ μ).bind fun p => if p.1 = true then some (true, p.2) else d ρ p.2
def tNo (c : DenT) : DenT := fun ρ μ => (c ρ μ).map fun p => (!p.1, p.2)
section
variable {X : Cx} {a b : Expr} {rest : List Expr} {ca cb : DenT} {da db : Den} {pos : Pos}
/-- a name, a call, a subscript .. as a test -/
theorem x_tru (ha : PE X a (tD X.K da)) (he : ∀ whole, isTrue a X.env whole = (do let v ← whole; standAt a.pos; holding [v] (truthy v)) := by intro _; rfl) : PT X a (tT X.K (tTru da)) :=
  (pt_truth ha he).weak fun _ _ _ h => t_tru _ _ _ h
theorem x_an (ha : PT X a (tT X.K ca)) (hb : PW X (.BoolOp .And (b :: rest) pos) (tT X.K cb)) : PW X (.BoolOp .And (a :: b :: rest) pos) (tT X.K (tAn ca cb)) :=
  (pw_and ha hb).weak fun σ H Q h => by
    obtain ⟨ι, ρ, μ, c, μ', E, S, e, q⟩ := h
    obtain ⟨⟨x, μ1⟩, e1, e2⟩ := Option.bind_eq_some_iff.mp e
    refine ⟨ι, ρ, μ, x, μ1, E, S, e1, fun ι1 H1 X1 S1 => ?_⟩
    cases x with
    | true => exact ⟨ι1, ρ, μ1, c, μ', E.mono X1, S1, e2, q.mono X1⟩
    | false => cases e2; exact q ι1 H1 X1 S1
theorem x_an1 (ha : PT X a (tT X.K ca)) : PW X (.BoolOp .And [a] pos) (tT X.K ca) := pw_and1 ha
theorem x_or (ha : PT X a (tT X.K ca)) (hb : PW X (.BoolOp .Or (b :: rest) pos) (tT X.K cb)) : PW X (.BoolOp .Or (a :: b :: rest) pos) (tT X.K (tOr' ca cb)) :=
  (pw_or ha hb).weak fun σ H Q h => by
    obtain ⟨ι, ρ, μ, c, μ', E, S, e, q⟩ := h
    obtain ⟨⟨x, μ1⟩, e1, e2⟩ := Option.bind_eq_some_iff.mp e
    refine ⟨ι, ρ, μ, x, μ1, E, S, e1, fun ι1 H1 X1 S1 => ?_⟩
    cases x with
    | false => exact ⟨ι1, ρ, μ1, c, μ', E.mono X1, S1, e2, q.mono X1⟩
    | true => cases e2; exact q ι1 H1 X1 S1
theorem x_or1 (ha : PT X a (tT X.K ca)) : PW X (.BoolOp .Or [a] pos) (tT X.K ca) := pw_or1 ha
theorem x_no (ha : PT X a (tT X.K ca)) : PT X (.UnaryOp .Not a pos) (tT X.K (tNo ca)) :=
  (pt_not ha).weak fun σ H Q h => by
    obtain ⟨ι, ρ, μ, c, μ', E, S, e, q⟩ := h
    obtain ⟨⟨x, μ1⟩, e1, e2⟩ := Option.map_eq_some_iff.mp e
    cases e2
    exact ⟨ι, ρ, μ, x, _, E, S, e1, q⟩
/-- a if t else b -/
def dIf (c : DenT) (da db : Den) : Den := fun ρ μ => (c ρ μ).bind fun p => if p.1 = true then da ρ p.2 else db ρ p.2
theorem e_if {c : Expr} {dc : DenT} (hc : PT X c (tT X.K dc)) (ha : PE X a (tD X.K da)) (hb : PE X b (tD X.K db)) : PE X (.IfExp c a b pos) (tD X.K (dIf dc da db)) :=
  (pe_ifExp hc ha hb).weak fun σ H Q h => by
    obtain ⟨ι, ρ, μ, v, μ', E, S, e, q⟩ := h
    obtain ⟨⟨x, μ1⟩, e1, e2⟩ := Option.bind_eq_some_iff.mp e
    refine ⟨ι, ρ, μ, x, μ1, E, S, e1, fun ι1 H1 X1 S1 => ?_⟩
    cases x with
    | true => exact ⟨ι1, ρ, μ1, v, μ', E.mono X1, S1, e2, q.mono X1⟩
    | false => exact ⟨ι1, ρ, μ1, v, μ', E.mono X1, S1, e2, q.mono X1⟩
/-- x and y, x or y, not x as values -/
def dAn (da db : Den) : Den := fun ρ μ => (da ρ μ).bind fun p => match truP p.1 p.2 with
  | some true => db ρ p.2
  | some false => some p
  | none => none
def dOr (da db : Den) : Den := fun ρ μ => (da ρ μ).bind fun p => match truP p.1 p.2 with
  | some false => db ρ p.2
  | some true => some p
  | none => none
def dNo (da : Den) : Den := fun ρ μ => (da ρ μ).bind fun p => (truP p.1 p.2).map fun b => (.bl !b, p.2)
theorem e_an (ha : PE X a (tD X.K da)) (hb : PE X (.BoolOp .And (b :: rest) pos) (tD X.K db)) : PE X (.BoolOp .And (a :: b :: rest) pos) (tD X.K (dAn da db)) :=
  (pe_andT ha hb).weak fun σ H Q h => by
    obtain ⟨ι, ρ, μ, v, μ', E, S, e, q⟩ := h
    obtain ⟨⟨x, μ1⟩, e1, e2⟩ := Option.bind_eq_some_iff.mp e
    refine ⟨ι, ρ, μ, x, μ1, E, S, e1, fun hx ι1 H1 X1 R1 S1 => ?_⟩
    split at e2
    · rename_i e3
      exact ⟨true, tru_rep S1 R1 e3, ι1, ρ, μ1, v, μ', E.mono X1, S1, e2, q.mono X1⟩
    · rename_i e3
      cases e2
      exact ⟨false, tru_rep S1 R1 e3, q hx ι1 H1 X1 R1 S1⟩
    · cases e2
theorem e_or (ha : PE X a (tD X.K da)) (hb : PE X (.BoolOp .Or (b :: rest) pos) (tD X.K db)) : PE X (.BoolOp .Or (a :: b :: rest) pos) (tD X.K (dOr da db)) :=
  (pe_orT ha hb).weak fun σ H Q h => by
    obtain ⟨ι, ρ, μ, v, μ', E, S, e, q⟩ := h
    obtain ⟨⟨x, μ1⟩, e1, e2⟩ := Option.bind_eq_some_iff.mp e
    refine ⟨ι, ρ, μ, x, μ1, E, S, e1, fun hx ι1 H1 X1 R1 S1 => ?_⟩
    split at e2
    · rename_i e3
      exact ⟨false, tru_rep S1 R1 e3, ι1, ρ, μ1, v, μ', E.mono X1, S1, e2, q.mono X1⟩
    · rename_i e3
      cases e2
      exact ⟨true, tru_rep S1 R1 e3, q hx ι1 H1 X1 R1 S1⟩
    · cases e2
theorem e_one {op} {d : Den} (h : PE X a (tD X.K d)) : PE X (.BoolOp op [a] pos) (tD X.K d) := pe_one h
theorem e_no (ha : PE X a (tD X.K da)) : PE X (.UnaryOp .Not a pos) (tD X.K (dNo da)) :=
  (pe_notT ha).weak fun σ H Q h => by
    obtain ⟨ι, ρ, μ, v, μ', E, S, e, q⟩ := h
    obtain ⟨⟨x, μ1⟩, e1, e2⟩ := Option.bind_eq_some_iff.mp e
    obtain ⟨c, e3, e4⟩ := Option.map_eq_some_iff.mp e2
    cases e4
    exact ⟨ι, ρ, μ, x, _, E, S, e1, fun hx ι1 H1 X1 R1 S1 => ⟨c, tru_rep S1 R1 e3, q _ ι1 H1 X1 rfl S1⟩⟩
end

/-! ### argument lists, tuples, lists -/
def aNil : DenA := fun _ μ => some ([], μ)
def aCons (d : Den) (r : DenA) : DenA := fun ρ μ => (d ρ μ).bind fun p => (r ρ p.2).bind fun q => some (p.1 :: q.1, q.2)
theorem RepVs.mono' {K : Frg} {ι ι1 : Ad} {n n1 : Nat} {H H1 : Hp} (e : Ext ι n H ι1 n1 H1) {xs : List PV} {ys : List V} (h : RepVs K ι n H xs ys) : RepVs K ι1 n1 H1 xs ys := RepVs.mono e h
section
variable {X : Cx} {e : Expr} {es : List Expr} {d : Den} {r : DenA} {pos : Pos}
theorem a_nil : PA X [] (tA X.K aNil) := pa_nil.weak fun σ H Q h => by
  obtain ⟨ι, ρ, μ, v, μ', E, S, e, q⟩ := h
  cases e
  exact q [] ι H .refl rfl S
theorem a_cons (ha : PE X e (tD X.K d)) (hr : PA X es (tA X.K r)) (hs : starEach (e :: es) X.env = (false, eval e X.env) :: starEach es X.env := by rfl) : PA X (e :: es) (tA X.K (aCons d r)) :=
  (pa_cons ha hr hs).weak fun σ H Q h => by
    obtain ⟨ι, ρ, μ, v, μ', E, S, e, q⟩ := h
    obtain ⟨⟨x, μ1⟩, e1, e2⟩ := Option.bind_eq_some_iff.mp e
    obtain ⟨⟨y, μ2⟩, e3, e4⟩ := Option.bind_eq_some_iff.mp e2
    cases e4
    exact ⟨ι, ρ, μ, x, μ1, E, S, e1, fun hx ι1 H1 X1 R1 S1 => ⟨ι1, ρ, μ1, y, _, E.mono X1, S1, e3, fun hy ι2 H2 X2 R2 S2 => q _ ι2 H2 (X1.trans X2) (.cons (R1.mono X2) R2) S2⟩⟩
/-- a tuple display -/
def dTup (r : DenA) : Den := fun ρ μ => (r ρ μ).bind fun p => if p.1.length ≤ sizeLine then some (.tup p.1, p.2) else none
/-- a list display that nobody changes -/
def dLst (r : DenA) : Den := fun ρ μ => (r ρ μ).bind fun p => if p.1.length ≤ sizeLine then some (.lst p.1, p.2) else none
/-- a list display that will be changed -/
def dLoc (r : DenA) : Den := fun ρ μ => (r ρ μ).bind fun p => if p.1.length ≤ sizeLine then some (.loc p.2.length, p.2 ++ [.lst p.1]) else none
theorem Aft.tup {K : Frg} {ι : Ad} {μ : Sto} {H : Hp} {xs : List PV} {ys : List V} {Q : VK} (S : RepS K ι H μ) (q : Aft K ι μ H (.tup xs) μ Q) (r : RepVs K ι μ.length H xs ys) {p : Addr} (hp : H p = none) : Q (.ref p) (upd H p (.tup ys)) :=
  q _ ι _ (Ext.new1 S hp) ⟨p, ys, rfl, .inl ⟨upd_same, S.off hp⟩, RepVs.mono (Ext.new1 S hp) r⟩ (S.new1 hp)
theorem Aft.lst {K : Frg} {ι : Ad} {μ : Sto} {H : Hp} {xs : List PV} {ys : List V} {Q : VK} (S : RepS K ι H μ) (q : Aft K ι μ H (.lst xs) μ Q) (r : RepVs K ι μ.length H xs ys) {p : Addr} (hp : H p = none) : Q (.ref p) (upd H p (.lst ys)) :=
  q _ ι _ (Ext.new1 S hp) ⟨p, ys, rfl, ⟨upd_same, S.off hp⟩, RepVs.mono (Ext.new1 S hp) r⟩ (S.new1 hp)
theorem Aft.loc {K : Frg} {ι : Ad} {μ : Sto} {H : Hp} {xs : List PV} {ys : List V} {Q : VK} (S : RepS K ι H μ) (q : Aft K ι μ H (.loc μ.length) (μ ++ [.lst xs]) Q) (r : RepVs K ι μ.length H xs ys) {p : Addr} (hp : H p = none) : Q (.ref p) (upd H p (.lst ys)) := by
  have hl : (μ ++ [Ob.lst xs]).length = μ.length + 1 := by simp
  refine q _ (addI ι μ.length p) _ (by rw [hl]; exact Ext.add S hp) ?_ ?_
  · rw [hl]
    exact ⟨Nat.lt_succ_self _, by rw [addI_at]⟩
  · exact S.add hp ⟨ys, upd_same, RepVs.mono (Ext.add S hp) r⟩
theorem e_tup {x1} (h : PA X es (tA X.K r)) : PE X (.Tuple es x1 pos) (tD X.K (dTup r)) :=
  (pe_tup h).weak fun σ H Q h => by
    obtain ⟨ι, ρ, μ, v, μ', E, S, e, q⟩ := h
    obtain ⟨⟨x, μ1⟩, e1, e2⟩ := Option.bind_eq_some_iff.mp e
    split at e2
    · rename_i hz
      cases e2
      exact ⟨ι, ρ, μ, x, _, E, S, e1, fun hs ι1 H1 X1 R1 S1 => ⟨by rw [← R1.length]; exact hz, fun p hp => (q.mono X1).tup S1 R1 hp⟩⟩
    · cases e2
theorem e_lst (h : PA X es (tA X.K r)) : PE X (.List es pos) (tD X.K (dLst r)) :=
  (pe_lst h).weak fun σ H Q h => by
    obtain ⟨ι, ρ, μ, v, μ', E, S, e, q⟩ := h
    obtain ⟨⟨x, μ1⟩, e1, e2⟩ := Option.bind_eq_some_iff.mp e
    split at e2
    · rename_i hz
      cases e2
      exact ⟨ι, ρ, μ, x, _, E, S, e1, fun hs ι1 H1 X1 R1 S1 => ⟨by rw [← R1.length]; exact hz, fun p hp => (q.mono X1).lst S1 R1 hp⟩⟩
    · cases e2
theorem e_loc (h : PA X es (tA X.K r)) : PE X (.List es pos) (tD X.K (dLoc r)) :=
  (pe_lst h).weak fun σ H Q h => by
    obtain ⟨ι, ρ, μ, v, μ', E, S, e, q⟩ := h
    obtain ⟨⟨x, μ1⟩, e1, e2⟩ := Option.bind_eq_some_iff.mp e
    split at e2
    · rename_i hz
      cases e2
      exact ⟨ι, ρ, μ, x, _, E, S, e1, fun hs ι1 H1 X1 R1 S1 => ⟨by rw [← R1.length]; exact hz, fun p hp => (q.mono X1).loc S1 R1 hp⟩⟩
    · cases e2
end
end Fd

/-! Fd3: what the operators do. -/
namespace Fd
open PySem PySem.Spec PyProof.Rows L2

def b2 (b : Bool) : Int := if b = true then 1 else 0
/-- a list, by value or in the store -/
def rdL (μ : Sto) : PV → Option (List PV)
  | .lst xs => some xs
  | .loc l => match μ[l]? with
    | some (.lst xs) => some xs
    | _ => none
  | _ => none
section
variable {K : Frg} {ι : Ad} {μ : Sto} {H : Hp}
theorem rdL_rep (S : RepS K ι H μ) {x : PV} {v : V} {xs : List PV} (r : RepV K ι μ.length H x v) (h : rdL μ x = some xs) : ∃ a ys, v = .ref a ∧ H a = some (.lst ys) ∧ RepVs K ι μ.length H xs ys := by
  unfold rdL at h
  split at h
  · cases h
    obtain ⟨a, ys, rfl, ⟨t, _⟩, q⟩ := r
    exact ⟨a, ys, rfl, t, q⟩
  · rename_i l
    obtain ⟨hl, rfl⟩ := r
    split at h
    · rename_i zs e
      cases h
      obtain ⟨ys, t, q⟩ := S.obj l _ e
      exact ⟨_, ys, rfl, t, q⟩
    · cases h
  · cases h
end

/-! ### + - * // % ** and signs -/
def f_add : Op2 := fun x y μ => match x, y with
  | .int i, .int j => some (.int (i + j), μ)
  | .str a, .str b => if a.length + b.length ≤ sizeLine then some (.str (a ++ b), μ) else none
  | .int i, .bl b => some (.int (i + b2 b), μ)
  | .bl b, .int i => some (.int (b2 b + i), μ)
  | .bl b, .bl c => some (.int (b2 b + b2 c), μ)
  | .tup xs, .tup ys => if xs.length + ys.length ≤ sizeLine then some (.tup (xs ++ ys), μ) else none
  | x, y => match rdL μ x, rdL μ y with
    | some xs, some ys => if xs.length + ys.length ≤ sizeLine then some (.lst (xs ++ ys), μ) else none
    | _, _ => none
section
variable {X : Cx}
theorem op_add_ii : OpR X (binaryOp .Add) (fun x y H Q => ∃ i k, x = .bl k ∧ y = .int i ∧ Q (.int (b2 k + i)) H) := by
  intro pins s σ H x y v u Q I rx ry h
  obtain ⟨i, k, rfl, rfl, q⟩ := h
  obtain ⟨t, rfl⟩ := ry
  cases rx
  exact PySem.IntBool.add_bool_int ⟨.int (b2 k + i), H, I.tok _, ⟨_, rfl⟩, q⟩
theorem op_add_bb : OpR X (binaryOp .Add) (fun x y H Q => ∃ i k, x = .bl k ∧ y = .bl i ∧ Q (.int (b2 k + b2 i)) H) := by
  intro pins s σ H x y v u Q I rx ry h
  obtain ⟨i, k, rfl, rfl, q⟩ := h
  cases rx
  cases ry
  exact add_bool ⟨.int (b2 k + b2 i), H, I.tok _, ⟨_, rfl⟩, q⟩
theorem op_sub_bb : OpR X (binaryOp .Sub) (fun x y H Q => ∃ i k, x = .bl k ∧ y = .bl i ∧ Q (.int (b2 k - b2 i)) H) := by
  intro pins s σ H x y v u Q I rx ry h
  obtain ⟨i, k, rfl, rfl, q⟩ := h
  cases rx
  cases ry
  exact sub_bool ⟨.int (b2 k - b2 i), H, I.tok _, ⟨_, rfl⟩, q⟩
end
def r_add (K : Frg) : R2 := fun x y H Q => (∃ i j, x = .int i ∧ y = .int j ∧ Q (.int (i + j)) H) ∨ ((∃ i j, x = .str i ∧ y = .str j ∧ i.length + j.length ≤ sizeLine ∧ Q (.str (i ++ j)) H) ∨
  ((∃ i k, x = .int i ∧ y = .bl k ∧ Q (.int (i + b2 k)) H) ∨ ((∃ i k, x = .bl k ∧ y = .int i ∧ Q (.int (b2 k + i)) H) ∨ ((∃ i k, x = .bl k ∧ y = .bl i ∧ Q (.int (b2 k + b2 i)) H) ∨ (rCatA K x y H Q ∨ rCat x y H Q)))))
theorem o_add {X : Cx} : OpR X (binaryOp .Add) (r_add X.K) := op_add.or (op_add_str.or (op_add_ib.or (op_add_ii.or (op_add_bb.or (op_catA.or op_cat)))))
theorem s_add {K : Frg} : S2 K (r_add K) f_add := by
  intro ι H μ x y v μ' hx hy Q S rx ry h q
  unfold f_add at h
  split at h
  · cases h; cases rx; cases ry; exact .inl ⟨_, _, rfl, rfl, q.pure S rfl⟩
  · split at h
    · cases h; cases rx; cases ry; exact .inr (.inl ⟨_, _, rfl, rfl, by assumption, q.pure S rfl⟩)
    · cases h
  · cases h; cases rx; cases ry; exact .inr (.inr (.inl ⟨_, _, rfl, rfl, q.pure S rfl⟩))
  · cases h; cases rx; cases ry; exact .inr (.inr (.inr (.inl ⟨_, _, rfl, rfl, q.pure S rfl⟩)))
  · cases h; cases rx; cases ry; exact .inr (.inr (.inr (.inr (.inl ⟨_, _, rfl, rfl, q.pure S rfl⟩))))
  · rename_i xs ys
    split at h
    · rename_i hz
      cases h
      obtain ⟨a, us, rfl, ta, ra⟩ := rx
      obtain ⟨b, ws, rfl, tb, rb⟩ := ry
      refine .inr (.inr (.inr (.inr (.inr (.inl ⟨a, b, us, ws, rfl, rfl, ta.sq, tb.sq, by rw [← ra.length, ← rb.length]; exact hz, fun e => ?_, fun _ e => ?_, fun _ _ p hp => q.tup S (ra.append rb) hp⟩)))))
      · subst e
        have e : xs = [] := List.length_eq_zero_iff.mp (ra.length.trans rfl)
        subst e
        exact q.pure S ⟨b, ws, rfl, tb, rb⟩
      · subst e
        have e : ys = [] := List.length_eq_zero_iff.mp (rb.length.trans rfl)
        subst e
        exact q.pure S ⟨a, us, rfl, ta, by rw [List.append_nil]; exact ra⟩
    · cases h
  · split at h
    · rename_i xs ys e1 e2
      split at h
      · rename_i hz
        cases h
        obtain ⟨a, us, rfl, ta, ra⟩ := rdL_rep S rx e1
        obtain ⟨b, ws, rfl, tb, rb⟩ := rdL_rep S ry e2
        exact .inr (.inr (.inr (.inr (.inr (.inr ⟨a, b, us, ws, rfl, rfl, ta, tb, by rw [← ra.length, ← rb.length]; exact hz, fun p hp => q.lst S (ra.append rb) hp⟩)))))
      · cases h
    · cases h
def f_sub : Op2 := fun x y μ => match x, y with
  | .int i, .int j => some (.int (i - j), μ)
  | .bl b, .bl c => some (.int (b2 b - b2 c), μ)
  | _, _ => none
def r_sub : R2 := fun x y H Q => (∃ i j, x = .int i ∧ y = .int j ∧ Q (.int (i - j)) H) ∨ (∃ i k, x = .bl k ∧ y = .bl i ∧ Q (.int (b2 k - b2 i)) H)
theorem o_sub {X : Cx} : OpR X (binaryOp .Sub) r_sub := op_sub.or op_sub_bb
theorem s_sub {K : Frg} : S2 K r_sub f_sub := by
  intro ι H μ x y v μ' hx hy Q S rx ry h q
  unfold f_sub at h
  split at h
  · cases h; cases rx; cases ry; exact .inl ⟨_, _, rfl, rfl, q.pure S rfl⟩
  · cases h; cases rx; cases ry; exact .inr ⟨_, _, rfl, rfl, q.pure S rfl⟩
  · cases h
instance (i j : Int) : Decidable (CMulW i j) := inferInstanceAs (Decidable (_ < _))
def okMul (i j : Int) : Bool := decide (i.natAbs.log2 + j.natAbs.log2 < 1000000)
theorem okMul_iff {i j : Int} (h : okMul i j = true) : CMulW i j := of_decide_eq_true h
theorem okMul_of {i j : Int} (hi : i.natAbs < 2 ^ 400000) (hj : j.natAbs < 2 ^ 400000) : okMul i j = true := decide_eq_true (wide_mul hi hj (by decide) (by decide) (by decide))
theorem okMul_small {i j : Int} (hi : i.natAbs < 2 ^ 200) (hj : j.natAbs < 2 ^ 200) : okMul i j = true := decide_eq_true (wide_mul hi hj (by decide) (by decide) (by decide))
def f_mul : Op2 := fun x y μ => match x, y with
  | .int i, .int j => if okMul i j = true then some (.int (i * j), μ) else none
  | .str a, .int k => none
  | x, .int k => match rdL μ x with
    | some xs => if -(2 ^ 63) ≤ k ∧ k < 2 ^ 63 ∧ xs.length * k.toNat ≤ sizeLine then some (.lst (List.replicate k.toNat xs).flatten, μ) else none
    | none => none
  | _, _ => none
def r_mul : R2 := fun x y H Q => rI CMulW (fun i j => .int (i * j)) x y H Q ∨ rRep x y H Q
theorem o_mul {X : Cx} : OpR X (binaryOp .Mult) r_mul := op_mulW.or op_rep
theorem s_mul {K : Frg} : S2 K r_mul f_mul := by
  intro ι H μ x y v μ' hx hy Q S rx ry h q
  unfold f_mul at h
  split at h
  · split at h
    · rename_i hk
      cases h; cases rx; cases ry; exact .inl ⟨_, _, rfl, rfl, okMul_iff hk, q.pure S rfl⟩
    · cases h
  · cases h
  · split at h
    · rename_i xs e
      split at h
      · rename_i hz
        cases h
        obtain ⟨a, us, rfl, ta, ra⟩ := rdL_rep S rx e
        cases ry
        exact .inr ⟨a, _, us, rfl, rfl, ta, hz.1, hz.2.1, by rw [← ra.length]; exact hz.2.2, fun p hp => q.lst S (ra.rep _) hp⟩
      · cases h
    · cases h
  · cases h
def f_fdiv : Op2 := fun x y μ => match x, y with
  | .int i, .int j => if 0 < j ∧ j.natAbs.log2 < 9000 then some (.int (i / j), μ) else if j < 0 ∧ j.natAbs.log2 < 9000 then some (.int (i.fdiv j), μ) else none
  | _, _ => none
def CDivZ (i j : Int) : Prop := j ≠ 0 ∧ j.natAbs.log2 < 9000
theorem op_fdivZ {X : Cx} : OpR X (binaryOp .FloorDiv) (rI CDivZ fun i j => .int (i.fdiv j)) := opI fun _ _ _ _ _ _ _ hc q => floordiv_int hc.1 q (.inl (PyProof.noPylong_of_log2 hc.2))
def r_fdiv : R2 := fun x y H Q => rI CDivW (fun i j => .int (i / j)) x y H Q ∨ rI CDivZ (fun i j => .int (i.fdiv j)) x y H Q
theorem o_fdiv {X : Cx} : OpR X (binaryOp .FloorDiv) r_fdiv := op_fdivW.or op_fdivZ
theorem s_fdiv {K : Frg} : S2 K r_fdiv f_fdiv := by
  intro ι H μ x y v μ' hx hy Q S rx ry h q
  unfold f_fdiv at h
  split at h
  · split at h
    · rename_i hk
      cases h; cases rx; cases ry; exact .inl ⟨_, _, rfl, rfl, hk, q.pure S rfl⟩
    · split at h
      · rename_i hk
        cases h; cases rx; cases ry; exact .inr ⟨_, _, rfl, rfl, ⟨by omega, hk.2⟩, q.pure S rfl⟩
      · cases h
  · cases h
def f_mod : Op2 := fun x y μ => match x, y with
  | .int i, .int j => if 0 < j then some (.int (i % j), μ) else if j < 0 then some (.int (i.fmod j), μ) else none
  | _, _ => none
def r_mod : R2 := fun x y H Q => rI (fun _ j => 0 < j) (fun i j => .int (i % j)) x y H Q ∨ rI (fun _ j => j ≠ 0) (fun i j => .int (i.fmod j)) x y H Q
theorem o_mod {X : Cx} : OpR X (binaryOp .Mod) r_mod := op_mod.or op_modN
theorem s_mod {K : Frg} : S2 K r_mod f_mod := by
  intro ι H μ x y v μ' hx hy Q S rx ry h q
  unfold f_mod at h
  split at h
  · split at h
    · rename_i hk
      cases h; cases rx; cases ry; exact .inl ⟨_, _, rfl, rfl, hk, q.pure S rfl⟩
    · split at h
      · rename_i hk
        cases h; cases rx; cases ry; exact .inr ⟨_, _, rfl, rfl, by omega, q.pure S rfl⟩
      · cases h
  · cases h
def f_pow : Op2 := fun x y μ => match x, y with
  | .int i, .int j => if 0 ≤ j ∧ j ≤ 1000000 ∧ i.natAbs < 2 ^ 64 then some (.int (i ^ j.toNat), μ) else none
  | _, _ => none
theorem s_pow {K : Frg} : S2 K (rI CPow fun i j => .int (i ^ j.toNat)) f_pow := by
  intro ι H μ x y v μ' hx hy Q S rx ry h q
  unfold f_pow at h
  split at h
  · split at h
    · rename_i hk
      cases h; cases rx; cases ry; exact ⟨_, _, rfl, rfl, hk, q.pure S rfl⟩
    · cases h
  · cases h
def f_neg : Op1 := fun x μ => match x with
  | .int i => some (.int (-i), μ)
  | _ => none
theorem s_neg {K : Frg} : S1 K (rU fun i => .int (-i)) f_neg := by
  intro ι H μ x v μ' hx Q S rx h q
  unfold f_neg at h
  split at h
  · cases h; cases rx; exact ⟨_, rfl, q.pure S rfl⟩
  · cases h

/-! ### < <= > >= -/
def intsP : List PV → Option (List Int)
  | [] => some []
  | .int i :: r => (intsP r).map (i :: ·)
  | _ :: _ => none
theorem intsP_map : ∀ ns : List Int, intsP (ns.map PV.int) = some ns
  | [] => rfl
  | i :: r => by rw [List.map_cons]; unfold intsP; rw [intsP_map r]; rfl
theorem intsP_rep {K : Frg} {ι : Ad} {n : Nat} {H : Hp} : ∀ {xs : List PV} {ys : List V} {ns : List Int}, intsP xs = some ns → RepVs K ι n H xs ys → ys = ns.map V.int ∧ xs = ns.map PV.int
  | [], _, _, h, r => by cases h; cases r; exact ⟨rfl, rfl⟩
  | .int i :: xs, _, ns, h, r => by
    obtain ⟨y, t, rfl, r1, r2⟩ := r
    unfold intsP at h
    obtain ⟨ms, e, rfl⟩ := Option.map_eq_some_iff.mp h
    cases r1
    obtain ⟨e1, e2⟩ := intsP_rep e r2
    exact ⟨by rw [e1]; rfl, by rw [e2]; rfl⟩
  | .non :: _, _, _, h, _ => by cases h
  | .bl _ :: _, _, _, h, _ => by cases h
  | .str _ :: _, _, _, h, _ => by cases h
  | .tup _ :: _, _, _, h, _ => by cases h
  | .lst _ :: _, _, _, h, _ => by cases h
  | .loc _ :: _, _, _, h, _ => by cases h
  | .scr _ :: _, _, _, h, _ => by cases h
def f_lt : Op2 := fun x y μ => match x, y with
  | .int i, .int j => some (.bl (decide (i < j)), μ)
  | .tup xs, .tup ys => match intsP xs, intsP ys with
    | some ns, some ms => some (.bl (HT.lexLt ns ms), μ)
    | _, _ => none
  | _, _ => none
def r_lt (K : Frg) : R2 := fun x y H Q => rI0 (fun i j => .bl (decide (i < j))) x y H Q ∨ rLtT K x y H Q
theorem o_lt {X : Cx} (hu : X.A.units < cLine) : OpR X (compareOp .Lt) (r_lt X.K) := op_lt.or (op_ltT hu)
theorem s_lt {K : Frg} : S2 K (r_lt K) f_lt := by
  intro ι H μ x y v μ' hx hy Q S rx ry h q
  unfold f_lt at h
  split at h
  · cases h; cases rx; cases ry; exact .inl ⟨_, _, rfl, rfl, q.pure S rfl⟩
  · split at h
    · rename_i ns ms e1 e2
      cases h
      obtain ⟨a, us, rfl, ta, ra⟩ := rx
      obtain ⟨b, ws, rfl, tb, rb⟩ := ry
      obtain ⟨rfl, _⟩ := intsP_rep e1 ra
      obtain ⟨rfl, _⟩ := intsP_rep e2 rb
      exact .inr ⟨a, b, ns, ms, rfl, rfl, ta.sq, tb.sq, q.pure S rfl⟩
    · cases h
  · cases h
def f_le : Op2 := fun x y μ => match x, y with
  | .int i, .int j => some (.bl (decide (i ≤ j)), μ)
  | _, _ => none
def f_gt : Op2 := fun x y μ => match x, y with
  | .int i, .int j => some (.bl (decide (j < i)), μ)
  | _, _ => none
def f_ge : Op2 := fun x y μ => match x, y with
  | .int i, .int j => some (.bl (decide (j ≤ i)), μ)
  | _, _ => none
theorem s_le {K : Frg} : S2 K (rI0 fun i j => .bl (decide (i ≤ j))) f_le := by
  intro ι H μ x y v μ' hx hy Q S rx ry h q
  unfold f_le at h
  split at h
  · cases h; cases rx; cases ry; exact ⟨_, _, rfl, rfl, q.pure S rfl⟩
  · cases h
theorem s_gt {K : Frg} : S2 K (rI0 fun i j => .bl (decide (j < i))) f_gt := by
  intro ι H μ x y v μ' hx hy Q S rx ry h q
  unfold f_gt at h
  split at h
  · cases h; cases rx; cases ry; exact ⟨_, _, rfl, rfl, q.pure S rfl⟩
  · cases h
theorem s_ge {K : Frg} : S2 K (rI0 fun i j => .bl (decide (j ≤ i))) f_ge := by
  intro ι H μ x y v μ' hx hy Q S rx ry h q
  unfold f_ge at h
  split at h
  · cases h; cases rx; cases ry; exact ⟨_, _, rfl, rfl, q.pure S rfl⟩
  · cases h

/-! ### == at any depth -/
mutual
def peqv : PV → PV → Bool
  | .non, .non => true
  | .bl a, .bl b => a == b
  | .bl a, .int j => (if a then 1 else 0) == j
  | .int i, .bl b => i == (if b then 1 else 0)
  | .int i, .int j => i == j
  | .str x, .str y => x == y
  | .lst xs, .lst ys => peqvs xs ys
  | .tup xs, .tup ys => peqvs xs ys
  | _, _ => false
def peqvs : List PV → List PV → Bool
  | [], [] => true
  | x :: xs, y :: ys => peqv x y && peqvs xs ys
  | _, _ => false
end
mutual
/-- data of depth at most d -/
def pok : PV → Nat → Bool
  | .non, _ => true
  | .bl _, _ => true
  | .int _, _ => true
  | .str x, _ => PyData.strOk x
  | .tup xs, d => match d with
    | 0 => false
    | d + 1 => poks xs d
  | .lst xs, d => match d with
    | 0 => false
    | d + 1 => poks xs d
  | .loc _, _ => false
  | .scr _, _ => false
def poks : List PV → Nat → Bool
  | [], _ => true
  | x :: xs, d => pok x d && poks xs d
end
mutual
def toD : PV → PyData
  | .non => .none
  | .bl b => .bool b
  | .int i => .int i
  | .str x => .str x
  | .tup xs => .tuple (toDs xs)
  | .lst xs => .list (toDs xs)
  | .loc _ => .none
  | .scr _ => .none
def toDs : List PV → List PyData
  | [] => []
  | x :: xs => toD x :: toDs xs
end
mutual
theorem toD_lay : ∀ (x : PV) (d : Nat), pok x d = true → (toD x).canLay0 = true ∧ (toD x).depth ≤ d
  | .non, d, _ => ⟨rfl, Nat.zero_le _⟩
  | .bl _, d, _ => ⟨rfl, Nat.zero_le _⟩
  | .int _, d, _ => ⟨rfl, Nat.zero_le _⟩
  | .str x, d, h => ⟨h, Nat.zero_le _⟩
  | .tup xs, 0, h => by cases h
  | .tup xs, d + 1, h => ⟨(toDs_lay xs d h).1, Nat.succ_le_succ (toDs_lay xs d h).2⟩
  | .lst xs, 0, h => by cases h
  | .lst xs, d + 1, h => ⟨(toDs_lay xs d h).1, Nat.succ_le_succ (toDs_lay xs d h).2⟩
  | .loc _, d, h => by cases h
  | .scr _, d, h => by cases h
theorem toDs_lay : ∀ (xs : List PV) (d : Nat), poks xs d = true → PyData.canLayAll0 (toDs xs) = true ∧ PyData.depthAll (toDs xs) ≤ d
  | [], d, _ => ⟨rfl, Nat.zero_le _⟩
  | x :: xs, d, h => by
    have h' : (pok x d && poks xs d) = true := h
    rw [Bool.and_eq_true] at h'
    obtain ⟨a1, a2⟩ := toD_lay x d h'.1
    obtain ⟨b1, b2⟩ := toDs_lay xs d h'.2
    refine ⟨?_, ?_⟩
    · show ((toD x).canLay0 && PyData.canLayAll0 (toDs xs)) = true
      rw [a1, b1] <;> rfl
    · show max (toD x).depth (PyData.depthAll (toDs xs)) ≤ d
      exact Nat.max_le.mpr ⟨a2, b2⟩
end
theorem toD_shaped {x : PV} (h : pok x 64 = true) : SeqAt.shaped (toD x) = true := by
  obtain ⟨a, b⟩ := toD_lay x 64 h
  unfold SeqAt.shaped
  rw [a, Bool.true_and]
  exact decide_eq_true b
mutual
theorem toD_eqv : ∀ (x y : PV) (d e : Nat), pok x d = true → pok y e = true → PyData.eqv (toD x) (toD y) = peqv x y
  | .tup xs, .tup ys, d + 1, e + 1, h, g => toDs_eqv xs ys d e h g
  | .lst xs, .lst ys, d + 1, e + 1, h, g => toDs_eqv xs ys d e h g
  | .tup xs, y, 0, _, h, _ => by cases h
  | .lst xs, y, 0, _, h, _ => by cases h
  | x, .tup xs, _, 0, _, h => by cases h
  | x, .lst xs, _, 0, _, h => by cases h
  | .loc _, y, _, _, h, _ => by cases h
  | .scr _, y, _, _, h, _ => by cases h
  | x, .loc _, _, _, _, h => by cases h
  | x, .scr _, _, _, _, h => by cases h
  | .non, .non, _, _, _, _ => rfl
  | .non, .bl _, _, _, _, _ => rfl
  | .non, .int _, _, _, _, _ => rfl
  | .non, .str _, _, _, _, _ => rfl
  | .non, .tup _, _, _, _, _ => rfl
  | .non, .lst _, _, _, _, _ => rfl
  | .bl _, .non, _, _, _, _ => rfl
  | .bl _, .bl _, _, _, _, _ => rfl
  | .bl _, .int _, _, _, _, _ => rfl
  | .bl _, .str _, _, _, _, _ => rfl
  | .bl _, .tup _, _, _, _, _ => rfl
  | .bl _, .lst _, _, _, _, _ => rfl
  | .int _, .non, _, _, _, _ => rfl
  | .int _, .bl _, _, _, _, _ => rfl
  | .int _, .int _, _, _, _, _ => rfl
  | .int _, .str _, _, _, _, _ => rfl
  | .int _, .tup _, _, _, _, _ => rfl
  | .int _, .lst _, _, _, _, _ => rfl
  | .str _, .non, _, _, _, _ => rfl
  | .str _, .bl _, _, _, _, _ => rfl
  | .str _, .int _, _, _, _, _ => rfl
  | .str _, .str _, _, _, _, _ => rfl
  | .str _, .tup _, _, _, _, _ => rfl
  | .str _, .lst _, _, _, _, _ => rfl
  | .tup _, .non, _, _, _, _ => rfl
  | .tup _, .bl _, _, _, _, _ => rfl
  | .tup _, .int _, _, _, _, _ => rfl
  | .tup _, .str _, _, _, _, _ => rfl
  | .tup _, .lst _, _, _, _, _ => rfl
  | .lst _, .non, _, _, _, _ => rfl
  | .lst _, .bl _, _, _, _, _ => rfl
  | .lst _, .int _, _, _, _, _ => rfl
  | .lst _, .str _, _, _, _, _ => rfl
  | .lst _, .tup _, _, _, _, _ => rfl
theorem toDs_eqv : ∀ (xs ys : List PV) (d e : Nat), poks xs d = true → poks ys e = true → PyData.eqvAll (toDs xs) (toDs ys) = peqvs xs ys
  | [], [], _, _, _, _ => rfl
  | [], _ :: _, _, _, _, _ => rfl
  | _ :: _, [], _, _, _, _ => rfl
  | x :: xs, y :: ys, d, e, h, g => by
    have h' : (pok x d && poks xs d) = true := h
    have g' : (pok y e && poks ys e) = true := g
    rw [Bool.and_eq_true] at h' g'
    show (PyData.eqv (toD x) (toD y) && PyData.eqvAll (toDs xs) (toDs ys)) = (peqv x y && peqvs xs ys)
    rw [toD_eqv x y d e h'.1 g'.1, toDs_eqv xs ys d e h'.2 g'.2]
end
/-- a list in the store by its value -/
def rsv (μ : Sto) : PV → PV
  | .loc l => match μ[l]? with
    | some (.lst xs) => .lst xs
    | _ => .loc l
  | x => x
section
variable {K : Frg} {ι : Ad} {n : Nat} {H : Hp}
mutual
theorem dp_rep : ∀ (x : PV) (v : V) (d : Nat), pok x d = true → RepV K ι n H x v → Dp K H v (toD x)
  | .non, _, _, _, r => by cases r; exact .non
  | .bl b, _, _, _, r => by cases r; exact .bl b
  | .int i, _, _, _, r => by cases r; exact .int i
  | .str z, _, _, _, r => by cases r; exact .str z
  | .tup xs, _, 0, h, _ => by cases h
  | .lst xs, _, 0, h, _ => by cases h
  | .tup xs, _, d + 1, h, r => by
    obtain ⟨a, ys, rfl, t, q⟩ := r
    exact .tup t.sq (dps_rep xs ys d h q)
  | .lst xs, _, d + 1, h, r => by
    obtain ⟨a, ys, rfl, ⟨t, _⟩, q⟩ := r
    exact .lst (.of t) (dps_rep xs ys d h q)
  | .loc _, _, _, h, _ => by cases h
  | .scr _, _, _, h, _ => by cases h
theorem dps_rep : ∀ (xs : List PV) (ys : List V) (d : Nat), poks xs d = true → RepVs K ι n H xs ys → DpAll K H ys (toDs xs)
  | [], _, _, _, r => by cases r; exact .nil
  | x :: xs, _, d, h, r => by
    obtain ⟨y, t, rfl, r1, r2⟩ := r
    have h' : (pok x d && poks xs d) = true := h
    rw [Bool.and_eq_true] at h'
    exact .cons (dp_rep x y d h'.1 r1) (dps_rep xs t d h'.2 r2)
end
theorem dp_rsv {μ : Sto} (S : RepS K ι H μ) {x : PV} {v : V} (h : pok (rsv μ x) 64 = true) (r : RepV K ι μ.length H x v) : Dp K H v (toD (rsv μ x)) := by
  cases x with
  | loc l =>
    obtain ⟨hl, rfl⟩ := r
    unfold rsv at h ⊢
    simp only at h ⊢
    split at h
    · rename_i xs e
      obtain ⟨ys, t, q⟩ := S.obj l _ e
      exact .lst (.of t) (dps_rep xs ys 63 h q)
    · cases h
  | _ => exact dp_rep _ v 64 h r
end
def f_eq : Op2 := fun x y μ => match x, y with
  | .int i, .int j => some (.bl (decide (i = j)), μ)
  | .str a, .str b => some (.bl (decide (a = b)), μ)
  | x, y => if (pok (rsv μ x) 64 && pok (rsv μ y) 64) = true then some (.bl (peqv (rsv μ x) (rsv μ y)), μ) else none
def f_ne : Op2 := fun x y μ => match x, y with
  | .int i, .int j => some (.bl (!decide (i = j)), μ)
  | .str a, .str b => some (.bl (!decide (a = b)), μ)
  | x, y => if (pok (rsv μ x) 64 && pok (rsv μ y) 64) = true then some (.bl (!peqv (rsv μ x) (rsv μ y)), μ) else none
def r_eq (K : Frg) : R2 := fun x y H Q => rEq x y H Q ∨ rEqD K x y H Q
def r_ne (K : Frg) : R2 := fun x y H Q => rNe x y H Q ∨ rNeD K x y H Q
theorem o_eq {X : Cx} (hu : X.A.units + 64 < cLine) : OpR X (compareOp .Eq) (r_eq X.K) := op_eq.or (op_eqD hu)
theorem o_ne {X : Cx} (hu : X.A.units + 64 < cLine) : OpR X (compareOp .NotEq) (r_ne X.K) := op_ne.or (op_neD hu)
theorem s_eq {K : Frg} : S2 K (r_eq K) f_eq := by
  intro ι H μ x y v μ' hx hy Q S rx ry h q
  unfold f_eq at h
  split at h
  · cases h; cases rx; cases ry
    refine .inl ⟨rfl, q.pure S ?_⟩
    show V.bl _ = V.bl _
    simp
  · cases h; cases rx; cases ry
    refine .inl ⟨rfl, q.pure S ?_⟩
    show V.bl _ = V.bl _
    simp
  · split at h
    · rename_i hk
      cases h
      rw [Bool.and_eq_true] at hk
      refine .inr ⟨_, _, dp_rsv S hk.1 rx, dp_rsv S hk.2 ry, toD_shaped hk.1, toD_shaped hk.2, q.pure S ?_⟩
      rw [toD_eqv _ _ 64 64 hk.1 hk.2]
      rfl
    · cases h
theorem s_ne {K : Frg} : S2 K (r_ne K) f_ne := by
  intro ι H μ x y v μ' hx hy Q S rx ry h q
  unfold f_ne at h
  split at h
  · cases h; cases rx; cases ry
    refine .inl ⟨rfl, q.pure S ?_⟩
    show V.bl _ = V.bl _
    simp
  · cases h; cases rx; cases ry
    refine .inl ⟨rfl, q.pure S ?_⟩
    show V.bl _ = V.bl _
    simp
  · split at h
    · rename_i hk
      cases h
      rw [Bool.and_eq_true] at hk
      refine .inr ⟨_, _, dp_rsv S hk.1 rx, dp_rsv S hk.2 ry, toD_shaped hk.1, toD_shaped hk.2, q.pure S ?_⟩
      rw [toD_eqv _ _ 64 64 hk.1 hk.2]
      rfl
    · cases h

/-! ### is, is not -/
def isNon : PV → Bool
  | .non => true
  | _ => false
def f_is : Op2 := fun x y μ => match x, y with
  | .bl a, .bl b => some (.bl (decide (a = b)), μ)
  | x, .non => some (.bl (isNon x), μ)
  | _, _ => none
def f_isn : Op2 := fun x y μ => match x, y with
  | .bl a, .bl b => some (.bl (!decide (a = b)), μ)
  | x, .non => some (.bl (!isNon x), μ)
  | _, _ => none
def r_is : R2 := fun x y H Q => rIsB x y H Q ∨ (y = .non ∧ Q (.bl (decide (x = .non))) H)
def r_isn : R2 := fun x y H Q => rNotB x y H Q ∨ (y = .non ∧ Q (.bl (!decide (x = .non))) H)
theorem o_is {X : Cx} : OpR X (compareOp .Is) r_is := op_isBl.or op_isN
theorem o_isn {X : Cx} : OpR X (compareOp .IsNot) r_isn := op_notBl.or op_notN
theorem non_rep {K : Frg} {ι : Ad} {n : Nat} {H : Hp} {x : PV} {v : V} (r : RepV K ι n H x v) : decide (v = .non) = isNon x := by
  cases x with
  | non => cases r; rfl
  | bl _ => cases r; rfl
  | int _ => cases r; rfl
  | str _ => cases r; rfl
  | tup xs => obtain ⟨a, ys, rfl, _⟩ := r; rfl
  | lst xs => obtain ⟨a, ys, rfl, _⟩ := r; rfl
  | loc l => obtain ⟨_, rfl⟩ := r; rfl
  | scr l => obtain ⟨a, rfl, _⟩ := r; rfl
theorem s_is {K : Frg} : S2 K r_is f_is := by
  intro ι H μ x y v μ' hx hy Q S rx ry h q
  unfold f_is at h
  split at h
  · cases h; cases rx; cases ry; exact .inl ⟨_, _, rfl, rfl, q.pure S rfl⟩
  · cases h; cases ry
    exact .inr ⟨rfl, q.pure S (congrArg V.bl (non_rep rx))⟩
  · cases h
theorem s_isn {K : Frg} : S2 K r_isn f_isn := by
  intro ι H μ x y v μ' hx hy Q S rx ry h q
  unfold f_isn at h
  split at h
  · cases h; cases rx; cases ry; exact .inl ⟨_, _, rfl, rfl, q.pure S rfl⟩
  · cases h; cases ry
    exact .inr ⟨rfl, q.pure S (congrArg V.bl (congrArg not (non_rep rx)))⟩
  · cases h

/-! ### subscripts -/
def rdS (μ : Sto) : PV → Option (List PV)
  | .tup xs => some xs
  | x => rdL μ x
theorem RepVs.atI {K : Frg} {ι : Ad} {n : Nat} {H : Hp} {xs : List PV} {ys : List V} (r : RepVs K ι n H xs ys) {i : Int} {x : PV} (h : L2.atI xs i = some x) : ∃ y, L2.atI ys i = some y ∧ RepV K ι n H x y := by
  unfold L2.atI at h ⊢
  rw [← r.length]
  obtain ⟨j, e1, e2⟩ := Option.bind_eq_some_iff.mp h
  obtain ⟨y, h1, h2⟩ := r.get e2
  exact ⟨y, by rw [e1]; exact h1, h2⟩
def f_ix : Op2 := fun x y μ => match x, y with
  | .str z, .int i => if z.length ≤ sizeLine then (L2.atI z.cps.toList i).map fun c => (.str ⟨#[c]⟩, μ) else none
  | x, .int i => (rdS μ x).bind fun xs => (L2.atI xs i).map fun v => (v, μ)
  | _, _ => none
theorem s_ix {K : Frg} : S2 K (rIx K) f_ix := by
  intro ι H μ x y v μ' hx hy Q S rx ry h q
  unfold f_ix at h
  split at h
  · split at h
    · obtain ⟨c, e1, e2⟩ := Option.map_eq_some_iff.mp h
      cases e2; cases rx; cases ry
      exact .inr (.inr ⟨_, _, c, rfl, rfl, by assumption, e1, q.pure S rfl⟩)
    · cases h
  · obtain ⟨xs, e1, e2⟩ := Option.bind_eq_some_iff.mp h
    obtain ⟨w, e3, e4⟩ := Option.map_eq_some_iff.mp e2
    cases e4; cases ry
    unfold rdS at e1
    split at e1
    · cases e1
      obtain ⟨a, us, rfl, ta, ra⟩ := rx
      obtain ⟨z, h1, h2⟩ := ra.atI e3
      exact .inr (.inl ⟨a, us, _, z, rfl, rfl, ta.sq, h1, q.pure S h2⟩)
    · obtain ⟨a, us, rfl, ta, ra⟩ := rdL_rep S rx e1
      obtain ⟨z, h1, h2⟩ := ra.atI e3
      exact .inl ⟨a, us, _, z, rfl, rfl, .of ta, h1, q.pure S h2⟩
  · cases h
section
variable {X : Cx} {a b : Expr} {da db : Den} {pos : Pos}
theorem e_ix (ha : PE X a (tD X.K da)) (hb : PE X b (tD X.K db)) (hs : PlainIx b := by exact fun _ _ => rfl) : PE X (.Subscript a b pos) (tD X.K (d2 f_ix da db)) :=
  (pe_ix ix_seq ha hb hs).weak fun _ _ _ h => t_2 s_ix h
end
/-! slices -/
def DenO := En → Sto → Option (Option Int × Sto)
def tO' (K : Frg) (d : DenO) : TO := fun σ H Q => ∃ ι ρ μ o μ', RepE K ι μ.length H ρ σ ∧ RepS K ι H μ ∧ d ρ μ = some (o, μ') ∧ ∀ ι' H', Ext ι μ.length H ι' μ'.length H' → RepS K ι' H' μ' → Q o H'
def oNo : DenO := fun _ μ => some (none, μ)
def oSo (d : Den) : DenO := fun ρ μ => match d ρ μ with
  | some (.int i, μ') => some (some i, μ')
  | _ => none
section
variable {X : Cx} {e : Expr} {d : Den} {pos p2 : Pos}
theorem PO.weak {e : Option Expr} {t t' : TO} (h : PO X e t) (g : ∀ σ H Q, t' σ H Q → t σ H Q) : PO X e t' := ⟨fun pins s σ H Q I q => h.run pins s σ H Q I (g σ H Q q)⟩
theorem o_no : PO X none (tO' X.K oNo) := PO.weak po_none fun σ H Q h => by
  obtain ⟨ι, ρ, μ, o, μ', E, S, e, q⟩ := h
  cases e
  exact q ι H .refl S
theorem o_so (h : PE X e (tD X.K d)) : PO X (some e) (tO' X.K (oSo d)) := PO.weak (po_some h) fun σ H Q h => by
  obtain ⟨ι, ρ, μ, o, μ', E, S, e, q⟩ := h
  unfold oSo at e
  split at e
  · rename_i i μ1 e1
    cases e
    exact ⟨ι, ρ, μ, _, _, E, S, e1, fun hv ι' H' X R S' => ⟨i, R, q ι' H' X S'⟩⟩
  · cases e
end
def cutP {α : Type} (xs : List α) (lo hi : Option Int) : List α := (xs.drop (HT.sIx xs.length 0 lo)).take (HT.sIx xs.length xs.length hi - HT.sIx xs.length 0 lo)
theorem RepVs.cut {K : Frg} {ι : Ad} {n : Nat} {H : Hp} {xs : List PV} {ys : List V} (r : RepVs K ι n H xs ys) (lo hi : Option Int) : RepVs K ι n H (cutP xs lo hi) (cutV ys lo hi) := by
  unfold cutP cutV
  rw [r.length]
  exact (r.drop _).take _
def f_sl (lo hi : Option Int) : Op1 := fun x μ => match x with
  | .tup xs => some (.tup (cutP xs lo hi), μ)
  | .scr ns => some (.lst ((cutP ns lo hi).map PV.int), μ)
  | x => (rdL μ x).map fun xs => (.lst (cutP xs lo hi), μ)
def r_sl (K : Frg) : V → Option Int → Option Int → Hp → VK → Prop := fun x lo hi H Q => rSlA K x lo hi H Q ∨ rSlL K x lo hi H Q
theorem o_sl {X : Cx} : SlR X (r_sl X.K) := sl_tupA.or sl_list
theorem cut_map {α β : Type} (f : α → β) (xs : List α) (lo hi : Option Int) : cutP (xs.map f) lo hi = (cutP xs lo hi).map f := by
  unfold cutP
  rw [List.length_map, List.map_take, List.map_drop]
theorem repVs_ints {K : Frg} {ι : Ad} {n : Nat} {H : Hp} : ∀ ns : List Int, RepVs K ι n H (ns.map PV.int) (ns.map V.int)
  | [] => rfl
  | i :: r => ⟨.int i, r.map V.int, rfl, rfl, repVs_ints r⟩
theorem s_sl {K : Frg} {lo hi : Option Int} : S1 K (fun x => r_sl K x lo hi) (f_sl lo hi) := by
  intro ι H μ x v μ' hx Q S rx h q
  unfold f_sl at h
  split at h
  · rename_i xs
    cases h
    obtain ⟨a, us, rfl, ta, ra⟩ := rx
    refine .inl ⟨a, us, rfl, ta.sq, fun hw => ?_, fun _ p hp => q.tup S (ra.cut lo hi) hp⟩
    refine q.pure S ⟨a, us, rfl, ta, ?_⟩
    rw [← ra.length] at hw
    have : cutP xs lo hi = xs := by
      unfold cutP
      rw [hw.1, hw.2, List.drop_zero, Nat.sub_zero, List.take_length]
    rw [this]
    exact ra
  · rename_i ns
    cases h
    obtain ⟨a, rfl, t⟩ := rx
    refine .inr ⟨a, _, rfl, t.sq, fun p hp => q.lst S ?_ hp⟩
    have e : cutV (ns.map V.int) lo hi = (cutP ns lo hi).map V.int := cut_map V.int ns lo hi
    rw [e]
    exact repVs_ints _
  · obtain ⟨xs, e1, e2⟩ := Option.map_eq_some_iff.mp h
    cases e2
    obtain ⟨a, us, rfl, ta, ra⟩ := rdL_rep S rx e1
    exact .inr ⟨a, us, rfl, .of ta, fun p hp => q.lst S (ra.cut lo hi) hp⟩
def dSl (d : Den) (lo hi : DenO) : Den := fun ρ μ => (d ρ μ).bind fun p => (lo ρ p.2).bind fun q => (hi ρ q.2).bind fun r => f_sl q.1 r.1 p.1 r.2
section
variable {X : Cx} {e : Expr} {d : Den} {pos p2 : Pos} {lo hi : Option Expr} {dl dh : DenO}
theorem e_sl (he : PE X e (tD X.K d)) (hl : PO X lo (tO' X.K dl)) (hu : PO X hi (tO' X.K dh)) : PE X (.Subscript e (.Slice lo hi none p2) pos) (tD X.K (dSl d dl dh)) :=
  (pe_slice o_sl he hl hu).weak fun σ H Q h => by
    obtain ⟨ι, ρ, μ, v, μ', E, S, e, q⟩ := h
    obtain ⟨⟨x, μ1⟩, e1, e⟩ := Option.bind_eq_some_iff.mp e
    obtain ⟨⟨l, μ2⟩, e2, e⟩ := Option.bind_eq_some_iff.mp e
    obtain ⟨⟨u, μ3⟩, e3, e⟩ := Option.bind_eq_some_iff.mp e
    exact ⟨ι, ρ, μ, x, μ1, E, S, e1, fun hx ι1 H1 X1 R1 S1 => ⟨ι1, ρ, μ1, l, μ2, E.mono X1, S1, e2, fun ι2 H2 X2 S2 => ⟨ι2, ρ, μ2, u, μ3, E.mono (X1.trans X2), S2, e3, fun ι3 H3 X3 S3 =>
      s_sl ι3 H3 μ3 x v μ' hx Q S3 (R1.mono (X2.trans X3)) e (q.mono (X1.trans (X2.trans X3)))⟩⟩⟩
end
end Fd

/-! Fd4: targets, statements, loops. -/
namespace Fd
open PySem PySem.Spec PyProof.Rows L2

inductive Out where
  | nx (ρ : En) (μ : Sto) | rt (v : PV) (μ : Sto) | bk (ρ : En) (μ : Sto) | ct (ρ : En) (μ : Sto)
abbrev DenS := En → Sto → Option Out
abbrev DenG := PV → En → Sto → Option (En × Sto)
def AftR (K : Frg) (ι : Ad) (μ : Sto) (H : Hp) (ρ' : En) (μ' : Sto) (Q : L2.St → Hp → Prop) : Prop := ∀ σ' ι' H', Ext ι μ.length H ι' μ'.length H' → RepE K ι' μ'.length H' ρ' σ' → RepS K ι' H' μ' → Q σ' H'
def AftS (K : Frg) (ι : Ad) (μ : Sto) (H : Hp) (D : Ends) : Out → Prop
  | .nx ρ' μ' => AftR K ι μ H ρ' μ' D.nx
  | .rt v μ' => Aft K ι μ H v μ' D.rt
  | .bk ρ' μ' => AftR K ι μ H ρ' μ' D.bk
  | .ct ρ' μ' => AftR K ι μ H ρ' μ' D.ct
def tS (K : Frg) (d : DenS) : TS := fun D σ H => ∃ ι ρ μ o, RepE K ι μ.length H ρ σ ∧ RepS K ι H μ ∧ d ρ μ = some o ∧ AftS K ι μ H D o
def tG (K : Frg) (g : DenG) : TG := fun v σ H Q => ∃ ι ρ μ pv ρ' μ', RepE K ι μ.length H ρ σ ∧ RepS K ι H μ ∧ RepV K ι μ.length H pv v ∧ g pv ρ μ = some (ρ', μ') ∧ AftR K ι μ H ρ' μ' Q
section
variable {K : Frg} {ι ι1 : Ad} {μ μ1 μ' : Sto} {H H1 : Hp}
theorem AftR.mono {ρ' : En} {Q : L2.St → Hp → Prop} (e : Ext ι μ.length H ι1 μ1.length H1) (q : AftR K ι μ H ρ' μ' Q) : AftR K ι1 μ1 H1 ρ' μ' Q := fun σ' ι' H' X R S => q σ' ι' H' (e.trans X) R S
theorem AftS.mono {D : Ends} {o : Out} (e : Ext ι μ.length H ι1 μ1.length H1) (q : AftS K ι μ H D o) : AftS K ι1 μ1 H1 D o := by
  cases o with
  | nx ρ μ => exact AftR.mono e q
  | rt v μ => exact Aft.mono e q
  | bk ρ μ => exact AftR.mono e q
  | ct ρ μ => exact AftR.mono e q
end
/-! ### blocks -/
def sNil : DenS := fun ρ μ => some (.nx ρ μ)
def sSeq (a b : DenS) : DenS := fun ρ μ => (a ρ μ).bind fun o => match o with
  | .nx ρ' μ' => b ρ' μ'
  | o => some o
def sIf (c : DenT) (a b : DenS) : DenS := fun ρ μ => (c ρ μ).bind fun p => if p.1 = true then a ρ p.2 else b ρ p.2
def sRet (d : Den) : DenS := fun ρ μ => (d ρ μ).map fun p => .rt p.1 p.2
def sRetN : DenS := fun _ μ => some (.rt .non μ)
def sEx (d : Den) : DenS := fun ρ μ => (d ρ μ).map fun p => .nx ρ p.2
def sBk : DenS := fun ρ μ => some (.bk ρ μ)
def sCt : DenS := fun ρ μ => some (.ct ρ μ)
def sNo : DenS := fun _ _ => none
def sAsg (d : Den) (g : DenG) : DenS := fun ρ μ => (d ρ μ).bind fun p => (g p.1 ρ p.2).map fun q => .nx q.1 q.2
section
variable {X : Cx} {st : Stmt} {rest : List Stmt} {t u : DenS} {e : Expr} {d : Den} {pos : Pos}
theorem ss_nil : PSs X [] (tS X.K sNil) := pss_nil.weak fun D σ H h => by
  obtain ⟨ι, ρ, μ, o, E, S, e, q⟩ := h
  cases e
  exact q σ ι H .refl E S
theorem ss_cons (h1 : PS X st (tS X.K t)) (h2 : PSs X rest (tS X.K u)) : PSs X (st :: rest) (tS X.K (sSeq t u)) :=
  (pss_cons h1 h2).weak fun D σ H h => by
    obtain ⟨ι, ρ, μ, o, E, S, e, q⟩ := h
    obtain ⟨o1, e1, e2⟩ := Option.bind_eq_some_iff.mp e
    refine ⟨ι, ρ, μ, o1, E, S, e1, ?_⟩
    cases o1 with
    | nx ρ' μ' => exact fun σ' ι' H' X R S' => ⟨ι', ρ', μ', o, R, S', e2, q.mono X⟩
    | rt v μ' => cases e2; exact q
    | bk ρ' μ' => cases e2; exact q
    | ct ρ' μ' => cases e2; exact q
theorem ss_one (h1 : PS X st (tS X.K t)) : PSs X [st] (tS X.K t) := pss_one h1
theorem ss_never {sts : List Stmt} : PSs X sts (tS X.K sNo) := pss_never.weak fun D σ H h => by
  obtain ⟨ι, ρ, μ, o, E, S, e, q⟩ := h
  cases e
theorem s_never : PS X st (tS X.K sNo) := ps_never.weak fun D σ H h => by
  obtain ⟨ι, ρ, μ, o, E, S, e, q⟩ := h
  cases e
theorem s_pass : PS X (.Pass pos) (tS X.K sNil) := ps_pass.weak fun D σ H h => by
  obtain ⟨ι, ρ, μ, o, E, S, e, q⟩ := h
  cases e
  exact q σ ι H .refl E S
theorem s_bk : PS X (.Break pos) (tS X.K sBk) := ps_break.weak fun D σ H h => by
  obtain ⟨ι, ρ, μ, o, E, S, e, q⟩ := h
  cases e
  exact q σ ι H .refl E S
theorem s_ct : PS X (.Continue pos) (tS X.K sCt) := ps_continue.weak fun D σ H h => by
  obtain ⟨ι, ρ, μ, o, E, S, e, q⟩ := h
  cases e
  exact q σ ι H .refl E S
theorem s_ex (he : PE X e (tD X.K d)) (hs : swapsWith e none pos.line X.env = pure false := by rfl) : PS X (.Expr e pos) (tS X.K (sEx d)) :=
  (ps_expr he hs).weak fun D σ H h => by
    obtain ⟨ι, ρ, μ, o, E, S, e, q⟩ := h
    obtain ⟨⟨v, μ1⟩, e1, e2⟩ := Option.map_eq_some_iff.mp e
    cases e2
    exact ⟨ι, ρ, μ, v, μ1, E, S, e1, fun hv ι' H' X R S' => q σ ι' H' X (E.mono X) S'⟩
theorem s_ret (he : PE X e (tD X.K d)) : PS X (.Return (some e) pos) (tS X.K (sRet d)) :=
  (ps_ret he).weak fun D σ H h => by
    obtain ⟨ι, ρ, μ, o, E, S, e, q⟩ := h
    obtain ⟨⟨v, μ1⟩, e1, e2⟩ := Option.map_eq_some_iff.mp e
    cases e2
    exact ⟨ι, ρ, μ, v, μ1, E, S, e1, q⟩
theorem s_retN : PS X (.Return none pos) (tS X.K sRetN) := ps_retN.weak fun D σ H h => by
  obtain ⟨ι, ρ, μ, o, E, S, e, q⟩ := h
  cases e
  exact q _ ι H .refl rfl S
theorem s_if {c : Expr} {a b : List Stmt} {dc : DenT} (hc : PT X c (tT X.K dc)) (ha : PSs X a (tS X.K t)) (hb : PSs X b (tS X.K u)) : PS X (.If c a b pos) (tS X.K (sIf dc t u)) :=
  (ps_if hc ha hb).weak fun D σ H h => by
    obtain ⟨ι, ρ, μ, o, E, S, e, q⟩ := h
    obtain ⟨⟨b, μ1⟩, e1, e2⟩ := Option.bind_eq_some_iff.mp e
    refine ⟨ι, ρ, μ, b, μ1, E, S, e1, fun ι1 H1 X1 S1 => ?_⟩
    cases b with
    | true => exact ⟨ι1, ρ, μ1, o, E.mono X1, S1, e2, q.mono X1⟩
    | false => exact ⟨ι1, ρ, μ1, o, E.mono X1, S1, e2, q.mono X1⟩
end
/-! ### targets -/
def gNm (i : Nat) : DenG := fun v ρ μ => some (ρ.set i (some v), μ)
abbrev DenGs := List PV → En → Sto → Option (En × Sto)
def gsNil : DenGs := fun vs ρ μ => match vs with
  | [] => some (ρ, μ)
  | _ => none
def gsCons (g : DenG) (r : DenGs) : DenGs := fun vs ρ μ => match vs with
  | v :: vs => (g v ρ μ).bind fun p => r vs p.1 p.2
  | [] => none
def gTu (n : Nat) (r : DenGs) : DenG := fun v ρ μ => match v with
  | .tup xs => if xs.length = n then r xs ρ μ else none
  | _ => none
def tGs (K : Frg) (g : DenGs) : TGs := fun vs σ H Q => ∃ ι ρ μ pvs ρ' μ', RepE K ι μ.length H ρ σ ∧ RepS K ι H μ ∧ RepVs K ι μ.length H pvs vs ∧ g pvs ρ μ = some (ρ', μ') ∧ AftR K ι μ H ρ' μ' Q
section
variable {X : Cx} {e tg : Expr} {es : List Expr} {d : Den} {g : DenG} {gs : DenGs} {pos : Pos}
theorem _root_.L2.PG.weak {t t' : TG} (h : PG X e t) (w : ∀ v σ H Q, t' v σ H Q → t v σ H Q) : PG X e t' := ⟨fun pins s σ H v u Q I r q => h.run pins s σ H v u Q I r (w v σ H Q q)⟩
theorem _root_.L2.PGs.weak {t t' : TGs} (h : PGs X es t) (w : ∀ v σ H Q, t' v σ H Q → t v σ H Q) : PGs X es t' := ⟨fun pins s σ H v u Q I r q => h.run pins s σ H v u Q I r (w v σ H Q q)⟩
theorem g_nm (i : Nat) {x : Str} (hN : X.N.Nodup) (hi : X.N[i]? = some x := by rfl) (hx : Loc X.env.scope x := by first | exact Or.inl rfl | exact Or.inr rfl) (hf : X.fn x = true ∨ X.env.scope.names.lookup x = some .local := by first | exact .inl rfl | exact .inr rfl | assumption) :
    PG X (.Name x pos) (tG X.K (gNm i)) := (pg_name (i := i) hN hi hx hf).weak fun v σ H Q h => by
  obtain ⟨ι, ρ, μ, pv, ρ', μ', E, S, R, e, q⟩ := h
  cases e
  exact q _ ι H .refl (E.set i R) S
theorem gs_nil : PGs X [] (tGs X.K gsNil) := pgs_nil.weak fun v σ H Q h => by
  obtain ⟨ι, ρ, μ, pv, ρ', μ', E, S, R, e, q⟩ := h
  unfold gsNil at e
  split at e
  · cases e; cases R; exact ⟨rfl, q σ ι H .refl E S⟩
  · cases e
theorem gs_cons (h1 : PG X e (tG X.K g)) (h2 : PGs X es (tGs X.K gs)) (hs : (assignEach (e :: es) X.env).map (·.2) = assign e X.env :: (assignEach es X.env).map (·.2) := by rfl) : PGs X (e :: es) (tGs X.K (gsCons g gs)) :=
  (pgs_cons h1 h2 hs).weak fun v σ H Q h => by
    obtain ⟨ι, ρ, μ, pv, ρ', μ', E, S, R, e, q⟩ := h
    unfold gsCons at e
    split at e
    · rename_i w ws
      obtain ⟨y, r, rfl, r1, r2⟩ := R
      obtain ⟨⟨ρ1, μ1⟩, e1, e2⟩ := Option.bind_eq_some_iff.mp e
      exact ⟨y, r, rfl, ι, ρ, μ, w, ρ1, μ1, E, S, r1, e1, fun σ1 ι1 H1 X1 E1 S1 => ⟨ι1, ρ1, μ1, ws, ρ', μ', E1, S1, RepVs.mono X1 r2, e2, q.mono X1⟩⟩
    · cases e
theorem g_tu {k n : Nat} (hc : X.calm = true) (h : PGs X es (tGs X.K gs)) (hn : (assignEach es X.env).length = n := by rfl) (hst : (assignEach es X.env).findIdx? (·.1) = none := by rfl) : PG X (.Tuple es k pos) (tG X.K (gTu n gs)) :=
  (pg_tup hc h hn hst).weak fun v σ H Q h => by
    obtain ⟨ι, ρ, μ, pv, ρ', μ', E, S, R, e, q⟩ := h
    unfold gTu at e
    split at e
    · rename_i xs
      split at e
      · rename_i hl
        obtain ⟨a, ys, rfl, t, r⟩ := R
        exact ⟨a, ys, rfl, t.sq, by rw [← r.length]; exact hl, ι, ρ, μ, xs, ρ', μ', E, S, r, e, q⟩
      · cases e
    · cases e
/-- o[i] = v, o a list of the store -/
def f_set (o i v : PV) (μ : Sto) : Option Sto := match o, i with
  | .loc l, .int k => match μ[l]? with
    | some (.lst xs) => (ixN xs.length k).map fun j => μ.set l (.lst (xs.set j v))
    | _ => none
  | _, _ => none
def gSb (o i : Den) : DenG := fun v ρ μ => (o ρ μ).bind fun p => (i ρ p.2).bind fun q => (f_set p.1 q.1 v q.2).map fun μ' => (ρ, μ')
theorem set_rep {K : Frg} {ι : Ad} {H : Hp} {μ μ' : Sto} {o i v : PV} {ho hi hv : V} {Q : Hp → Prop} (S : RepS K ι H μ) (ro : RepV K ι μ.length H o ho) (ri : RepV K ι μ.length H i hi) (rv : RepV K ι μ.length H v hv)
    (e : f_set o i v μ = some μ') (q : ∀ H', Ext ι μ.length H ι μ'.length H' → RepS K ι H' μ' → Q H') : rSetL ho hi hv H Q := by
  unfold f_set at e
  split at e
  · rename_i l k
    split at e
    · rename_i xs em
      obtain ⟨j, e1, e2⟩ := Option.map_eq_some_iff.mp e
      cases e2; cases ri
      obtain ⟨hl, rfl⟩ := ro
      obtain ⟨ys, t, r⟩ := S.obj l _ em
      refine ⟨ι l, ys, k, j, rfl, rfl, t, by rw [← r.length]; exact e1, ?_⟩
      have X := Ext.put (o := .lst (ys.set j hv)) S hl
      refine q _ ?_ (S.put hl ⟨_, upd_same, (RepVs.mono X r).set j (rv.mono X)⟩)
      rw [List.length_set]
      exact X
    · cases e
  · cases e
theorem g_sb {o i : Expr} {d2 : Den} (ho : PE X o (tD X.K d)) (hi : PE X i (tD X.K d2))
    (ha : ∀ v, assign (.Subscript o i pos) X.env v = (do
      let ov ← holding [v] (eval o X.env)
      let iv ← holding [v, ov] (eval i X.env)
      standAt pos
      holding [v, ov, iv] (setItem ov iv v)
      release [v, ov, iv] []) := by intro _; rfl) : PG X (.Subscript o i pos) (tG X.K (gSb d d2)) :=
  (pg_sub ho hi set_list ha).weak fun v σ H Q h => by
    obtain ⟨ι, ρ, μ, pv, ρ', μ', E, S, R, e, q⟩ := h
    obtain ⟨⟨x, μ1⟩, e1, e⟩ := Option.bind_eq_some_iff.mp e
    obtain ⟨⟨y, μ2⟩, e2, e⟩ := Option.bind_eq_some_iff.mp e
    obtain ⟨μ3, e3, e4⟩ := Option.map_eq_some_iff.mp e
    cases e4
    exact ⟨ι, ρ, μ, x, μ1, E, S, e1, fun hx ι1 H1 X1 R1 S1 => ⟨ι1, ρ, μ1, y, μ2, E.mono X1, S1, e2, fun hy ι2 H2 X2 R2 S2 =>
      set_rep S2 (R1.mono X2) R2 (R.mono (X1.trans X2)) e3 fun H3 X3 S3 => q σ ι2 H3 (X1.trans (X2.trans X3)) (E.mono (X1.trans (X2.trans X3))) S3⟩⟩
/-- target = value -/
theorem s_asg (he : PE X e (tD X.K d)) (hg : PG X tg (tG X.K g)) (hs : swapsWithSole [tg] e pos.line X.env = pure false := by rfl) (hw : swappedStores [tg] e X.env = pure none := by rfl)
    (h1 : (assignEach [tg] X.env).map (·.2) = [assign tg X.env] := by rfl) : PS X (.Assign [tg] e pos) (tS X.K (sAsg d g)) :=
  (ps_asg he hg hs hw h1).weak fun D σ H h => by
    obtain ⟨ι, ρ, μ, o, E, S, e, q⟩ := h
    obtain ⟨⟨v, μ1⟩, e1, e⟩ := Option.bind_eq_some_iff.mp e
    obtain ⟨⟨ρ2, μ2⟩, e2, e3⟩ := Option.map_eq_some_iff.mp e
    cases e3
    exact ⟨ι, ρ, μ, v, μ1, E, S, e1, fun hv ι1 H1 X1 R1 S1 => ⟨ι1, ρ, μ1, v, ρ2, μ2, E.mono X1, S1, R1, e2, AftR.mono X1 q⟩⟩
theorem s_set (i : Nat) {x : Str} {pos' : Pos} (hN : X.N.Nodup) (he : PE X e (tD X.K d)) (hi : X.N[i]? = some x := by rfl) (hx : Loc X.env.scope x := by first | exact Or.inl rfl | exact Or.inr rfl) (hs : swapsWith e (some (.Name x pos')) pos.line X.env = pure false := by rfl)
    (hf : X.fn x = true ∨ X.env.scope.names.lookup x = some .local := by first | exact .inl rfl | exact .inr rfl | assumption) :
    PS X (.Assign [.Name x pos'] e pos) (tS X.K (sAsg d (gNm i))) :=
  (ps_set (i := i) hN hi hx he hs hf).weak fun D σ H h => by
    obtain ⟨ι, ρ, μ, o, E, S, e, q⟩ := h
    obtain ⟨⟨v, μ1⟩, e1, e⟩ := Option.bind_eq_some_iff.mp e
    obtain ⟨⟨ρ2, μ2⟩, e2, e3⟩ := Option.map_eq_some_iff.mp e
    cases e3; cases e2
    exact ⟨ι, ρ, μ, v, μ1, E, S, e1, fun hv ι1 H1 X1 R1 S1 => q _ ι1 H1 X1 ((E.mono X1).set i R1) S1⟩
/-- a, b = x, y, the stores swapped -/
def sPar (i j : Nat) (r : DenA) : DenS := fun ρ μ => match r ρ μ with
  | some ([v, w], μ') => some (.nx ((ρ.set i (some v)).set j (some w)) μ')
  | _ => none
def sPar3 (i j k : Nat) (r : DenA) : DenS := fun ρ μ => match r ρ μ with
  | some ([u, v, w], μ') => some (.nx (((ρ.set i (some u)).set j (some v)).set k (some w)) μ')
  | _ => none
theorem s_par (i j : Nat) {x y : Str} {a b : Expr} {r : DenA} {px py pt : Pos} {kt k2 pt2} (hc : X.calm = true) (hN : X.N.Nodup) (ha : PA X [a, b] (tA X.K r)) (hi : X.N[i]? = some x := by rfl) (hj : X.N[j]? = some y := by rfl) (hij : i ≠ j := by decide)
    (hx : X.env.scope.names.lookup x = some .local := by rfl) (hy : X.env.scope.names.lookup y = some .local := by rfl)
    (hw : swappedStores [.Tuple [.Name x px, .Name y py] kt pt] (.Tuple [a, b] k2 pt2) X.env = pure (some [x, y]) := by rfl)
    (hs : swapsWithSole [.Tuple [.Name x px, .Name y py] kt pt] (.Tuple [a, b] k2 pt2) pos.line X.env = pure false := by rfl) :
    PS X (.Assign [.Tuple [.Name x px, .Name y py] kt pt] (.Tuple [a, b] k2 pt2) pos) (tS X.K (sPar i j r)) :=
  (ps_par (i := i) (j := j) hc hN hi hj hij hx hy ha hw hs).weak fun D σ H h => by
    obtain ⟨ι, ρ, μ, o, E, S, e, q⟩ := h
    unfold sPar at e
    split at e
    · rename_i v w μ1 e1
      cases e
      exact ⟨ι, ρ, μ, _, μ1, E, S, e1, fun hv ι1 H1 X1 R1 S1 => by
        obtain ⟨y1, t1, rfl, r1, y2, t2, rfl, r2, rfl⟩ := R1
        exact ⟨y1, y2, rfl, q _ ι1 H1 X1 (((E.mono X1).set i r1).set j r2) S1⟩⟩
    · cases e
theorem s_par3 (i j l : Nat) {x y z : Str} {a b c : Expr} {r : DenA} {px py pz pt : Pos} {kt k2 pt2} (hc : X.calm = true) (hN : X.N.Nodup) (ha : PA X [a, b, c] (tA X.K r)) (hi : X.N[i]? = some x := by rfl) (hj : X.N[j]? = some y := by rfl) (hl : X.N[l]? = some z := by rfl) (hij : i ≠ j := by decide) (hil : i ≠ l := by decide) (hjl : j ≠ l := by decide)
    (hx : X.env.scope.names.lookup x = some .local := by rfl) (hy : X.env.scope.names.lookup y = some .local := by rfl) (hz : X.env.scope.names.lookup z = some .local := by rfl)
    (hw : swappedStores [.Tuple [.Name x px, .Name y py, .Name z pz] kt pt] (.Tuple [a, b, c] k2 pt2) X.env = pure (some [x, y, z]) := by rfl)
    (hs : swapsWithSole [.Tuple [.Name x px, .Name y py, .Name z pz] kt pt] (.Tuple [a, b, c] k2 pt2) pos.line X.env = pure false := by rfl) :
    PS X (.Assign [.Tuple [.Name x px, .Name y py, .Name z pz] kt pt] (.Tuple [a, b, c] k2 pt2) pos) (tS X.K (sPar3 i j l r)) :=
  (ps_par3 (i := i) (j := j) (l := l) hc hN hi hj hl hij hil hjl hx hy hz ha hw hs).weak fun D σ H h => by
    obtain ⟨ι, ρ, μ, o, E, S, e, q⟩ := h
    unfold sPar3 at e
    split at e
    · rename_i u v w μ1 e1
      cases e
      exact ⟨ι, ρ, μ, _, μ1, E, S, e1, fun hv ι1 H1 X1 R1 S1 => by
        obtain ⟨y1, t1, rfl, r1, y2, t2, rfl, r2, y3, t3, rfl, r3, rfl⟩ := R1
        exact ⟨y1, y2, y3, rfl, q _ ι1 H1 X1 ((((E.mono X1).set i r1).set j r2).set l r3) S1⟩⟩
    · cases e
/-- x op= e -/
def sAug (i : Nat) (f : Op2) (d : Den) : DenS := fun ρ μ => match ρ[i]? with
  | some (some x) => (d ρ μ).bind fun p => (f x p.1 p.2).map fun q => .nx (ρ.set i (some q.1)) q.2
  | _ => none
theorem s_aug (i : Nat) {x : Str} {op : Operator} {r : R2} {f : Op2} {pos' : Pos} (ho : OpR X (inplaceOp op) r) (hr : S2 X.K r f) (hN : X.N.Nodup) (he : PE X e (tD X.K d)) (hi : X.N[i]? = some x := by rfl) (hx : Loc X.env.scope x := by first | exact Or.inl rfl | exact Or.inr rfl)
    (hf : X.fn x = true ∨ X.env.scope.names.lookup x = some .local := by first | exact .inl rfl | exact .inr rfl | assumption) :
    PS X (.AugAssign (.Name x pos') op e pos) (tS X.K (sAug i f d)) :=
  (ps_aug (i := i) hN hi hx he ho hf).weak fun D σ H h => by
    obtain ⟨ι, ρ, μ, o, E, S, e, q⟩ := h
    unfold sAug at e
    split at e
    · rename_i w hw
      obtain ⟨⟨v, μ1⟩, e1, e⟩ := Option.bind_eq_some_iff.mp e
      obtain ⟨⟨z, μ2⟩, e2, e3⟩ := Option.map_eq_some_iff.mp e
      cases e3
      obtain ⟨hw', h1, h2⟩ := E.at_ i _ hw
      exact ⟨hw', h1, ι, ρ, μ, v, μ1, E, S, e1, fun hv ι1 H1 X1 R1 S1 => hr ι1 H1 μ1 w v z μ2 hw' hv _ S1 (h2.mono X1) R1 e2 fun hz ι2 H2 X2 R2 S2 =>
        q _ ι2 H2 (X1.trans X2) ((E.mono (X1.trans X2)).set i R2) S2⟩
    · cases e
end

/-! ### while -/
def whN (c : DenT) (b : DenS) : Nat → DenS
  | 0, _, _ => none
  | n + 1, ρ, μ => (c ρ μ).bind fun p => if p.1 = true then (b ρ p.2).bind fun o => match o with
      | .nx ρ' μ' => whN c b n ρ' μ'
      | .ct ρ' μ' => whN c b n ρ' μ'
      | .bk ρ' μ' => some (.nx ρ' μ')
      | .rt v μ' => some (.rt v μ') else some (.nx ρ p.2)
theorem whN_mono {c : DenT} {b : DenS} : ∀ {n m : Nat} {ρ : En} {μ : Sto} {o : Out}, n ≤ m → whN c b n ρ μ = some o → whN c b m ρ μ = some o
  | 0, _, _, _, _, _, h => by cases h
  | n + 1, 0, _, _, _, hm, _ => by omega
  | n + 1, m + 1, ρ, μ, o, hm, h => by
    unfold whN at h ⊢
    obtain ⟨⟨k, μ1⟩, e1, h⟩ := Option.bind_eq_some_iff.mp h
    rw [e1]
    show (if k = true then _ else _) = _
    have h : (if k = true then _ else _) = some o := h
    cases k with
    | false => exact h
    | true =>
      rw [if_pos rfl] at h ⊢
      obtain ⟨o1, e2, h⟩ := Option.bind_eq_some_iff.mp h
      rw [e2]
      cases o1 with
      | nx ρ' μ' => exact whN_mono (by omega) h
      | ct ρ' μ' => exact whN_mono (by omega) h
      | bk ρ' μ' => exact h
      | rt v μ' => exact h
open Classical in
/-- a while: what any number of turns comes to -/
noncomputable def sWh (c : DenT) (b : DenS) : DenS := fun ρ μ => if h : ∃ o n, whN c b n ρ μ = some o then some (Classical.choose h) else none
theorem sWh_of {c : DenT} {b : DenS} {ρ : En} {μ : Sto} {o : Out} (n : Nat) (h : whN c b n ρ μ = some o) : sWh c b ρ μ = some o := by
  have hh : ∃ o n, whN c b n ρ μ = some o := ⟨o, n, h⟩
  unfold sWh
  rw [dif_pos hh]
  obtain ⟨m, hm⟩ := Classical.choose_spec hh
  have h1 := whN_mono (Nat.le_max_left n m) h
  have h2 := whN_mono (Nat.le_max_right n m) hm
  rw [h1] at h2
  exact h2.symm
theorem sWh_get {c : DenT} {b : DenS} {ρ : En} {μ : Sto} {o : Out} (h : sWh c b ρ μ = some o) : ∃ n, whN c b n ρ μ = some o := by
  unfold sWh at h
  split at h
  · rename_i hh
    cases h
    exact Classical.choose_spec hh
  · cases h
section
variable {X : Cx} {pos : Pos} {c : Expr} {body : List Stmt} {dc : DenT} {db : DenS}
theorem s_wh (hc : PT X c (tT X.K dc)) (hb : PSs X body (tS X.K db)) (hp : PassesOwn (model X.prog X.w) X.A X.env X.xe := by exact PassesOwn.never) : PS X (.While c body [] pos) (tS X.K (sWh dc db)) :=
  (ps_while hp hc hb).weak fun D σ H h => by
    obtain ⟨ι, ρ, μ, o, E, S, e, q⟩ := h
    obtain ⟨n, e⟩ := sWh_get e
    refine ⟨fun m σ' H' => ∃ ι' ρ' μ', RepE X.K ι' μ'.length H' ρ' σ' ∧ RepS X.K ι' H' μ' ∧ whN dc db m ρ' μ' = some o ∧ AftS X.K ι' μ' H' D o, ⟨n, ι, ρ, μ, E, S, e, q⟩, ?_⟩
    rintro m σ1 H1 ⟨ι, ρ, μ, E, S, e, q⟩
    cases m with
    | zero => cases e
    | succ m =>
      unfold whN at e
      obtain ⟨⟨k, μ1⟩, e1, e⟩ := Option.bind_eq_some_iff.mp e
      have e : (if k = true then _ else _) = some o := e
      refine ⟨ι, ρ, μ, k, μ1, E, S, e1, fun ι1 H2 X1 S1 => ?_⟩
      cases k with
      | false =>
        rw [if_neg Bool.false_ne_true] at e ⊢
        cases e
        exact q σ1 ι1 H2 X1 (E.mono X1) S1
      | true =>
        rw [if_pos rfl] at e ⊢
        obtain ⟨o1, e2, e⟩ := Option.bind_eq_some_iff.mp e
        refine ⟨fun σ' H' => ∃ ι' ρ' μ', RepE X.K ι' μ'.length H' ρ' σ' ∧ RepS X.K ι' H' μ' ∧ whN dc db m ρ' μ' = some o ∧ AftS X.K ι' μ' H' D o, fun σ' H' h => ⟨m, Nat.lt_succ_self _, h⟩, ι1, ρ, μ1, o1, E.mono X1, S1, e2, ?_⟩
        cases o1 with
        | nx ρ' μ' => exact fun σ' ι' H' X R S' => ⟨ι', ρ', μ', R, S', e, q.mono (X1.trans X)⟩
        | ct ρ' μ' => exact fun σ' ι' H' X R S' => ⟨ι', ρ', μ', R, S', e, q.mono (X1.trans X)⟩
        | bk ρ' μ' => cases e; exact AftR.mono X1 q
        | rt v μ' => cases e; exact Aft.mono X1 q
end

/-! ### what is walked -/
/-- the lists of the store that a walk reads stand as they stood -/
def ChkOk (ch : List (Nat × List PV)) (μ : Sto) : Prop := ∀ p ∈ ch, μ[p.1]? = some (.lst p.2)
abbrev DenI := En → Sto → Option ((List PV × List (Nat × List PV)) × Sto)
structure ItOk (K : Frg) (J : It) (xs : List PV) (ch : List (Nat × List PV)) (ι : Ad) (n : Nat) (H : Hp) : Prop where
  goes : ∀ (i : Nat) (ι2 : Ad) (μ2 : Sto) (H2 : Hp), i < xs.length → ExtP ι n H ι2 μ2.length H2 → RepS K ι2 H2 μ2 → ChkOk ch μ2 → J.go i H2
  stops : ∀ (ι2 : Ad) (μ2 : Sto) (H2 : Hp), ExtP ι n H ι2 μ2.length H2 → RepS K ι2 H2 μ2 → ChkOk ch μ2 → J.stop xs.length H2
  yields : ∀ (i : Nat) (ι2 : Ad) (μ2 : Sto) (H2 : Hp) (x : V) (H3 : Hp) (z : PV), xs[i]? = some z → ExtP ι n H ι2 μ2.length H2 → RepS K ι2 H2 μ2 → ChkOk ch μ2 → J.yld i H2 x H3 →
    Ext ι2 μ2.length H2 ι2 μ2.length H3 ∧ RepS K ι2 H3 μ2 ∧ RepV K ι2 μ2.length H3 z x
def tI (K : Frg) (d : DenI) : TI := fun σ H R => ∃ ι ρ μ p μ', RepE K ι μ.length H ρ σ ∧ RepS K ι H μ ∧ d ρ μ = some (p, μ') ∧ ChkOk p.2 μ' ∧ ∀ ι' H' J, Ext ι μ.length H ι' μ'.length H' → RepS K ι' H' μ' → ItOk K J p.1 p.2 ι' μ'.length H' → R J H'
section
variable {X : Cx} {tg iter : Expr}
theorem _root_.L2.PI.weak {t t' : TI} (h : PI X tg iter t) (w : ∀ σ H R, t' σ H R → t σ H R) : PI X tg iter t' := ⟨fun pins s σ H R I q => h.run pins s σ H R I (w σ H R q)⟩
/-- a list or a tuple, by what the value is -/
def iSeqA (K : Frg) (tl : TE) : TI := fun σ H R => tl σ H fun x H1 => ∃ a, x = .ref a ∧ (((∃ xs, SqL K H1 a xs) ∧ R (Itl K a) H1) ∨ ((∃ xs, SqT K H1 a xs) ∧ R (Itt K a) H1))
theorem pi_seqA {l : Expr} {tl : TE} (hl : PE X l tl) : PI X tg l (iSeqA X.K tl) := by
  refine ⟨fun pins s σ H R I h => ?_⟩
  refine thn (hl.run pins s σ H _ I h) fun v s1 ⟨x, H1, I1, r1, q1⟩ => ?_
  obtain ⟨a, e, q⟩ := q1
  subst e
  cases r1
  rcases q with ⟨⟨xs, hq⟩, q⟩ | ⟨⟨xs, hq⟩, q⟩
  · obtain ⟨its, rv, p, hz⟩ := I1.list hq
    refine wpAny_pyIter_list p.isList ?_
    refine ⟨s1.heap.objs.size, [s1.heap.objs.size], _, _, H1, rfl, I1.kept (t' := s1.toks) fun b o e => Heap.get?_push_of_some _ e, turn_list a _, ⟨_, Heap.get?_push_size _ rfl, rfl, rfl⟩, fun b hb => ?_, q⟩
    have e : b = s1.heap.objs.size := by simpa using hb
    subst e
    exact I1.fpOk (Nat.le_refl _) (I1.hok.fresh (Nat.le_refl _))
  · obtain ⟨its, rv, p, hz⟩ := I1.tuple hq
    refine wpAny_pyIter_tuple (show s1.heap.IsTuple a its.toArray from p) ?_
    refine ⟨s1.heap.objs.size, [s1.heap.objs.size], _, _, H1, rfl, I1.kept (t' := s1.toks) fun b o e => Heap.get?_push_of_some _ e, turn_tuple a _, ⟨_, Heap.get?_push_size _ rfl, rfl, rfl⟩, fun b hb => ?_, q⟩
    have e : b = s1.heap.objs.size := by simpa using hb
    subst e
    exact I1.fpOk (Nat.le_refl _) (I1.hok.fresh (Nat.le_refl _))
end
/-- the items of a list or tuple; a list of the store must stand -/
def itSeq (d : Den) : DenI := fun ρ μ => (d ρ μ).bind fun p => match p.1 with
  | .tup xs => some ((xs, []), p.2)
  | .lst xs => some ((xs, []), p.2)
  | .loc l => match p.2[l]? with
    | some (.lst xs) => some ((xs, [(l, xs)]), p.2)
    | _ => none
  | _ => none
/-- a list that may be read at later heaps -/
theorem itl_ok {K : Frg} {J : It} {xs : List PV} {ch : List (Nat × List PV)} {ι : Ad} {n : Nat} {H : Hp} {a : Addr} (hJ : J = Itl K a)
    (h : ∀ (ι2 : Ad) (μ2 : Sto) (H2 : Hp), ExtP ι n H ι2 μ2.length H2 → RepS K ι2 H2 μ2 → ChkOk ch μ2 → ∃ ys, SqL K H2 a ys ∧ RepVs K ι2 μ2.length H2 xs ys) : ItOk K J xs ch ι n H := by
  subst hJ
  refine ⟨fun i ι2 μ2 H2 hi e S c => ?_, fun ι2 μ2 H2 e S c => ?_, fun i ι2 μ2 H2 x H3 z hz e S c y => ?_⟩
  · obtain ⟨ys, s, r⟩ := h ι2 μ2 H2 e S c
    exact ⟨ys, ys[i]'(by rw [← r.length]; exact hi), s, by simp⟩
  · obtain ⟨ys, s, r⟩ := h ι2 μ2 H2 e S c
    exact ⟨ys, s, by rw [r.length]; exact Nat.le_refl _⟩
  · obtain ⟨ys, s, r⟩ := h ι2 μ2 H2 e S c
    obtain ⟨e1, y⟩ := y
    subst e1
    obtain ⟨w, h1, h2⟩ := r.get hz
    have := (y ys s).symm.trans h1
    cases this
    exact ⟨.refl, S, h2⟩
theorem itt_ok {K : Frg} {J : It} {xs : List PV} {ch : List (Nat × List PV)} {ι : Ad} {n : Nat} {H : Hp} {a : Addr} (hJ : J = Itt K a)
    (h : ∀ (ι2 : Ad) (μ2 : Sto) (H2 : Hp), ExtP ι n H ι2 μ2.length H2 → RepS K ι2 H2 μ2 → ChkOk ch μ2 → ∃ ys, SqT K H2 a ys ∧ RepVs K ι2 μ2.length H2 xs ys) : ItOk K J xs ch ι n H := by
  subst hJ
  refine ⟨fun i ι2 μ2 H2 hi e S c => ?_, fun ι2 μ2 H2 e S c => ?_, fun i ι2 μ2 H2 x H3 z hz e S c y => ?_⟩
  · obtain ⟨ys, s, r⟩ := h ι2 μ2 H2 e S c
    exact ⟨ys, ys[i]'(by rw [← r.length]; exact hi), s, by simp⟩
  · obtain ⟨ys, s, r⟩ := h ι2 μ2 H2 e S c
    exact ⟨ys, s, by rw [r.length]; exact Nat.le_refl _⟩
  · obtain ⟨ys, s, r⟩ := h ι2 μ2 H2 e S c
    obtain ⟨e1, y⟩ := y
    subst e1
    obtain ⟨w, h1, h2⟩ := r.get hz
    have := (y ys s).symm.trans h1
    cases this
    exact ⟨.refl, S, h2⟩
section
variable {X : Cx} {tg : Expr}
theorem i_seq {l : Expr} {d : Den} (hl : PE X l (tD X.K d)) : PI X tg l (tI X.K (itSeq d)) :=
  (pi_seqA hl).weak fun σ H R h => by
    obtain ⟨ι, ρ, μ, p, μ', E, S, e, c, q⟩ := h
    obtain ⟨⟨x, μ1⟩, e1, e⟩ := Option.bind_eq_some_iff.mp e
    refine ⟨ι, ρ, μ, x, μ1, E, S, e1, fun hx ι1 H1 X1 R1 S1 => ?_⟩
    cases x with
    | tup xs =>
      cases e
      obtain ⟨a, ys, rfl, t, r⟩ := R1
      exact ⟨a, rfl, .inr ⟨⟨ys, t.sq⟩, q ι1 H1 _ X1 S1 (itt_ok rfl fun ι2 μ2 H2 e S c => ⟨ys, (t.monoP e).sq, RepVs.monoP e r⟩)⟩⟩
    | lst xs =>
      cases e
      obtain ⟨a, ys, rfl, ⟨t, g⟩, r⟩ := R1
      exact ⟨a, rfl, .inl ⟨⟨ys, .of t⟩, q ι1 H1 _ X1 S1 (itl_ok rfl fun ι2 μ2 H2 e S c => ⟨ys, .of (e.keep a _ t g.1 g.2), RepVs.monoP e r⟩)⟩⟩
    | loc l =>
      obtain ⟨hl, rfl⟩ := R1
      have e : (match μ1[l]? with
        | some (.lst xs) => some ((xs, [(l, xs)]), μ1)
        | _ => none) = some (p, μ') := e
      split at e
      · rename_i xs em
        cases e
        obtain ⟨ys, t, r⟩ := S1.obj l _ em
        refine ⟨ι1 l, rfl, .inl ⟨⟨ys, .of t⟩, q ι1 H1 _ X1 S1 (itl_ok rfl fun ι2 μ2 H2 e S c => ?_)⟩⟩
        have em2 := c (l, xs) (by simp)
        obtain ⟨ys2, t2, r2⟩ := S.obj l _ em2
        rw [e.same l hl] at t2
        exact ⟨ys2, .of t2, r2⟩
      · cases e
    | _ => cases e
/-- range -/
def rgP (lo : Int) : Nat → List PV
  | 0 => []
  | n + 1 => .int lo :: rgP (lo + 1) n
theorem rgP_length : ∀ (n : Nat) (lo : Int), (rgP lo n).length = n
  | 0, _ => rfl
  | n + 1, lo => by show (rgP (lo + 1) n).length + 1 = n + 1; rw [rgP_length n]
theorem rgP_get : ∀ (n : Nat) (lo : Int) (i : Nat), i < n → (rgP lo n)[i]? = some (.int (lo + i))
  | 0, _, _, h => by omega
  | n + 1, lo, 0, _ => by
    show some (PV.int lo) = _
    simp
  | n + 1, lo, i + 1, h => by
    show (rgP (lo + 1) n)[i]? = _
    rw [rgP_get n (lo + 1) i (by omega)]
    congr 2
    push_cast
    omega
theorem itr_ok {K : Frg} {lo : Int} {k : Nat} {ι : Ad} {n : Nat} {H : Hp} : ItOk K (Itr lo k) (rgP lo k) [] ι n H := by
  refine ⟨fun i ι2 μ2 H2 hi e S c => ?_, fun ι2 μ2 H2 e S c => ?_, fun i ι2 μ2 H2 x H3 z hz e S c y => ?_⟩
  · rw [rgP_length] at hi; exact hi
  · rw [rgP_length]; exact Nat.le_refl _
  · have hi : i < k := by
      have := (List.getElem?_eq_some_iff.mp hz).1
      rw [rgP_length] at this
      exact this
    rw [rgP_get _ _ _ hi] at hz
    cases hz
    obtain ⟨e1, y⟩ := y
    subst e1 y
    exact ⟨.refl, S, rfl⟩
def RgIn (i : Int) : Bool := decide (-(2 ^ 62) ≤ i) && decide (i < 2 ^ 62)
def itRg1 (r : DenA) : DenI := fun ρ μ => match r ρ μ with
  | some ([.int j], μ') => if RgIn j = true then some ((rgP 0 j.toNat, []), μ') else none
  | _ => none
def itRg2 (r : DenA) : DenI := fun ρ μ => match r ρ μ with
  | some ([.int i, .int j], μ') => if (RgIn i && RgIn j) = true then some ((rgP i (j - i).toNat, []), μ') else none
  | _ => none
theorem rgIn {i : Int} (h : RgIn i = true) : -(2 ^ 62) ≤ i ∧ i < 2 ^ 62 := by
  unfold RgIn at h
  rw [Bool.and_eq_true] at h
  exact ⟨of_decide_eq_true h.1, of_decide_eq_true h.2⟩
theorem chk_nil {μ : Sto} : ChkOk [] μ := fun _ h => nomatch h
theorem i_rg1 {a : Expr} {r : DenA} {p pos : Pos} (hm : X.mg "range" = none) (ha : PA X [a] (tA X.K r)) (hg : Gl X "range" := by rfl) (hs : starEach [a] X.env = [(false, eval a X.env)] := by rfl) : PI X tg (.Call (.Name "range" p) [a] [] pos) (tI X.K (itRg1 r)) :=
  (pi_range1 hg hm ha hs).weak fun σ H R h => by
    obtain ⟨ι, ρ, μ, p, μ', E, S, e, c, q⟩ := h
    unfold itRg1 at e
    split at e
    · rename_i j μ1 e1
      split at e
      · rename_i hj
        cases e
        refine ⟨ι, ρ, μ, _, _, E, S, e1, fun hs ι1 H1 X1 R1 S1 => ?_⟩
        obtain ⟨y, t, rfl, r1, rfl⟩ := R1
        cases r1
        exact ⟨j, rfl, (rgIn hj).1, (rgIn hj).2, q ι1 H1 _ X1 S1 itr_ok⟩
      · cases e
    · cases e
theorem i_rg2 {a b : Expr} {r : DenA} {p pos : Pos} (hm : X.mg "range" = none) (ha : PA X [a, b] (tA X.K r)) (hg : Gl X "range" := by rfl) (hs : starEach [a, b] X.env = [(false, eval a X.env), (false, eval b X.env)] := by rfl) (hs2 : starEach [b] X.env = [(false, eval b X.env)] := by rfl) :
    PI X tg (.Call (.Name "range" p) [a, b] [] pos) (tI X.K (itRg2 r)) :=
  (pi_range2 hg hm ha hs hs2).weak fun σ H R h => by
    obtain ⟨ι, ρ, μ, p, μ', E, S, e, c, q⟩ := h
    unfold itRg2 at e
    split at e
    · rename_i i j μ1 e1
      split at e
      · rename_i hj
        cases e
        rw [Bool.and_eq_true] at hj
        refine ⟨ι, ρ, μ, _, _, E, S, e1, fun hs ι1 H1 X1 R1 S1 => ?_⟩
        obtain ⟨y, t, rfl, r1, y2, t2, rfl, r2, rfl⟩ := R1
        cases r1; cases r2
        exact ⟨i, j, rfl, ⟨(rgIn hj.1).1, (rgIn hj.1).2, (rgIn hj.2).1, (rgIn hj.2).2⟩, q ι1 H1 _ X1 S1 itr_ok⟩
      · cases e
    · cases e
end

/-! ### for -/
open Classical in
noncomputable def forL (g : DenG) (b : DenS) (ch : List (Nat × List PV)) : List PV → DenS
  | [], ρ, μ => some (.nx ρ μ)
  | x :: xs, ρ, μ => (g x ρ μ).bind fun p => (b p.1 p.2).bind fun o => match o with
      | .nx ρ' μ' => if ChkOk ch μ' then forL g b ch xs ρ' μ' else none
      | .ct ρ' μ' => if ChkOk ch μ' then forL g b ch xs ρ' μ' else none
      | .bk ρ' μ' => some (.nx ρ' μ')
      | .rt v μ' => some (.rt v μ')
noncomputable def sFor (it : DenI) (g : DenG) (b : DenS) : DenS := fun ρ μ => (it ρ μ).bind fun p => forL g b p.1.2 p.1.1 ρ p.2
section
variable {X : Cx} {pos : Pos} {iter tg : Expr} {body : List Stmt} {di : DenI} {g : DenG} {b : DenS}
open Classical in
theorem s_for (hi : PI X tg iter (tI X.K di)) (hg : PG X tg (tG X.K g)) (hb : PSs X body (tS X.K b)) (hci : ∀ ρ μ p μ', di ρ μ = some (p, μ') → ChkOk p.2 μ') (hp : PassesOwn (model X.prog X.w) X.A X.env X.xe := by exact PassesOwn.never) (hc : X.calm = true := by rfl)
    (hs : ∀ x, foldedSetIterable iter X.env x = pure x := by intro _; rfl) : PS X (.For tg iter body [] pos) (tS X.K (sFor di g b)) :=
  (ps_for hp hc hi hg hb hs).weak fun D σ H h => by
    obtain ⟨ι, ρ, μ, o, E, S, e, q⟩ := h
    obtain ⟨⟨⟨xs, ch⟩, μ1⟩, e1, e⟩ := Option.bind_eq_some_iff.mp e
    have hch := hci _ _ _ _ e1
    refine ⟨ι, ρ, μ, (xs, ch), μ1, E, S, e1, hch, fun ι1 H1 J X1 S1 ok => ?_⟩
    have e : forL g b ch xs ρ μ1 = some o := e
    have hch : ChkOk ch μ1 := hch
    have ok : ItOk X.K J xs ch ι1 μ1.length H1 := ok
    refine ⟨fun i m σ' H' => m = xs.length - i ∧ i ≤ xs.length ∧ ∃ ι' ρ' μ', Ext ι1 μ1.length H1 ι' μ'.length H' ∧ RepE X.K ι' μ'.length H' ρ' σ' ∧ RepS X.K ι' H' μ' ∧ ChkOk ch μ' ∧ forL g b ch (xs.drop i) ρ' μ' = some o ∧ AftS X.K ι' μ' H' D o,
      ⟨xs.length, by simp, Nat.zero_le _, ι1, ρ, μ1, .refl, E.mono X1, S1, hch, e, q.mono X1⟩, ?_⟩
    rintro i m σ2 H2 ⟨rfl, hi, ι2, ρ2, μ2, X2, E2, S2, c2, e2, q2⟩
    by_cases hlt : i < xs.length
    · have hd : xs.drop i = xs[i] :: xs.drop (i + 1) := List.drop_eq_getElem_cons hlt
      rw [hd] at e2
      unfold forL at e2
      obtain ⟨⟨ρ3, μ3⟩, e3, e2⟩ := Option.bind_eq_some_iff.mp e2
      obtain ⟨o1, e4, e2⟩ := Option.bind_eq_some_iff.mp e2
      refine .inr ⟨ok.goes i ι2 μ2 H2 hlt X2.p S2 c2, fun σ' H' => ∃ ι' ρ' μ', Ext ι1 μ1.length H1 ι' μ'.length H' ∧ RepE X.K ι' μ'.length H' ρ' σ' ∧ RepS X.K ι' H' μ' ∧ ChkOk ch μ' ∧ forL g b ch (xs.drop (i + 1)) ρ' μ' = some o ∧ AftS X.K ι' μ' H' D o,
        fun σ' H' h => ⟨xs.length - (i + 1), by omega, rfl, hlt, h⟩, fun x H3 y => ?_⟩
      obtain ⟨X3, S3, R3⟩ := ok.yields i ι2 μ2 H2 x H3 xs[i] (by simp [hlt]) X2.p S2 c2 y
      refine ⟨ι2, ρ2, μ2, xs[i], ρ3, μ3, E2.mono X3, S3, R3, e3, fun σ4 ι4 H4 X4 E4 S4 => ⟨ι4, ρ3, μ3, o1, E4, S4, e4, ?_⟩⟩
      have go : ∀ {ρ' : En} {μ' : Sto}, (if ChkOk ch μ' then forL g b ch (xs.drop (i + 1)) ρ' μ' else none) = some o → AftR X.K ι4 μ3 H4 ρ' μ' fun σ' H' => ∃ ι' ρ' μ', Ext ι1 μ1.length H1 ι' μ'.length H' ∧ RepE X.K ι' μ'.length H' ρ' σ' ∧ RepS X.K ι' H' μ' ∧ ChkOk ch μ' ∧ forL g b ch (xs.drop (i + 1)) ρ' μ' = some o ∧ AftS X.K ι' μ' H' D o := fun {ρ' μ'} z => by
        split at z
        · rename_i hc
          exact fun σ5 ι5 H5 X5 E5 S5 => ⟨ι5, ρ', μ', X2.trans (X3.trans (X4.trans X5)), E5, S5, hc, z, q2.mono (X3.trans (X4.trans X5))⟩
        · cases z
      cases o1 with
      | nx ρ' μ' => exact go e2
      | ct ρ' μ' => exact go e2
      | bk ρ' μ' => cases e2; exact AftR.mono (X3.trans X4) q2
      | rt v μ' => cases e2; exact Aft.mono (X3.trans X4) q2
    · have hi2 : i = xs.length := by omega
      subst hi2
      rw [List.drop_length] at e2
      cases e2
      exact .inl ⟨ok.stops ι2 μ2 H2 X2.p S2 c2, q2 σ2 ι2 H2 .refl E2 S2⟩
end
theorem ci_seq {d : Den} (ρ : En) (μ : Sto) (p : List PV × List (Nat × List PV)) (μ' : Sto) (h : itSeq d ρ μ = some (p, μ')) : ChkOk p.2 μ' := by
  obtain ⟨⟨x, μ1⟩, e1, e⟩ := Option.bind_eq_some_iff.mp h
  cases x with
  | tup xs => cases e; exact chk_nil
  | lst xs => cases e; exact chk_nil
  | loc l =>
    have e : (match μ1[l]? with
      | some (.lst xs) => some ((xs, [(l, xs)]), μ1)
      | _ => none) = some (p, μ') := e
    split at e
    · rename_i xs em
      cases e
      intro q hq
      simp at hq
      subst hq
      exact em
    · cases e
  | _ => cases e
theorem ci_rg1 {r : DenA} (ρ : En) (μ : Sto) (p : List PV × List (Nat × List PV)) (μ' : Sto) (h : itRg1 r ρ μ = some (p, μ')) : ChkOk p.2 μ' := by
  unfold itRg1 at h
  split at h
  · split at h
    · cases h; exact chk_nil
    · cases h
  · cases h
theorem ci_rg2 {r : DenA} (ρ : En) (μ : Sto) (p : List PV × List (Nat × List PV)) (μ' : Sto) (h : itRg2 r ρ μ = some (p, μ')) : ChkOk p.2 μ' := by
  unfold itRg2 at h
  split at h
  · split at h
    · cases h; exact chk_nil
    · cases h
  · cases h
end Fd

/-! Fd5: list comprehensions; defs and their calls. -/
namespace Fd
open PySem PySem.Spec PyProof.Rows L2

/-! ### a private address -/
def addZ (ι : Ad) (D : Addr) : Ad := ⟨ι.f, fun a => ι.Z a ∨ a = D⟩
section
variable {K : Frg} {ι ι1 ι2 : Ad} {n n1 : Nat} {H H1 H2 : Hp} {D : Addr} {o : HO}
theorem Ext.addZ {μ : Sto} (S : RepS K ι H μ) (hD : H D = none) : Ext ι μ.length H (Fd.addZ ι D) μ.length (upd H D o) :=
  let X := Ext.new1 (o := o) S hD
  ⟨X.le, X.same, X.keep, X.dom, X.new, fun _ h => .inl h, fun a h => h.imp id fun e => by rw [e]; exact hD⟩
theorem RepS.addZ {μ : Sto} (S : RepS K ι H μ) (hD : H D = none) : RepS K (Fd.addZ ι D) (upd H D o) μ := by
  refine ⟨S.inj, fun l u h => ?_, fun a z => ?_, fun l hl z => ?_⟩
  · have hl : l < μ.length := (List.getElem?_eq_some_iff.mp h).1
    obtain ⟨w, hw⟩ := S.some hl
    exact (S.obj l u h).mono (Ext.addZ S hD) (upd_ne (ne_of_none hw hD))
  · by_cases e : a = D
    · subst e; rw [upd_same]; exact fun k => nomatch k
    · rw [upd_ne e]; exact z.elim (S.zin a) fun e' => absurd e' e
  · exact z.elim (S.zap l hl) fun e => S.off1 hD l hl e
theorem Ext.privR (X : Ext ι n H ι1 n1 H1) (hD : H D = none) : Ext ι n H ι1 n1 (upd H1 D o) :=
  ⟨X.le, X.same, fun b u h g => by rw [upd_ne (ne_of_none h hD)]; exact X.keep b u h g, fun b h => by
    by_cases e : b = D
    · subst e; exact absurd hD h
    · rw [upd_ne e]; exact X.dom b h, X.new, X.zup, X.zdn⟩
theorem Ext.setR (X : Ext ι n H ι1 n1 H1) : Ext ι n H ⟨ι1.f, ι.Z⟩ n1 H1 := ⟨X.le, X.same, X.keep, X.dom, X.new, fun _ h => h, fun _ h => .inl h⟩
/-- the private list is changed -/
theorem Off.priv {μ : Sto} {a : Addr} {u : HO} (h : Off ι n a) (hz : ι.Z D) : a ≠ D := fun e => h.2 (by rw [e]; exact hz)
mutual
theorem RepV.priv (hz : ι.Z D) : ∀ {x : PV} {v : V}, RepV K ι n H x v → RepV K ι n (upd H D o) x v
  | .non, _, h => h
  | .bl _, _, h => h
  | .int _, _, h => h
  | .str _, _, h => h
  | .tup xs, v, h => by
    obtain ⟨a, ys, rfl, t, r⟩ := h
    rcases t with ⟨t, g⟩ | t
    · exact ⟨a, ys, rfl, .inl ⟨by rw [upd_ne fun e => g.2 (by rw [e]; exact hz)]; exact t, g⟩, RepVs.priv hz r⟩
    · exact ⟨a, ys, rfl, .inr t, RepVs.priv hz r⟩
  | .lst xs, v, h => by
    obtain ⟨a, ys, rfl, ⟨t, g⟩, r⟩ := h
    exact ⟨a, ys, rfl, ⟨by rw [upd_ne fun e => g.2 (by rw [e]; exact hz)]; exact t, g⟩, RepVs.priv hz r⟩
  | .loc l, v, h => h
  | .scr ns, v, h => by
    obtain ⟨a, rfl, ⟨o', s, g⟩ | s⟩ := h
    · exact ⟨a, rfl, .inl ⟨o', by rw [upd_ne fun e => g.2 (by rw [e]; exact hz)]; exact s, g⟩⟩
    · exact ⟨a, rfl, .inr s⟩
theorem RepVs.priv (hz : ι.Z D) : ∀ {xs : List PV} {vs : List V}, RepVs K ι n H xs vs → RepVs K ι n (upd H D o) xs vs
  | [], _, h => h
  | x :: xs, _, h => by
    obtain ⟨y, r, rfl, h1, h2⟩ := h
    exact ⟨y, r, rfl, RepV.priv hz h1, RepVs.priv hz h2⟩
end
theorem RepKs.priv {κ : Type} {key : PV → Option κ} (hz : ι.Z D) : ∀ {xs : List (PV × PV)} {ys : List (κ × V)}, RepKs K ι n H key xs ys → RepKs K ι n (upd H D o) key xs ys
  | [], _, h => h
  | (k, x) :: xs, _, h => by
    obtain ⟨q, y, r, rfl, hk, h1, h2⟩ := h
    exact ⟨q, y, r, rfl, hk, RepV.priv hz h1, RepKs.priv hz h2⟩
theorem RepS.priv {μ : Sto} (S : RepS K ι H μ) (hz : ι.Z D) : RepS K ι (upd H D o) μ := by
  refine ⟨S.inj, fun l u h => ?_, fun a z => ?_, S.zap⟩
  · have hl : l < μ.length := (List.getElem?_eq_some_iff.mp h).1
    have e : upd H D o (ι l) = H (ι l) := upd_ne fun e => S.zap l hl (by rw [e]; exact hz)
    have q := S.obj l u h
    cases u with
    | lst xs => obtain ⟨ys, q, r⟩ := q; exact ⟨ys, e.trans q, RepVs.priv hz r⟩
    | dic t kvs => cases t <;> (obtain ⟨ys, q, r⟩ := q; exact ⟨ys, e.trans q, RepKs.priv hz r⟩)
  · by_cases e : a = D
    · subst e; rw [upd_same]; exact fun k => nomatch k
    · rw [upd_ne e]; exact S.zin a z
/-- the private address is given up -/
def setZ (ι : Ad) (Z : Addr → Prop) : Ad := ⟨ι.f, Z⟩
mutual
theorem RepV.setZ {Z : Addr → Prop} (hz : ∀ a, Z a → ι.Z a) : ∀ {x : PV} {v : V}, RepV K ι n H x v → RepV K (Fd.setZ ι Z) n H x v
  | .non, _, h => h
  | .bl _, _, h => h
  | .int _, _, h => h
  | .str _, _, h => h
  | .tup xs, v, h => by
    obtain ⟨a, ys, rfl, t, r⟩ := h
    rcases t with ⟨t, g⟩ | t
    · exact ⟨a, ys, rfl, .inl ⟨t, g.1, fun z => g.2 (hz a z)⟩, RepVs.setZ hz r⟩
    · exact ⟨a, ys, rfl, .inr t, RepVs.setZ hz r⟩
  | .lst xs, v, h => by
    obtain ⟨a, ys, rfl, ⟨t, g⟩, r⟩ := h
    exact ⟨a, ys, rfl, ⟨t, g.1, fun z => g.2 (hz a z)⟩, RepVs.setZ hz r⟩
  | .loc l, v, h => h
  | .scr ns, v, h => by
    obtain ⟨a, rfl, ⟨o', s, g⟩ | s⟩ := h
    · exact ⟨a, rfl, .inl ⟨o', s, g.1, fun z => g.2 (hz a z)⟩⟩
    · exact ⟨a, rfl, .inr s⟩
theorem RepVs.setZ {Z : Addr → Prop} (hz : ∀ a, Z a → ι.Z a) : ∀ {xs : List PV} {vs : List V}, RepVs K ι n H xs vs → RepVs K (Fd.setZ ι Z) n H xs vs
  | [], _, h => h
  | x :: xs, _, h => by
    obtain ⟨y, r, rfl, h1, h2⟩ := h
    exact ⟨y, r, rfl, RepV.setZ hz h1, RepVs.setZ hz h2⟩
end
theorem RepKs.setZ {κ : Type} {key : PV → Option κ} {Z : Addr → Prop} (hz : ∀ a, Z a → ι.Z a) : ∀ {xs : List (PV × PV)} {ys : List (κ × V)}, RepKs K ι n H key xs ys → RepKs K (Fd.setZ ι Z) n H key xs ys
  | [], _, h => h
  | (k, x) :: xs, _, h => by
    obtain ⟨q, y, r, rfl, hk, h1, h2⟩ := h
    exact ⟨q, y, r, rfl, hk, RepV.setZ hz h1, RepKs.setZ hz h2⟩
theorem RepS.setZ {μ : Sto} {Z : Addr → Prop} (S : RepS K ι H μ) (hz : ∀ a, Z a → ι.Z a) : RepS K (Fd.setZ ι Z) H μ := by
  refine ⟨S.inj, fun l u h => ?_, fun a z => S.zin a (hz a z), fun l hl z => S.zap l hl (hz _ z)⟩
  have q := S.obj l u h
  cases u with
  | lst xs => obtain ⟨ys, q, r⟩ := q; exact ⟨ys, q, RepVs.setZ hz r⟩
  | dic t kvs => cases t <;> (obtain ⟨ys, q, r⟩ := q; exact ⟨ys, q, RepKs.setZ hz r⟩)
end

/-! ### [elt for target in iter if ..] -/
open Classical in
noncomputable def lcL (ρ : En) (g : DenG) (t : DenT) (e : Den) (ch : List (Nat × List PV)) : List PV → List PV → Sto → Option (List PV × Sto)
  | [], acc, μ => some (acc, μ)
  | x :: xs, acc, μ => (g x ρ μ).bind fun p => (t p.1 p.2).bind fun q => if q.1 = true
      then (e p.1 q.2).bind fun r => if ChkOk ch r.2 ∧ acc.length < sizeLine then lcL ρ g t e ch xs (acc ++ [r.1]) r.2 else none
      else if ChkOk ch q.2 then lcL ρ g t e ch xs acc q.2 else none
noncomputable def dLc (vs : List Nat) (it : DenI) (g : DenG) (t : DenT) (e : Den) : Den := fun ρ μ => (it ρ μ).bind fun p => (lcL (wipeE ρ vs) g t e p.1.2 p.1.1 [] p.2).map fun r => (.lst r.1, r.2)
def tAll : DenT := fun _ μ => some (true, μ)
section
variable {X : Cx}
theorem x_nil : PTs X [] (tT X.K tAll) := ⟨fun pins s σ H Q I h => pts_nil.run pins s σ H Q I (by
  obtain ⟨ι, ρ, μ, b, μ', E, S, e, q⟩ := h
  cases e
  exact q ι H .refl S)⟩
theorem x_one {c : Expr} {t : DenT} (h : PT X c (tT X.K t)) : PTs X [c] (tT X.K t) := pts_one h
end
/-- a target whose stores are among the slots vs -/
structure GIn (K : Frg) (tg : TG) (g : DenG) (vs : List Nat) : Prop where
  imp : ∀ (v : V) (σ : L2.St) (H : Hp) (Q : L2.St → Hp → Prop), tG K g v σ H Q → tg v σ H fun σ' H' => L2.wipe σ' vs = L2.wipe σ vs ∧ Q σ' H'
theorem wipe_set1 (σ : L2.St) (i : Nat) (o : Option V) : L2.wipe (σ.set i o) [i] = L2.wipe σ [i] := by
  show (σ.set i o).set i none = σ.set i none
  rw [List.set_set]
theorem gin_nm {K : Frg} (i : Nat) : GIn K (gName i) (gNm i) [i] := ⟨fun v σ H Q h => by
  obtain ⟨ι, ρ, μ, pv, ρ', μ', E, S, R, e, q⟩ := h
  cases e
  exact ⟨wipe_set1 _ _ _, q _ ι H .refl (E.set i R) S⟩⟩
theorem wipe_idem (σ : L2.St) : ∀ vs : List Nat, L2.wipe (L2.wipe σ vs) vs = L2.wipe σ vs := fun vs => by
  apply List.ext_getElem?
  intro i
  have key : ∀ (σ : L2.St) (vs : List Nat) (i : Nat), (L2.wipe σ vs)[i]? = if i ∈ vs ∧ i < σ.length then some none else σ[i]? := by
    intro σ vs
    induction vs with
    | nil => intro i; simp [L2.wipe]
    | cons v vs ih =>
      intro i
      show ((L2.wipe σ vs).set v none)[i]? = _
      by_cases hv : v = i
      · subst hv
        by_cases hl : v < σ.length
        · rw [List.getElem?_set_self (by rw [wipe_length]; exact hl), if_pos ⟨List.mem_cons_self, hl⟩]
        · rw [if_neg fun z => hl z.2, List.getElem?_eq_none (by rw [List.length_set, wipe_length]; omega), List.getElem?_eq_none (by omega)]
      · rw [List.getElem?_set_ne hv, ih i]
        have : (i ∈ v :: vs ∧ i < σ.length) ↔ (i ∈ vs ∧ i < σ.length) := by
          constructor
          · rintro ⟨h1, h2⟩
            rcases List.mem_cons.mp h1 with e | h1
            · exact absurd e.symm hv
            · exact ⟨h1, h2⟩
          · rintro ⟨h1, h2⟩
            exact ⟨List.mem_cons_of_mem _ h1, h2⟩
        by_cases hc : i ∈ vs ∧ i < σ.length
        · rw [if_pos hc, if_pos (this.mpr hc)]
        · rw [if_neg hc, if_neg fun z => hc (this.mp z)]
  rw [key, wipe_length]
  split
  · rename_i h
    rw [key, if_pos h]
  · rfl
section
variable {X : Cx}
open Classical in
theorem lc_core' {K : Frg} {vs : List Nat} {J : It} {xs : List PV} {ch : List (Nat × List PV)} {tg : TG} {g : DenG} {t : DenT} {e : Den} {ι1 : Ad} {μ1 : Sto} {H1 : Hp} {ρ : En} {σ : L2.St} {out : List PV} {μ' : Sto} {Qd : V → Hp → Prop}
    (gi : GIn K tg g vs) (ok : ItOk K J xs ch ι1 μ1.length H1) (E : RepE K ι1 μ1.length H1 ρ σ) (S : RepS K ι1 H1 μ1) (c1 : ChkOk ch μ1) (he : lcL (wipeE ρ vs) g t e ch xs [] μ1 = some (out, μ')) (q : Aft K ι1 μ1 H1 (.lst out) μ' Qd)
    (D : Addr) (hD : H1 D = none) :
    ∃ W : Nat → Nat → Hp → Prop, (∃ m, W 0 m (upd H1 D (.lst []))) ∧ ∀ i m H, W i m H →
      (J.stop i H ∧ Qd (.ref D) H) ∨ (J.go i H ∧ ∃ Nx : Hp → Prop, (∀ H', Nx H' → ∃ m', m' < m ∧ W (i + 1) m' H') ∧ ∀ x H', J.yld i H x H' → tg x (L2.wipe σ vs) H' fun σ2 H2 => L2.wipe σ2 vs = L2.wipe σ vs ∧ tT K t σ2 H2 fun b H3 =>
        if b = true then tD K e σ2 H3 fun y H4 => ∃ acc, H4 D = some (.lst acc) ∧ acc.length < sizeLine ∧ Nx (upd H4 D (.lst (acc ++ [y]))) else Nx H3) := by
  let Pv : Nat → Hp → Prop := fun i H => ∃ ι2 μ2 acc ys, Ext ι1 μ1.length H1 ι2 μ2.length H ∧ ι2.Z D ∧ RepS K ι2 H μ2 ∧ H D = some (.lst ys) ∧ RepVs K ι2 μ2.length H acc ys ∧ ChkOk ch μ2 ∧
    lcL (wipeE ρ vs) g t e ch (xs.drop i) acc μ2 = some (out, μ')
  refine ⟨fun i m H => m = xs.length - i ∧ i ≤ xs.length ∧ Pv i H, ⟨xs.length, by simp, Nat.zero_le _, addZ ι1 D, μ1, [], [], Ext.addZ S hD, .inr rfl, S.addZ hD, upd_same, rfl, c1, he⟩, ?_⟩
  rintro i m H ⟨rfl, hi, ι2, μ2, acc, ys, X2, z2, S2, hDy, R2, c2, e2⟩
  by_cases hlt : i < xs.length
  · have hd : xs.drop i = xs[i] :: xs.drop (i + 1) := List.drop_eq_getElem_cons hlt
    rw [hd] at e2
    unfold lcL at e2
    obtain ⟨⟨ρ3, μ3⟩, e3, e2⟩ := Option.bind_eq_some_iff.mp e2
    obtain ⟨⟨b, μ4⟩, e4, e2⟩ := Option.bind_eq_some_iff.mp e2
    refine .inr ⟨ok.goes i ι2 μ2 H hlt X2.p S2 c2, Pv (i + 1), fun H' h => ⟨xs.length - (i + 1), by omega, rfl, hlt, h⟩, fun x H3 y => ?_⟩
    obtain ⟨X3, S3, R3⟩ := ok.yields i ι2 μ2 H x H3 xs[i] (by simp [hlt]) X2.p S2 c2 y
    have E3 : RepE K ι2 μ2.length H3 (wipeE ρ vs) (L2.wipe σ vs) := (E.wipe vs).mono (X2.trans X3)
    have h0 := gi.imp x (L2.wipe σ vs) H3 (fun σ2 H2 => tT K t σ2 H2 fun b H3 =>
        if b = true then tD K e σ2 H3 fun y H4 => ∃ acc, H4 D = some (.lst acc) ∧ acc.length < sizeLine ∧ Pv (i + 1) (upd H4 D (.lst (acc ++ [y]))) else Pv (i + 1) H3) ?_
    · rw [wipe_idem] at h0
      exact h0
    refine ⟨ι2, wipeE ρ vs, μ2, xs[i], ρ3, μ3, E3, S3, R3, e3, fun σ4 ι4 H4 X4 E4 S4 => ⟨ι4, ρ3, μ3, b, μ4, E4, S4, e4, fun ι5 H5 X5 S5 => ?_⟩⟩
    have e2 : (if b = true then _ else _) = some (out, μ') := e2
    have hoffD : ∀ l, l < μ2.length → ι2 l ≠ D := fun l hl z => S2.zap l hl (by rw [z]; exact z2)
    have X25 := X3.trans (X4.trans X5)
    have hDy5 : H5 D = some (.lst ys) := X25.keep D _ hDy hoffD
    have z5 : ι5.Z D := X25.zup D z2
    cases b with
    | false =>
      rw [if_neg Bool.false_ne_true] at e2
      refine iteF ?_
      split at e2
      · rename_i c5
        exact ⟨ι5, μ4, acc, ys, X2.trans X25, z5, S5, hDy5, RepVs.mono X25 R2, c5, e2⟩
      · cases e2
    | true =>
      rw [if_pos rfl] at e2
      refine iteT ?_
      obtain ⟨⟨w, μ6⟩, e5, e2⟩ := Option.bind_eq_some_iff.mp e2
      refine ⟨ι5, ρ3, μ4, w, μ6, E4.mono X5, S5, e5, fun hw ι6 H6 X6 R6 S6 => ?_⟩
      split at e2
      · rename_i c6
        have X26 := X25.trans X6
        have z6 : ι6.Z D := X6.zup D z5
        have R26 : RepVs K ι6 μ6.length H6 acc ys := RepVs.mono X26 R2
        refine ⟨ys, X26.keep D _ hDy hoffD, by rw [← R2.length]; exact c6.2, ι6, μ6, acc ++ [w], ys ++ [hw], (X2.trans X26).privR hD, z6, S6.priv z6, upd_same, (R26.append (.one R6)).priv z6, c6.1, e2⟩
      · cases e2
  · have hi2 : i = xs.length := by omega
    subst hi2
    rw [List.drop_length] at e2
    cases e2
    have zs : ∀ a, ι1.Z a → ι2.Z a := X2.zup
    refine .inl ⟨ok.stops ι2 _ H X2.p S2 c2, q _ (setZ ι2 ι1.Z) H X2.setR ?_ (S2.setZ zs)⟩
    exact ⟨D, ys, rfl, ⟨hDy, fun l hl z => S2.zap l hl (by have z : ι2 l = D := z; rw [z]; exact z2), fun z => S.zin D z hD⟩, R2.setZ zs⟩
theorem t_lc {K : Frg} {vs : List Nat} {tg : TG} {di : DenI} {g : DenG} {t : DenT} {e : Den} (gi : GIn K tg g vs) (hci : ∀ ρ μ p μ', di ρ μ = some (p, μ') → ChkOk p.2 μ') {σ : L2.St} {H : Hp} {Q : VK} (h : tD K (dLc vs di g t e) σ H Q) :
    tLc (tI K di) tg (tT K t) (tD K e) vs σ H Q := by
  obtain ⟨ι, ρ, μ, v, μ', E, S, e, q⟩ := h
  obtain ⟨⟨⟨xs, ch⟩, μ1⟩, e1, e⟩ := Option.bind_eq_some_iff.mp e
  obtain ⟨⟨out, μ2⟩, e2, e3⟩ := Option.map_eq_some_iff.mp e
  cases e3
  have hch := hci _ _ _ _ e1
  exact ⟨ι, ρ, μ, (xs, ch), μ1, E, S, e1, hch, fun ι1 H1 J X1 S1 ok D hD => lc_core' gi ok (E.mono X1) S1 hch e2 (q.mono X1) D hD⟩
theorem e_lc {elt tg iter : Expr} {ifs : List Expr} {scope : Scope} {own : List (Str × Nat)} {pos : Pos} {di : DenI} {gt : TG} {g : DenG} {t : DenT} {e : Den} (hN : X.N.Nodup) (hi : PI X tg iter (tI X.K di)) (hci : ∀ ρ μ p μ', di ρ μ = some (p, μ') → ChkOk p.2 μ') (ok : BlkOk X.N X.env.scope scope own)
    (gi : GIn X.K gt g (own.map (·.2)))
    (hg : ∀ (s : Shared) (H : Hp) (C : Addr) (cl : List (Str × Addr)) (fp : List Addr), PG (X.blk s H scope (compEnvC scope cl C X.env) fp) tg gt) (ht : ∀ (s : Shared) (H : Hp) (C : Addr) (cl : List (Str × Addr)) (fp : List Addr), PTs (X.blk s H scope (compEnvC scope cl C X.env) fp) ifs (tT X.K t))
    (he : ∀ (s : Shared) (H : Hp) (C : Addr) (cl : List (Str × Addr)) (fp : List Addr), PE (X.blk s H scope (compEnvC scope cl C X.env) fp) elt (tD X.K e)) (hc : X.calm = true := by rfl) (hs : ∀ x, foldedSetIterable iter X.env x = pure x := by intro _; rfl) :
    PE X (.ListComp elt [⟨tg, iter, ifs, 0⟩] scope pos) (tD X.K (dLc (own.map (·.2)) di g t e)) :=
  (pe_lc hc hN hi ok hg ht he hs).weak fun _ _ _ h => t_lc gi hci h
theorem s_setLc (i : Nat) {y : Str} {py : Pos} {elt tg iter : Expr} {ifs : List Expr} {scope : Scope} {own : List (Str × Nat)} {pos spos : Pos} {di : DenI} {gt : TG} {g : DenG} {t : DenT} {e : Den} (hN : X.N.Nodup)
    (hsw : swapsWith (.ListComp elt [⟨tg, iter, ifs, 0⟩] scope pos) (some (.Name y py)) spos.line X.env = pure true) (hi : PI X tg iter (tI X.K di)) (hci : ∀ ρ μ p μ', di ρ μ = some (p, μ') → ChkOk p.2 μ') (ok : BlkOk X.N X.env.scope scope own)
    (gi : GIn X.K gt g (own.map (·.2)))
    (hg : ∀ (s : Shared) (H : Hp) (C : Addr) (cl : List (Str × Addr)) (fp : List Addr), PG (X.blk s H scope (compEnvC scope cl C X.env) fp) tg gt) (ht : ∀ (s : Shared) (H : Hp) (C : Addr) (cl : List (Str × Addr)) (fp : List Addr), PTs (X.blk s H scope (compEnvC scope cl C X.env) fp) ifs (tT X.K t))
    (he : ∀ (s : Shared) (H : Hp) (C : Addr) (cl : List (Str × Addr)) (fp : List Addr), PE (X.blk s H scope (compEnvC scope cl C X.env) fp) elt (tD X.K e)) (hy : X.N[i]? = some y := by rfl) (hyl : X.env.scope.names.lookup y = some .local := by rfl) (hc : X.calm = true := by rfl) (hs : ∀ x, foldedSetIterable iter X.env x = pure x := by intro _; rfl) :
    PS X (.Assign [.Name y py] (.ListComp elt [⟨tg, iter, ifs, 0⟩] scope pos) spos) (tS X.K (sAsg (dLc (own.map (·.2)) di g t e) (gNm i))) :=
  (ps_setLc (i := i) hc hN hy hyl hsw hi ok hg ht he hs).weak fun D σ H h => by
    obtain ⟨ι, ρ, μ, o, E, S, e, q⟩ := h
    obtain ⟨⟨v, μ1⟩, e1, e⟩ := Option.bind_eq_some_iff.mp e
    obtain ⟨⟨ρ2, μ2⟩, e2, e3⟩ := Option.map_eq_some_iff.mp e
    cases e3; cases e2
    exact t_lc gi hci (Q := fun x H1 => gName i x σ H1 D.nx) ⟨ι, ρ, μ, v, μ1, E, S, e1, fun hv ι1 H1 X1 R1 S1 => q _ ι1 H1 X1 ((E.mono X1).set i R1) S1⟩
end
end Fd

/-! Fd6: defs, their calls; built-ins. -/
namespace Fd
open PySem PySem.Spec PyProof.Rows L2

/-! ### values that name no place of the store from n on -/
mutual
def okL (n : Nat) : PV → Bool
  | .tup xs => okLs n xs
  | .lst xs => okLs n xs
  | .loc l => decide (l < n)
  | _ => true
def okLs (n : Nat) : List PV → Bool
  | [] => true
  | x :: xs => okL n x && okLs n xs
end
def okKs (n : Nat) : List (PV × PV) → Bool
  | [] => true
  | (_, x) :: xs => okL n x && okKs n xs
def okO (n : Nat) : Ob → Bool
  | .lst xs => okLs n xs
  | .dic _ kvs => okKs n kvs
section
variable {K : Frg} {ι : Ad} {n m : Nat} {H : Hp}
mutual
theorem RepV.ok : ∀ {x : PV} {v : V}, RepV K ι n H x v → okL n x = true
  | .non, _, _ => rfl
  | .bl _, _, _ => rfl
  | .int _, _, _ => rfl
  | .str _, _, _ => rfl
  | .tup xs, v, h => by obtain ⟨a, ys, rfl, t, r⟩ := h; exact RepVs.ok r
  | .lst xs, v, h => by obtain ⟨a, ys, rfl, t, r⟩ := h; exact RepVs.ok r
  | .loc l, v, h => decide_eq_true h.1
  | .scr _, _, _ => rfl
theorem RepVs.ok : ∀ {xs : List PV} {vs : List V}, RepVs K ι n H xs vs → okLs n xs = true
  | [], _, _ => rfl
  | x :: xs, _, h => by
    obtain ⟨y, r, rfl, h1, h2⟩ := h
    show (okL n x && okLs n xs) = true
    rw [RepV.ok h1, RepVs.ok h2]
    rfl
end
theorem RepKs.ok {κ : Type} {key : PV → Option κ} : ∀ {xs : List (PV × PV)} {ys : List (κ × V)}, RepKs K ι n H key xs ys → okKs n xs = true
  | [], _, _ => rfl
  | (k, x) :: xs, _, h => by
    obtain ⟨q, y, r, rfl, hk, h1, h2⟩ := h
    show (okL n x && okKs n xs) = true
    rw [RepV.ok h1, RepKs.ok h2]
    rfl
theorem RepO.ok {a : Addr} {o : Ob} (h : RepO K ι n H a o) : okO n o = true := by
  cases o with
  | lst xs => obtain ⟨ys, _, r⟩ := h; exact RepVs.ok r
  | dic t kvs => cases t <;> (obtain ⟨ys, _, r⟩ := h; exact RepKs.ok r)
theorem Off.le {a : Addr} (h : Off ι m a) (hm : n ≤ m) : Off ι n a := ⟨fun l hl => h.1 l (Nat.lt_of_lt_of_le hl hm), h.2⟩
mutual
theorem RepV.cut (hm : n ≤ m) : ∀ {x : PV} {v : V}, RepV K ι m H x v → okL n x = true → RepV K ι n H x v
  | .non, _, h, _ => h
  | .bl _, _, h, _ => h
  | .int _, _, h, _ => h
  | .str _, _, h, _ => h
  | .tup xs, v, h, o => by
    obtain ⟨a, ys, rfl, t, r⟩ := h
    exact ⟨a, ys, rfl, t.imp (fun t => ⟨t.1, t.2.le hm⟩) id, RepVs.cut' hm r o⟩
  | .lst xs, v, h, o => by
    obtain ⟨a, ys, rfl, t, r⟩ := h
    exact ⟨a, ys, rfl, ⟨t.1, t.2.le hm⟩, RepVs.cut' hm r o⟩
  | .loc l, v, h, o => ⟨of_decide_eq_true o, h.2⟩
  | .scr ns, v, h, o => by
    obtain ⟨a, rfl, ⟨o', s, g⟩ | s⟩ := h
    · exact ⟨a, rfl, .inl ⟨o', s, g.le hm⟩⟩
    · exact ⟨a, rfl, .inr s⟩
theorem RepVs.cut' (hm : n ≤ m) : ∀ {xs : List PV} {vs : List V}, RepVs K ι m H xs vs → okLs n xs = true → RepVs K ι n H xs vs
  | [], _, h, _ => h
  | x :: xs, _, h, o => by
    obtain ⟨y, r, rfl, h1, h2⟩ := h
    have o : (okL n x && okLs n xs) = true := o
    rw [Bool.and_eq_true] at o
    exact ⟨y, r, rfl, RepV.cut hm h1 o.1, RepVs.cut' hm h2 o.2⟩
end
theorem RepKs.cut {κ : Type} {key : PV → Option κ} (hm : n ≤ m) : ∀ {xs : List (PV × PV)} {ys : List (κ × V)}, RepKs K ι m H key xs ys → okKs n xs = true → RepKs K ι n H key xs ys
  | [], _, h, _ => h
  | (k, x) :: xs, _, h, o => by
    obtain ⟨q, y, r, rfl, hk, h1, h2⟩ := h
    have o : (okL n x && okKs n xs) = true := o
    rw [Bool.and_eq_true] at o
    exact ⟨q, y, r, rfl, hk, RepV.cut hm h1 o.1, RepKs.cut hm h2 o.2⟩
theorem RepO.cut {a : Addr} {o : Ob} (hm : n ≤ m) (h : RepO K ι m H a o) (ok : okO n o = true) : RepO K ι n H a o := by
  cases o with
  | lst xs => obtain ⟨ys, t, r⟩ := h; exact ⟨ys, t, RepVs.cut' hm r ok⟩
  | dic t kvs => cases t <;> (obtain ⟨ys, t, r⟩ := h; exact ⟨ys, t, RepKs.cut hm r ok⟩)
theorem Ext.cut {ι1 : Ad} {n1 : Nat} {H1 : Hp} (X : Ext ι n H ι1 n1 H1) : Ext ι n H ι1 n H1 := ⟨Nat.le_refl _, X.same, X.keep, X.dom, fun _ h1 h2 => absurd h2 (by omega), X.zup, X.zdn⟩
end
/-- how a body's end becomes a call's: what the body laid in the store and nobody names is forgotten -/
inductive Fin (μ : Sto) : Out → PV → Sto → Prop where
  | rt (v : PV) (μ' : Sto) : Fin μ (.rt v μ') v μ'
  | nx (ρ : En) (μ' : Sto) : Fin μ (.nx ρ μ') .non μ'
  | trim (v : PV) (μ1 g : Sto) (hl : μ1.length = μ.length) (hc : ∀ (l : Nat) (o : Ob), μ1[l]? = some o → μ[l]? = some o ∨ okO μ.length o = true) (hv : okL μ.length v = true) : Fin μ (.rt v (μ1 ++ g)) v μ1
  | trimN (ρ : En) (μ1 g : Sto) (hl : μ1.length = μ.length) (hc : ∀ (l : Nat) (o : Ob), μ1[l]? = some o → μ[l]? = some o ∨ okO μ.length o = true) : Fin μ (.nx ρ (μ1 ++ g)) .non μ1
  | frz (l : Nat) (xs : List PV) (μ1 g : Sto) (hl : μ1.length = μ.length) (hc : ∀ (l : Nat) (o : Ob), μ1[l]? = some o → μ[l]? = some o ∨ okO μ.length o = true) (h : (μ1 ++ g)[l]? = some (.lst xs)) (hn : μ.length ≤ l) (hv : okLs μ.length xs = true) :
      Fin μ (.rt (.loc l) (μ1 ++ g)) (.lst xs) μ1
abbrev Fn := List PV → Sto → Option (PV × Sto)
/-- a def's promise by a function of its arguments and the store -/
def spD (K : Frg) (k : Nat) (ψ : Fn) : Sp := fun vs H Q _ => ∃ ι args μ v μ', args.length = k ∧ RepVs K ι μ.length H args vs ∧ RepS K ι H μ ∧ ψ args μ = some (v, μ') ∧ Aft K ι μ H v μ' Q
def init (N : Nat) (args : List PV) : En := args.map some ++ List.replicate (N - args.length) none
theorem init_rep {K : Frg} {ι : Ad} {n : Nat} {H : Hp} {args : List PV} {vs : List V} (r : RepVs K ι n H args vs) {N : List Str} (hN : vs.length ≤ N.length) : RepE K ι n H (init N.length args) (L2.start N vs) := by
  have hl := r.length
  refine ⟨?_, fun i x hx => ?_⟩
  · unfold init L2.start
    simp only [List.length_append, List.length_map, List.length_replicate, hl]
  · unfold init at hx
    by_cases hi : i < args.length
    · rw [List.getElem?_append_left (by simpa using hi), List.getElem?_map] at hx
      cases e : args[i]? with
      | none => rw [e] at hx; cases hx
      | some a =>
        rw [e] at hx
        cases hx
        obtain ⟨y, h1, h2⟩ := r.get e
        refine ⟨y, ?_, h2⟩
        unfold L2.start
        rw [List.getElem?_append_left (by rw [List.length_map, ← hl]; exact hi), List.getElem?_map, h1]
        rfl
    · rw [List.getElem?_append_right (by simpa using hi), List.getElem?_replicate] at hx
      split at hx <;> cases hx
theorem trim_rep {K : Frg} {ι ι' : Ad} {H H' : Hp} {μ μ1 g : Sto} (S : RepS K ι H μ) (X : Ext ι μ.length H ι' (μ1 ++ g).length H') (S' : RepS K ι' H' (μ1 ++ g)) (hl : μ1.length = μ.length) (hc : ∀ (l : Nat) (o : Ob), μ1[l]? = some o → μ[l]? = some o ∨ okO μ.length o = true) :
    RepS K ι' H' μ1 := by
  have hle : μ1.length ≤ (μ1 ++ g).length := by rw [List.length_append]; omega
  refine ⟨fun i j hi hj => S'.inj i j (by omega) (by omega), fun l o h => ?_, S'.zin, fun l h => S'.zap l (by omega)⟩
  have hll : l < μ1.length := (List.getElem?_eq_some_iff.mp h).1
  refine (S'.obj l o (by rw [List.getElem?_append_left hll]; exact h)).cut hle ?_
  rw [hl]
  rcases hc l o h with q | q
  · exact (S.obj l o q).ok
  · exact q
section
variable {P : Program} {w : World} {K : Frg} {mg : Str → Option Value} {base : Heap}
/-- THE RULE for a def -/
theorem fn_ok {x qual : Str} {st : Stmt} {f : Addr} {fd : FuncData} {N ps : List Str} {j : Nat} {d : DenS} {ψ : Fn} (F : L2.Fun K x qual st f fd) (S : FnScope N ps (defScope st))
    (hb : ∀ (cdv : Value) (A : Around) (outer : List Env) (s : Shared) (H : Hp) (E : XK), Room j (A.deeper (envOfC qual (defScope st) s.heap.objs.size f cdv)) → PSs (cxOf CX0 P w K mg base N qual (defScope st) f cdv A outer s H E).nox (defBody st) (tS K d))
    (hψ : ∀ (args : List PV) (μ : Sto) (v : PV) (μ' : Sto), args.length = ps.length → okLs μ.length args = true → ψ args μ = some (v, μ') → ∃ o, d (init N.length args) μ = some o ∧ Fin μ o v μ') : FnOk P w K mg base CX0 (j + 1) f fd ps (spD K ps.length ψ) := by
  refine F.ok S (fun vs H Q E h => ?_) (fun cdv A outer s H vs Q E hr h => ⟨tS K d, hb cdv A outer s H E hr, ?_⟩)
  · obtain ⟨ι, args, μ, v, μ', hl, R, _⟩ := h
    rw [← R.length]; exact hl
  · obtain ⟨ι, args, μ, v, μ', hl, R, S0, e, q⟩ := h
    obtain ⟨o, e2, fin⟩ := hψ args μ v μ' hl R.ok e
    have hpl : ps.length ≤ N.length := by
      have := congrArg List.length S.pre
      rw [List.length_take] at this
      omega
    refine ⟨ι, init N.length args, μ, o, init_rep R (by rw [← R.length, hl]; exact hpl), S0, e2, ?_⟩
    cases fin with
    | rt => exact q
    | nx ρ => exact fun σ' ι' H' X E' S' => q .non ι' H' X rfl S'
    | trim v μ1 g hl1 hc hv =>
      intro hv' ι' H' X R' S'
      have hle : μ'.length ≤ (μ' ++ g).length := by rw [List.length_append]; omega
      refine q hv' ι' H' (by rw [hl1]; exact X.cut) ?_ (trim_rep S0 X S' hl1 hc)
      exact R'.cut hle (by rw [hl1]; exact hv)
    | trimN ρ μ1 g hl1 hc => exact fun σ' ι' H' X E' S' => q .non ι' H' (by rw [hl1]; exact X.cut) rfl (trim_rep S0 X S' hl1 hc)
    | frz l xs μ1 g hl1 hc h hn hv =>
      intro hv' ι' H' X R' S'
      have hle : μ'.length ≤ (μ' ++ g).length := by rw [List.length_append]; omega
      obtain ⟨hlt, rfl⟩ := R'
      obtain ⟨ys, t, r⟩ := S'.obj l _ h
      refine q _ ι' H' (by rw [hl1]; exact X.cut) ⟨ι' l, ys, rfl, ⟨t, fun k hk z => ?_, fun z => S'.zap l hlt z⟩, RepVs.cut' hle r (by rw [hl1]; exact hv)⟩ (trim_rep S0 X S' hl1 hc)
      have := S'.inj k l (by omega) hlt z
      omega
/-- a def as its callers know it -/
structure Callee (P : Program) (w : World) (K : Frg) (mg : Str → Option Value) (base : Heap) (j : Nat) (x : Str) (k : Nat) (ψ : Fn) : Prop where
  ex : ∃ (f : Addr) (fd : FuncData) (ps : List Str), FnOk P w K mg base CX0 j f fd ps (spD K k ψ) ∧ mg x = some (.ref f) ∧ PySem.W.keepIn K (.ref f) = true ∧ Binds K fd ps []
theorem Callee.mono {i j k : Nat} {x : Str} {ψ : Fn} (c : Callee P w K mg base i x k ψ) (h : i ≤ j) : Callee P w K mg base j x k ψ := by
  obtain ⟨f, fd, ps, F, r⟩ := c.ex
  exact ⟨f, fd, ps, F.mono h, r⟩
theorem Callee.imp {j k : Nat} {x : Str} {ψ ψ' : Fn} (c : Callee P w K mg base j x k ψ) (h : ∀ args μ r, ψ' args μ = some r → ψ args μ = some r) : Callee P w K mg base j x k ψ' := by
  obtain ⟨f, fd, ps, F, r⟩ := c.ex
  exact ⟨f, fd, ps, F.imp (fun vs H Q E ⟨ι, args, μ, v, μ', h1, h2, h3, h4, h5⟩ => ⟨ι, args, μ, v, μ', h1, h2, h3, h _ _ _ h4, h5⟩), r⟩
/-- a def that is never called with anything -/
theorem callee_bot {x : Str} {f : Addr} {fd : FuncData} {ps : List Str} {k : Nat} (hg : mg x = some (.ref f)) (hk : PySem.W.keepIn K (.ref f) = true) (hb : Binds K fd ps []) : Callee P w K mg base 0 x k fun _ _ => none :=
  ⟨⟨f, fd, ps, ⟨fun vs H Q E h => (by obtain ⟨ι, args, μ, v, μ', _, _, _, h, _⟩ := h; cases h), fun A outer s H args us vs Q E _ _ _ _ h => (by obtain ⟨ι, args, μ, v, μ', _, _, _, h, _⟩ := h; cases h)⟩, hg, hk, hb⟩⟩
end
def dCall (k : Nat) (ψ : Fn) (r : DenA) : Den := fun ρ μ => (r ρ μ).bind fun p => if p.1.length = k then ψ p.1 p.2 else none
section
variable {X : Cx} {x : Str} {p pos : Pos} {e : Expr} {es : List Expr} {r : DenA} {j k : Nat} {ψ : Fn}
theorem t_call {K : Frg} {σ : L2.St} {H : Hp} {Q : VK} (h : tD K (dCall k ψ r) σ H Q) : tCall (spD K k ψ) [] E0 (tA K r) σ H Q := by
  obtain ⟨ι, ρ, μ, v, μ', E, S, e, q⟩ := h
  obtain ⟨⟨vs, μ1⟩, e1, e2⟩ := Option.bind_eq_some_iff.mp e
  split at e2
  · rename_i hl
    refine ⟨ι, ρ, μ, vs, μ1, E, S, e1, fun hs ι1 H1 X1 R1 S1 => ⟨ι1, vs, μ1, v, μ', hl, ?_, S1, e2, q.mono X1⟩⟩
    rw [List.append_nil]
    exact R1
  · cases e2
theorem e_call (C : Callee X.prog X.w X.K X.mg X.base j x k ψ) (hr : Room j X.A) (ha : PA X (e :: es) (tA X.K r)) (hg : Gl X x := by rfl) (hdb : (x == ("__debug__" : Str)) = false := by decide) (he : starEach (e :: es) X.env = (false, eval e X.env) :: starEach es X.env := by rfl) (hpl : (backTo pos (starEach es X.env)).any (·.1) = false := by rfl) :
    PE X (.Call (.Name x p) (e :: es) [] pos) (tD X.K (dCall k ψ r)) := by
  obtain ⟨f, fd, ps, F, hm, hk, hb⟩ := C.ex
  exact (pe_call F hr hg hm hk hb .nil pass0 ha hdb he hpl).weak fun _ _ _ h => t_call h
theorem e_call0 (C : Callee X.prog X.w X.K X.mg X.base j x k ψ) (hr : Room j X.A) (hg : Gl X x := by rfl) (hdb : (x == ("__debug__" : Str)) = false := by decide) : PE X (.Call (.Name x p) [] [] pos) (tD X.K (dCall k ψ aNil)) := by
  obtain ⟨f, fd, ps, F, hm, hk, hb⟩ := C.ex
  refine (pe_call0 F hr hg hm hk hb .nil pass0 hdb).weak fun σ H Q h => ?_
  obtain ⟨ι, ρ, μ, v, μ', E, S, e, q⟩ := h
  obtain ⟨⟨vs, μ1⟩, e1, e2⟩ := Option.bind_eq_some_iff.mp e
  cases e1
  split at e2
  · rename_i hl
    exact ⟨ι, [], μ, v, μ', hl, rfl, S, e2, q⟩
  · cases e2
end

/-! ### built-ins -/
def SN (K : Frg) (r : List V → Hp → VK → Prop) (f : Fn) : Prop := ∀ ι H μ xs v μ' hs (Q : VK), RepS K ι H μ → RepVs K ι μ.length H xs hs → f xs μ = some (v, μ') → Aft K ι μ H v μ' Q → r hs H Q
def dN (f : Fn) (r : DenA) : Den := fun ρ μ => (r ρ μ).bind fun p => f p.1 p.2
theorem t_n {K : Frg} {σ : L2.St} {H : Hp} {Q : VK} {r : List V → Hp → VK → Prop} {f : Fn} {d : DenA} (hr : SN K r f) (h : tD K (dN f d) σ H Q) : tCB r (tA K d) σ H Q := by
  obtain ⟨ι, ρ, μ, v, μ', E, S, e, q⟩ := h
  obtain ⟨⟨vs, μ1⟩, e1, e2⟩ := Option.bind_eq_some_iff.mp e
  exact ⟨ι, ρ, μ, vs, μ1, E, S, e1, fun hs ι1 H1 X1 R1 S1 => hr ι1 H1 μ1 vs v μ' hs Q S1 R1 e2 (q.mono X1)⟩
section
variable {X : Cx} {x : Str} {p pos : Pos} {e : Expr} {es : List Expr} {d : DenA} {id T : String} {r : List V → Hp → VK → Prop} {f : Fn}
theorem e_callB (hc : CallR X (.builtin id) r) (hr : SN X.K r f) (hm : X.mg x = none) (ha : PA X (e :: es) (tA X.K d)) (hv : bootBuiltins x = some (.builtin id) := by decide +kernel) (hg : Gl X x := by rfl) (hn : x ≠ "__name__" := by decide) (hdb : (x == ("__debug__" : Str)) = false := by decide)
    (he : starEach (e :: es) X.env = (false, eval e X.env) :: starEach es X.env := by rfl) (hpl : (backTo pos (starEach es X.env)).any (·.1) = false := by rfl) : PE X (.Call (.Name x p) (e :: es) [] pos) (tD X.K (dN f d)) :=
  (pe_callB hc hg hm hv ha hn hdb he hpl).weak fun _ _ _ h => t_n hr h
theorem e_callTy (hc : CallR X (.type T) r) (hr : SN X.K r f) (hm : X.mg x = none) (ha : PA X (e :: es) (tA X.K d)) (hv : bootBuiltins x = some (.type T) := by decide +kernel) (hg : Gl X x := by rfl) (hn : x ≠ "__name__" := by decide) (hdb : (x == ("__debug__" : Str)) = false := by decide)
    (he : starEach (e :: es) X.env = (false, eval e X.env) :: starEach es X.env := by rfl) (hpl : (backTo pos (starEach es X.env)).any (·.1) = false := by rfl) : PE X (.Call (.Name x p) (e :: es) [] pos) (tD X.K (dN f d)) :=
  (pe_callTy hc hg hm hv ha hn hdb he hpl).weak fun _ _ _ h => t_n hr h
end
def f_len : Fn := fun xs μ => match xs with
  | [.str z] => if z.length ≤ sizeLine then some (.int z.length, μ) else none
  | [x] => (rdS μ x).map fun ys => (.int ys.length, μ)
  | _ => none
theorem rdS_rep {K : Frg} {ι : Ad} {μ : Sto} {H : Hp} (S : RepS K ι H μ) {x : PV} {v : V} {xs : List PV} (r : RepV K ι μ.length H x v) (h : rdS μ x = some xs) : ∃ a ys, v = .ref a ∧ (SqL K H a ys ∨ SqT K H a ys) ∧ RepVs K ι μ.length H xs ys := by
  unfold rdS at h
  split at h
  · cases h
    obtain ⟨a, us, rfl, ta, ra⟩ := r
    exact ⟨a, us, rfl, .inr ta.sq, ra⟩
  · obtain ⟨a, us, rfl, ta, ra⟩ := rdL_rep S r h
    exact ⟨a, us, rfl, .inl (.of ta), ra⟩
theorem s_len {K : Frg} : SN K (fun xs H Q => ∃ x n, xs = [x] ∧ LenV K x H n ∧ Q (.int n) H) f_len := by
  intro ι H μ xs v μ' hs Q S R h q
  unfold f_len at h
  split at h
  · split at h
    · rename_i z hz
      cases h
      obtain ⟨y, t, rfl, r1, rfl⟩ := R
      cases r1
      exact ⟨_, _, rfl, ⟨hz, rfl⟩, q.pure S rfl⟩
    · cases h
  · obtain ⟨ys, e1, e2⟩ := Option.map_eq_some_iff.mp h
    cases e2
    obtain ⟨y, t, rfl, r1, rfl⟩ := R
    obtain ⟨a, us, rfl, t, ra⟩ := rdS_rep S r1 e1
    refine ⟨_, us.length, rfl, ?_, q.pure S (by rw [ra.length]; rfl)⟩
    exact t.imp (fun t => ⟨us, t, rfl⟩) fun t => ⟨us, t, rfl⟩
  · cases h
def f_abs : Fn := fun xs μ => match xs with
  | [.int i] => some (.int (if i < 0 then -i else i), μ)
  | _ => none
theorem s_abs {K : Frg} : SN K (fun xs H Q => ∃ i, xs = [.int i] ∧ Q (.int (if i < 0 then -i else i)) H) f_abs := by
  intro ι H μ xs v μ' hs Q S R h q
  unfold f_abs at h
  split at h
  · cases h
    obtain ⟨y, t, rfl, r1, rfl⟩ := R
    cases r1
    exact ⟨_, rfl, q.pure S rfl⟩
  · cases h
def f_int : Fn := fun xs μ => match xs with
  | [.int i] => some (.int i, μ)
  | [.bl b] => some (.int (if b then 1 else 0), μ)
  | _ => none
theorem s_int {K : Frg} : SN K (fun xs H Q => (∃ i, xs = [.int i] ∧ Q (.int i) H) ∨ ∃ k, xs = [.bl k] ∧ Q (.int (if k then 1 else 0)) H) f_int := by
  intro ι H μ xs v μ' hs Q S R h q
  unfold f_int at h
  split at h
  · cases h
    obtain ⟨y, t, rfl, r1, rfl⟩ := R
    cases r1
    exact .inl ⟨_, rfl, q.pure S rfl⟩
  · cases h
    obtain ⟨y, t, rfl, r1, rfl⟩ := R
    cases r1
    exact .inr ⟨_, rfl, q.pure S rfl⟩
  · cases h
def f_max2 : Fn := fun xs μ => match xs with
  | [.int i, .int j] => some (.int (if j > i then j else i), μ)
  | _ => none
theorem s_max2 {K : Frg} : SN K (fun xs H Q => ∃ i j, xs = [.int i, .int j] ∧ Q (.int (if j > i then j else i)) H) f_max2 := by
  intro ι H μ xs v μ' hs Q S R h q
  unfold f_max2 at h
  split at h
  · cases h
    obtain ⟨y, t, rfl, r1, y2, t2, rfl, r2, rfl⟩ := R
    cases r1; cases r2
    exact ⟨_, _, rfl, q.pure S rfl⟩
  · cases h
def f_min2 : Fn := fun xs μ => match xs with
  | [.int i, .int j] => some (.int (if j < i then j else i), μ)
  | _ => none
theorem s_min2 {K : Frg} : SN K (fun xs H Q => ∃ i j, xs = [.int i, .int j] ∧ Q (.int (if j < i then j else i)) H) f_min2 := by
  intro ι H μ xs v μ' hs Q S R h q
  unfold f_min2 at h
  split at h
  · cases h
    obtain ⟨y, t, rfl, r1, y2, t2, rfl, r2, rfl⟩ := R
    cases r1; cases r2
    exact ⟨_, _, rfl, q.pure S rfl⟩
  · cases h
def f_sum : Fn := fun xs μ => match xs with
  | [x] => ((rdL μ x).bind intsP).map fun ns => (.int ns.sum, μ)
  | _ => none
theorem s_sum {K : Frg} : SN K (rSum K) f_sum := by
  intro ι H μ xs v μ' hs Q S R h q
  unfold f_sum at h
  split at h
  · obtain ⟨ns, e1, e2⟩ := Option.map_eq_some_iff.mp h
    obtain ⟨ys, e3, e4⟩ := Option.bind_eq_some_iff.mp e1
    cases e2
    obtain ⟨y, t, rfl, r1, rfl⟩ := R
    obtain ⟨a, us, rfl, ta, ra⟩ := rdL_rep S r1 e3
    obtain ⟨rfl, _⟩ := intsP_rep e4 ra
    exact ⟨a, ns, rfl, .of ta, q.pure S rfl⟩
  · cases h
def maxI : List Int → Int
  | [] => 0
  | [i] => i
  | i :: j :: r => if maxI (j :: r) > i then maxI (j :: r) else i
theorem maxI_mem : ∀ {ns : List Int}, 0 < ns.length → maxI ns ∈ ns ∧ ∀ y ∈ ns, y ≤ maxI ns
  | [i], _ => ⟨List.mem_singleton.mpr rfl, fun y hy => by rw [List.mem_singleton.mp hy]; exact Int.le_refl _⟩
  | i :: j :: r, _ => by
    obtain ⟨h1, h2⟩ := maxI_mem (ns := j :: r) (by simp)
    unfold maxI
    split
    · exact ⟨List.mem_cons_of_mem _ h1, fun y hy => (List.mem_cons.mp hy).elim (fun e => by rw [e]; omega) (h2 y)⟩
    · exact ⟨List.mem_cons_self, fun y hy => (List.mem_cons.mp hy).elim (fun e => by rw [e]; omega) fun q => by have := h2 y q; omega⟩
def minI : List Int → Int
  | [] => 0
  | [i] => i
  | i :: j :: r => if minI (j :: r) < i then minI (j :: r) else i
theorem minI_mem : ∀ {ns : List Int}, 0 < ns.length → minI ns ∈ ns ∧ ∀ y ∈ ns, minI ns ≤ y
  | [i], _ => ⟨List.mem_singleton.mpr rfl, fun y hy => by rw [List.mem_singleton.mp hy]; exact Int.le_refl _⟩
  | i :: j :: r, _ => by
    obtain ⟨h1, h2⟩ := minI_mem (ns := j :: r) (by simp)
    unfold minI
    split
    · exact ⟨List.mem_cons_of_mem _ h1, fun y hy => (List.mem_cons.mp hy).elim (fun e => by rw [e]; omega) (h2 y)⟩
    · exact ⟨List.mem_cons_self, fun y hy => (List.mem_cons.mp hy).elim (fun e => by rw [e]; omega) fun q => by have := h2 y q; omega⟩
def f_max : Fn := fun xs μ => match xs with
  | [x] => ((rdL μ x).bind intsP).bind fun ns => if 0 < ns.length then some (.int (maxI ns), μ) else none
  | _ => none
theorem s_max {K : Frg} : SN K (rMax K) f_max := by
  intro ι H μ xs v μ' hs Q S R h q
  unfold f_max at h
  split at h
  · obtain ⟨ns, e1, e2⟩ := Option.bind_eq_some_iff.mp h
    obtain ⟨ys, e3, e4⟩ := Option.bind_eq_some_iff.mp e1
    split at e2
    · rename_i hl
      cases e2
      obtain ⟨y, t, rfl, r1, rfl⟩ := R
      obtain ⟨a, us, rfl, ta, ra⟩ := rdL_rep S r1 e3
      obtain ⟨rfl, _⟩ := intsP_rep e4 ra
      obtain ⟨h1, h2⟩ := maxI_mem hl
      refine ⟨a, ns, rfl, .of ta, hl, fun m m1 m2 => ?_⟩
      have : m = maxI ns := by have := h2 m m1; have := m2 _ h1; omega
      rw [this]
      exact q.pure S rfl
    · cases e2
  · cases h
def f_min : Fn := fun xs μ => match xs with
  | [x] => ((rdL μ x).bind intsP).bind fun ns => if 0 < ns.length then some (.int (minI ns), μ) else none
  | _ => none
theorem s_min {K : Frg} : SN K (rMin K) f_min := by
  intro ι H μ xs v μ' hs Q S R h q
  unfold f_min at h
  split at h
  · obtain ⟨ns, e1, e2⟩ := Option.bind_eq_some_iff.mp h
    obtain ⟨ys, e3, e4⟩ := Option.bind_eq_some_iff.mp e1
    split at e2
    · rename_i hl
      cases e2
      obtain ⟨y, t, rfl, r1, rfl⟩ := R
      obtain ⟨a, us, rfl, ta, ra⟩ := rdL_rep S r1 e3
      obtain ⟨rfl, _⟩ := intsP_rep e4 ra
      obtain ⟨h1, h2⟩ := minI_mem hl
      refine ⟨a, ns, rfl, .of ta, hl, fun m m1 m2 => ?_⟩
      have : m = minI ns := by have := h2 m m1; have := m2 _ h1; omega
      rw [this]
      exact q.pure S rfl
    · cases e2
  · cases h
def f_tuple : Fn := fun xs μ => match xs with
  | [.tup ys] => some (.tup ys, μ)
  | [x] => (rdL μ x).map fun ys => (.tup ys, μ)
  | _ => none
theorem s_tuple {K : Frg} : SN K (fun xs H Q => ∃ p ys, xs = [.ref p] ∧ ((SqL K H p ys ∧ ∀ l, H l = none → Q (.ref l) (upd H l (.tup ys))) ∨ (SqT K H p ys ∧ Q (.ref p) H))) f_tuple := by
  intro ι H μ xs v μ' hs Q S R h q
  unfold f_tuple at h
  split at h
  · cases h
    obtain ⟨y, t, rfl, ⟨a, us, rfl, ta, ra⟩, rfl⟩ := R
    exact ⟨a, us, rfl, .inr ⟨ta.sq, q.pure S ⟨a, us, rfl, ta, ra⟩⟩⟩
  · obtain ⟨ys, e1, e2⟩ := Option.map_eq_some_iff.mp h
    cases e2
    obtain ⟨y, t, rfl, r1, rfl⟩ := R
    obtain ⟨a, us, rfl, ta, ra⟩ := rdL_rep S r1 e1
    exact ⟨a, us, rfl, .inl ⟨.of ta, fun p hp => q.tup S ra hp⟩⟩
  · cases h
/-- a list that nobody changes; one that will be changed -/
def f_list : Fn := fun xs μ => match xs with
  | [x] => (rdS μ x).map fun ys => (.lst ys, μ)
  | _ => none
def f_listM : Fn := fun xs μ => match xs with
  | [x] => (rdS μ x).map fun ys => (.loc μ.length, μ ++ [.lst ys])
  | _ => none
theorem s_list {K : Frg} : SN K (fun xs H Q => ∃ p ys, xs = [.ref p] ∧ (SqL K H p ys ∨ SqT K H p ys) ∧ ∀ l, H l = none → Q (.ref l) (upd H l (.lst ys))) f_list := by
  intro ι H μ xs v μ' hs Q S R h q
  unfold f_list at h
  split at h
  · obtain ⟨ys, e1, e2⟩ := Option.map_eq_some_iff.mp h
    cases e2
    obtain ⟨y, t, rfl, r1, rfl⟩ := R
    obtain ⟨a, us, rfl, ta, ra⟩ := rdS_rep S r1 e1
    exact ⟨a, us, rfl, ta, fun p hp => q.lst S ra hp⟩
  · cases h
theorem s_listM {K : Frg} : SN K (fun xs H Q => ∃ p ys, xs = [.ref p] ∧ (SqL K H p ys ∨ SqT K H p ys) ∧ ∀ l, H l = none → Q (.ref l) (upd H l (.lst ys))) f_listM := by
  intro ι H μ xs v μ' hs Q S R h q
  unfold f_listM at h
  split at h
  · obtain ⟨ys, e1, e2⟩ := Option.map_eq_some_iff.mp h
    cases e2
    obtain ⟨y, t, rfl, r1, rfl⟩ := R
    obtain ⟨a, us, rfl, ta, ra⟩ := rdS_rep S r1 e1
    exact ⟨a, us, rfl, ta, fun p hp => q.loc S ra hp⟩
  · cases h
def blsP : List PV → Option (List Bool)
  | [] => some []
  | .bl b :: r => (blsP r).map (b :: ·)
  | _ :: _ => none
theorem blsP_map : ∀ ns : List Bool, blsP (ns.map PV.bl) = some ns
  | [] => rfl
  | i :: r => by rw [List.map_cons]; unfold blsP; rw [blsP_map r]; rfl
theorem blsP_rep {K : Frg} {ι : Ad} {n : Nat} {H : Hp} : ∀ {xs : List PV} {ys : List V} {ns : List Bool}, blsP xs = some ns → RepVs K ι n H xs ys → ys = ns.map V.bl
  | [], _, _, h, r => by cases h; cases r; rfl
  | .bl i :: xs, _, ns, h, r => by
    obtain ⟨y, t, rfl, r1, r2⟩ := r
    unfold blsP at h
    obtain ⟨ms, e, rfl⟩ := Option.map_eq_some_iff.mp h
    cases r1
    rw [blsP_rep e r2]; rfl
  | .non :: _, _, _, h, _ => by cases h
  | .int _ :: _, _, _, h, _ => by cases h
  | .str _ :: _, _, _, h, _ => by cases h
  | .tup _ :: _, _, _, h, _ => by cases h
  | .lst _ :: _, _, _, h, _ => by cases h
  | .loc _ :: _, _, _, h, _ => by cases h
  | .scr _ :: _, _, _, h, _ => by cases h
def f_all : Fn := fun xs μ => match xs with
  | [x] => ((rdL μ x).bind blsP).map fun ns => (.bl (ns.all id), μ)
  | _ => none
def f_any : Fn := fun xs μ => match xs with
  | [x] => ((rdL μ x).bind blsP).map fun ns => (.bl (ns.any id), μ)
  | _ => none
theorem s_all {K : Frg} : SN K (rAll K) f_all := by
  intro ι H μ xs v μ' hs Q S R h q
  unfold f_all at h
  split at h
  · obtain ⟨ns, e1, e2⟩ := Option.map_eq_some_iff.mp h
    obtain ⟨ys, e3, e4⟩ := Option.bind_eq_some_iff.mp e1
    cases e2
    obtain ⟨y, t, rfl, r1, rfl⟩ := R
    obtain ⟨a, us, rfl, ta, ra⟩ := rdL_rep S r1 e3
    have := blsP_rep e4 ra
    subst this
    exact ⟨a, ns, rfl, .of ta, q.pure S rfl⟩
  · cases h
theorem s_any {K : Frg} : SN K (rAny K) f_any := by
  intro ι H μ xs v μ' hs Q S R h q
  unfold f_any at h
  split at h
  · obtain ⟨ns, e1, e2⟩ := Option.map_eq_some_iff.mp h
    obtain ⟨ys, e3, e4⟩ := Option.bind_eq_some_iff.mp e1
    cases e2
    obtain ⟨y, t, rfl, r1, rfl⟩ := R
    obtain ⟨a, us, rfl, ta, ra⟩ := rdL_rep S r1 e3
    have := blsP_rep e4 ra
    subst this
    exact ⟨a, ns, rfl, .of ta, q.pure S rfl⟩
  · cases h
/-- repr(int), str(int) -/
def f_repr : Fn := fun xs μ => match xs with
  | [.int i] => if i.natAbs.log2 < 1920 then some (.str (toString i), μ) else none
  | _ => none
theorem s_repr {K : Frg} : SN K (fun xs H Q => ∃ i, xs = [.int i] ∧ i.natAbs.log2 < 1920 ∧ Q (.str (toString i)) H) f_repr := by
  intro ι H μ xs v μ' hs Q S R h q
  unfold f_repr at h
  split at h
  · split at h
    · cases h
      obtain ⟨y, t, rfl, r1, rfl⟩ := R
      cases r1
      exact ⟨_, rfl, by assumption, q.pure S rfl⟩
    · cases h
  · cases h

/-! ### isinstance -/
inductive Ty where
  | int | bool | str | tuple | list
def Ty.name : Ty → String
  | .int => "int" | .bool => "bool" | .str => "str" | .tuple => "tuple" | .list => "list"
def tyN (μ : Sto) : PV → Option String
  | .non => some "NoneType"
  | .bl _ => some "bool"
  | .int _ => some "int"
  | .str _ => some "str"
  | .tup _ => some "tuple"
  | .lst _ => some "list"
  | .loc l => match μ[l]? with
    | some (.lst _) => some "list"
    | some (.dic _ _) => some "dict"
    | none => none
  | .scr _ => none
def isT (T : Ty) (s : String) : Bool := match T with
  | .int => s == "int" || s == "bool"
  | t => s == t.name
theorem tyN_rep {K : Frg} {ι : Ad} {μ : Sto} {H : Hp} (S : RepS K ι H μ) {x : PV} {v : V} {s : String} (r : RepV K ι μ.length H x v) (h : tyN μ x = some s) : TyX K H v (.type s) ∧ s ∈ ["NoneType", "bool", "int", "str", "tuple", "list", "dict"] := by
  cases x with
  | non => cases r; cases h; exact ⟨.base .non, by decide⟩
  | bl b => cases r; cases h; exact ⟨.base (.bl b), by decide⟩
  | int i => cases r; cases h; exact ⟨.base (.int i), by decide⟩
  | str z => cases r; cases h; exact ⟨.base (.str z), by decide⟩
  | tup xs =>
    obtain ⟨a, ys, rfl, t, _⟩ := r
    cases h
    rcases t with ⟨t, _⟩ | ⟨o, its, n, hk, hc, _⟩
    · exact ⟨.base (.tup t), by decide⟩
    · exact ⟨.kTuple hk hc, by decide⟩
  | lst xs =>
    obtain ⟨a, ys, rfl, ⟨t, _⟩, _⟩ := r
    cases h
    exact ⟨.base (.lst t), by decide⟩
  | loc l =>
    obtain ⟨hl, rfl⟩ := r
    unfold tyN at h
    simp only at h
    split at h
    · rename_i xs e
      cases h
      obtain ⟨ys, t, _⟩ := S.obj _ _ e
      exact ⟨.base (.lst t), by decide⟩
    · rename_i b kvs e
      cases h
      cases b with
      | false => obtain ⟨ys, t, _⟩ := S.obj _ _ e; exact ⟨.base (.dK t), by decide⟩
      | true => obtain ⟨ys, t, _⟩ := S.obj _ _ e; exact ⟨.base (.dT t), by decide⟩
    · cases h
  | scr _ => cases h
theorem isT_kit : ∀ (T : Ty), ∀ s ∈ ["NoneType", "bool", "int", "str", "tuple", "list", "dict"], kitB s T.name = some (isT T s) := by
  intro T
  cases T <;> decide +kernel
def f_isi (T : Ty) : Op1 := fun x μ => (tyN μ x).map fun s => (.bl (isT T s), μ)
def f_isi2 (T U : Ty) : Op1 := fun x μ => (tyN μ x).map fun s => (.bl (isT T s || isT U s), μ)
section
variable {X : Cx} {a : Expr} {d : Den}
theorem e_isi (T : Ty) {y : Str} {p p2 pos : Pos} (ha : PE X a (tD X.K d)) (hm : X.mg "isinstance" = none) (hm2 : X.mg y = none) (hv2 : bootBuiltins y = some (.type T.name) := by decide +kernel) (hg : Gl X "isinstance" := by rfl) (hg2 : Gl X y := by rfl) (hn2 : y ≠ "__name__" := by decide) (hd2 : (y == ("__debug__" : Str)) = false := by decide)
    (hs : starEach [a, .Name y p2] X.env = (false, eval a X.env) :: starEach [.Name y p2] X.env := by rfl) (hpl : (backTo pos (starEach [.Name y p2] X.env)).any (·.1) = false := by rfl) : PE X (.Call (.Name "isinstance" p) [a, .Name y p2] [] pos) (tD X.K (d1 (f_isi T) d)) :=
  (pe_callB (r := rIsi X.K) call_isi hg hm (by decide +kernel) (pa_cons ha (pa_cons (pe_bltn (v := .ty T.name) hg2 hm2 hv2 rfl hn2 hd2) pa_nil) hs) (by decide) (by decide) hs hpl).weak fun σ H Q h => by
    obtain ⟨ι, ρ, μ, v, μ', E, S, e, q⟩ := h
    obtain ⟨⟨x, μ1⟩, e1, e2⟩ := Option.bind_eq_some_iff.mp e
    obtain ⟨s, e3, e4⟩ := Option.map_eq_some_iff.mp e2
    cases e4
    refine ⟨ι, ρ, μ, x, _, E, S, e1, fun hx ι1 H1 X1 R1 S1 => ?_⟩
    obtain ⟨t1, t2⟩ := tyN_rep S1 R1 e3
    exact ⟨hx, .ty T.name, .type s, .type T.name, _, rfl, .ty _, t1, kit_ty (isT_kit T s t2), q _ ι1 H1 X1 rfl S1⟩
theorem e_isi2 (T U : Ty) {y z : Str} {p p2 p3 pt pos : Pos} {k : Nat} (ha : PE X a (tD X.K d)) (hm : X.mg "isinstance" = none) (hm2 : X.mg y = none) (hm3 : X.mg z = none) (hv2 : bootBuiltins y = some (.type T.name) := by decide +kernel) (hv3 : bootBuiltins z = some (.type U.name) := by decide +kernel) (hg : Gl X "isinstance" := by rfl) (hg2 : Gl X y := by rfl) (hg3 : Gl X z := by rfl)
    (hn2 : y ≠ "__name__" := by decide) (hd2 : (y == ("__debug__" : Str)) = false := by decide) (hn3 : z ≠ "__name__" := by decide) (hd3 : (z == ("__debug__" : Str)) = false := by decide)
    (hs : starEach [a, .Tuple [.Name y p2, .Name z p3] k pt] X.env = (false, eval a X.env) :: starEach [.Tuple [.Name y p2, .Name z p3] k pt] X.env := by rfl) (hpl : (backTo pos (starEach [.Tuple [.Name y p2, .Name z p3] k pt] X.env)).any (·.1) = false := by rfl) :
    PE X (.Call (.Name "isinstance" p) [a, .Tuple [.Name y p2, .Name z p3] k pt] [] pos) (tD X.K (d1 (f_isi2 T U) d)) :=
  (pe_callB (r := rIsiT X.K) call_isiT hg hm (by decide +kernel) (pa_cons ha (pa_cons (pe_tup (pa_cons (pe_bltn (v := .ty T.name) hg2 hm2 hv2 rfl hn2 hd2) (pa_cons (pe_bltn (v := .ty U.name) hg3 hm3 hv3 rfl hn3 hd3) pa_nil))) pa_nil) hs) (by decide) (by decide) hs hpl).weak fun σ H Q h => by
    obtain ⟨ι, ρ, μ, v, μ', E, S, e, q⟩ := h
    obtain ⟨⟨x, μ1⟩, e1, e2⟩ := Option.bind_eq_some_iff.mp e
    obtain ⟨s, e3, e4⟩ := Option.map_eq_some_iff.mp e2
    cases e4
    refine ⟨ι, ρ, μ, x, _, E, S, e1, fun hx ι1 H1 X1 R1 S1 => ⟨by show 2 ≤ sizeLine; decide, fun p hp => ?_⟩⟩
    have X2 := Ext.new1 (o := .tup [.ty T.name, .ty U.name]) S1 hp
    have S2 := S1.new1 (o := .tup [.ty T.name, .ty U.name]) hp
    obtain ⟨t1, t2⟩ := tyN_rep S2 (R1.mono X2) e3
    refine ⟨hx, p, [.ty T.name, .ty U.name], .type s, [.type T.name, .type U.name], _, rfl, upd_same, .cons (.ty _) (.cons (.ty _) .nil), t1, ?_, q _ ι1 _ (X1.trans X2) rfl S2⟩
    refine kitAny_cons (b := isT T s) (kit_ty (isT_kit T s t2)) (fun h => ?_) fun h => by rw [h]; rfl
    refine kitAny_cons (b := isT U s) (kit_ty (isT_kit U s t2)) (fun h2 => by rw [h, h2]; exact kitAny_nil) fun h2 => by rw [h, h2]; rfl
end

/-! ### methods of lists -/
abbrev OpM := PV → List PV → Sto → Option (PV × Sto)
def dM (f : OpM) (d : Den) (r : DenA) : Den := fun ρ μ => (d ρ μ).bind fun p => (r ρ p.2).bind fun q => f p.1 q.1 q.2
def SM (K : Frg) (r : V → List V → Hp → VK → Prop) (f : OpM) : Prop := ∀ ι H μ x xs v μ' hx hs (Q : VK), RepS K ι H μ → RepV K ι μ.length H x hx → RepVs K ι μ.length H xs hs → f x xs μ = some (v, μ') → Aft K ι μ H v μ' Q → r hx hs H Q
/-- the receiver's type is known whatever the heap -/
def isLs (μ : Sto) : PV → Bool
  | .lst _ => true
  | .loc l => match μ[l]? with
    | some (.lst _) => true
    | _ => false
  | _ => false
def dML (f : OpM) (d : Den) (r : DenA) : Den := fun ρ μ => (d ρ μ).bind fun p => if isLs p.2 p.1 = true then (r ρ p.2).bind fun q => f p.1 q.1 q.2 else none
theorem isLs_rep {K : Frg} {ι : Ad} {μ : Sto} {H : Hp} (S : RepS K ι H μ) {x : PV} {v : V} (r : RepV K ι μ.length H x v) (h : isLs μ x = true) : tyV K "list" v H := by
  unfold isLs at h
  split at h
  · obtain ⟨a, ys, rfl, ⟨t, _⟩, _⟩ := r
    exact .inl ⟨rfl, ys, .of t⟩
  · obtain ⟨hl, rfl⟩ := r
    split at h
    · rename_i xs e
      obtain ⟨ys, t, _⟩ := S.obj _ _ e
      exact .inl ⟨rfl, ys, .of t⟩
    · cases h
  · cases h
section
variable {X : Cx} {o e : Expr} {es : List Expr} {d : Den} {r : DenA} {name : Str} {apos cpos : Pos} {id : String} {rr : V → List V → Hp → VK → Prop} {f : OpM}
theorem e_bm (pa : PlainAttrs "list") (slot : Slot "list" name id) (hty : typeOf (.builtin id) = pure (.type "method_descriptor")) (hm : MtR X id rr) (hr : SM X.K rr f) (ho : PE X o (tD X.K d)) (ha : PA X (e :: es) (tA X.K r))
    (hbase : attributeBase o name X.env (eval o X.env) = eval o X.env := by rfl)
    (hfew : ((backTo cpos (starEach (e :: es) X.env)).all (fun x => !x.1) && (backToKw cpos (keywordEach [] X.env)).all (fun x => x.1.isSome)
      && decide ((e :: es).length + ([] : List Keyword).length + (if ([] : List Keyword).isEmpty then 0 else 1) < 30)) = true := by rfl)
    (hline : (apos.endLine == cpos.line) = true := by rfl) (hs : starEach (e :: es) X.env = (false, eval e X.env) :: starEach es X.env := by rfl) (hplain : (backTo cpos (starEach es X.env)).any (·.1) = false := by rfl) :
    PE X (.Call (.Attribute o name apos) (e :: es) [] cpos) (tD X.K (dML f d r)) :=
  (pe_bm pa slot hty hm ho ha hbase hfew hline hs hplain).weak fun σ H Q h => by
    obtain ⟨ι, ρ, μ, v, μ', E, S, e, q⟩ := h
    obtain ⟨⟨x, μ1⟩, e1, e2⟩ := Option.bind_eq_some_iff.mp e
    split at e2
    · rename_i hL
      obtain ⟨⟨vs, μ2⟩, e3, e4⟩ := Option.bind_eq_some_iff.mp e2
      exact ⟨ι, ρ, μ, x, μ1, E, S, e1, fun hx ι1 H1 X1 R1 S1 => ⟨isLs_rep S1 R1 hL, ι1, ρ, μ1, vs, μ2, E.mono X1, S1, e3, fun hs ι2 H2 X2 R2 S2 =>
        hr ι2 H2 μ2 x vs v μ' hx hs Q S2 (R1.mono X2) R2 e4 (q.mono (X1.trans X2))⟩⟩
    · cases e2
theorem e_bm0 (pa : PlainAttrs "list") (slot : Slot "list" name id) (hty : typeOf (.builtin id) = pure (.type "method_descriptor")) (hm : MtR X id rr) (hr : SM X.K rr f) (ho : PE X o (tD X.K d))
    (hbase : attributeBase o name X.env (eval o X.env) = eval o X.env := by rfl) (hline : (apos.endLine == cpos.line) = true := by rfl) :
    PE X (.Call (.Attribute o name apos) [] [] cpos) (tD X.K (dML f d aNil)) :=
  (pe_bm0 pa slot hty hm ho hbase hline).weak fun σ H Q h => by
    obtain ⟨ι, ρ, μ, v, μ', E, S, e, q⟩ := h
    obtain ⟨⟨x, μ1⟩, e1, e2⟩ := Option.bind_eq_some_iff.mp e
    split at e2
    · rename_i hL
      obtain ⟨⟨vs, μ2⟩, e3, e4⟩ := Option.bind_eq_some_iff.mp e2
      cases e3
      exact ⟨ι, ρ, μ, x, μ1, E, S, e1, fun hx ι1 H1 X1 R1 S1 => ⟨isLs_rep S1 R1 hL, hr ι1 H1 μ1 x [] v μ' hx [] Q S1 R1 rfl e4 (q.mono X1)⟩⟩
    · cases e2
end
def f_app : OpM := fun x xs μ => match x, xs with
  | .loc l, [y] => match μ[l]? with
    | some (.lst zs) => if zs.length < sizeLine then some (.non, μ.set l (.lst (zs ++ [y]))) else none
    | _ => none
  | _, _ => none
theorem Aft.put {K : Frg} {ι : Ad} {μ : Sto} {H : Hp} {v : PV} {hv : V} {l : Nat} {xs' : List PV} {ys' : List V} {Q : VK} (S : RepS K ι H μ) (hl : l < μ.length) (q : Aft K ι μ H v (μ.set l (.lst xs')) Q) (r : RepVs K ι μ.length H xs' ys') (rv : RepV K ι μ.length H v hv) :
    Q hv (upd H (ι l) (.lst ys')) := by
  have X := Ext.put (o := .lst ys') S hl
  have hn : (μ.set l (.lst xs')).length = μ.length := List.length_set
  exact q hv ι _ (by rw [hn]; exact X) (by rw [hn]; exact rv.mono X) (S.put hl ⟨_, upd_same, RepVs.mono X r⟩)
theorem s_app {K : Frg} : SM K rAppend f_app := by
  intro ι H μ x xs v μ' hx hs Q S R Rs h q
  unfold f_app at h
  split at h
  · split at h
    · rename_i l y zs e
      split at h
      · rename_i hz
        cases h
        obtain ⟨hl, rfl⟩ := R
        obtain ⟨y', t, rfl, r1, rfl⟩ := Rs
        obtain ⟨us, tu, ru⟩ := S.obj _ _ e
        exact ⟨_, us, y', rfl, rfl, tu, by rw [← ru.length]; exact hz, q.put S hl (ru.append (.one r1)) rfl⟩
      · cases h
    · cases h
  · cases h
def f_ext : OpM := fun x xs μ => match x, xs with
  | .loc l, [y] => match μ[l]?, rdL μ y with
    | some (.lst zs), some ws => if zs.length + ws.length ≤ sizeLine then some (.non, μ.set l (.lst (zs ++ ws))) else none
    | _, _ => none
  | _, _ => none
theorem s_ext {K : Frg} : SM K rExtend f_ext := by
  intro ι H μ x xs v μ' hx hs Q S R Rs h q
  unfold f_ext at h
  split at h
  · split at h
    · rename_i l y zs ws e1 e2
      split at h
      · rename_i hz
        cases h
        obtain ⟨hl, rfl⟩ := R
        obtain ⟨y', t, rfl, r1, rfl⟩ := Rs
        obtain ⟨us, tu, ru⟩ := S.obj _ _ e1
        obtain ⟨b, us2, rfl, tb, rb⟩ := rdL_rep S r1 e2
        exact ⟨_, b, us, us2, rfl, rfl, tu, tb, by rw [← ru.length, ← rb.length]; exact hz, q.put S hl (ru.append rb) rfl⟩
      · cases h
    · cases h
  · cases h
def f_pop : OpM := fun x xs μ => match x, xs with
  | .loc l, [] => match μ[l]? with
    | some (.lst zs) => (zs[zs.length - 1]?).map fun y => (y, μ.set l (.lst zs.dropLast))
    | _ => none
  | _, _ => none
theorem s_pop {K : Frg} : SM K rPop f_pop := by
  intro ι H μ x xs v μ' hx hs Q S R Rs h q
  unfold f_pop at h
  split at h
  · split at h
    · rename_i l zs e
      obtain ⟨y, e1, e2⟩ := Option.map_eq_some_iff.mp h
      cases e2
      obtain ⟨hl, rfl⟩ := R
      cases Rs
      obtain ⟨us, tu, ru⟩ := S.obj _ _ e
      obtain ⟨y', h1, h2⟩ := ru.get e1
      exact ⟨_, us, y', rfl, rfl, tu, by rw [← ru.length]; exact h1, q.put S hl ru.dropLast h2⟩
    · cases h
  · cases h
end Fd

/-! Fd7: chained comparisons, reversed slices, in, two-part targets. -/
namespace Fd
open PySem PySem.Spec PyProof.Rows L2

/-! ### a < b < c -/
def dCh2 (f g : Op2) (da db dc : Den) : Den := fun ρ μ => (da ρ μ).bind fun p => (db ρ p.2).bind fun q => (asB (f p.1 q.1 q.2)).bind fun r => if r.1 = true then (dc ρ r.2).bind fun s => g q.1 s.1 s.2 else some (.bl false, r.2)
def dCh3 (f g h : Op2) (da db dc dd : Den) : Den := fun ρ μ => (da ρ μ).bind fun p => (db ρ p.2).bind fun q => (asB (f p.1 q.1 q.2)).bind fun r => if r.1 = true then (dc ρ r.2).bind fun s => (asB (g q.1 s.1 s.2)).bind fun t => if t.1 = true then (dd ρ t.2).bind fun u => h s.1 u.1 u.2 else some (.bl false, t.2)
  else some (.bl false, r.2)
theorem asB_some {o : Option (PV × Sto)} {b : Bool} {μ : Sto} (h : asB o = some (b, μ)) : o = some (.bl b, μ) := by
  unfold asB at h
  split at h
  · cases h; rfl
  · cases h
def tChain3 (r r' r'' : R2) (ta tb tc td : TE) : TE := fun σ H Q => ta σ H fun x H1 => tb σ H1 fun y H2 => r x y H2 fun z H3 => ∃ k, z = .bl k ∧
  (if k = true then tc σ H3 fun w' H4 => r' y w' H4 fun z2 H5 => ∃ k2, z2 = .bl k2 ∧ (if k2 = true then td σ H5 fun w2 H6 => r'' w' w2 H6 Q else Q (.bl false) H5) else Q (.bl false) H3)
section
variable {X : Cx} {a b c d : Expr} {ta tb tc td : TE} {pos : Pos}
theorem pe_chain3 {op op' op'' : CmpOp} {r r' r'' : R2} (ho : OpR X (compareOp op) r) (ho' : OpR X (compareOp op') r') (ho'' : OpR X (compareOp op'') r'') (ha : PE X a ta) (hb : PE X b tb) (hc : PE X c tc) (hd : PE X d td)
    (hm : lastMarks [op, op', op''] [b, c, d] = false := by with_unfolding_all rfl) : PE X (.Compare a [op, op', op''] [b, c, d] pos) (tChain3 r r' r'' ta tb tc td) := by
  refine ⟨fun pins s σ H Q I h => ?_⟩
  refine Compare_chain (thn (ha.run pins s σ H _ I h) fun v s1 ⟨x, H1, I1, r1, q1⟩ => chain_link (thn (hb.run pins s1 σ H1 _ I1 q1) fun u s2 ⟨y, H2, I2, r2, q2⟩ =>
    thn (ho pins s2 σ H2 x y v u _ I2 r1 r2 q2) fun d s3 ⟨z, H3, I3, r3, k, e, q3⟩ => ?_)) hm
  subst e
  cases r3
  refine wpAny_truthy_bool ?_
  cases k with
  | false => exact ite_ff ⟨.bl false, H3, I3, rfl, q3⟩
  | true =>
    refine ite_tt (chain_link (thn (hc.run pins s3 σ H3 _ I3 q3) fun w' s4 ⟨z', H4, I4, r4, q4⟩ => thn (ho' pins s4 σ H4 y z' u w' _ I4 r2 r4 q4) fun d' s5 ⟨z2, H5, I5, r5, k2, e2, q5⟩ => ?_))
    subst e2
    cases r5
    refine wpAny_truthy_bool ?_
    cases k2 with
    | false => exact ite_ff ⟨.bl false, H5, I5, rfl, q5⟩
    | true => exact ite_tt (chain_last (thn (hd.run pins s5 σ H5 _ I5 q5) fun w2 s6 ⟨z3, H6, I6, r6, q6⟩ => ho'' pins s6 σ H6 z' z3 w' w2 Q I6 r4 r6 q6))
theorem pt_chain3 {op op' op'' : CmpOp} {r r' r'' : R2} (ho : OpR X (compareOp op) r) (ho' : OpR X (compareOp op') r') (ho'' : OpR X (compareOp op'') r'') (ha : PE X a ta) (hb : PE X b tb) (hc : PE X c tc) (hd : PE X d td)
    (hm : lastMarks [op, op', op''] [b, c, d] = false := by with_unfolding_all rfl) : PT X (.Compare a [op, op', op''] [b, c, d] pos) (tTest (tChain3 r r' r'' ta tb tc td)) := by
  refine ⟨fun pins s σ H Q I h => ?_⟩
  refine isTrue_chain (thn (ha.run pins s σ H _ I h) fun v s1 ⟨x, H1, I1, r1, q1⟩ => test_link (thn (hb.run pins s1 σ H1 _ I1 q1) fun u s2 ⟨y, H2, I2, r2, q2⟩ =>
    thn (ho pins s2 σ H2 x y v u _ I2 r1 r2 q2) fun d s3 ⟨z, H3, I3, r3, k, e, q3⟩ => ?_)) hm
  subst e
  cases r3
  refine wpAny_truthy_bool ?_
  cases k with
  | false =>
    obtain ⟨k', e', q'⟩ := q3
    cases e'
    exact ite_ff ⟨H3, I3, q'⟩
  | true =>
    refine ite_tt (test_link (thn (hc.run pins s3 σ H3 _ I3 q3) fun w' s4 ⟨z', H4, I4, r4, q4⟩ => thn (ho' pins s4 σ H4 y z' u w' _ I4 r2 r4 q4) fun d' s5 ⟨z2, H5, I5, r5, k2, e2, q5⟩ => ?_))
    subst e2
    cases r5
    refine wpAny_truthy_bool ?_
    cases k2 with
    | false =>
      obtain ⟨k', e', q'⟩ := q5
      cases e'
      exact ite_ff ⟨H5, I5, q'⟩
    | true =>
      refine ite_tt (test_last (thn (hd.run pins s5 σ H5 _ I5 q5) fun w2 s6 ⟨z3, H6, I6, r6, q6⟩ => thn (ho'' pins s6 σ H6 z' z3 w' w2 _ I6 r4 r6 q6) fun d'' s7 ⟨z4, H7, I7, r7, k3, e3, q7⟩ => ?_))
      subst e3
      cases r7
      exact wpAny_truthy_bool ⟨H7, I7, q7⟩
end
section
variable {K : Frg} {σ : L2.St} {H : Hp} {Q : VK} {f g h : Op2} {r r' r'' : R2} {da db dc dd : Den}
theorem t_ch2 (hf : S2 K r f) (hg : S2 K r' g) (w : tD K (dCh2 f g da db dc) σ H Q) : tChain r r' (tD K da) (tD K db) (tD K dc) σ H Q := by
  obtain ⟨ι, ρ, μ, v, μ', E, S, e, q⟩ := w
  obtain ⟨⟨x, μ1⟩, e1, e⟩ := Option.bind_eq_some_iff.mp e
  obtain ⟨⟨y, μ2⟩, e2, e⟩ := Option.bind_eq_some_iff.mp e
  obtain ⟨⟨k, μ3⟩, e3, e⟩ := Option.bind_eq_some_iff.mp e
  refine ⟨ι, ρ, μ, x, μ1, E, S, e1, fun hx ι1 H1 X1 R1 S1 => ⟨ι1, ρ, μ1, y, μ2, E.mono X1, S1, e2, fun hy ι2 H2 X2 R2 S2 => ?_⟩⟩
  refine hf ι2 H2 μ2 x y (.bl k) μ3 hx hy _ S2 (R1.mono X2) R2 (asB_some e3) fun hz ι3 H3 X3 R3 S3 => ⟨k, R3, ?_⟩
  have e : (if k = true then _ else _) = some (v, μ') := e
  cases k with
  | false => cases e; exact q _ ι3 H3 (X1.trans (X2.trans X3)) rfl S3
  | true =>
    obtain ⟨⟨z, μ4⟩, e4, e⟩ := Option.bind_eq_some_iff.mp e
    exact ⟨ι3, ρ, μ3, z, μ4, E.mono (X1.trans (X2.trans X3)), S3, e4, fun hw ι4 H4 X4 R4 S4 => hg ι4 H4 μ4 y z v μ' hy hw Q S4 (R2.mono (X3.trans X4)) R4 e (q.mono (X1.trans (X2.trans (X3.trans X4))))⟩
theorem t_ch3 (hf : S2 K r f) (hg : S2 K r' g) (hh : S2 K r'' h) (w : tD K (dCh3 f g h da db dc dd) σ H Q) : tChain3 r r' r'' (tD K da) (tD K db) (tD K dc) (tD K dd) σ H Q := by
  obtain ⟨ι, ρ, μ, v, μ', E, S, e, q⟩ := w
  obtain ⟨⟨x, μ1⟩, e1, e⟩ := Option.bind_eq_some_iff.mp e
  obtain ⟨⟨y, μ2⟩, e2, e⟩ := Option.bind_eq_some_iff.mp e
  obtain ⟨⟨k, μ3⟩, e3, e⟩ := Option.bind_eq_some_iff.mp e
  refine ⟨ι, ρ, μ, x, μ1, E, S, e1, fun hx ι1 H1 X1 R1 S1 => ⟨ι1, ρ, μ1, y, μ2, E.mono X1, S1, e2, fun hy ι2 H2 X2 R2 S2 => ?_⟩⟩
  refine hf ι2 H2 μ2 x y (.bl k) μ3 hx hy _ S2 (R1.mono X2) R2 (asB_some e3) fun hz ι3 H3 X3 R3 S3 => ⟨k, R3, ?_⟩
  have e : (if k = true then _ else _) = some (v, μ') := e
  have X13 := X1.trans (X2.trans X3)
  cases k with
  | false => cases e; exact q _ ι3 H3 X13 rfl S3
  | true =>
    obtain ⟨⟨z, μ4⟩, e4, e⟩ := Option.bind_eq_some_iff.mp e
    obtain ⟨⟨k2, μ5⟩, e5, e⟩ := Option.bind_eq_some_iff.mp e
    refine ⟨ι3, ρ, μ3, z, μ4, E.mono X13, S3, e4, fun hw ι4 H4 X4 R4 S4 => hg ι4 H4 μ4 y z (.bl k2) μ5 hy hw _ S4 (R2.mono (X3.trans X4)) R4 (asB_some e5) fun hz2 ι5 H5 X5 R5 S5 => ⟨k2, R5, ?_⟩⟩
    have e : (if k2 = true then _ else _) = some (v, μ') := e
    have X15 := X13.trans (X4.trans X5)
    cases k2 with
    | false => cases e; exact q _ ι5 H5 X15 rfl S5
    | true =>
      obtain ⟨⟨u, μ6⟩, e6, e⟩ := Option.bind_eq_some_iff.mp e
      exact ⟨ι5, ρ, μ5, u, μ6, E.mono X15, S5, e6, fun hu ι6 H6 X6 R6 S6 => hh ι6 H6 μ6 z u v μ' hw hu Q S6 (R4.mono (X5.trans X6)) R6 e (q.mono (X15.trans X6))⟩
end
section
variable {X : Cx} {a b c d : Expr} {da db dc dd : Den} {pos : Pos} {op op' op'' : CmpOp} {r r' r'' : R2} {f g h : Op2}
theorem e_ch2 (ho : OpR X (compareOp op) r) (hf : S2 X.K r f) (ho' : OpR X (compareOp op') r') (hg : S2 X.K r' g) (ha : PE X a (tD X.K da)) (hb : PE X b (tD X.K db)) (hc : PE X c (tD X.K dc)) (hm : lastMarks [op, op'] [b, c] = false := by with_unfolding_all rfl) :
    PE X (.Compare a [op, op'] [b, c] pos) (tD X.K (dCh2 f g da db dc)) := (pe_chain ho ho' ha hb hc hm).weak fun _ _ _ w => t_ch2 hf hg w
theorem x_ch2 (ho : OpR X (compareOp op) r) (hf : S2 X.K r f) (ho' : OpR X (compareOp op') r') (hg : S2 X.K r' g) (ha : PE X a (tD X.K da)) (hb : PE X b (tD X.K db)) (hc : PE X c (tD X.K dc)) (hm : lastMarks [op, op'] [b, c] = false := by with_unfolding_all rfl) :
    PT X (.Compare a [op, op'] [b, c] pos) (tT X.K (tB1 (dCh2 f g da db dc))) := (pt_chain ho ho' ha hb hc hm).weak fun _ _ _ w => t_ch2 hf hg (t_b _ _ _ w)
theorem e_ch3 (ho : OpR X (compareOp op) r) (hf : S2 X.K r f) (ho' : OpR X (compareOp op') r') (hg : S2 X.K r' g) (ho'' : OpR X (compareOp op'') r'') (hh : S2 X.K r'' h) (ha : PE X a (tD X.K da)) (hb : PE X b (tD X.K db)) (hc : PE X c (tD X.K dc)) (hd : PE X d (tD X.K dd))
    (hm : lastMarks [op, op', op''] [b, c, d] = false := by with_unfolding_all rfl) : PE X (.Compare a [op, op', op''] [b, c, d] pos) (tD X.K (dCh3 f g h da db dc dd)) := (pe_chain3 ho ho' ho'' ha hb hc hd hm).weak fun _ _ _ w => t_ch3 hf hg hh w
theorem x_ch3 (ho : OpR X (compareOp op) r) (hf : S2 X.K r f) (ho' : OpR X (compareOp op') r') (hg : S2 X.K r' g) (ho'' : OpR X (compareOp op'') r'') (hh : S2 X.K r'' h) (ha : PE X a (tD X.K da)) (hb : PE X b (tD X.K db)) (hc : PE X c (tD X.K dc)) (hd : PE X d (tD X.K dd))
    (hm : lastMarks [op, op', op''] [b, c, d] = false := by with_unfolding_all rfl) : PT X (.Compare a [op, op', op''] [b, c, d] pos) (tT X.K (tB1 (dCh3 f g h da db dc dd))) := (pt_chain3 ho ho' ho'' ha hb hc hd hm).weak fun _ _ _ w => t_ch3 hf hg hh (t_b _ _ _ w)
end

/-! ### x[::-1] -/
section
variable {prog : Program} {w : World} {A : Around} {E : Value → Shared → Prop} {s : Shared}
theorem sliceApplied_rev {sl : Addr} {vl vu vs : Value} {n : Nat} {Q : Int × Int × Nat → Shared → Prop} (hs : s.heap.IsSliceOf sl vl vu vs) (pl : IsPart vl none) (pu : IsPart vu none) (ps : IsPart vs (some (-1)))
    (h : Q ((n : Int) - 1, -1, n) s) : wpAny (model prog w) A (Builtin.Slice.sliceApplied (.ref sl) (pure (n : Int))) Q E s := by
  obtain ⟨os, hos, hcs, hds⟩ := id hs
  unfold Builtin.Slice.sliceApplied Builtin.Slice.sliceFields
  refine wpAny_bind (wpAny_bind (wpAny_field hos hds (x := vl) rfl (wpAny_bind (wpAny_field hos hds (x := vu) rfl (wpAny_bind (wpAny_field hos hds (x := vs) rfl (wpAny_pure ?_)))))))
  refine wpAny_bind (HT.slicePart_ ps ?_)
  show wpAny _ _ (if ((-1 : Int) == 0) = true then _ else _) _ _ s
  rw [if_neg (by decide)]
  refine wpAny_bind (HT.slicePart_ pl (wpAny_bind (HT.slicePart_ pu (wpAny_bind (wpAny_pure ?_)))))
  show wpAny _ _ (match Builtin.Slice.sliceAdjust none none (-1) (n : Int) with | (lo, hi) => pure (lo, (-1 : Int), Builtin.Slice.slicePlaces lo hi (-1))) _ _ s
  have e1 : Builtin.Slice.sliceAdjust none none (-1) (n : Int) = ((n : Int) - 1, -1) := rfl
  rw [e1]
  show wpAny _ _ (pure ((n : Int) - 1, (-1 : Int), Builtin.Slice.slicePlaces ((n : Int) - 1) (-1) (-1))) _ _ s
  have e2 : Builtin.Slice.slicePlaces ((n : Int) - 1) (-1) (-1) = n := by
    unfold Builtin.Slice.slicePlaces
    rw [if_neg (by decide)]
    split
    · show (((n : Int) - 1 - -1 - 1) / 1 + 1).toNat = n
      rw [Int.ediv_one]
      omega
    · show (0 : Int).toNat = n
      omega
  rw [e2]
  exact wpAny_pure h
theorem pick_rev (xs : Array Value) : ((List.range xs.size).filterMap fun (m : Nat) => xs[((xs.size : Int) - 1 + (m : Int) * -1).toNat]?).toArray = xs.toList.reverse.toArray := by
  congr 1
  have key : ∀ k, k ≤ xs.size → (List.range k).filterMap (fun (m : Nat) => xs[((xs.size : Int) - 1 + (m : Int) * -1).toNat]?) = (xs.toList.reverse).take k := by
    intro k
    induction k with
    | zero => intro _; simp
    | succ k ih =>
      intro hk
      rw [List.range_succ, List.filterMap_append, ih (by omega), List.take_add_one]
      congr 1
      have h1 : ((xs.size : Int) - 1 + (k : Int) * -1).toNat = xs.size - 1 - k := by omega
      have h2 : xs.toList.reverse[k]? = xs.toList[xs.toList.length - 1 - k]? := List.getElem?_reverse (by simp; omega)
      rw [List.filterMap_cons, h1, List.filterMap_nil, h2]
      have h3 : xs.size - 1 - k < xs.size := by omega
      simp [h3]
  rw [key _ (Nat.le_refl _), List.take_of_length_le (by simp)]
theorem getItem_tuple_rev {t sl : Addr} {items : Array Value} {vl vu vs : Value} {Q : Value → Shared → Prop} (ht : IsTup s.heap t items) (hs : s.heap.IsSliceOf sl vl vu vs) (pl : IsPart vl none) (pu : IsPart vu none) (ps : IsPart vs (some (-1)))
    (h : Q (.ref s.heap.objs.size) { s with heap := s.heap.push { cls := .type "tuple", data := .seq items.toList.reverse.toArray } })
    (hsz : items.size ≤ sizeLine) : wpAny (model prog w) A (getItem (.ref t) (.ref sl)) Q E s := by
  have htake : sizeOk (.seq items.toList.reverse.toArray) := by
    show items.toList.reverse.toArray.size ≤ sizeLine
    rw [List.size_toArray, List.length_reverse, Array.length_toList]
    exact hsz
  obtain ⟨os, hos, hcs, hds⟩ := id hs
  have hTs : s.TypeIs (.ref sl) "slice" := ⟨os, hos, hcs⟩
  unfold getItem
  try with_reducible refine wpAny_holding ?_
  first | refine wpAny_bind (wpAny_pure ?_) | skip
  refine wpAny_bind (wpAny_sequenceKey ht.typeIs (by decide) ?_)
  refine wpAny_bind (wpAny_callSpecial?_slot (name := Str.ofString "__getitem__") ht.typeIs PyProof.Rows.slot_tuple_getitem
    (wpAny_call_entry PyProof.Rows.slot_tuple_getitem ht.typeIs entry_tuple_getitem ?_ (args_tuple_getitem _ _)))
  show wpAny _ _ (Builtin.Tuple.tupleItemsOf (.ref t) >>= _) _ _ s
  refine wpAny_bind (tupleItemsOf_ ht ?_)
  refine wpAny_bind (wpAny_typeOf hTs ?_)
  rw [if_pos (by decide)]
  refine wpAny_bind (sliceApplied_rev hs pl pu ps ?_)
  have hno : ¬ ((((items.size : Int) - 1) == 0 && (-1 : Int) == 1 && items.size == items.size) = true) := by
    intro q
    rw [Bool.and_eq_true, Bool.and_eq_true] at q
    exact absurd q.1.2 (by decide)
  show wpAny _ _ (if (((items.size : Int) - 1) == 0 && (-1 : Int) == 1 && items.size == items.size) = true then _ else _) _ _ s
  rw [if_neg hno, pick_rev]
  first
    | exact wpAny_bind (m := Builtin.Tuple.tupleExact _) (wpAny_newObj_type (wpAny_pure ⟨_, rfl, wpAny_pure h⟩) htake)
    | exact wpAny_bind (m := Builtin.Tuple.tupleExact _) (wpAny_newObj_type (wpAny_bind (wpAny_pure (wpAny_pure ⟨_, rfl, wpAny_pure h⟩))) htake)
    | exact wpAny_bind (wpAny_bind (m := Builtin.Tuple.tupleExact _) (wpAny_newObj_type (wpAny_pure (wpAny_pure ⟨_, rfl, wpAny_pure h⟩)) htake))
    | exact wpAny_bind (wpAny_bind (m := Builtin.Tuple.tupleExact _) (wpAny_newObj_type (wpAny_pure ⟨_, rfl, wpAny_pure h⟩) htake))
end
/-- x[::step], the step -1: a tuple or a list -/
def tRevA (K : Frg) (te ts : TE) : TE := fun σ H Q => te σ H fun x H1 => ts σ H1 fun z H2 => ∃ i, z = .int i ∧ some i = some (-1 : Int) ∧ ∃ a xs, x = .ref a ∧ ((SqT K H2 a xs ∧ ∀ p, H2 p = none → Q (.ref p) (upd H2 p (.tup xs.reverse))) ∨ (SqL K H2 a xs ∧ ∀ p, H2 p = none → Q (.ref p) (upd H2 p (.lst xs.reverse))))
theorem pe_revA {X : Cx} {e st : Expr} {te ts : TE} {p3 pos : Pos} (he : PE X e te) (hst : PE X st ts) : PE X (.Subscript e (.Slice none none (some st) p3) pos) (tRevA X.K te ts) := by
  refine ⟨fun pins s σ H Q I h => ?_⟩
  refine Subscript_ (thn (he.run pins s σ H _ I h) fun v s1 ⟨x, H1, I1, r1, q1⟩ => ?_)
  refine wpAny_Slice (thn (po_none.run pins s1 σ H1 (fun o H2 => o = none ∧ H2 = H1) I1 ⟨rfl, rfl⟩) fun vl s2 ⟨l, H2, I2, pl, el, e2⟩ => ?_)
  subst el e2
  refine thn (po_none.run pins s2 σ H2 (fun o H3 => o = none ∧ H3 = H2) I2 ⟨rfl, rfl⟩) fun vu s3 ⟨u, H3, I3, pu, eu, e3⟩ => ?_
  subst eu e3
  have hst' : PO X (some st) (tPart ts) := po_some hst
  refine thn (hst'.run pins s3 σ H3 (fun o H4 => o = some (-1) ∧ ∃ a xs, x = .ref a ∧ ((SqT X.K H4 a xs ∧ ∀ p, H4 p = none → Q (.ref p) (upd H4 p (.tup xs.reverse))) ∨ (SqL X.K H4 a xs ∧ ∀ p, H4 p = none → Q (.ref p) (upd H4 p (.lst xs.reverse))))) I3 ?_) fun vs s4 ⟨o, H4, I4, ps, eo, q4⟩ => ?_
  · exact q1
  subst eo
  have I5 : Inv X pins σ H4 { s4 with heap := s4.heap.push { cls := .type "slice", data := .fields #[vl, vu, vs] } } := I4.kept (t' := s4.toks) fun b ob q => Heap.get?_push_of_some _ q
  obtain ⟨a, xs, ex, hx⟩ := q4
  subst ex
  cases r1
  rcases hx with ⟨hx, q⟩ | ⟨hx, q⟩
  · obtain ⟨its, r, ht, hz⟩ := I5.tuple hx
    have hlen := r.length
    show wpAny (model X.prog X.w) X.A (subscriptTail e (.Slice none none (some st) p3) (.ref a) (.ref s4.heap.objs.size)) (EP X pins σ Q) X.xe { s4 with heap := s4.heap.push { cls := .type "slice", data := .fields #[vl, vu, vs] } }
    refine tail_any (ops := [.ref a, .ref s4.heap.objs.size]) ht.typeIs (PyProof.Rows.slot_tuple_getitem.lookup) ?_ (by with_unfolding_all rfl)
    refine getItem_tuple_rev ht (Heap.IsSliceOf.new _ vl vu vs) pl pu ps ?_ (by rw [List.size_toArray]; omega)
    refine ⟨.ref _, _, I5.laid (t' := s4.toks) (o := .tup xs.reverse) (fun b ob q => Heap.get?_push_of_some _ q) (Nat.le_refl _) ?_, rfl, q _ (I5.hok.fresh (Nat.le_refl _))⟩
    exact ⟨by rw [List.length_reverse]; exact hz, its.reverse, r.reverse, IsTup.new _ _⟩
  · obtain ⟨its, r, ht, hz⟩ := I5.list hx
    have hlen := r.length
    show wpAny (model X.prog X.w) X.A (subscriptTail e (.Slice none none (some st) p3) (.ref a) (.ref s4.heap.objs.size)) (EP X pins σ Q) X.xe { s4 with heap := s4.heap.push { cls := .type "slice", data := .fields #[vl, vu, vs] } }
    refine tail_any (ops := [.ref a, .ref s4.heap.objs.size]) ht.isList.typeIs (PySem.slot_list_getitem.lookup) ?_ (by with_unfolding_all rfl)
    refine wpAny_getItem_list_slice ht.isList (Heap.IsSliceOf.new _ vl vu vs) pl pu ps (by decide) ?_ (by rw [List.size_toArray]; omega)
    rw [PySem.W.krv_pick]
    refine ⟨.ref _, _, I5.laid (t' := s4.toks) (o := .lst xs.reverse) (fun b ob q => Heap.get?_push_of_some _ q) (Nat.le_refl _) ?_, rfl, q _ (I5.hok.fresh (Nat.le_refl _))⟩
    exact ⟨by rw [List.length_reverse]; exact hz, _, 0, r.reverse, Heap.get?_push_size _ rfl⟩
def revP (x : PV) (μ : Sto) : Option (PV × Sto) := match x with
  | .tup xs => some (.tup xs.reverse, μ)
  | x => (rdL μ x).map fun xs => (.lst xs.reverse, μ)
def f_rev : Op2 := fun x y μ => match y with
  | .int i => if i = -1 then revP x μ else none
  | _ => none
theorem f_rev_some {x y v : PV} {μ μ' : Sto} (h : f_rev x y μ = some (v, μ')) : y = .int (-1) ∧ μ' = μ ∧ ((∃ xs, x = .tup xs ∧ v = .tup xs.reverse) ∨ ∃ xs, rdL μ x = some xs ∧ v = .lst xs.reverse) := by
  unfold f_rev at h
  split at h
  · split at h
    · rename_i i hi
      subst hi
      unfold revP at h
      split at h
      · cases h; exact ⟨rfl, rfl, .inl ⟨_, rfl, rfl⟩⟩
      · obtain ⟨xs, e3, e4⟩ := Option.map_eq_some_iff.mp h
        cases e4
        exact ⟨rfl, rfl, .inr ⟨xs, e3, rfl⟩⟩
    · cases h
  · cases h
theorem e_rev {X : Cx} {e st : Expr} {d s : Den} {p3 pos : Pos} (he : PE X e (tD X.K d)) (hst : PE X st (tD X.K s)) : PE X (.Subscript e (.Slice none none (some st) p3) pos) (tD X.K (d2 f_rev d s)) :=
  (pe_revA he hst).weak fun σ H Q w => by
    obtain ⟨ι, ρ, μ, v, μ', E, S, e, q⟩ := w
    obtain ⟨⟨x, μ1⟩, e1, e⟩ := Option.bind_eq_some_iff.mp e
    obtain ⟨⟨y, μ2⟩, e2, e⟩ := Option.bind_eq_some_iff.mp e
    refine ⟨ι, ρ, μ, x, μ1, E, S, e1, fun hx ι1 H1 X1 R1 S1 => ⟨ι1, ρ, μ1, y, μ2, E.mono X1, S1, e2, fun hy ι2 H2 X2 R2 S2 => ?_⟩⟩
    have X12 := X1.trans X2
    have R1 := R1.mono X2
    obtain ⟨rfl, rfl, ⟨xs, rfl, rfl⟩ | ⟨xs, e3, rfl⟩⟩ := f_rev_some e
    · cases R2
      obtain ⟨a, us, rfl, ta, ra⟩ := R1
      exact ⟨-1, rfl, rfl, a, us, rfl, .inl ⟨ta.sq, fun p hp => (q.mono X12).tup S2 ra.reverse hp⟩⟩
    · cases R2
      obtain ⟨a, us, rfl, ta, ra⟩ := rdL_rep S2 R1 e3
      exact ⟨-1, rfl, rfl, a, us, rfl, .inr ⟨.of ta, fun p hp => (q.mono X12).lst S2 ra.reverse hp⟩⟩

/-! ### in, not in -/
def flatP : PV → Bool
  | .non => true
  | .bl _ => true
  | .int _ => true
  | .str _ => true
  | _ => false
theorem flat_rep {K : Frg} {ι : Ad} {n : Nat} {H : Hp} {x : PV} {v : V} (f : flatP x = true) (r : RepV K ι n H x v) : flatV v = true := by
  cases x with
  | non => cases r; rfl
  | bl _ => cases r; rfl
  | int _ => cases r; rfl
  | str _ => cases r; rfl
  | _ => cases f
theorem flats_rep {K : Frg} {ι : Ad} {n : Nat} {H : Hp} : ∀ {xs : List PV} {ys : List V}, xs.all flatP = true → RepVs K ι n H xs ys → ys.all flatV = true
  | [], _, _, r => by cases r; rfl
  | x :: xs, _, f, r => by
    obtain ⟨y, t, rfl, r1, r2⟩ := r
    rw [List.all_cons, Bool.and_eq_true] at f
    rw [List.all_cons, flat_rep f.1 r1, flats_rep f.2 r2]
    rfl
theorem eqV_rep {K : Frg} {ι : Ad} {n : Nat} {H : Hp} {x y : PV} {u v : V} (fx : flatP x = true) (fy : flatP y = true) (rx : RepV K ι n H x u) (ry : RepV K ι n H y v) : eqV u v = peqv x y := by
  cases x <;> cases y <;> first
    | exact absurd (show false = true from fx) Bool.false_ne_true
    | exact absurd (show false = true from fy) Bool.false_ne_true
    | (cases rx; cases ry; rfl)
theorem inV_rep {K : Frg} {ι : Ad} {n : Nat} {H : Hp} {x : PV} {v : V} (fx : flatP x = true) (rx : RepV K ι n H x v) : ∀ {xs : List PV} {ys : List V}, xs.all flatP = true → RepVs K ι n H xs ys → inV v ys = xs.any fun z => peqv z x
  | [], _, _, r => by cases r; rfl
  | z :: xs, _, f, r => by
    obtain ⟨y, t, rfl, r1, r2⟩ := r
    rw [List.all_cons, Bool.and_eq_true] at f
    show (eqV y v || inV v t) = _
    rw [eqV_rep f.1 fx r1 rx, inV_rep fx rx f.2 r2, List.any_cons]
/-- membership: flat items of a list or tuple; data of a list -/
def f_inB (x y : PV) (μ : Sto) : Option Bool := (rdS μ y).bind fun ys =>
  if (flatP x && ys.all flatP) = true then some (ys.any fun z => peqv z x)
  else match y with
    | .tup _ => none
    | _ => if (pok x 64 && pok (.lst ys) 64) = true then some (ys.any fun z => peqv z x) else none
def f_in : Op2 := fun x y μ => (f_inB x y μ).map fun b => (.bl b, μ)
def f_notin : Op2 := fun x y μ => (f_inB x y μ).map fun b => (.bl !b, μ)
def r_in (K : Frg) : R2 := fun x y H Q => rIn K false x y H Q ∨ rInD K x y H Q
def r_notin (K : Frg) : R2 := fun x y H Q => rIn K true x y H Q ∨ rNotInD K x y H Q
theorem o_in {X : Cx} (hu : X.A.units + 65 < cLine) : OpR X (compareOp .In) (r_in X.K) := op_in_seq.or (op_inD hu)
theorem o_notin {X : Cx} (hu : X.A.units + 65 < cLine) : OpR X (compareOp .NotIn) (r_notin X.K) := op_notIn_seq.or (op_notInD hu)
theorem in_deep {K : Frg} {ι : Ad} {μ : Sto} {H : Hp} (S : RepS K ι H μ) {x y : PV} {hx hy : V} {ys : List PV} (rx : RepV K ι μ.length H x hx) (ry : RepV K ι μ.length H y hy) (e : rdL μ y = some ys) (ok : (pok x 64 && pok (.lst ys) 64) = true) :
    Dp K H hx (toD x) ∧ Dp K H hy (.list (toDs ys)) ∧ SeqAt.shaped (toD x) = true ∧ SeqAt.shaped (.list (toDs ys)) = true ∧ ((toDs ys).any fun z => PyData.eqv z (toD x)) = ys.any fun z => peqv z x := by
  rw [Bool.and_eq_true] at ok
  obtain ⟨a, us, rfl, ta, ra⟩ := rdL_rep S ry e
  refine ⟨dp_rep x hx 64 ok.1 rx, .lst (.of ta) (dps_rep ys us 63 ok.2 ra), toD_shaped ok.1, toD_shaped ok.2, ?_⟩
  have key : ∀ ys : List PV, poks ys 63 = true → ((toDs ys).any fun z => PyData.eqv z (toD x)) = ys.any fun z => peqv z x := by
    intro ys
    induction ys with
    | nil => intro _; rfl
    | cons z zs ih =>
      intro h
      have h : (pok z 63 && poks zs 63) = true := h
      rw [Bool.and_eq_true] at h
      show (PyData.eqv (toD z) (toD x) || _) = _
      rw [List.any_cons, toD_eqv z x 63 64 h.1 ok.1, ← ih h.2]
  exact key ys ok.2
theorem s_in {K : Frg} : S2 K (r_in K) f_in := by
  intro ι H μ x y v μ' hx hy Q S rx ry h q
  obtain ⟨b, e, e2⟩ := Option.map_eq_some_iff.mp h
  cases e2
  obtain ⟨ys, e1, e2⟩ := Option.bind_eq_some_iff.mp e
  split at e2
  · rename_i hf
    cases e2
    rw [Bool.and_eq_true] at hf
    obtain ⟨a, us, rfl, ta, ra⟩ := rdS_rep S ry e1
    exact .inl ⟨a, us, rfl, ta, flat_rep hf.1 rx, flats_rep hf.2 ra, q.pure S (congrArg V.bl (inV_rep hf.1 rx hf.2 ra))⟩
  · split at e2
    · cases e2
    · rename_i hn
      split at e2
      · rename_i ok
        cases e2
        have e1 : rdL μ y = some ys := by
          unfold rdS at e1
          split at e1
          · rename_i xs; exact absurd rfl (hn xs)
          · exact e1
        obtain ⟨d1, d2, d3, d4, d5⟩ := in_deep S rx ry e1 ok
        exact .inr ⟨_, _, d1, d2, d3, d4, q.pure S (congrArg V.bl d5)⟩
      · cases e2
theorem s_notin {K : Frg} : S2 K (r_notin K) f_notin := by
  intro ι H μ x y v μ' hx hy Q S rx ry h q
  obtain ⟨b, e, e2⟩ := Option.map_eq_some_iff.mp h
  cases e2
  obtain ⟨ys, e1, e2⟩ := Option.bind_eq_some_iff.mp e
  split at e2
  · rename_i hf
    cases e2
    rw [Bool.and_eq_true] at hf
    obtain ⟨a, us, rfl, ta, ra⟩ := rdS_rep S ry e1
    exact .inl ⟨a, us, rfl, ta, flat_rep hf.1 rx, flats_rep hf.2 ra, q.pure S (congrArg V.bl (congrArg not (inV_rep hf.1 rx hf.2 ra)))⟩
  · split at e2
    · cases e2
    · rename_i hn
      split at e2
      · rename_i ok
        cases e2
        have e1 : rdL μ y = some ys := by
          unfold rdS at e1
          split at e1
          · rename_i xs; exact absurd rfl (hn xs)
          · exact e1
        obtain ⟨d1, d2, d3, d4, d5⟩ := in_deep S rx ry e1 ok
        exact .inr ⟨_, _, d1, d2, d3, d4, q.pure S (congrArg V.bl (congrArg not d5))⟩
      · cases e2

/-! ### targets of comprehensions that unpack -/
theorem wipe_set2 (σ : L2.St) (i j : Nat) (o p : Option V) : L2.wipe ((σ.set i o).set j p) [i, j] = L2.wipe σ [i, j] := by
  show (((σ.set i o).set j p).set j none).set i none = (σ.set j none).set i none
  rw [List.set_set]
  by_cases h : i = j
  · subst h; rw [List.set_set, List.set_set, List.set_set]
  · rw [List.set_comm _ _ (show i ≠ j from h), List.set_set]
theorem gin_tu2 {K : Frg} (i j : Nat) : GIn K (gTup K 2 (gCons (gName i) (gCons (gName j) gNil))) (gTu 2 (gsCons (gNm i) (gsCons (gNm j) gsNil))) [i, j] := ⟨fun v σ H Q h => by
  obtain ⟨ι, ρ, μ, pv, ρ', μ', E, S, R, e, q⟩ := h
  unfold gTu at e
  split at e
  · rename_i xs
    split at e
    · rename_i hl
      match xs, hl with
      | [x, y], _ =>
        cases e
        obtain ⟨a, ys, rfl, t, u, r1, rfl, h1, w, r2, rfl, h2, rfl⟩ := R
        exact ⟨a, [u, w], rfl, t.sq, rfl, u, [w], rfl, w, [], rfl, rfl, wipe_set2 _ _ _ _ _, q _ ι H .refl ((E.set i h1).set j h2) S⟩
    · cases e
  · cases e⟩
end Fd

/-! Fd8: what a def's denotation promises; facts of the head. -/
namespace Fd
open PySem PySem.Spec PyProof.Rows L2
theorem hu65 {k : Nat} {A : Around} (r : Room k A) : A.units + 65 < cLine := by have := r.un; omega
/-- what the body's denotation has to come to for the def to be ψ -/
def Den.Does (n k : Nat) (d : DenS) (ψ : Fn) : Prop := ∀ (args : List PV) (μ : Sto) (v : PV) (μ' : Sto), args.length = k → okLs μ.length args = true → ψ args μ = some (v, μ') → ∃ o, d (init n args) μ = some o ∧ Fin μ o v μ'
theorem fun_of {K : Frg} {x qual : Str} {st : Stmt} {f : Addr} {fd : FuncData} (F : FunD K x qual (defArgs st) (defBody st) (defScope st) [] [] f fd) : L2.Fun K x qual st f fd := by
  obtain ⟨oc, od, dV, kV, doc, pm, an, cdv, ct, osl, e, lk, hcd, hD, hK⟩ := F.ex
  rcases hD with ⟨_, rfl⟩ | ⟨h, _⟩
  · exact ⟨⟨oc, od, kV, doc, pm, an, cdv, ct, osl, e, lk, hcd⟩, F.kp⟩
  · exact absurd rfl h
end Fd

/-! Fd9: running a denotation, step by step. -/
namespace Fd
open PySem PySem.Spec PyProof.Rows L2

/-! ### what a def's body comes to, as a function -/
def runF (n : Nat) (d : DenS) : Fn := fun args μ => match d (init n args) μ with
  | some (.rt v μ') => some (v, μ')
  | some (.nx _ μ') => some (.non, μ')
  | _ => none
theorem runF_does {n k : Nat} {d : DenS} : Den.Does n k d (runF n d) := fun args μ v μ' _ _ h => by
  unfold runF at h
  split at h
  · rename_i w ν e; cases h; exact ⟨_, e, .rt _ _⟩
  · rename_i ρ ν e; cases h; exact ⟨_, e, .nx _ _⟩
  · cases h
theorem runF_rt {n : Nat} {d : DenS} {args : List PV} {ρ : En} {μ μ' : Sto} {v : PV} (hi : init n args = ρ) (h : d ρ μ = some (.rt v μ')) : runF n d args μ = some (v, μ') := by
  unfold runF; rw [hi, h]
theorem runF_nx {n : Nat} {d : DenS} {args : List PV} {ρ ρ' : En} {μ μ' : Sto} (hi : init n args = ρ) (h : d ρ μ = some (.nx ρ' μ')) : runF n d args μ = some (.non, μ') := by
  unfold runF; rw [hi, h]
/-- the same for a def that lays lists in the store and gives none of them away but one, whole -/
def outV (μ : Sto) : Out → Option (PV × Sto)
  | .rt (.loc l) μ' => if l < μ.length then some (.loc l, μ') else match μ'[l]? with
    | some (.lst xs) => some (.lst xs, μ')
    | _ => none
  | .rt v μ' => some (v, μ')
  | .nx _ μ' => some (.non, μ')
  | _ => none
open Classical in
noncomputable def runZ (n : Nat) (d : DenS) : Fn := fun args μ => (d (init n args) μ).bind fun o => (outV μ o).bind fun p =>
  if (∃ g, p.2 = μ ++ g) ∧ okL μ.length p.1 = true then some (p.1, μ) else none
theorem runZ_does {n k : Nat} {d : DenS} : Den.Does n k d (runZ n d) := fun args μ v μ' _ _ h => by
  unfold runZ at h
  obtain ⟨o, e1, h⟩ := Option.bind_eq_some_iff.mp h
  obtain ⟨⟨w, ν⟩, e2, h⟩ := Option.bind_eq_some_iff.mp h
  split at h
  · rename_i hc
    cases h
    obtain ⟨⟨g, hg⟩, hv⟩ := hc
    have hg : ν = μ ++ g := hg
    subst hg
    have hc : ∀ (l : Nat) (o : Ob), μ[l]? = some o → μ[l]? = some o ∨ okO μ.length o = true := fun _ _ h => .inl h
    refine ⟨o, e1, ?_⟩
    unfold outV at e2
    split at e2
    · rename_i l μ1
      split at e2
      · cases e2; exact .trim _ _ _ rfl hc hv
      · rename_i hl
        split at e2
        · rename_i xs ex
          cases e2
          exact .frz l xs μ g rfl hc ex (by omega) hv
        · cases e2
    · cases e2; exact .trim _ _ _ rfl hc hv
    · cases e2; exact .trimN _ _ _ rfl hc
    · cases e2
  · cases h
theorem runZ_rt {n : Nat} {d : DenS} {args : List PV} {ρ : En} {μ g : Sto} {l : Nat} {xs : List PV} (hi : init n args = ρ) (h : d ρ μ = some (.rt (.loc l) (μ ++ g))) (hl : μ.length ≤ l) (hx : (μ ++ g)[l]? = some (.lst xs)) (ok : okLs μ.length xs = true) : runZ n d args μ = some (.lst xs, μ) := by
  unfold runZ
  rw [hi, h]
  have e : outV μ (.rt (.loc l) (μ ++ g)) = some (.lst xs, μ ++ g) := by
    show (if l < μ.length then _ else _) = _
    rw [if_neg (by omega), hx]
  show (outV μ (.rt (.loc l) (μ ++ g))).bind _ = _
  rw [e]
  exact if_pos ⟨⟨g, rfl⟩, ok⟩
theorem runZ_v {n : Nat} {d : DenS} {args : List PV} {ρ : En} {μ g : Sto} {v : PV} (hi : init n args = ρ) (h : d ρ μ = some (.rt v (μ ++ g))) (hv : ∀ l, v ≠ .loc l) (ok : okL μ.length v = true) : runZ n d args μ = some (v, μ) := by
  unfold runZ
  rw [hi, h]
  show (outV μ (.rt v (μ ++ g))).bind _ = _
  have : outV μ (.rt v (μ ++ g)) = some (v, μ ++ g) := by
    cases v with
    | loc l => exact absurd rfl (hv l)
    | _ => rfl
  rw [this]
  exact if_pos ⟨⟨g, rfl⟩, ok⟩

/-! ### steps: expressions -/
section
variable {ρ ρ' ρ1 : En} {μ μ' μ1 μ2 μ3 : Sto} {v x y z : PV} {r : PV × Sto}
theorem ev_var {i : Nat} (h : ρ[i]? = some (some v)) : cVar i ρ μ = some (v, μ) := by unfold cVar; rw [h]
theorem ev_K : cK v ρ μ = some (v, μ) := rfl
theorem ev_d1 {f : Op1} {da : Den} (ha : da ρ μ = some (x, μ1)) (hf : f x μ1 = some r) : d1 f da ρ μ = some r := by unfold d1; rw [ha]; exact hf
theorem ev_d2 {f : Op2} {da db : Den} (ha : da ρ μ = some (x, μ1)) (hb : db ρ μ1 = some (y, μ2)) (hf : f x y μ2 = some r) : d2 f da db ρ μ = some r := by unfold d2; rw [ha]; show Option.bind (db ρ μ1) _ = _; rw [hb]; exact hf
theorem ev_aNil : aNil ρ μ = some ([], μ) := rfl
theorem ev_aCons {d : Den} {a : DenA} {vs : List PV} (hd : d ρ μ = some (x, μ1)) (ha : a ρ μ1 = some (vs, μ2)) : aCons d a ρ μ = some (x :: vs, μ2) := by unfold aCons; rw [hd]; show Option.bind (a ρ μ1) _ = _; rw [ha]; rfl
theorem ev_dN {f : Fn} {a : DenA} {vs : List PV} (ha : a ρ μ = some (vs, μ1)) (hf : f vs μ1 = some r) : dN f a ρ μ = some r := by unfold dN; rw [ha]; exact hf
theorem ev_dCall {k : Nat} {f : Fn} {a : DenA} {vs : List PV} (ha : a ρ μ = some (vs, μ1)) (hf : f vs μ1 = some r) (hl : vs.length = k) : dCall k f a ρ μ = some r := by unfold dCall; rw [ha]; show (if _ then _ else _) = _; rw [if_pos hl]; exact hf
theorem ev_dTup {a : DenA} {vs : List PV} (ha : a ρ μ = some (vs, μ1)) (hl : vs.length ≤ sizeLine) : dTup a ρ μ = some (.tup vs, μ1) := by unfold dTup; rw [ha]; show (if _ then _ else _) = _; rw [if_pos hl]
theorem ev_dLst {a : DenA} {vs : List PV} (ha : a ρ μ = some (vs, μ1)) (hl : vs.length ≤ sizeLine) : dLst a ρ μ = some (.lst vs, μ1) := by unfold dLst; rw [ha]; show (if _ then _ else _) = _; rw [if_pos hl]
theorem ev_dLoc {a : DenA} {vs : List PV} (ha : a ρ μ = some (vs, μ1)) (hl : vs.length ≤ sizeLine) : dLoc a ρ μ = some (.loc μ1.length, μ1 ++ [.lst vs]) := by unfold dLoc; rw [ha]; show (if _ then _ else _) = _; rw [if_pos hl]
theorem ev_if_t {c : DenT} {da db : Den} (hc : c ρ μ = some (true, μ1)) (h : da ρ μ1 = some r) : dIf c da db ρ μ = some r := by unfold dIf; rw [hc]; exact h
theorem ev_if_f {c : DenT} {da db : Den} (hc : c ρ μ = some (false, μ1)) (h : db ρ μ1 = some r) : dIf c da db ρ μ = some r := by unfold dIf; rw [hc]; exact h
theorem ev_an_t {da db : Den} (ha : da ρ μ = some (x, μ1)) (ht : truP x μ1 = some true) (h : db ρ μ1 = some r) : dAn da db ρ μ = some r := by unfold dAn; rw [ha]; simp only [Option.bind_some, ht]; exact h
theorem ev_an_f {da db : Den} (ha : da ρ μ = some (x, μ1)) (ht : truP x μ1 = some false) : dAn da db ρ μ = some (x, μ1) := by unfold dAn; rw [ha]; simp only [Option.bind_some, ht]
theorem ev_or_f {da db : Den} (ha : da ρ μ = some (x, μ1)) (ht : truP x μ1 = some false) (h : db ρ μ1 = some r) : dOr da db ρ μ = some r := by unfold dOr; rw [ha]; simp only [Option.bind_some, ht]; exact h
theorem ev_or_t {da db : Den} (ha : da ρ μ = some (x, μ1)) (ht : truP x μ1 = some true) : dOr da db ρ μ = some (x, μ1) := by unfold dOr; rw [ha]; simp only [Option.bind_some, ht]
theorem ev_no {da : Den} {b : Bool} (ha : da ρ μ = some (x, μ1)) (ht : truP x μ1 = some b) : dNo da ρ μ = some (.bl !b, μ1) := by unfold dNo; rw [ha]; show Option.map _ (truP x μ1) = _; rw [ht]; rfl
theorem ev_sl {d : Den} {lo hi : DenO} {a b : Option Int} (hd : d ρ μ = some (x, μ1)) (hl : lo ρ μ1 = some (a, μ2)) (hu : hi ρ μ2 = some (b, μ3)) (hf : f_sl a b x μ3 = some r) : dSl d lo hi ρ μ = some r := by
  unfold dSl; rw [hd]; show Option.bind (lo ρ μ1) _ = _; rw [hl]; show Option.bind (hi ρ μ2) _ = _; rw [hu]; exact hf
theorem ev_oNo : oNo ρ μ = some (none, μ) := rfl
theorem ev_oSo {d : Den} {i : Int} (h : d ρ μ = some (.int i, μ1)) : oSo d ρ μ = some (some i, μ1) := by unfold oSo; rw [h]
theorem ev_ch2 {f g : Op2} {da db dc : Den} {b : Bool} (ha : da ρ μ = some (x, μ1)) (hb : db ρ μ1 = some (y, μ2)) (hf : f x y μ2 = some (.bl true, μ3)) (h : ((dc ρ μ3).bind fun s => g y s.1 s.2) = some r) : dCh2 f g da db dc ρ μ = some r := by
  unfold dCh2; rw [ha]; show Option.bind (db ρ μ1) _ = _; rw [hb]; show Option.bind (asB (f x y μ2)) _ = _; rw [hf]; exact h
theorem ev_ch2_f {f g : Op2} {da db dc : Den} (ha : da ρ μ = some (x, μ1)) (hb : db ρ μ1 = some (y, μ2)) (hf : f x y μ2 = some (.bl false, μ3)) : dCh2 f g da db dc ρ μ = some (.bl false, μ3) := by
  unfold dCh2; rw [ha]; show Option.bind (db ρ μ1) _ = _; rw [hb]; show Option.bind (asB (f x y μ2)) _ = _; rw [hf]; rfl
theorem ev_bnd {d : Den} {g : PV → Sto → Option (PV × Sto)} (hd : d ρ μ = some (x, μ1)) (h : g x μ1 = some r) : ((d ρ μ).bind fun s => g s.1 s.2) = some r := by rw [hd]; exact h
/-- a chain whose two tests are both reckoned -/
theorem ev_ch2b {f g : Op2} {da db dc : Den} {b c : Bool} (ha : da ρ μ = some (x, μ)) (hb : db ρ μ = some (y, μ)) (hf : f x y μ = some (.bl b, μ)) (hc : dc ρ μ = some (z, μ)) (hg : g y z μ = some (.bl c, μ)) : dCh2 f g da db dc ρ μ = some (.bl (b && c), μ) := by
  cases b with
  | true => exact ev_ch2 (b := true) ha hb hf (ev_bnd hc hg)
  | false => exact ev_ch2_f ha hb hf
theorem ev_ch3b {f g h : Op2} {da db dc dd : Den} {b c d : Bool} {u : PV} (ha : da ρ μ = some (x, μ)) (hb : db ρ μ = some (y, μ)) (hf : f x y μ = some (.bl b, μ)) (hc : dc ρ μ = some (z, μ)) (hg : g y z μ = some (.bl c, μ)) (hd : dd ρ μ = some (u, μ)) (hh : h z u μ = some (.bl d, μ)) : dCh3 f g h da db dc dd ρ μ = some (.bl (b && (c && d)), μ) := by
  unfold dCh3; rw [ha]; show Option.bind (db ρ μ) _ = _; rw [hb]; show Option.bind (asB (f x y μ)) _ = _; rw [hf]
  cases b with
  | false => rfl
  | true =>
    show Option.bind (dc ρ μ) _ = _; rw [hc]; show Option.bind (asB (g y z μ)) _ = _; rw [hg]
    cases c with
    | false => rfl
    | true => show Option.bind (dd ρ μ) _ = _; rw [hd]; exact hh
theorem ev_dML {f : OpM} {d : Den} {a : DenA} {vs : List PV} (hd : d ρ μ = some (x, μ1)) (hL : isLs μ1 x = true) (ha : a ρ μ1 = some (vs, μ2)) (hf : f x vs μ2 = some r) : dML f d a ρ μ = some r := by
  unfold dML; rw [hd]; show (if _ then _ else _) = _; rw [if_pos hL, ha]; exact hf
/-! tests -/
theorem ev_tB {d : Den} {b : Bool} (h : d ρ μ = some (.bl b, μ1)) : tB1 d ρ μ = some (b, μ1) := by unfold tB1; rw [h]; rfl
theorem ev_tTru {d : Den} {b : Bool} (h : d ρ μ = some (x, μ1)) (ht : truP x μ1 = some b) : tTru d ρ μ = some (b, μ1) := by unfold tTru; rw [h]; show Option.map _ (truP x μ1) = _; rw [ht]; rfl
theorem ev_tAn_t {c d : DenT} {p : Bool × Sto} (h : c ρ μ = some (true, μ1)) (h2 : d ρ μ1 = some p) : tAn c d ρ μ = some p := by unfold tAn; rw [h]; exact h2
theorem ev_tAn_f {c d : DenT} (h : c ρ μ = some (false, μ1)) : tAn c d ρ μ = some (false, μ1) := by unfold tAn; rw [h]; rfl
theorem ev_tOr_f {c d : DenT} {p : Bool × Sto} (h : c ρ μ = some (false, μ1)) (h2 : d ρ μ1 = some p) : tOr' c d ρ μ = some p := by unfold tOr'; rw [h]; exact h2
theorem ev_tOr_t {c d : DenT} (h : c ρ μ = some (true, μ1)) : tOr' c d ρ μ = some (true, μ1) := by unfold tOr'; rw [h]; rfl
theorem ev_tNo {c : DenT} {b b' : Bool} (h : c ρ μ = some (b, μ1)) (hb : (!b) = b') : tNo c ρ μ = some (b', μ1) := by unfold tNo; rw [h, ← hb]; rfl
theorem ev_tAll : tAll ρ μ = some (true, μ) := rfl
/-- both reckoned -/
theorem ev_tAnb {c d : DenT} {b b' : Bool} (h : c ρ μ = some (b, μ)) (h2 : d ρ μ = some (b', μ)) : tAn c d ρ μ = some (b && b', μ) := by
  cases b with
  | true => exact ev_tAn_t h h2
  | false => exact ev_tAn_f h
theorem ev_tOrb {c d : DenT} {b b' : Bool} (h : c ρ μ = some (b, μ)) (h2 : d ρ μ = some (b', μ)) : tOr' c d ρ μ = some (b || b', μ) := by
  cases b with
  | false => exact ev_tOr_f h h2
  | true => exact ev_tOr_t h
end
/-! ### steps: statements -/
section
variable {ρ ρ' ρ1 : En} {μ μ' μ1 μ2 μ3 : Sto} {v x y z : PV} {o : Out}
theorem ev_seq {a b : DenS} (ha : a ρ μ = some (.nx ρ' μ')) (hb : b ρ' μ' = some o) : sSeq a b ρ μ = some o := by unfold sSeq; rw [ha]; exact hb
theorem ev_seq_rt {a b : DenS} (ha : a ρ μ = some (.rt v μ')) : sSeq a b ρ μ = some (.rt v μ') := by unfold sSeq; rw [ha]; rfl
theorem ev_seq_bk {a b : DenS} (ha : a ρ μ = some (.bk ρ' μ')) : sSeq a b ρ μ = some (.bk ρ' μ') := by unfold sSeq; rw [ha]; rfl
theorem ev_seq_ct {a b : DenS} (ha : a ρ μ = some (.ct ρ' μ')) : sSeq a b ρ μ = some (.ct ρ' μ') := by unfold sSeq; rw [ha]; rfl
theorem ev_sNil : sNil ρ μ = some (.nx ρ μ) := rfl
theorem ev_sIf_t {c : DenT} {a b : DenS} (hc : c ρ μ = some (true, μ1)) (h : a ρ μ1 = some o) : sIf c a b ρ μ = some o := by unfold sIf; rw [hc]; exact h
theorem ev_sIf_f {c : DenT} {a b : DenS} (hc : c ρ μ = some (false, μ1)) (h : b ρ μ1 = some o) : sIf c a b ρ μ = some o := by unfold sIf; rw [hc]; exact h
theorem ev_ret {d : Den} (h : d ρ μ = some (v, μ1)) : sRet d ρ μ = some (.rt v μ1) := by unfold sRet; rw [h]; rfl
theorem ev_ex {d : Den} (h : d ρ μ = some (v, μ1)) : sEx d ρ μ = some (.nx ρ μ1) := by unfold sEx; rw [h]; rfl
theorem ev_set {d : Den} {i : Nat} (h : d ρ μ = some (v, μ1)) (e : ρ.set i (some v) = ρ') : sAsg d (gNm i) ρ μ = some (.nx ρ' μ1) := by unfold sAsg; rw [h, ← e]; rfl
theorem ev_asg {d : Den} {g : DenG} (h : d ρ μ = some (v, μ1)) (hg : g v ρ μ1 = some (ρ', μ2)) : sAsg d g ρ μ = some (.nx ρ' μ2) := by unfold sAsg; rw [h]; show Option.map _ (g v ρ μ1) = _; rw [hg]; rfl
theorem ev_par {i j : Nat} {a : DenA} (h : a ρ μ = some ([x, y], μ1)) (e : (ρ.set i (some x)).set j (some y) = ρ') : sPar i j a ρ μ = some (.nx ρ' μ1) := by unfold sPar; rw [h, ← e]
theorem ev_par3 {i j k : Nat} {a : DenA} (h : a ρ μ = some ([x, y, z], μ1)) (e : ((ρ.set i (some x)).set j (some y)).set k (some z) = ρ') : sPar3 i j k a ρ μ = some (.nx ρ' μ1) := by unfold sPar3; rw [h, ← e]
theorem ev_aug {i : Nat} {f : Op2} {d : Den} (h0 : ρ[i]? = some (some x)) (h : d ρ μ = some (y, μ1)) (hf : f x y μ1 = some (z, μ2)) (e : ρ.set i (some z) = ρ') : sAug i f d ρ μ = some (.nx ρ' μ2) := by
  unfold sAug; rw [h0]; show Option.bind (d ρ μ) _ = _; rw [h]; show Option.map _ (f x y μ1) = _; rw [hf, ← e]; rfl
theorem ev_gNm {i : Nat} (e : ρ.set i (some v) = ρ') : gNm i v ρ μ = some (ρ', μ) := by rw [← e]; rfl
theorem ev_gTu {n : Nat} {g : DenGs} {xs : List PV} (hl : xs.length = n) (h : g xs ρ μ = some (ρ', μ')) : gTu n g (.tup xs) ρ μ = some (ρ', μ') := by show (if _ then _ else _) = _; rw [if_pos hl]; exact h
theorem ev_gsN : gsNil [] ρ μ = some (ρ, μ) := rfl
theorem ev_gsC {g : DenG} {r : DenGs} {vs : List PV} (h : g v ρ μ = some (ρ1, μ1)) (h2 : r vs ρ1 μ1 = some (ρ', μ')) : gsCons g r (v :: vs) ρ μ = some (ρ', μ') := by show Option.bind (g v ρ μ) _ = _; rw [h]; exact h2
theorem ev_gSb {o i : Den} (ho : o ρ μ = some (x, μ1)) (hi : i ρ μ1 = some (y, μ2)) (hs : f_set x y v μ2 = some μ3) : gSb o i v ρ μ = some (ρ, μ3) := by
  unfold gSb; rw [ho]; show Option.bind (i ρ μ1) _ = _; rw [hi]; show Option.map _ (f_set x y v μ2) = _; rw [hs]; rfl
/-! while -/
theorem wh_step {c : DenT} {b : DenS} (hc : c ρ μ = some (true, μ1)) (hb : b ρ μ1 = some (.nx ρ' μ')) (h : sWh c b ρ' μ' = some o) : sWh c b ρ μ = some o := by
  obtain ⟨n, hn⟩ := sWh_get h
  refine sWh_of (n + 1) ?_
  unfold whN
  simp only [hc, hb, Option.bind_some, if_true]
  exact hn
theorem wh_done {c : DenT} {b : DenS} (hc : c ρ μ = some (false, μ1)) : sWh c b ρ μ = some (.nx ρ μ1) := by
  refine sWh_of 1 ?_
  unfold whN
  rw [hc]
  rfl
theorem wh_rt {c : DenT} {b : DenS} (hc : c ρ μ = some (true, μ1)) (hb : b ρ μ1 = some (.rt v μ')) : sWh c b ρ μ = some (.rt v μ') := by
  refine sWh_of 1 ?_
  unfold whN
  simp only [hc, hb, Option.bind_some, if_true]
theorem wh_bk {c : DenT} {b : DenS} (hc : c ρ μ = some (true, μ1)) (hb : b ρ μ1 = some (.bk ρ' μ')) : sWh c b ρ μ = some (.nx ρ' μ') := by
  refine sWh_of 1 ?_
  unfold whN
  simp only [hc, hb, Option.bind_some, if_true]
/-! for -/
theorem ev_for {it : DenI} {g : DenG} {b : DenS} {xs : List PV} {ch : List (Nat × List PV)} (hi : it ρ μ = some ((xs, ch), μ1)) (h : forL g b ch xs ρ μ1 = some o) : sFor it g b ρ μ = some o := by unfold sFor; rw [hi]; exact h
theorem for_nil {g : DenG} {b : DenS} {ch : List (Nat × List PV)} : forL g b ch [] ρ μ = some (.nx ρ μ) := by unfold forL; rfl
theorem for_step {g : DenG} {b : DenS} {ch : List (Nat × List PV)} {xs : List PV} (hg : g x ρ μ = some (ρ1, μ1)) (hb : b ρ1 μ1 = some (.nx ρ' μ')) (hc : ChkOk ch μ') (h : forL g b ch xs ρ' μ' = some o) : forL g b ch (x :: xs) ρ μ = some o := by
  unfold forL; simp only [hg, hb, Option.bind_some, if_pos hc]; exact h
theorem for_ct {g : DenG} {b : DenS} {ch : List (Nat × List PV)} {xs : List PV} (hg : g x ρ μ = some (ρ1, μ1)) (hb : b ρ1 μ1 = some (.ct ρ' μ')) (hc : ChkOk ch μ') (h : forL g b ch xs ρ' μ' = some o) : forL g b ch (x :: xs) ρ μ = some o := by
  unfold forL; simp only [hg, hb, Option.bind_some, if_pos hc]; exact h
theorem for_rt {g : DenG} {b : DenS} {ch : List (Nat × List PV)} {xs : List PV} (hg : g x ρ μ = some (ρ1, μ1)) (hb : b ρ1 μ1 = some (.rt v μ')) : forL g b ch (x :: xs) ρ μ = some (.rt v μ') := by
  unfold forL; rw [hg]; show Option.bind (b ρ1 μ1) _ = _; rw [hb]; rfl
theorem for_bk {g : DenG} {b : DenS} {ch : List (Nat × List PV)} {xs : List PV} (hg : g x ρ μ = some (ρ1, μ1)) (hb : b ρ1 μ1 = some (.bk ρ' μ')) : forL g b ch (x :: xs) ρ μ = some (.nx ρ' μ') := by
  unfold forL; rw [hg]; show Option.bind (b ρ1 μ1) _ = _; rw [hb]; rfl
theorem it_tup {d : Den} {xs : List PV} (h : d ρ μ = some (.tup xs, μ1)) : itSeq d ρ μ = some ((xs, []), μ1) := by unfold itSeq; rw [h]; rfl
theorem it_lst {d : Den} {xs : List PV} (h : d ρ μ = some (.lst xs, μ1)) : itSeq d ρ μ = some ((xs, []), μ1) := by unfold itSeq; rw [h]; rfl
theorem it_loc {d : Den} {l : Nat} {xs : List PV} (h : d ρ μ = some (.loc l, μ1)) (hl : μ1[l]? = some (.lst xs)) : itSeq d ρ μ = some ((xs, [(l, xs)]), μ1) := by
  unfold itSeq; rw [h]; show (match μ1[l]? with | some (.lst xs) => _ | _ => _) = _; rw [hl]
theorem it_rg1 {a : DenA} {j : Int} {n : Nat} (h : a ρ μ = some ([.int j], μ1)) (hj : RgIn j = true) (hn : j.toNat = n) : itRg1 a ρ μ = some ((rgP 0 n, []), μ1) := by
  unfold itRg1; rw [h]; show (if _ then _ else _) = _; rw [if_pos hj, hn]
theorem it_rg2 {a : DenA} {i j : Int} {n : Nat} (h : a ρ μ = some ([.int i, .int j], μ1)) (hi : RgIn i = true) (hj : RgIn j = true) (hn : (j - i).toNat = n) : itRg2 a ρ μ = some ((rgP i n, []), μ1) := by
  unfold itRg2; rw [h]; show (if _ then _ else _) = _; rw [if_pos (by rw [hi, hj]; rfl), hn]
theorem rgIn_of {i : Int} (h0 : -(2 ^ 62) ≤ i) (h : i < 2 ^ 62) : RgIn i = true := by
  unfold RgIn; rw [decide_eq_true h0, decide_eq_true h]; rfl
/-! comprehensions: no changes of the store, no test -/
theorem lc_nil {g : DenG} {t : DenT} {e : Den} {ch : List (Nat × List PV)} {acc : List PV} : lcL ρ g t e ch [] acc μ = some (acc, μ) := by unfold lcL; rfl
theorem lc_yes {g : DenG} {t : DenT} {e : Den} {ch : List (Nat × List PV)} {xs acc : List PV} {r : List PV × Sto} (hg : g x ρ μ = some (ρ1, μ1)) (ht : t ρ1 μ1 = some (true, μ2)) (he : e ρ1 μ2 = some (y, μ3)) (hc : ChkOk ch μ3) (hl : acc.length < sizeLine)
    (h : lcL ρ g t e ch xs (acc ++ [y]) μ3 = some r) : lcL ρ g t e ch (x :: xs) acc μ = some r := by
  unfold lcL; simp only [hg, ht, he, Option.bind_some, if_true]; rw [if_pos ⟨hc, hl⟩]; exact h
theorem lc_no {g : DenG} {t : DenT} {e : Den} {ch : List (Nat × List PV)} {xs acc : List PV} {r : List PV × Sto} (hg : g x ρ μ = some (ρ1, μ1)) (ht : t ρ1 μ1 = some (false, μ2)) (hc : ChkOk ch μ2)
    (h : lcL ρ g t e ch xs acc μ2 = some r) : lcL ρ g t e ch (x :: xs) acc μ = some r := by
  unfold lcL; simp only [hg, ht, Option.bind_some, Bool.false_eq_true, if_false, if_pos hc]; exact h
theorem ev_lc {vs : List Nat} {it : DenI} {g : DenG} {t : DenT} {e : Den} {xs : List PV} {ch : List (Nat × List PV)} {out : List PV} (hi : it ρ μ = some ((xs, ch), μ1)) (hw : wipeE ρ vs = ρ') (h : lcL ρ' g t e ch xs [] μ1 = some (out, μ2)) : dLc vs it g t e ρ μ = some (.lst out, μ2) := by
  unfold dLc; rw [hi]; show Option.map _ (lcL (wipeE ρ vs) g t e ch xs [] μ1) = _; rw [hw, h]; rfl
/-- all items, one by one; the test p, the item f -/
theorem lc_all {g : DenG} {t : DenT} {e : Den} {ch : List (Nat × List PV)} (p : PV → Bool) (f : PV → PV) : ∀ (xs acc : List PV), ChkOk ch μ → acc.length + xs.length ≤ sizeLine →
    (∀ x ∈ xs, ∃ ρ1, g x ρ μ = some (ρ1, μ) ∧ t ρ1 μ = some (p x, μ) ∧ (p x = true → e ρ1 μ = some (f x, μ))) → lcL ρ g t e ch xs acc μ = some (acc ++ (xs.filter p).map f, μ)
  | [], acc, _, _, _ => by rw [lc_nil]; simp
  | x :: xs, acc, hc, hl, h => by
    have hl' : acc.length + (xs.length + 1) ≤ sizeLine := hl
    obtain ⟨ρ1, h1, h2, h3⟩ := h x List.mem_cons_self
    cases hp : p x with
    | true =>
      rw [hp] at h2
      refine lc_yes h1 h2 (h3 hp) hc (by omega) ?_
      rw [lc_all p f xs (acc ++ [f x]) hc (by rw [List.length_append]; simp only [List.length_cons, List.length_nil]; omega) fun y hy => h y (List.mem_cons_of_mem _ hy)]
      rw [List.filter_cons_of_pos hp]
      simp
    | false =>
      rw [hp] at h2
      refine lc_no h1 h2 hc ?_
      rw [lc_all p f xs acc hc (by omega) fun y hy => h y (List.mem_cons_of_mem _ hy)]
      rw [List.filter_cons_of_neg (by rw [hp]; exact Bool.false_ne_true)]
end

/-! ### steps: operators -/
section
variable {μ : Sto} {i j : Int} {x y : PV} {b : Bool}
theorem mul_ii (h : okMul i j = true) : f_mul (.int i) (.int j) μ = some (.int (i * j), μ) := by show (if _ then _ else _) = _; rw [if_pos h]
theorem mod_ii (h : 0 < j) : f_mod (.int i) (.int j) μ = some (.int (i % j), μ) := by show (if _ then _ else _) = _; rw [if_pos h]
theorem mod_ni (h : j < 0) : f_mod (.int i) (.int j) μ = some (.int (i.fmod j), μ) := by show (if _ then _ else _) = _; rw [if_neg (by omega), if_pos h]
theorem fdiv_ii (h : 0 < j) (h2 : j.natAbs < 2 ^ 100) : f_fdiv (.int i) (.int j) μ = some (.int (i / j), μ) := by
  have hh : j.natAbs.log2 < 9000 := Nat.lt_trans ((Nat.log2_lt (n := j.natAbs) (k := 100) (by omega)).mpr h2) (by decide)
  show (if _ then _ else _) = _
  rw [if_pos ⟨h, hh⟩]
theorem fdiv_ni (h : j < 0) (h2 : j.natAbs < 2 ^ 100) : f_fdiv (.int i) (.int j) μ = some (.int (i.fdiv j), μ) := by
  have hh : j.natAbs.log2 < 9000 := Nat.lt_trans ((Nat.log2_lt (n := j.natAbs) (k := 100) (by omega)).mpr h2) (by decide)
  show (if _ then _ else _) = _
  rw [if_neg (by omega), if_pos ⟨h, hh⟩]
theorem pow_ii (h : 0 ≤ j) (h2 : j ≤ 1000000) (h3 : i.natAbs < 2 ^ 64) : f_pow (.int i) (.int j) μ = some (.int (i ^ j.toNat), μ) := by show (if _ then _ else _) = _; rw [if_pos ⟨h, h2, h3⟩]
theorem add_ii : f_add (.int i) (.int j) μ = some (.int (i + j), μ) := rfl
theorem sub_ii : f_sub (.int i) (.int j) μ = some (.int (i - j), μ) := rfl
theorem neg_i : f_neg (.int i) μ = some (.int (-i), μ) := rfl
theorem lt_ii (h : decide (i < j) = b) : f_lt (.int i) (.int j) μ = some (.bl b, μ) := by rw [← h]; rfl
theorem le_ii (h : decide (i ≤ j) = b) : f_le (.int i) (.int j) μ = some (.bl b, μ) := by rw [← h]; rfl
theorem gt_ii (h : decide (j < i) = b) : f_gt (.int i) (.int j) μ = some (.bl b, μ) := by rw [← h]; rfl
theorem ge_ii (h : decide (j ≤ i) = b) : f_ge (.int i) (.int j) μ = some (.bl b, μ) := by rw [← h]; rfl
theorem eq_ii (h : decide (i = j) = b) : f_eq (.int i) (.int j) μ = some (.bl b, μ) := by rw [← h]; rfl
theorem ne_ii (h : (!decide (i = j)) = b) : f_ne (.int i) (.int j) μ = some (.bl b, μ) := by rw [← h]; rfl
theorem eq_ss {s t : Str} (h : decide (s = t) = b) : f_eq (.str s) (.str t) μ = some (.bl b, μ) := by rw [← h]; rfl
theorem ne_t (h : i ≠ j) : (!decide (i = j)) = true := by rw [decide_eq_false h]; rfl
theorem ne_f (h : i = j) : (!decide (i = j)) = false := by rw [decide_eq_true h]; rfl
theorem isn_non : f_is .non .non μ = some (.bl true, μ) := rfl
theorem ix_tup {xs : List PV} {v : PV} (h : L2.atI xs i = some v) : f_ix (.tup xs) (.int i) μ = some (v, μ) := by show Option.map _ (L2.atI xs i) = _; rw [h]; rfl
theorem ix_lst {xs : List PV} {v : PV} (h : L2.atI xs i = some v) : f_ix (.lst xs) (.int i) μ = some (v, μ) := by show Option.map _ (L2.atI xs i) = _; rw [h]; rfl
theorem ix_loc {l : Nat} {xs : List PV} {v : PV} (hl : μ[l]? = some (.lst xs)) (h : L2.atI xs i = some v) : f_ix (.loc l) (.int i) μ = some (v, μ) := by
  have e : rdS μ (.loc l) = some xs := by unfold rdS; simp only; unfold rdL; simp only [hl]
  show Option.bind (rdS μ (.loc l)) _ = _
  rw [e]; show Option.map _ (L2.atI xs i) = _; rw [h]; rfl
theorem tru_int (h : (i != 0) = b) : truP (.int i) μ = some b := by rw [← h]; rfl
theorem set_loc {l : Nat} {xs : List PV} {v : PV} {k : Nat} {μ' : Sto} (hl : μ[l]? = some (.lst xs)) (hk : ixN xs.length i = some k) (he : μ.set l (.lst (xs.set k v)) = μ') : f_set (.loc l) (.int i) v μ = some μ' := by
  show (match μ[l]? with | some (.lst xs) => _ | _ => _) = _
  rw [hl]
  show Option.map _ (ixN xs.length i) = _
  rw [hk, ← he]; rfl
theorem atI_nat {α : Type} {xs : List α} {k : Nat} {v : α} (h : xs[k]? = some v) : L2.atI xs (k : Int) = some v := L2.atI_nat h
end
end Fd

/-! FdZ: the law's promise at its call. -/
namespace Fd
open PySem PySem.Spec PyProof.Rows L2
def spLaw (K : Frg) : Sp := fun vs H Q _ => ∃ (a : Addr) (ns : List Int), vs = [.ref a] ∧ Only H ∧ SqL K H a (ns.map V.int) ∧ ns.length ≤ 63 ∧ ∀ H', Q (.bl true) H'
theorem spLaw_of {K : Frg} {ψ : Fn} (h : ∀ ns : List Int, ns.length ≤ 63 → ∃ μ', ψ [.scr ns] [] = some (.bl true, μ')) (vs : List V) (H : Hp) (Q : VK) (E : XK) (q : spLaw K vs H Q E) : spD K 1 ψ vs H Q E := by
  obtain ⟨a, ns, rfl, ho, hs, hl, hq⟩ := q
  obtain ⟨μ', e⟩ := h ns hl
  refine ⟨⟨fun _ => a, fun _ => False⟩, [.scr ns], [], .bl true, μ', rfl, ⟨.ref a, [], rfl, ⟨a, rfl, ?_⟩, rfl⟩, ⟨fun i j hi => absurd hi (Nat.not_lt_zero i), fun l o h => (nomatch h), fun a h => h.elim, fun l hl => absurd hl (Nat.not_lt_zero l)⟩, e, fun hv ι' H' X R S => ?_⟩
  · rcases hs with hs | hs
    · rcases hs with hs | ⟨o, hs⟩
      · rcases ho a with z | ⟨o, xs, z⟩
        · rw [hs] at z; cases z
        · rw [hs] at z; cases z
      · exact .inl ⟨o, hs, fun l hl => absurd hl (Nat.not_lt_zero l), fun z => z.elim⟩
    · exact .inr hs
  · cases R
    exact hq H'
end Fd

/-! FdL: the laws' own helpers: start, fill, take. -/
namespace Fd
open PySem PySem.Spec PyProof.Rows L2
theorem len_ok {α : Type} {vs : List α} {n : Nat} (h : vs.length = n) (h2 : n ≤ 1000) : vs.length ≤ sizeLine := by rw [h]; exact Nat.le_of_lt (small1000 h2)
theorem len_le {n : Nat} (h : n ≤ 1000) : n ≤ sizeLine := Nat.le_of_lt (small1000 h)
/-- what the drawing's list holds -/
structure Dr where
  (cells : List Int) (i acc turn : Int)
def Dr.xs (s : Dr) : List PV := [.lst (s.cells.map .int), .int s.i, .int s.acc, .int s.turn, .int 20]
abbrev Dr.ob (s : Dr) : Ob := .lst s.xs
structure Dr.Ok (s : Dr) (n : Nat) : Prop where
  i0 : 0 ≤ s.i
  t0 : 0 ≤ s.turn
  tn : s.turn + n ≤ 2 ^ 60
  cl : s.cells.length ≤ 63
theorem Dr.Ok.le {s : Dr} {n m : Nat} (h : s.Ok n) (hm : m ≤ n) : s.Ok m := ⟨h.i0, h.t0, by have := h.tn; omega, h.cl⟩
section
variable {μ : Sto} {l : Nat} {s : Dr}
theorem dr_get {o o' : Ob} (h : μ[l]? = some o) : (μ.set l o')[l]? = some o' := by
  rw [List.getElem?_set_self]
  exact (List.getElem?_eq_some_iff.mp h).1
theorem dr_ix0 (h : μ[l]? = some s.ob) : f_ix (.loc l) (.int 0) μ = some (.lst (s.cells.map .int), μ) := ix_loc h rfl
theorem dr_ix1 (h : μ[l]? = some s.ob) : f_ix (.loc l) (.int 1) μ = some (.int s.i, μ) := ix_loc h rfl
theorem dr_ix2 (h : μ[l]? = some s.ob) : f_ix (.loc l) (.int 2) μ = some (.int s.acc, μ) := ix_loc h rfl
theorem dr_ix3 (h : μ[l]? = some s.ob) : f_ix (.loc l) (.int 3) μ = some (.int s.turn, μ) := ix_loc h rfl
theorem dr_set1 {v : Int} (h : μ[l]? = some s.ob) : f_set (.loc l) (.int 1) (.int v) μ = some (μ.set l ({ s with i := v } : Dr).ob) := set_loc h rfl rfl
theorem dr_set2 {v : Int} (h : μ[l]? = some s.ob) : f_set (.loc l) (.int 2) (.int v) μ = some (μ.set l ({ s with acc := v } : Dr).ob) := set_loc h rfl rfl
theorem dr_set3 {v : Int} (h : μ[l]? = some s.ob) : f_set (.loc l) (.int 3) (.int v) μ = some (μ.set l ({ s with turn := v } : Dr).ob) := set_loc h rfl rfl
end
theorem lenL {xs : List PV} {μ : Sto} : f_len [.lst xs] μ = some (.int xs.length, μ) := rfl
theorem lenT {xs : List PV} {μ : Sto} : f_len [.tup xs] μ = some (.int xs.length, μ) := rfl

def dFillR : DenS :=
  (sSeq (sIf (tAn (tTru (d2 f_ix (cVar 0) (cK (.int 0)))) (tB1 (d2 f_ge (d2 f_ix (cVar 0) (cK (.int 1))) (dN f_len (aCons (d2 f_ix (cVar 0) (cK (.int 0))) aNil))))) (sAsg (d2 f_add (cVar 1) (d2 f_mod (dN f_int (aCons (d2 f_ix (d2 f_ix (cVar 0) (cK (.int 0))) (d1 f_neg (cK (.int 1)))) aNil)) (cK (.int 1000003)))) (gNm 1)) sNil)
  (sSeq (sAsg (d2 f_mod (dN f_int (aCons (d2 f_add (d2 f_mul (cVar 1) (cK (.int 48271))) (d2 f_mul (d2 f_ix (cVar 0) (cK (.int 3))) (cK (.int 69621)))) aNil)) (cK (.int 2147483647))) (gNm 1))
  (sRet (d2 f_add (d2 f_fdiv (dN f_int (aCons (d2 f_add (d2 f_add (d2 f_mul (cVar 1) (cVar 1)) (d2 f_mul (d2 f_ix (cVar 0) (cK (.int 3))) (cK (.int 7919)))) (cK (.int 11))) aNil)) (cK (.int 64))) (cK (.int 36028797018963968))))))
def dFill : DenS :=
  (sSeq (sAsg (d2 f_add (d2 f_ix (cVar 0) (cK (.int 3))) (cK (.int 1))) (gSb (cVar 0) (cK (.int 3))))
  (sSeq (sAsg (d2 f_add (d2 f_mul (d2 f_ix (cVar 0) (cK (.int 3))) (cK (.int 69621))) (cK (.int 12345))) (gNm 1))
  (sSeq (sIf (tB1 (d2 f_lt (d2 f_ix (cVar 0) (cK (.int 1))) (dN f_len (aCons (d2 f_ix (cVar 0) (cK (.int 0))) aNil)))) (sSeq (sAsg (d2 f_ix (d2 f_ix (cVar 0) (cK (.int 0))) (d2 f_ix (cVar 0) (cK (.int 1)))) (gNm 1))
  (sSeq (sAsg (d2 f_add (d2 f_ix (cVar 0) (cK (.int 1))) (cK (.int 1))) (gSb (cVar 0) (cK (.int 1))))
  (sSeq (sIf (tB1 (d2 f_lt (cVar 1) (cK (.int 0)))) (sAsg (d2 f_sub (d2 f_sub (cK (.int 0)) (cK (.int 1))) (cVar 1)) (gNm 1)) sNil)
  (sIf (tB1 (d2 f_ge (cVar 1) (d2 f_pow (cK (.int 10)) (cK (.int 18))))) (sRet (cVar 1)) sNil)))) sNil)
  dFillR)))
theorem fillR_ok {s : Dr} {n : Nat} {μ : Sto} {l : Nat} {k : Int} (ok : s.Ok n) (h : μ[l]? = some s.ob) (hk : k.natAbs < 2 ^ 100) : ∃ r : Int, dFillR [some (.loc l), some (.int k)] μ = some (.rt (.int r) μ) := by
  have h0 := dr_ix0 h; have h1 := dr_ix1 h; have h3 := dr_ix3 h
  have ht := ok.t0
  have ht2 := ok.tn
  have hi := ok.i0
  have hlen : ((s.cells.map PV.int).length : Int) = s.cells.length := by rw [List.length_map]
  suffices hh : ∃ k' : Int, k'.natAbs < 2 ^ 101 ∧ sIf (tAn (tTru (d2 f_ix (cVar 0) (cK (.int 0)))) (tB1 (d2 f_ge (d2 f_ix (cVar 0) (cK (.int 1))) (dN f_len (aCons (d2 f_ix (cVar 0) (cK (.int 0))) aNil))))) (sAsg (d2 f_add (cVar 1) (d2 f_mod (dN f_int (aCons (d2 f_ix (d2 f_ix (cVar 0) (cK (.int 0))) (d1 f_neg (cK (.int 1)))) aNil)) (cK (.int 1000003)))) (gNm 1)) sNil [some (.loc l), some (.int k)] μ = some (.nx [some (.loc l), some (.int k')] μ) by
    obtain ⟨k', hk', e⟩ := hh
    apply Exists.intro
    apply ev_seq e
    (apply ev_seq; case' ha => ((first | with_reducible apply ev_set | with_reducible apply ev_par | with_reducible apply ev_par3 | with_reducible apply ev_asg | with_reducible apply ev_ex | with_reducible apply ev_ret | with_reducible exact ev_sNil | (with_reducible apply ev_aug; exact rfl)) <;> (repeat' first | (with_reducible apply ev_var; exact rfl) | with_reducible exact ev_K | with_reducible exact h3 | with_reducible exact ev_aNil | with_reducible exact ev_oNo | with_reducible exact ev_tAll | with_reducible exact ev_gsN | with_reducible apply ev_aCons | with_reducible apply ev_d2 | with_reducible apply ev_d1 | with_reducible apply ev_dN | with_reducible apply ev_dCall | with_reducible apply ev_dTup | with_reducible apply ev_dLst | with_reducible apply ev_dLoc | with_reducible apply ev_sl | with_reducible apply ev_oSo | with_reducible apply ev_ch2b | with_reducible apply ev_ch3b | with_reducible apply ev_tB | with_reducible apply ev_tTru | with_reducible apply ev_tNo | with_reducible apply ev_no | with_reducible apply ev_dML | with_reducible apply ev_gTu | with_reducible apply ev_gsC | with_reducible apply ev_gSb | with_reducible apply ev_gNm | (simp only [List.length_cons, List.length_nil]; exact len_le (by decide)) | exact decide_eq_true (by omega) | exact decide_eq_false (by omega) | exact ne_t (by omega) | exact ne_f (by omega) | with_reducible apply lt_ii | with_reducible apply le_ii | with_reducible apply gt_ii | with_reducible apply ge_ii | with_reducible apply eq_ii | with_reducible apply ne_ii | with_reducible apply eq_ss | with_reducible exact add_ii | with_reducible exact sub_ii | with_reducible exact neg_i | with_reducible apply mul_ii | exact okMul_small (by omega) (by omega) | exact mod_ii (by omega) | exact fdiv_ii (by omega) (by omega) | exact mod_ni (by omega) | exact fdiv_ni (by omega) (by omega) | exact pow_ii (by omega) (by omega) (by omega) | with_reducible apply ix_tup | with_reducible apply ix_lst | (simp only [List.set_cons_succ, List.set_cons_zero]; rfl) | exact rfl | exact h3)))
    ((first | with_reducible apply ev_set | with_reducible apply ev_par | with_reducible apply ev_par3 | with_reducible apply ev_asg | with_reducible apply ev_ex | with_reducible apply ev_ret | with_reducible exact ev_sNil | (with_reducible apply ev_aug; exact rfl)) <;> (repeat' first | (with_reducible apply ev_var; exact rfl) | with_reducible exact ev_K | with_reducible exact h3 | with_reducible exact ev_aNil | with_reducible exact ev_oNo | with_reducible exact ev_tAll | with_reducible exact ev_gsN | with_reducible apply ev_aCons | with_reducible apply ev_d2 | with_reducible apply ev_d1 | with_reducible apply ev_dN | with_reducible apply ev_dCall | with_reducible apply ev_dTup | with_reducible apply ev_dLst | with_reducible apply ev_dLoc | with_reducible apply ev_sl | with_reducible apply ev_oSo | with_reducible apply ev_ch2b | with_reducible apply ev_ch3b | with_reducible apply ev_tB | with_reducible apply ev_tTru | with_reducible apply ev_tNo | with_reducible apply ev_no | with_reducible apply ev_dML | with_reducible apply ev_gTu | with_reducible apply ev_gsC | with_reducible apply ev_gSb | with_reducible apply ev_gNm | (simp only [List.length_cons, List.length_nil]; exact len_le (by decide)) | exact decide_eq_true (by omega) | exact decide_eq_false (by omega) | exact ne_t (by omega) | exact ne_f (by omega) | with_reducible apply lt_ii | with_reducible apply le_ii | with_reducible apply gt_ii | with_reducible apply ge_ii | with_reducible apply eq_ii | with_reducible apply ne_ii | with_reducible apply eq_ss | with_reducible exact add_ii | with_reducible exact sub_ii | with_reducible exact neg_i | with_reducible apply mul_ii | exact okMul_small (by omega) (by omega) | exact mod_ii (by omega) | exact fdiv_ii (by omega) (by omega) | exact mod_ni (by omega) | exact fdiv_ni (by omega) (by omega) | exact pow_ii (by omega) (by omega) (by omega) | with_reducible apply ix_tup | with_reducible apply ix_lst | (simp only [List.set_cons_succ, List.set_cons_zero]; rfl) | exact rfl | exact h3))
  by_cases hz : s.cells = []
  · refine ⟨k, by omega, ?_⟩
    apply ev_sIf_f
    case h => exact ev_sNil
    apply ev_tAn_f
    (repeat' first | (with_reducible apply ev_var; exact rfl) | with_reducible exact ev_K | with_reducible exact h0 | with_reducible exact ev_aNil | with_reducible exact ev_oNo | with_reducible exact ev_tAll | with_reducible exact ev_gsN | with_reducible apply ev_aCons | with_reducible apply ev_d2 | with_reducible apply ev_d1 | with_reducible apply ev_dN | with_reducible apply ev_dCall | with_reducible apply ev_dTup | with_reducible apply ev_dLst | with_reducible apply ev_dLoc | with_reducible apply ev_sl | with_reducible apply ev_oSo | with_reducible apply ev_ch2b | with_reducible apply ev_ch3b | with_reducible apply ev_tB | with_reducible apply ev_tTru | with_reducible apply ev_tNo | with_reducible apply ev_no | with_reducible apply ev_dML | with_reducible apply ev_gTu | with_reducible apply ev_gsC | with_reducible apply ev_gSb | with_reducible apply ev_gNm | (simp only [List.length_cons, List.length_nil]; exact len_le (by decide)) | exact decide_eq_true (by omega) | exact decide_eq_false (by omega) | exact ne_t (by omega) | exact ne_f (by omega) | with_reducible apply lt_ii | with_reducible apply le_ii | with_reducible apply gt_ii | with_reducible apply ge_ii | with_reducible apply eq_ii | with_reducible apply ne_ii | with_reducible apply eq_ss | with_reducible exact add_ii | with_reducible exact sub_ii | with_reducible exact neg_i | with_reducible apply mul_ii | exact okMul_small (by omega) (by omega) | exact mod_ii (by omega) | exact fdiv_ii (by omega) (by omega) | exact mod_ni (by omega) | exact fdiv_ni (by omega) (by omega) | exact pow_ii (by omega) (by omega) (by omega) | with_reducible apply ix_tup | with_reducible apply ix_lst | (simp only [List.set_cons_succ, List.set_cons_zero]; rfl) | exact rfl | exact h0)
    show some _ = _
    rw [hz]
    rfl
  · have hb : (!(s.cells.map PV.int).isEmpty) = true := by
      cases e : s.cells with
      | nil => exact absurd e hz
      | cons a r => rfl
    by_cases hg : (s.cells.length : Int) ≤ s.i
    · obtain ⟨z, hzz⟩ : ∃ z : Int, L2.atI (s.cells.map PV.int) (-1) = some (.int z) := by
        have hl : 0 < s.cells.length := List.length_pos_iff.mpr hz
        refine ⟨s.cells[s.cells.length - 1], ?_⟩
        unfold L2.atI
        have : ixN (s.cells.map PV.int).length (-1) = some (s.cells.length - 1) := by
          unfold ixN
          rw [List.length_map]
          rw [if_neg (by omega), if_pos (by omega)]
          congr 1
          omega
        rw [this]
        show (s.cells.map PV.int)[s.cells.length - 1]? = _
        rw [List.getElem?_map, List.getElem?_eq_getElem (by omega)]
        rfl
      have h9 : f_ix (.lst (s.cells.map PV.int)) (.int (-1)) μ = some (.int z, μ) := ix_lst hzz
      refine ⟨k + z % 1000003, by omega, ?_⟩
      apply ev_sIf_t
      case hc =>
        apply ev_tAn_t
        case h => (repeat' first | (with_reducible apply ev_var; exact rfl) | with_reducible exact ev_K | with_reducible exact h0 | with_reducible exact (show some (!(s.cells.map PV.int).isEmpty) = _ from by rw [hb]) | with_reducible exact ev_aNil | with_reducible exact ev_oNo | with_reducible exact ev_tAll | with_reducible exact ev_gsN | with_reducible apply ev_aCons | with_reducible apply ev_d2 | with_reducible apply ev_d1 | with_reducible apply ev_dN | with_reducible apply ev_dCall | with_reducible apply ev_dTup | with_reducible apply ev_dLst | with_reducible apply ev_dLoc | with_reducible apply ev_sl | with_reducible apply ev_oSo | with_reducible apply ev_ch2b | with_reducible apply ev_ch3b | with_reducible apply ev_tB | with_reducible apply ev_tTru | with_reducible apply ev_tNo | with_reducible apply ev_no | with_reducible apply ev_dML | with_reducible apply ev_gTu | with_reducible apply ev_gsC | with_reducible apply ev_gSb | with_reducible apply ev_gNm | (simp only [List.length_cons, List.length_nil]; exact len_le (by decide)) | exact decide_eq_true (by omega) | exact decide_eq_false (by omega) | exact ne_t (by omega) | exact ne_f (by omega) | with_reducible apply lt_ii | with_reducible apply le_ii | with_reducible apply gt_ii | with_reducible apply ge_ii | with_reducible apply eq_ii | with_reducible apply ne_ii | with_reducible apply eq_ss | with_reducible exact add_ii | with_reducible exact sub_ii | with_reducible exact neg_i | with_reducible apply mul_ii | exact okMul_small (by omega) (by omega) | exact mod_ii (by omega) | exact fdiv_ii (by omega) (by omega) | exact mod_ni (by omega) | exact fdiv_ni (by omega) (by omega) | exact pow_ii (by omega) (by omega) (by omega) | with_reducible apply ix_tup | with_reducible apply ix_lst | (simp only [List.set_cons_succ, List.set_cons_zero]; rfl) | exact rfl | exact h0 | exact (show some (!(s.cells.map PV.int).isEmpty) = _ from by rw [hb]))
        (repeat' first | (with_reducible apply ev_var; exact rfl) | with_reducible exact ev_K | with_reducible exact h0 | with_reducible exact h1 | with_reducible exact ev_aNil | with_reducible exact ev_oNo | with_reducible exact ev_tAll | with_reducible exact ev_gsN | with_reducible apply ev_aCons | with_reducible apply ev_d2 | with_reducible apply ev_d1 | with_reducible apply ev_dN | with_reducible apply ev_dCall | with_reducible apply ev_dTup | with_reducible apply ev_dLst | with_reducible apply ev_dLoc | with_reducible apply ev_sl | with_reducible apply ev_oSo | with_reducible apply ev_ch2b | with_reducible apply ev_ch3b | with_reducible apply ev_tB | with_reducible apply ev_tTru | with_reducible apply ev_tNo | with_reducible apply ev_no | with_reducible apply ev_dML | with_reducible apply ev_gTu | with_reducible apply ev_gsC | with_reducible apply ev_gSb | with_reducible apply ev_gNm | (simp only [List.length_cons, List.length_nil]; exact len_le (by decide)) | exact decide_eq_true (by omega) | exact decide_eq_false (by omega) | exact ne_t (by omega) | exact ne_f (by omega) | with_reducible apply lt_ii | with_reducible apply le_ii | with_reducible apply gt_ii | with_reducible apply ge_ii | with_reducible apply eq_ii | with_reducible apply ne_ii | with_reducible apply eq_ss | with_reducible exact add_ii | with_reducible exact sub_ii | with_reducible exact neg_i | with_reducible apply mul_ii | exact okMul_small (by omega) (by omega) | exact mod_ii (by omega) | exact fdiv_ii (by omega) (by omega) | exact mod_ni (by omega) | exact fdiv_ni (by omega) (by omega) | exact pow_ii (by omega) (by omega) (by omega) | with_reducible apply ix_tup | with_reducible apply ix_lst | (simp only [List.set_cons_succ, List.set_cons_zero]; rfl) | exact rfl | exact h0 | exact h1)
      ((first | with_reducible apply ev_set | with_reducible apply ev_par | with_reducible apply ev_par3 | with_reducible apply ev_asg | with_reducible apply ev_ex | with_reducible apply ev_ret | with_reducible exact ev_sNil | (with_reducible apply ev_aug; exact rfl)) <;> (repeat' first | (with_reducible apply ev_var; exact rfl) | with_reducible exact ev_K | with_reducible exact h0 | with_reducible exact h9 | with_reducible exact ev_aNil | with_reducible exact ev_oNo | with_reducible exact ev_tAll | with_reducible exact ev_gsN | with_reducible apply ev_aCons | with_reducible apply ev_d2 | with_reducible apply ev_d1 | with_reducible apply ev_dN | with_reducible apply ev_dCall | with_reducible apply ev_dTup | with_reducible apply ev_dLst | with_reducible apply ev_dLoc | with_reducible apply ev_sl | with_reducible apply ev_oSo | with_reducible apply ev_ch2b | with_reducible apply ev_ch3b | with_reducible apply ev_tB | with_reducible apply ev_tTru | with_reducible apply ev_tNo | with_reducible apply ev_no | with_reducible apply ev_dML | with_reducible apply ev_gTu | with_reducible apply ev_gsC | with_reducible apply ev_gSb | with_reducible apply ev_gNm | (simp only [List.length_cons, List.length_nil]; exact len_le (by decide)) | exact decide_eq_true (by omega) | exact decide_eq_false (by omega) | exact ne_t (by omega) | exact ne_f (by omega) | with_reducible apply lt_ii | with_reducible apply le_ii | with_reducible apply gt_ii | with_reducible apply ge_ii | with_reducible apply eq_ii | with_reducible apply ne_ii | with_reducible apply eq_ss | with_reducible exact add_ii | with_reducible exact sub_ii | with_reducible exact neg_i | with_reducible apply mul_ii | exact okMul_small (by omega) (by omega) | exact mod_ii (by omega) | exact fdiv_ii (by omega) (by omega) | exact mod_ni (by omega) | exact fdiv_ni (by omega) (by omega) | exact pow_ii (by omega) (by omega) (by omega) | with_reducible apply ix_tup | with_reducible apply ix_lst | (simp only [List.set_cons_succ, List.set_cons_zero]; rfl) | exact rfl | exact h0 | exact h9))
    · refine ⟨k, by omega, ?_⟩
      apply ev_sIf_f
      case h => exact ev_sNil
      apply ev_tAn_t
      case h => (repeat' first | (with_reducible apply ev_var; exact rfl) | with_reducible exact ev_K | with_reducible exact h0 | with_reducible exact (show some (!(s.cells.map PV.int).isEmpty) = _ from by rw [hb]) | with_reducible exact ev_aNil | with_reducible exact ev_oNo | with_reducible exact ev_tAll | with_reducible exact ev_gsN | with_reducible apply ev_aCons | with_reducible apply ev_d2 | with_reducible apply ev_d1 | with_reducible apply ev_dN | with_reducible apply ev_dCall | with_reducible apply ev_dTup | with_reducible apply ev_dLst | with_reducible apply ev_dLoc | with_reducible apply ev_sl | with_reducible apply ev_oSo | with_reducible apply ev_ch2b | with_reducible apply ev_ch3b | with_reducible apply ev_tB | with_reducible apply ev_tTru | with_reducible apply ev_tNo | with_reducible apply ev_no | with_reducible apply ev_dML | with_reducible apply ev_gTu | with_reducible apply ev_gsC | with_reducible apply ev_gSb | with_reducible apply ev_gNm | (simp only [List.length_cons, List.length_nil]; exact len_le (by decide)) | exact decide_eq_true (by omega) | exact decide_eq_false (by omega) | exact ne_t (by omega) | exact ne_f (by omega) | with_reducible apply lt_ii | with_reducible apply le_ii | with_reducible apply gt_ii | with_reducible apply ge_ii | with_reducible apply eq_ii | with_reducible apply ne_ii | with_reducible apply eq_ss | with_reducible exact add_ii | with_reducible exact sub_ii | with_reducible exact neg_i | with_reducible apply mul_ii | exact okMul_small (by omega) (by omega) | exact mod_ii (by omega) | exact fdiv_ii (by omega) (by omega) | exact mod_ni (by omega) | exact fdiv_ni (by omega) (by omega) | exact pow_ii (by omega) (by omega) (by omega) | with_reducible apply ix_tup | with_reducible apply ix_lst | (simp only [List.set_cons_succ, List.set_cons_zero]; rfl) | exact rfl | exact h0 | exact (show some (!(s.cells.map PV.int).isEmpty) = _ from by rw [hb]))
      (repeat' first | (with_reducible apply ev_var; exact rfl) | with_reducible exact ev_K | with_reducible exact h0 | with_reducible exact h1 | with_reducible exact ev_aNil | with_reducible exact ev_oNo | with_reducible exact ev_tAll | with_reducible exact ev_gsN | with_reducible apply ev_aCons | with_reducible apply ev_d2 | with_reducible apply ev_d1 | with_reducible apply ev_dN | with_reducible apply ev_dCall | with_reducible apply ev_dTup | with_reducible apply ev_dLst | with_reducible apply ev_dLoc | with_reducible apply ev_sl | with_reducible apply ev_oSo | with_reducible apply ev_ch2b | with_reducible apply ev_ch3b | with_reducible apply ev_tB | with_reducible apply ev_tTru | with_reducible apply ev_tNo | with_reducible apply ev_no | with_reducible apply ev_dML | with_reducible apply ev_gTu | with_reducible apply ev_gsC | with_reducible apply ev_gSb | with_reducible apply ev_gNm | (simp only [List.length_cons, List.length_nil]; exact len_le (by decide)) | exact decide_eq_true (by omega) | exact decide_eq_false (by omega) | exact ne_t (by omega) | exact ne_f (by omega) | with_reducible apply lt_ii | with_reducible apply le_ii | with_reducible apply gt_ii | with_reducible apply ge_ii | with_reducible apply eq_ii | with_reducible apply ne_ii | with_reducible apply eq_ss | with_reducible exact add_ii | with_reducible exact sub_ii | with_reducible exact neg_i | with_reducible apply mul_ii | exact okMul_small (by omega) (by omega) | exact mod_ii (by omega) | exact fdiv_ii (by omega) (by omega) | exact mod_ni (by omega) | exact fdiv_ni (by omega) (by omega) | exact pow_ii (by omega) (by omega) (by omega) | with_reducible apply ix_tup | with_reducible apply ix_lst | (simp only [List.set_cons_succ, List.set_cons_zero]; rfl) | exact rfl | exact h0 | exact h1)
theorem fill_ok {s : Dr} {n : Nat} {μ : Sto} {l : Nat} (ok : s.Ok (n + 1)) (h : μ[l]? = some s.ob) : ∃ (k : Int) (s' : Dr), s'.Ok n ∧ dFill [some (.loc l), none] μ = some (.rt (.int k) (μ.set l s'.ob)) := by
  have h3 := dr_ix3 h
  have ht := ok.t0
  have ht2 := ok.tn
  have hi := ok.i0
  let s1 : Dr := { s with turn := s.turn + 1 }
  have e1 := dr_set3 (v := s.turn + 1) h
  have g1 : (μ.set l s1.ob)[l]? = some s1.ob := dr_get h
  have g10 := dr_ix0 g1; have g11 := dr_ix1 g1; have g13 := dr_ix3 g1
  have ok1 : s1.Ok n := ⟨hi, by show 0 ≤ s.turn + 1; omega, by show s.turn + 1 + n ≤ _; omega, ok.cl⟩
  have hlen : ((s.cells.map PV.int).length : Int) = s.cells.length := by rw [List.length_map]
  have hs1 : s1.turn = s.turn + 1 := rfl
  by_cases hg : s.i < (s.cells.length : Int)
  · obtain ⟨z, hz⟩ : ∃ z : Int, L2.atI (s.cells.map PV.int) s.i = some (.int z) := by
      obtain ⟨m, hm⟩ := Int.eq_ofNat_of_zero_le hi
      rw [hm]
      refine ⟨s.cells[m], atI_nat ?_⟩
      rw [List.getElem?_map, List.getElem?_eq_getElem (by omega)]
      rfl
    have g1z : f_ix (.lst (s1.cells.map PV.int)) (.int s1.i) (μ.set l s1.ob) = some (.int z, μ.set l s1.ob) := ix_lst hz
    let s2 : Dr := { s1 with i := s.i + 1 }
    have e2 : f_set (.loc l) (.int 1) (.int (s1.i + 1)) (μ.set l s1.ob) = some (μ.set l s2.ob) := by
      have := dr_set1 (v := s1.i + 1) g1
      rw [List.set_set] at this
      exact this
    have g2 : (μ.set l s2.ob)[l]? = some s2.ob := dr_get h
    have ok2 : s2.Ok n := ⟨by show 0 ≤ s.i + 1; omega, ok1.t0, ok1.tn, ok1.cl⟩
    have hlt : decide (s1.i < ((s1.cells.map PV.int).length : Int)) = true := decide_eq_true (by rw [List.length_map]; exact hg)
    let k : Int := if z < 0 then 0 - 1 - z else z
    have hpow : ((10 : Int) ^ (18 : Int).toNat) = 1000000000000000000 := by decide
    have step : sIf (tB1 (d2 f_lt (cVar 1) (cK (.int 0)))) (sAsg (d2 f_sub (d2 f_sub (cK (.int 0)) (cK (.int 1))) (cVar 1)) (gNm 1)) sNil [some (.loc l), some (.int z)] (μ.set l s2.ob) = some (.nx [some (.loc l), some (.int k)] (μ.set l s2.ob)) := by
      by_cases hn : z < 0
      · have hk : k = 0 - 1 - z := if_pos hn
        rw [hk]
        (apply ev_sIf_t; case' hc => (repeat' first | (with_reducible apply ev_var; exact rfl) | with_reducible exact ev_K | with_reducible exact ev_aNil | with_reducible exact ev_oNo | with_reducible exact ev_tAll | with_reducible exact ev_gsN | with_reducible apply ev_aCons | with_reducible apply ev_d2 | with_reducible apply ev_d1 | with_reducible apply ev_dN | with_reducible apply ev_dCall | with_reducible apply ev_dTup | with_reducible apply ev_dLst | with_reducible apply ev_dLoc | with_reducible apply ev_sl | with_reducible apply ev_oSo | with_reducible apply ev_ch2b | with_reducible apply ev_ch3b | with_reducible apply ev_tB | with_reducible apply ev_tTru | with_reducible apply ev_tNo | with_reducible apply ev_no | with_reducible apply ev_dML | with_reducible apply ev_gTu | with_reducible apply ev_gsC | with_reducible apply ev_gSb | with_reducible apply ev_gNm | (simp only [List.length_cons, List.length_nil]; exact len_le (by decide)) | exact decide_eq_true (by omega) | exact decide_eq_false (by omega) | exact ne_t (by omega) | exact ne_f (by omega) | with_reducible apply lt_ii | with_reducible apply le_ii | with_reducible apply gt_ii | with_reducible apply ge_ii | with_reducible apply eq_ii | with_reducible apply ne_ii | with_reducible apply eq_ss | with_reducible exact add_ii | with_reducible exact sub_ii | with_reducible exact neg_i | with_reducible apply mul_ii | exact okMul_small (by omega) (by omega) | exact mod_ii (by omega) | exact fdiv_ii (by omega) (by omega) | exact mod_ni (by omega) | exact fdiv_ni (by omega) (by omega) | exact pow_ii (by omega) (by omega) (by omega) | with_reducible apply ix_tup | with_reducible apply ix_lst | (simp only [List.set_cons_succ, List.set_cons_zero]; rfl) | exact rfl))
        ((first | with_reducible apply ev_set | with_reducible apply ev_par | with_reducible apply ev_par3 | with_reducible apply ev_asg | with_reducible apply ev_ex | with_reducible apply ev_ret | with_reducible exact ev_sNil | (with_reducible apply ev_aug; exact rfl)) <;> (repeat' first | (with_reducible apply ev_var; exact rfl) | with_reducible exact ev_K | with_reducible exact ev_aNil | with_reducible exact ev_oNo | with_reducible exact ev_tAll | with_reducible exact ev_gsN | with_reducible apply ev_aCons | with_reducible apply ev_d2 | with_reducible apply ev_d1 | with_reducible apply ev_dN | with_reducible apply ev_dCall | with_reducible apply ev_dTup | with_reducible apply ev_dLst | with_reducible apply ev_dLoc | with_reducible apply ev_sl | with_reducible apply ev_oSo | with_reducible apply ev_ch2b | with_reducible apply ev_ch3b | with_reducible apply ev_tB | with_reducible apply ev_tTru | with_reducible apply ev_tNo | with_reducible apply ev_no | with_reducible apply ev_dML | with_reducible apply ev_gTu | with_reducible apply ev_gsC | with_reducible apply ev_gSb | with_reducible apply ev_gNm | (simp only [List.length_cons, List.length_nil]; exact len_le (by decide)) | exact decide_eq_true (by omega) | exact decide_eq_false (by omega) | exact ne_t (by omega) | exact ne_f (by omega) | with_reducible apply lt_ii | with_reducible apply le_ii | with_reducible apply gt_ii | with_reducible apply ge_ii | with_reducible apply eq_ii | with_reducible apply ne_ii | with_reducible apply eq_ss | with_reducible exact add_ii | with_reducible exact sub_ii | with_reducible exact neg_i | with_reducible apply mul_ii | exact okMul_small (by omega) (by omega) | exact mod_ii (by omega) | exact fdiv_ii (by omega) (by omega) | exact mod_ni (by omega) | exact fdiv_ni (by omega) (by omega) | exact pow_ii (by omega) (by omega) (by omega) | with_reducible apply ix_tup | with_reducible apply ix_lst | (simp only [List.set_cons_succ, List.set_cons_zero]; rfl) | exact rfl))
      · have hk : k = z := if_neg hn
        rw [hk]
        (apply ev_sIf_f; case' hc => (repeat' first | (with_reducible apply ev_var; exact rfl) | with_reducible exact ev_K | with_reducible exact ev_aNil | with_reducible exact ev_oNo | with_reducible exact ev_tAll | with_reducible exact ev_gsN | with_reducible apply ev_aCons | with_reducible apply ev_d2 | with_reducible apply ev_d1 | with_reducible apply ev_dN | with_reducible apply ev_dCall | with_reducible apply ev_dTup | with_reducible apply ev_dLst | with_reducible apply ev_dLoc | with_reducible apply ev_sl | with_reducible apply ev_oSo | with_reducible apply ev_ch2b | with_reducible apply ev_ch3b | with_reducible apply ev_tB | with_reducible apply ev_tTru | with_reducible apply ev_tNo | with_reducible apply ev_no | with_reducible apply ev_dML | with_reducible apply ev_gTu | with_reducible apply ev_gsC | with_reducible apply ev_gSb | with_reducible apply ev_gNm | (simp only [List.length_cons, List.length_nil]; exact len_le (by decide)) | exact decide_eq_true (by omega) | exact decide_eq_false (by omega) | exact ne_t (by omega) | exact ne_f (by omega) | with_reducible apply lt_ii | with_reducible apply le_ii | with_reducible apply gt_ii | with_reducible apply ge_ii | with_reducible apply eq_ii | with_reducible apply ne_ii | with_reducible apply eq_ss | with_reducible exact add_ii | with_reducible exact sub_ii | with_reducible exact neg_i | with_reducible apply mul_ii | exact okMul_small (by omega) (by omega) | exact mod_ii (by omega) | exact fdiv_ii (by omega) (by omega) | exact mod_ni (by omega) | exact fdiv_ni (by omega) (by omega) | exact pow_ii (by omega) (by omega) (by omega) | with_reducible apply ix_tup | with_reducible apply ix_lst | (simp only [List.set_cons_succ, List.set_cons_zero]; rfl) | exact rfl))
        ((first | with_reducible apply ev_set | with_reducible apply ev_par | with_reducible apply ev_par3 | with_reducible apply ev_asg | with_reducible apply ev_ex | with_reducible apply ev_ret | with_reducible exact ev_sNil | (with_reducible apply ev_aug; exact rfl)) <;> (repeat' first | (with_reducible apply ev_var; exact rfl) | with_reducible exact ev_K | with_reducible exact ev_aNil | with_reducible exact ev_oNo | with_reducible exact ev_tAll | with_reducible exact ev_gsN | with_reducible apply ev_aCons | with_reducible apply ev_d2 | with_reducible apply ev_d1 | with_reducible apply ev_dN | with_reducible apply ev_dCall | with_reducible apply ev_dTup | with_reducible apply ev_dLst | with_reducible apply ev_dLoc | with_reducible apply ev_sl | with_reducible apply ev_oSo | with_reducible apply ev_ch2b | with_reducible apply ev_ch3b | with_reducible apply ev_tB | with_reducible apply ev_tTru | with_reducible apply ev_tNo | with_reducible apply ev_no | with_reducible apply ev_dML | with_reducible apply ev_gTu | with_reducible apply ev_gsC | with_reducible apply ev_gSb | with_reducible apply ev_gNm | (simp only [List.length_cons, List.length_nil]; exact len_le (by decide)) | exact decide_eq_true (by omega) | exact decide_eq_false (by omega) | exact ne_t (by omega) | exact ne_f (by omega) | with_reducible apply lt_ii | with_reducible apply le_ii | with_reducible apply gt_ii | with_reducible apply ge_ii | with_reducible apply eq_ii | with_reducible apply ne_ii | with_reducible apply eq_ss | with_reducible exact add_ii | with_reducible exact sub_ii | with_reducible exact neg_i | with_reducible apply mul_ii | exact okMul_small (by omega) (by omega) | exact mod_ii (by omega) | exact fdiv_ii (by omega) (by omega) | exact mod_ni (by omega) | exact fdiv_ni (by omega) (by omega) | exact pow_ii (by omega) (by omega) (by omega) | with_reducible apply ix_tup | with_reducible apply ix_lst | (simp only [List.set_cons_succ, List.set_cons_zero]; rfl) | exact rfl))
    by_cases hb : 1000000000000000000 ≤ k
    · refine ⟨k, s2, ok2, ?_⟩
      (apply ev_seq; case' ha => ((first | with_reducible apply ev_set | with_reducible apply ev_par | with_reducible apply ev_par3 | with_reducible apply ev_asg | with_reducible apply ev_ex | with_reducible apply ev_ret | with_reducible exact ev_sNil | (with_reducible apply ev_aug; exact rfl)) <;> (repeat' first | (with_reducible apply ev_var; exact rfl) | with_reducible exact ev_K | with_reducible exact h3 | with_reducible exact e1 | with_reducible exact ev_aNil | with_reducible exact ev_oNo | with_reducible exact ev_tAll | with_reducible exact ev_gsN | with_reducible apply ev_aCons | with_reducible apply ev_d2 | with_reducible apply ev_d1 | with_reducible apply ev_dN | with_reducible apply ev_dCall | with_reducible apply ev_dTup | with_reducible apply ev_dLst | with_reducible apply ev_dLoc | with_reducible apply ev_sl | with_reducible apply ev_oSo | with_reducible apply ev_ch2b | with_reducible apply ev_ch3b | with_reducible apply ev_tB | with_reducible apply ev_tTru | with_reducible apply ev_tNo | with_reducible apply ev_no | with_reducible apply ev_dML | with_reducible apply ev_gTu | with_reducible apply ev_gsC | with_reducible apply ev_gSb | with_reducible apply ev_gNm | (simp only [List.length_cons, List.length_nil]; exact len_le (by decide)) | exact decide_eq_true (by omega) | exact decide_eq_false (by omega) | exact ne_t (by omega) | exact ne_f (by omega) | with_reducible apply lt_ii | with_reducible apply le_ii | with_reducible apply gt_ii | with_reducible apply ge_ii | with_reducible apply eq_ii | with_reducible apply ne_ii | with_reducible apply eq_ss | with_reducible exact add_ii | with_reducible exact sub_ii | with_reducible exact neg_i | with_reducible apply mul_ii | exact okMul_small (by omega) (by omega) | exact mod_ii (by omega) | exact fdiv_ii (by omega) (by omega) | exact mod_ni (by omega) | exact fdiv_ni (by omega) (by omega) | exact pow_ii (by omega) (by omega) (by omega) | with_reducible apply ix_tup | with_reducible apply ix_lst | (simp only [List.set_cons_succ, List.set_cons_zero]; rfl) | exact rfl | exact h3 | exact e1)))
      (apply ev_seq; case' ha => ((first | with_reducible apply ev_set | with_reducible apply ev_par | with_reducible apply ev_par3 | with_reducible apply ev_asg | with_reducible apply ev_ex | with_reducible apply ev_ret | with_reducible exact ev_sNil | (with_reducible apply ev_aug; exact rfl)) <;> (repeat' first | (with_reducible apply ev_var; exact rfl) | with_reducible exact ev_K | with_reducible exact g13 | with_reducible exact ev_aNil | with_reducible exact ev_oNo | with_reducible exact ev_tAll | with_reducible exact ev_gsN | with_reducible apply ev_aCons | with_reducible apply ev_d2 | with_reducible apply ev_d1 | with_reducible apply ev_dN | with_reducible apply ev_dCall | with_reducible apply ev_dTup | with_reducible apply ev_dLst | with_reducible apply ev_dLoc | with_reducible apply ev_sl | with_reducible apply ev_oSo | with_reducible apply ev_ch2b | with_reducible apply ev_ch3b | with_reducible apply ev_tB | with_reducible apply ev_tTru | with_reducible apply ev_tNo | with_reducible apply ev_no | with_reducible apply ev_dML | with_reducible apply ev_gTu | with_reducible apply ev_gsC | with_reducible apply ev_gSb | with_reducible apply ev_gNm | (simp only [List.length_cons, List.length_nil]; exact len_le (by decide)) | exact decide_eq_true (by omega) | exact decide_eq_false (by omega) | exact ne_t (by omega) | exact ne_f (by omega) | with_reducible apply lt_ii | with_reducible apply le_ii | with_reducible apply gt_ii | with_reducible apply ge_ii | with_reducible apply eq_ii | with_reducible apply ne_ii | with_reducible apply eq_ss | with_reducible exact add_ii | with_reducible exact sub_ii | with_reducible exact neg_i | with_reducible apply mul_ii | exact okMul_small (by omega) (by omega) | exact mod_ii (by omega) | exact fdiv_ii (by omega) (by omega) | exact mod_ni (by omega) | exact fdiv_ni (by omega) (by omega) | exact pow_ii (by omega) (by omega) (by omega) | with_reducible apply ix_tup | with_reducible apply ix_lst | (simp only [List.set_cons_succ, List.set_cons_zero]; rfl) | exact rfl | exact g13)))
      apply ev_seq_rt
      (apply ev_sIf_t; case' hc => (repeat' first | (with_reducible apply ev_var; exact rfl) | with_reducible exact ev_K | with_reducible exact g10 | with_reducible exact g11 | with_reducible exact hlt | with_reducible exact lenL | with_reducible exact ev_aNil | with_reducible exact ev_oNo | with_reducible exact ev_tAll | with_reducible exact ev_gsN | with_reducible apply ev_aCons | with_reducible apply ev_d2 | with_reducible apply ev_d1 | with_reducible apply ev_dN | with_reducible apply ev_dCall | with_reducible apply ev_dTup | with_reducible apply ev_dLst | with_reducible apply ev_dLoc | with_reducible apply ev_sl | with_reducible apply ev_oSo | with_reducible apply ev_ch2b | with_reducible apply ev_ch3b | with_reducible apply ev_tB | with_reducible apply ev_tTru | with_reducible apply ev_tNo | with_reducible apply ev_no | with_reducible apply ev_dML | with_reducible apply ev_gTu | with_reducible apply ev_gsC | with_reducible apply ev_gSb | with_reducible apply ev_gNm | (simp only [List.length_cons, List.length_nil]; exact len_le (by decide)) | exact decide_eq_true (by omega) | exact decide_eq_false (by omega) | exact ne_t (by omega) | exact ne_f (by omega) | with_reducible apply lt_ii | with_reducible apply le_ii | with_reducible apply gt_ii | with_reducible apply ge_ii | with_reducible apply eq_ii | with_reducible apply ne_ii | with_reducible apply eq_ss | with_reducible exact add_ii | with_reducible exact sub_ii | with_reducible exact neg_i | with_reducible apply mul_ii | exact okMul_small (by omega) (by omega) | exact mod_ii (by omega) | exact fdiv_ii (by omega) (by omega) | exact mod_ni (by omega) | exact fdiv_ni (by omega) (by omega) | exact pow_ii (by omega) (by omega) (by omega) | with_reducible apply ix_tup | with_reducible apply ix_lst | (simp only [List.set_cons_succ, List.set_cons_zero]; rfl) | exact rfl | exact g10 | exact g11 | exact hlt | exact lenL))
      (apply ev_seq; case' ha => ((first | with_reducible apply ev_set | with_reducible apply ev_par | with_reducible apply ev_par3 | with_reducible apply ev_asg | with_reducible apply ev_ex | with_reducible apply ev_ret | with_reducible exact ev_sNil | (with_reducible apply ev_aug; exact rfl)) <;> (repeat' first | (with_reducible apply ev_var; exact rfl) | with_reducible exact ev_K | with_reducible exact g10 | with_reducible exact g11 | with_reducible exact g1z | with_reducible exact ev_aNil | with_reducible exact ev_oNo | with_reducible exact ev_tAll | with_reducible exact ev_gsN | with_reducible apply ev_aCons | with_reducible apply ev_d2 | with_reducible apply ev_d1 | with_reducible apply ev_dN | with_reducible apply ev_dCall | with_reducible apply ev_dTup | with_reducible apply ev_dLst | with_reducible apply ev_dLoc | with_reducible apply ev_sl | with_reducible apply ev_oSo | with_reducible apply ev_ch2b | with_reducible apply ev_ch3b | with_reducible apply ev_tB | with_reducible apply ev_tTru | with_reducible apply ev_tNo | with_reducible apply ev_no | with_reducible apply ev_dML | with_reducible apply ev_gTu | with_reducible apply ev_gsC | with_reducible apply ev_gSb | with_reducible apply ev_gNm | (simp only [List.length_cons, List.length_nil]; exact len_le (by decide)) | exact decide_eq_true (by omega) | exact decide_eq_false (by omega) | exact ne_t (by omega) | exact ne_f (by omega) | with_reducible apply lt_ii | with_reducible apply le_ii | with_reducible apply gt_ii | with_reducible apply ge_ii | with_reducible apply eq_ii | with_reducible apply ne_ii | with_reducible apply eq_ss | with_reducible exact add_ii | with_reducible exact sub_ii | with_reducible exact neg_i | with_reducible apply mul_ii | exact okMul_small (by omega) (by omega) | exact mod_ii (by omega) | exact fdiv_ii (by omega) (by omega) | exact mod_ni (by omega) | exact fdiv_ni (by omega) (by omega) | exact pow_ii (by omega) (by omega) (by omega) | with_reducible apply ix_tup | with_reducible apply ix_lst | (simp only [List.set_cons_succ, List.set_cons_zero]; rfl) | exact rfl | exact g10 | exact g11 | exact g1z)))
      (apply ev_seq; case' ha => ((first | with_reducible apply ev_set | with_reducible apply ev_par | with_reducible apply ev_par3 | with_reducible apply ev_asg | with_reducible apply ev_ex | with_reducible apply ev_ret | with_reducible exact ev_sNil | (with_reducible apply ev_aug; exact rfl)) <;> (repeat' first | (with_reducible apply ev_var; exact rfl) | with_reducible exact ev_K | with_reducible exact g11 | with_reducible exact e2 | with_reducible exact ev_aNil | with_reducible exact ev_oNo | with_reducible exact ev_tAll | with_reducible exact ev_gsN | with_reducible apply ev_aCons | with_reducible apply ev_d2 | with_reducible apply ev_d1 | with_reducible apply ev_dN | with_reducible apply ev_dCall | with_reducible apply ev_dTup | with_reducible apply ev_dLst | with_reducible apply ev_dLoc | with_reducible apply ev_sl | with_reducible apply ev_oSo | with_reducible apply ev_ch2b | with_reducible apply ev_ch3b | with_reducible apply ev_tB | with_reducible apply ev_tTru | with_reducible apply ev_tNo | with_reducible apply ev_no | with_reducible apply ev_dML | with_reducible apply ev_gTu | with_reducible apply ev_gsC | with_reducible apply ev_gSb | with_reducible apply ev_gNm | (simp only [List.length_cons, List.length_nil]; exact len_le (by decide)) | exact decide_eq_true (by omega) | exact decide_eq_false (by omega) | exact ne_t (by omega) | exact ne_f (by omega) | with_reducible apply lt_ii | with_reducible apply le_ii | with_reducible apply gt_ii | with_reducible apply ge_ii | with_reducible apply eq_ii | with_reducible apply ne_ii | with_reducible apply eq_ss | with_reducible exact add_ii | with_reducible exact sub_ii | with_reducible exact neg_i | with_reducible apply mul_ii | exact okMul_small (by omega) (by omega) | exact mod_ii (by omega) | exact fdiv_ii (by omega) (by omega) | exact mod_ni (by omega) | exact fdiv_ni (by omega) (by omega) | exact pow_ii (by omega) (by omega) (by omega) | with_reducible apply ix_tup | with_reducible apply ix_lst | (simp only [List.set_cons_succ, List.set_cons_zero]; rfl) | exact rfl | exact g11 | exact e2)))
      apply ev_seq step
      apply ev_sIf_t
      case hc => (repeat' first | (with_reducible apply ev_var; exact rfl) | with_reducible exact ev_K | with_reducible exact decide_eq_true (by rw [hpow]; omega) | with_reducible exact ev_aNil | with_reducible exact ev_oNo | with_reducible exact ev_tAll | with_reducible exact ev_gsN | with_reducible apply ev_aCons | with_reducible apply ev_d2 | with_reducible apply ev_d1 | with_reducible apply ev_dN | with_reducible apply ev_dCall | with_reducible apply ev_dTup | with_reducible apply ev_dLst | with_reducible apply ev_dLoc | with_reducible apply ev_sl | with_reducible apply ev_oSo | with_reducible apply ev_ch2b | with_reducible apply ev_ch3b | with_reducible apply ev_tB | with_reducible apply ev_tTru | with_reducible apply ev_tNo | with_reducible apply ev_no | with_reducible apply ev_dML | with_reducible apply ev_gTu | with_reducible apply ev_gsC | with_reducible apply ev_gSb | with_reducible apply ev_gNm | (simp only [List.length_cons, List.length_nil]; exact len_le (by decide)) | exact decide_eq_true (by omega) | exact decide_eq_false (by omega) | exact ne_t (by omega) | exact ne_f (by omega) | with_reducible apply lt_ii | with_reducible apply le_ii | with_reducible apply gt_ii | with_reducible apply ge_ii | with_reducible apply eq_ii | with_reducible apply ne_ii | with_reducible apply eq_ss | with_reducible exact add_ii | with_reducible exact sub_ii | with_reducible exact neg_i | with_reducible apply mul_ii | exact okMul_small (by omega) (by omega) | exact mod_ii (by omega) | exact fdiv_ii (by omega) (by omega) | exact mod_ni (by omega) | exact fdiv_ni (by omega) (by omega) | exact pow_ii (by omega) (by omega) (by omega) | with_reducible apply ix_tup | with_reducible apply ix_lst | (simp only [List.set_cons_succ, List.set_cons_zero]; rfl) | exact rfl | exact decide_eq_true (by rw [hpow]; omega))
      ((first | with_reducible apply ev_set | with_reducible apply ev_par | with_reducible apply ev_par3 | with_reducible apply ev_asg | with_reducible apply ev_ex | with_reducible apply ev_ret | with_reducible exact ev_sNil | (with_reducible apply ev_aug; exact rfl)) <;> (repeat' first | (with_reducible apply ev_var; exact rfl) | with_reducible exact ev_K | with_reducible exact ev_aNil | with_reducible exact ev_oNo | with_reducible exact ev_tAll | with_reducible exact ev_gsN | with_reducible apply ev_aCons | with_reducible apply ev_d2 | with_reducible apply ev_d1 | with_reducible apply ev_dN | with_reducible apply ev_dCall | with_reducible apply ev_dTup | with_reducible apply ev_dLst | with_reducible apply ev_dLoc | with_reducible apply ev_sl | with_reducible apply ev_oSo | with_reducible apply ev_ch2b | with_reducible apply ev_ch3b | with_reducible apply ev_tB | with_reducible apply ev_tTru | with_reducible apply ev_tNo | with_reducible apply ev_no | with_reducible apply ev_dML | with_reducible apply ev_gTu | with_reducible apply ev_gsC | with_reducible apply ev_gSb | with_reducible apply ev_gNm | (simp only [List.length_cons, List.length_nil]; exact len_le (by decide)) | exact decide_eq_true (by omega) | exact decide_eq_false (by omega) | exact ne_t (by omega) | exact ne_f (by omega) | with_reducible apply lt_ii | with_reducible apply le_ii | with_reducible apply gt_ii | with_reducible apply ge_ii | with_reducible apply eq_ii | with_reducible apply ne_ii | with_reducible apply eq_ss | with_reducible exact add_ii | with_reducible exact sub_ii | with_reducible exact neg_i | with_reducible apply mul_ii | exact okMul_small (by omega) (by omega) | exact mod_ii (by omega) | exact fdiv_ii (by omega) (by omega) | exact mod_ni (by omega) | exact fdiv_ni (by omega) (by omega) | exact pow_ii (by omega) (by omega) (by omega) | with_reducible apply ix_tup | with_reducible apply ix_lst | (simp only [List.set_cons_succ, List.set_cons_zero]; rfl) | exact rfl))
    · have hk : k.natAbs < 2 ^ 100 := by
        show (if z < 0 then 0 - 1 - z else z).natAbs < _
        have hb : ¬ 1000000000000000000 ≤ (if z < 0 then 0 - 1 - z else z) := hb
        split at hb <;> split <;> omega
      obtain ⟨r, hr⟩ := fillR_ok ok2 g2 hk
      refine ⟨r, s2, ok2, ?_⟩
      (apply ev_seq; case' ha => ((first | with_reducible apply ev_set | with_reducible apply ev_par | with_reducible apply ev_par3 | with_reducible apply ev_asg | with_reducible apply ev_ex | with_reducible apply ev_ret | with_reducible exact ev_sNil | (with_reducible apply ev_aug; exact rfl)) <;> (repeat' first | (with_reducible apply ev_var; exact rfl) | with_reducible exact ev_K | with_reducible exact h3 | with_reducible exact e1 | with_reducible exact ev_aNil | with_reducible exact ev_oNo | with_reducible exact ev_tAll | with_reducible exact ev_gsN | with_reducible apply ev_aCons | with_reducible apply ev_d2 | with_reducible apply ev_d1 | with_reducible apply ev_dN | with_reducible apply ev_dCall | with_reducible apply ev_dTup | with_reducible apply ev_dLst | with_reducible apply ev_dLoc | with_reducible apply ev_sl | with_reducible apply ev_oSo | with_reducible apply ev_ch2b | with_reducible apply ev_ch3b | with_reducible apply ev_tB | with_reducible apply ev_tTru | with_reducible apply ev_tNo | with_reducible apply ev_no | with_reducible apply ev_dML | with_reducible apply ev_gTu | with_reducible apply ev_gsC | with_reducible apply ev_gSb | with_reducible apply ev_gNm | (simp only [List.length_cons, List.length_nil]; exact len_le (by decide)) | exact decide_eq_true (by omega) | exact decide_eq_false (by omega) | exact ne_t (by omega) | exact ne_f (by omega) | with_reducible apply lt_ii | with_reducible apply le_ii | with_reducible apply gt_ii | with_reducible apply ge_ii | with_reducible apply eq_ii | with_reducible apply ne_ii | with_reducible apply eq_ss | with_reducible exact add_ii | with_reducible exact sub_ii | with_reducible exact neg_i | with_reducible apply mul_ii | exact okMul_small (by omega) (by omega) | exact mod_ii (by omega) | exact fdiv_ii (by omega) (by omega) | exact mod_ni (by omega) | exact fdiv_ni (by omega) (by omega) | exact pow_ii (by omega) (by omega) (by omega) | with_reducible apply ix_tup | with_reducible apply ix_lst | (simp only [List.set_cons_succ, List.set_cons_zero]; rfl) | exact rfl | exact h3 | exact e1)))
      (apply ev_seq; case' ha => ((first | with_reducible apply ev_set | with_reducible apply ev_par | with_reducible apply ev_par3 | with_reducible apply ev_asg | with_reducible apply ev_ex | with_reducible apply ev_ret | with_reducible exact ev_sNil | (with_reducible apply ev_aug; exact rfl)) <;> (repeat' first | (with_reducible apply ev_var; exact rfl) | with_reducible exact ev_K | with_reducible exact g13 | with_reducible exact ev_aNil | with_reducible exact ev_oNo | with_reducible exact ev_tAll | with_reducible exact ev_gsN | with_reducible apply ev_aCons | with_reducible apply ev_d2 | with_reducible apply ev_d1 | with_reducible apply ev_dN | with_reducible apply ev_dCall | with_reducible apply ev_dTup | with_reducible apply ev_dLst | with_reducible apply ev_dLoc | with_reducible apply ev_sl | with_reducible apply ev_oSo | with_reducible apply ev_ch2b | with_reducible apply ev_ch3b | with_reducible apply ev_tB | with_reducible apply ev_tTru | with_reducible apply ev_tNo | with_reducible apply ev_no | with_reducible apply ev_dML | with_reducible apply ev_gTu | with_reducible apply ev_gsC | with_reducible apply ev_gSb | with_reducible apply ev_gNm | (simp only [List.length_cons, List.length_nil]; exact len_le (by decide)) | exact decide_eq_true (by omega) | exact decide_eq_false (by omega) | exact ne_t (by omega) | exact ne_f (by omega) | with_reducible apply lt_ii | with_reducible apply le_ii | with_reducible apply gt_ii | with_reducible apply ge_ii | with_reducible apply eq_ii | with_reducible apply ne_ii | with_reducible apply eq_ss | with_reducible exact add_ii | with_reducible exact sub_ii | with_reducible exact neg_i | with_reducible apply mul_ii | exact okMul_small (by omega) (by omega) | exact mod_ii (by omega) | exact fdiv_ii (by omega) (by omega) | exact mod_ni (by omega) | exact fdiv_ni (by omega) (by omega) | exact pow_ii (by omega) (by omega) (by omega) | with_reducible apply ix_tup | with_reducible apply ix_lst | (simp only [List.set_cons_succ, List.set_cons_zero]; rfl) | exact rfl | exact g13)))
      apply ev_seq
      case hb => exact hr
      (apply ev_sIf_t; case' hc => (repeat' first | (with_reducible apply ev_var; exact rfl) | with_reducible exact ev_K | with_reducible exact g10 | with_reducible exact g11 | with_reducible exact hlt | with_reducible exact lenL | with_reducible exact ev_aNil | with_reducible exact ev_oNo | with_reducible exact ev_tAll | with_reducible exact ev_gsN | with_reducible apply ev_aCons | with_reducible apply ev_d2 | with_reducible apply ev_d1 | with_reducible apply ev_dN | with_reducible apply ev_dCall | with_reducible apply ev_dTup | with_reducible apply ev_dLst | with_reducible apply ev_dLoc | with_reducible apply ev_sl | with_reducible apply ev_oSo | with_reducible apply ev_ch2b | with_reducible apply ev_ch3b | with_reducible apply ev_tB | with_reducible apply ev_tTru | with_reducible apply ev_tNo | with_reducible apply ev_no | with_reducible apply ev_dML | with_reducible apply ev_gTu | with_reducible apply ev_gsC | with_reducible apply ev_gSb | with_reducible apply ev_gNm | (simp only [List.length_cons, List.length_nil]; exact len_le (by decide)) | exact decide_eq_true (by omega) | exact decide_eq_false (by omega) | exact ne_t (by omega) | exact ne_f (by omega) | with_reducible apply lt_ii | with_reducible apply le_ii | with_reducible apply gt_ii | with_reducible apply ge_ii | with_reducible apply eq_ii | with_reducible apply ne_ii | with_reducible apply eq_ss | with_reducible exact add_ii | with_reducible exact sub_ii | with_reducible exact neg_i | with_reducible apply mul_ii | exact okMul_small (by omega) (by omega) | exact mod_ii (by omega) | exact fdiv_ii (by omega) (by omega) | exact mod_ni (by omega) | exact fdiv_ni (by omega) (by omega) | exact pow_ii (by omega) (by omega) (by omega) | with_reducible apply ix_tup | with_reducible apply ix_lst | (simp only [List.set_cons_succ, List.set_cons_zero]; rfl) | exact rfl | exact g10 | exact g11 | exact hlt | exact lenL))
      (apply ev_seq; case' ha => ((first | with_reducible apply ev_set | with_reducible apply ev_par | with_reducible apply ev_par3 | with_reducible apply ev_asg | with_reducible apply ev_ex | with_reducible apply ev_ret | with_reducible exact ev_sNil | (with_reducible apply ev_aug; exact rfl)) <;> (repeat' first | (with_reducible apply ev_var; exact rfl) | with_reducible exact ev_K | with_reducible exact g10 | with_reducible exact g11 | with_reducible exact g1z | with_reducible exact ev_aNil | with_reducible exact ev_oNo | with_reducible exact ev_tAll | with_reducible exact ev_gsN | with_reducible apply ev_aCons | with_reducible apply ev_d2 | with_reducible apply ev_d1 | with_reducible apply ev_dN | with_reducible apply ev_dCall | with_reducible apply ev_dTup | with_reducible apply ev_dLst | with_reducible apply ev_dLoc | with_reducible apply ev_sl | with_reducible apply ev_oSo | with_reducible apply ev_ch2b | with_reducible apply ev_ch3b | with_reducible apply ev_tB | with_reducible apply ev_tTru | with_reducible apply ev_tNo | with_reducible apply ev_no | with_reducible apply ev_dML | with_reducible apply ev_gTu | with_reducible apply ev_gsC | with_reducible apply ev_gSb | with_reducible apply ev_gNm | (simp only [List.length_cons, List.length_nil]; exact len_le (by decide)) | exact decide_eq_true (by omega) | exact decide_eq_false (by omega) | exact ne_t (by omega) | exact ne_f (by omega) | with_reducible apply lt_ii | with_reducible apply le_ii | with_reducible apply gt_ii | with_reducible apply ge_ii | with_reducible apply eq_ii | with_reducible apply ne_ii | with_reducible apply eq_ss | with_reducible exact add_ii | with_reducible exact sub_ii | with_reducible exact neg_i | with_reducible apply mul_ii | exact okMul_small (by omega) (by omega) | exact mod_ii (by omega) | exact fdiv_ii (by omega) (by omega) | exact mod_ni (by omega) | exact fdiv_ni (by omega) (by omega) | exact pow_ii (by omega) (by omega) (by omega) | with_reducible apply ix_tup | with_reducible apply ix_lst | (simp only [List.set_cons_succ, List.set_cons_zero]; rfl) | exact rfl | exact g10 | exact g11 | exact g1z)))
      (apply ev_seq; case' ha => ((first | with_reducible apply ev_set | with_reducible apply ev_par | with_reducible apply ev_par3 | with_reducible apply ev_asg | with_reducible apply ev_ex | with_reducible apply ev_ret | with_reducible exact ev_sNil | (with_reducible apply ev_aug; exact rfl)) <;> (repeat' first | (with_reducible apply ev_var; exact rfl) | with_reducible exact ev_K | with_reducible exact g11 | with_reducible exact e2 | with_reducible exact ev_aNil | with_reducible exact ev_oNo | with_reducible exact ev_tAll | with_reducible exact ev_gsN | with_reducible apply ev_aCons | with_reducible apply ev_d2 | with_reducible apply ev_d1 | with_reducible apply ev_dN | with_reducible apply ev_dCall | with_reducible apply ev_dTup | with_reducible apply ev_dLst | with_reducible apply ev_dLoc | with_reducible apply ev_sl | with_reducible apply ev_oSo | with_reducible apply ev_ch2b | with_reducible apply ev_ch3b | with_reducible apply ev_tB | with_reducible apply ev_tTru | with_reducible apply ev_tNo | with_reducible apply ev_no | with_reducible apply ev_dML | with_reducible apply ev_gTu | with_reducible apply ev_gsC | with_reducible apply ev_gSb | with_reducible apply ev_gNm | (simp only [List.length_cons, List.length_nil]; exact len_le (by decide)) | exact decide_eq_true (by omega) | exact decide_eq_false (by omega) | exact ne_t (by omega) | exact ne_f (by omega) | with_reducible apply lt_ii | with_reducible apply le_ii | with_reducible apply gt_ii | with_reducible apply ge_ii | with_reducible apply eq_ii | with_reducible apply ne_ii | with_reducible apply eq_ss | with_reducible exact add_ii | with_reducible exact sub_ii | with_reducible exact neg_i | with_reducible apply mul_ii | exact okMul_small (by omega) (by omega) | exact mod_ii (by omega) | exact fdiv_ii (by omega) (by omega) | exact mod_ni (by omega) | exact fdiv_ni (by omega) (by omega) | exact pow_ii (by omega) (by omega) (by omega) | with_reducible apply ix_tup | with_reducible apply ix_lst | (simp only [List.set_cons_succ, List.set_cons_zero]; rfl) | exact rfl | exact g11 | exact e2)))
      apply ev_seq step
      apply ev_sIf_f
      case hc => (repeat' first | (with_reducible apply ev_var; exact rfl) | with_reducible exact ev_K | with_reducible exact decide_eq_false (by rw [hpow]; omega) | with_reducible exact ev_aNil | with_reducible exact ev_oNo | with_reducible exact ev_tAll | with_reducible exact ev_gsN | with_reducible apply ev_aCons | with_reducible apply ev_d2 | with_reducible apply ev_d1 | with_reducible apply ev_dN | with_reducible apply ev_dCall | with_reducible apply ev_dTup | with_reducible apply ev_dLst | with_reducible apply ev_dLoc | with_reducible apply ev_sl | with_reducible apply ev_oSo | with_reducible apply ev_ch2b | with_reducible apply ev_ch3b | with_reducible apply ev_tB | with_reducible apply ev_tTru | with_reducible apply ev_tNo | with_reducible apply ev_no | with_reducible apply ev_dML | with_reducible apply ev_gTu | with_reducible apply ev_gsC | with_reducible apply ev_gSb | with_reducible apply ev_gNm | (simp only [List.length_cons, List.length_nil]; exact len_le (by decide)) | exact decide_eq_true (by omega) | exact decide_eq_false (by omega) | exact ne_t (by omega) | exact ne_f (by omega) | with_reducible apply lt_ii | with_reducible apply le_ii | with_reducible apply gt_ii | with_reducible apply ge_ii | with_reducible apply eq_ii | with_reducible apply ne_ii | with_reducible apply eq_ss | with_reducible exact add_ii | with_reducible exact sub_ii | with_reducible exact neg_i | with_reducible apply mul_ii | exact okMul_small (by omega) (by omega) | exact mod_ii (by omega) | exact fdiv_ii (by omega) (by omega) | exact mod_ni (by omega) | exact fdiv_ni (by omega) (by omega) | exact pow_ii (by omega) (by omega) (by omega) | with_reducible apply ix_tup | with_reducible apply ix_lst | (simp only [List.set_cons_succ, List.set_cons_zero]; rfl) | exact rfl | exact decide_eq_false (by rw [hpow]; omega))
      exact ev_sNil
  · have hlt : decide (s1.i < ((s1.cells.map PV.int).length : Int)) = false := decide_eq_false (by rw [List.length_map]; exact hg)
    obtain ⟨r, hr⟩ := fillR_ok (k := s1.turn * 69621 + 12345) ok1 g1 (by omega)
    refine ⟨r, s1, ok1, ?_⟩
    (apply ev_seq; case' ha => ((first | with_reducible apply ev_set | with_reducible apply ev_par | with_reducible apply ev_par3 | with_reducible apply ev_asg | with_reducible apply ev_ex | with_reducible apply ev_ret | with_reducible exact ev_sNil | (with_reducible apply ev_aug; exact rfl)) <;> (repeat' first | (with_reducible apply ev_var; exact rfl) | with_reducible exact ev_K | with_reducible exact h3 | with_reducible exact e1 | with_reducible exact ev_aNil | with_reducible exact ev_oNo | with_reducible exact ev_tAll | with_reducible exact ev_gsN | with_reducible apply ev_aCons | with_reducible apply ev_d2 | with_reducible apply ev_d1 | with_reducible apply ev_dN | with_reducible apply ev_dCall | with_reducible apply ev_dTup | with_reducible apply ev_dLst | with_reducible apply ev_dLoc | with_reducible apply ev_sl | with_reducible apply ev_oSo | with_reducible apply ev_ch2b | with_reducible apply ev_ch3b | with_reducible apply ev_tB | with_reducible apply ev_tTru | with_reducible apply ev_tNo | with_reducible apply ev_no | with_reducible apply ev_dML | with_reducible apply ev_gTu | with_reducible apply ev_gsC | with_reducible apply ev_gSb | with_reducible apply ev_gNm | (simp only [List.length_cons, List.length_nil]; exact len_le (by decide)) | exact decide_eq_true (by omega) | exact decide_eq_false (by omega) | exact ne_t (by omega) | exact ne_f (by omega) | with_reducible apply lt_ii | with_reducible apply le_ii | with_reducible apply gt_ii | with_reducible apply ge_ii | with_reducible apply eq_ii | with_reducible apply ne_ii | with_reducible apply eq_ss | with_reducible exact add_ii | with_reducible exact sub_ii | with_reducible exact neg_i | with_reducible apply mul_ii | exact okMul_small (by omega) (by omega) | exact mod_ii (by omega) | exact fdiv_ii (by omega) (by omega) | exact mod_ni (by omega) | exact fdiv_ni (by omega) (by omega) | exact pow_ii (by omega) (by omega) (by omega) | with_reducible apply ix_tup | with_reducible apply ix_lst | (simp only [List.set_cons_succ, List.set_cons_zero]; rfl) | exact rfl | exact h3 | exact e1)))
    (apply ev_seq; case' ha => ((first | with_reducible apply ev_set | with_reducible apply ev_par | with_reducible apply ev_par3 | with_reducible apply ev_asg | with_reducible apply ev_ex | with_reducible apply ev_ret | with_reducible exact ev_sNil | (with_reducible apply ev_aug; exact rfl)) <;> (repeat' first | (with_reducible apply ev_var; exact rfl) | with_reducible exact ev_K | with_reducible exact g13 | with_reducible exact ev_aNil | with_reducible exact ev_oNo | with_reducible exact ev_tAll | with_reducible exact ev_gsN | with_reducible apply ev_aCons | with_reducible apply ev_d2 | with_reducible apply ev_d1 | with_reducible apply ev_dN | with_reducible apply ev_dCall | with_reducible apply ev_dTup | with_reducible apply ev_dLst | with_reducible apply ev_dLoc | with_reducible apply ev_sl | with_reducible apply ev_oSo | with_reducible apply ev_ch2b | with_reducible apply ev_ch3b | with_reducible apply ev_tB | with_reducible apply ev_tTru | with_reducible apply ev_tNo | with_reducible apply ev_no | with_reducible apply ev_dML | with_reducible apply ev_gTu | with_reducible apply ev_gsC | with_reducible apply ev_gSb | with_reducible apply ev_gNm | (simp only [List.length_cons, List.length_nil]; exact len_le (by decide)) | exact decide_eq_true (by omega) | exact decide_eq_false (by omega) | exact ne_t (by omega) | exact ne_f (by omega) | with_reducible apply lt_ii | with_reducible apply le_ii | with_reducible apply gt_ii | with_reducible apply ge_ii | with_reducible apply eq_ii | with_reducible apply ne_ii | with_reducible apply eq_ss | with_reducible exact add_ii | with_reducible exact sub_ii | with_reducible exact neg_i | with_reducible apply mul_ii | exact okMul_small (by omega) (by omega) | exact mod_ii (by omega) | exact fdiv_ii (by omega) (by omega) | exact mod_ni (by omega) | exact fdiv_ni (by omega) (by omega) | exact pow_ii (by omega) (by omega) (by omega) | with_reducible apply ix_tup | with_reducible apply ix_lst | (simp only [List.set_cons_succ, List.set_cons_zero]; rfl) | exact rfl | exact g13)))
    apply ev_seq
    case hb => exact hr
    (apply ev_sIf_f; case' hc => (repeat' first | (with_reducible apply ev_var; exact rfl) | with_reducible exact ev_K | with_reducible exact g10 | with_reducible exact g11 | with_reducible exact hlt | with_reducible exact lenL | with_reducible exact ev_aNil | with_reducible exact ev_oNo | with_reducible exact ev_tAll | with_reducible exact ev_gsN | with_reducible apply ev_aCons | with_reducible apply ev_d2 | with_reducible apply ev_d1 | with_reducible apply ev_dN | with_reducible apply ev_dCall | with_reducible apply ev_dTup | with_reducible apply ev_dLst | with_reducible apply ev_dLoc | with_reducible apply ev_sl | with_reducible apply ev_oSo | with_reducible apply ev_ch2b | with_reducible apply ev_ch3b | with_reducible apply ev_tB | with_reducible apply ev_tTru | with_reducible apply ev_tNo | with_reducible apply ev_no | with_reducible apply ev_dML | with_reducible apply ev_gTu | with_reducible apply ev_gsC | with_reducible apply ev_gSb | with_reducible apply ev_gNm | (simp only [List.length_cons, List.length_nil]; exact len_le (by decide)) | exact decide_eq_true (by omega) | exact decide_eq_false (by omega) | exact ne_t (by omega) | exact ne_f (by omega) | with_reducible apply lt_ii | with_reducible apply le_ii | with_reducible apply gt_ii | with_reducible apply ge_ii | with_reducible apply eq_ii | with_reducible apply ne_ii | with_reducible apply eq_ss | with_reducible exact add_ii | with_reducible exact sub_ii | with_reducible exact neg_i | with_reducible apply mul_ii | exact okMul_small (by omega) (by omega) | exact mod_ii (by omega) | exact fdiv_ii (by omega) (by omega) | exact mod_ni (by omega) | exact fdiv_ni (by omega) (by omega) | exact pow_ii (by omega) (by omega) (by omega) | with_reducible apply ix_tup | with_reducible apply ix_lst | (simp only [List.set_cons_succ, List.set_cons_zero]; rfl) | exact rfl | exact g10 | exact g11 | exact hlt | exact lenL))
    exact ev_sNil

/-- the other wording -/
def dFill2 : DenS :=
  (sSeq (sAsg (d2 f_add (d2 f_ix (cVar 0) (cK (.int 3))) (cK (.int 1))) (gSb (cVar 0) (cK (.int 3))))
  (sSeq (sAsg (d2 f_add (d2 f_mul (d2 f_ix (cVar 0) (cK (.int 3))) (cK (.int 69621))) (cK (.int 12345))) (gNm 1))
  (sSeq (sIf (tB1 (d2 f_lt (d2 f_ix (cVar 0) (cK (.int 1))) (dN f_len (aCons (d2 f_ix (cVar 0) (cK (.int 0))) aNil)))) (sSeq (sAsg (dN f_max2 (aCons (d2 f_ix (d2 f_ix (cVar 0) (cK (.int 0))) (d2 f_ix (cVar 0) (cK (.int 1)))) (aCons (d2 f_sub (d2 f_sub (cK (.int 0)) (cK (.int 1))) (d2 f_ix (d2 f_ix (cVar 0) (cK (.int 0))) (d2 f_ix (cVar 0) (cK (.int 1))))) aNil))) (gNm 1))
  (sSeq (sAsg (d2 f_add (d2 f_ix (cVar 0) (cK (.int 1))) (cK (.int 1))) (gSb (cVar 0) (cK (.int 1))))
  (sIf (tB1 (d2 f_ge (cVar 1) (d2 f_pow (cK (.int 10)) (cK (.int 18))))) (sRet (cVar 1)) sNil))) sNil)
  dFillR)))
theorem fill2_ok {s : Dr} {n : Nat} {μ : Sto} {l : Nat} (ok : s.Ok (n + 1)) (h : μ[l]? = some s.ob) : ∃ (k : Int) (s' : Dr), s'.Ok n ∧ dFill2 [some (.loc l), none] μ = some (.rt (.int k) (μ.set l s'.ob)) := by
  have h3 := dr_ix3 h
  have ht := ok.t0
  have ht2 := ok.tn
  have hi := ok.i0
  let s1 : Dr := { s with turn := s.turn + 1 }
  have e1 := dr_set3 (v := s.turn + 1) h
  have g1 : (μ.set l s1.ob)[l]? = some s1.ob := dr_get h
  have g10 := dr_ix0 g1; have g11 := dr_ix1 g1; have g13 := dr_ix3 g1
  have ok1 : s1.Ok n := ⟨hi, by show 0 ≤ s.turn + 1; omega, by show s.turn + 1 + n ≤ _; omega, ok.cl⟩
  have hlen : ((s.cells.map PV.int).length : Int) = s.cells.length := by rw [List.length_map]
  have hs1 : s1.turn = s.turn + 1 := rfl
  by_cases hg : s.i < (s.cells.length : Int)
  · obtain ⟨z, hz⟩ : ∃ z : Int, L2.atI (s.cells.map PV.int) s.i = some (.int z) := by
      obtain ⟨m, hm⟩ := Int.eq_ofNat_of_zero_le hi
      rw [hm]
      refine ⟨s.cells[m], atI_nat ?_⟩
      rw [List.getElem?_map, List.getElem?_eq_getElem (by omega)]
      rfl
    have g1z : f_ix (.lst (s1.cells.map PV.int)) (.int s1.i) (μ.set l s1.ob) = some (.int z, μ.set l s1.ob) := ix_lst hz
    let s2 : Dr := { s1 with i := s.i + 1 }
    have e2 : f_set (.loc l) (.int 1) (.int (s1.i + 1)) (μ.set l s1.ob) = some (μ.set l s2.ob) := by
      have := dr_set1 (v := s1.i + 1) g1
      rw [List.set_set] at this
      exact this
    have g2 : (μ.set l s2.ob)[l]? = some s2.ob := dr_get h
    have ok2 : s2.Ok n := ⟨by show 0 ≤ s.i + 1; omega, ok1.t0, ok1.tn, ok1.cl⟩
    have hlt : decide (s1.i < ((s1.cells.map PV.int).length : Int)) = true := decide_eq_true (by rw [List.length_map]; exact hg)
    let k : Int := if 0 - 1 - z > z then 0 - 1 - z else z
    have hpow : ((10 : Int) ^ (18 : Int).toNat) = 1000000000000000000 := by decide
    have hmax : f_max2 [.int z, .int (0 - 1 - z)] (μ.set l s1.ob) = some (.int k, μ.set l s1.ob) := rfl
    by_cases hb : 1000000000000000000 ≤ k
    · refine ⟨k, s2, ok2, ?_⟩
      (apply ev_seq; case' ha => ((first | with_reducible apply ev_set | with_reducible apply ev_par | with_reducible apply ev_par3 | with_reducible apply ev_asg | with_reducible apply ev_ex | with_reducible apply ev_ret | with_reducible exact ev_sNil | (with_reducible apply ev_aug; exact rfl)) <;> (repeat' first | (with_reducible apply ev_var; exact rfl) | with_reducible exact ev_K | with_reducible exact h3 | with_reducible exact e1 | with_reducible exact ev_aNil | with_reducible exact ev_oNo | with_reducible exact ev_tAll | with_reducible exact ev_gsN | with_reducible apply ev_aCons | with_reducible apply ev_d2 | with_reducible apply ev_d1 | with_reducible apply ev_dN | with_reducible apply ev_dCall | with_reducible apply ev_dTup | with_reducible apply ev_dLst | with_reducible apply ev_dLoc | with_reducible apply ev_sl | with_reducible apply ev_oSo | with_reducible apply ev_ch2b | with_reducible apply ev_ch3b | with_reducible apply ev_tB | with_reducible apply ev_tTru | with_reducible apply ev_tNo | with_reducible apply ev_no | with_reducible apply ev_dML | with_reducible apply ev_gTu | with_reducible apply ev_gsC | with_reducible apply ev_gSb | with_reducible apply ev_gNm | (simp only [List.length_cons, List.length_nil]; exact len_le (by decide)) | exact decide_eq_true (by omega) | exact decide_eq_false (by omega) | exact ne_t (by omega) | exact ne_f (by omega) | with_reducible apply lt_ii | with_reducible apply le_ii | with_reducible apply gt_ii | with_reducible apply ge_ii | with_reducible apply eq_ii | with_reducible apply ne_ii | with_reducible apply eq_ss | with_reducible exact add_ii | with_reducible exact sub_ii | with_reducible exact neg_i | with_reducible apply mul_ii | exact okMul_small (by omega) (by omega) | exact mod_ii (by omega) | exact fdiv_ii (by omega) (by omega) | exact mod_ni (by omega) | exact fdiv_ni (by omega) (by omega) | exact pow_ii (by omega) (by omega) (by omega) | with_reducible apply ix_tup | with_reducible apply ix_lst | (simp only [List.set_cons_succ, List.set_cons_zero]; rfl) | exact rfl | exact h3 | exact e1)))
      (apply ev_seq; case' ha => ((first | with_reducible apply ev_set | with_reducible apply ev_par | with_reducible apply ev_par3 | with_reducible apply ev_asg | with_reducible apply ev_ex | with_reducible apply ev_ret | with_reducible exact ev_sNil | (with_reducible apply ev_aug; exact rfl)) <;> (repeat' first | (with_reducible apply ev_var; exact rfl) | with_reducible exact ev_K | with_reducible exact g13 | with_reducible exact ev_aNil | with_reducible exact ev_oNo | with_reducible exact ev_tAll | with_reducible exact ev_gsN | with_reducible apply ev_aCons | with_reducible apply ev_d2 | with_reducible apply ev_d1 | with_reducible apply ev_dN | with_reducible apply ev_dCall | with_reducible apply ev_dTup | with_reducible apply ev_dLst | with_reducible apply ev_dLoc | with_reducible apply ev_sl | with_reducible apply ev_oSo | with_reducible apply ev_ch2b | with_reducible apply ev_ch3b | with_reducible apply ev_tB | with_reducible apply ev_tTru | with_reducible apply ev_tNo | with_reducible apply ev_no | with_reducible apply ev_dML | with_reducible apply ev_gTu | with_reducible apply ev_gsC | with_reducible apply ev_gSb | with_reducible apply ev_gNm | (simp only [List.length_cons, List.length_nil]; exact len_le (by decide)) | exact decide_eq_true (by omega) | exact decide_eq_false (by omega) | exact ne_t (by omega) | exact ne_f (by omega) | with_reducible apply lt_ii | with_reducible apply le_ii | with_reducible apply gt_ii | with_reducible apply ge_ii | with_reducible apply eq_ii | with_reducible apply ne_ii | with_reducible apply eq_ss | with_reducible exact add_ii | with_reducible exact sub_ii | with_reducible exact neg_i | with_reducible apply mul_ii | exact okMul_small (by omega) (by omega) | exact mod_ii (by omega) | exact fdiv_ii (by omega) (by omega) | exact mod_ni (by omega) | exact fdiv_ni (by omega) (by omega) | exact pow_ii (by omega) (by omega) (by omega) | with_reducible apply ix_tup | with_reducible apply ix_lst | (simp only [List.set_cons_succ, List.set_cons_zero]; rfl) | exact rfl | exact g13)))
      apply ev_seq_rt
      (apply ev_sIf_t; case' hc => (repeat' first | (with_reducible apply ev_var; exact rfl) | with_reducible exact ev_K | with_reducible exact g10 | with_reducible exact g11 | with_reducible exact hlt | with_reducible exact lenL | with_reducible exact ev_aNil | with_reducible exact ev_oNo | with_reducible exact ev_tAll | with_reducible exact ev_gsN | with_reducible apply ev_aCons | with_reducible apply ev_d2 | with_reducible apply ev_d1 | with_reducible apply ev_dN | with_reducible apply ev_dCall | with_reducible apply ev_dTup | with_reducible apply ev_dLst | with_reducible apply ev_dLoc | with_reducible apply ev_sl | with_reducible apply ev_oSo | with_reducible apply ev_ch2b | with_reducible apply ev_ch3b | with_reducible apply ev_tB | with_reducible apply ev_tTru | with_reducible apply ev_tNo | with_reducible apply ev_no | with_reducible apply ev_dML | with_reducible apply ev_gTu | with_reducible apply ev_gsC | with_reducible apply ev_gSb | with_reducible apply ev_gNm | (simp only [List.length_cons, List.length_nil]; exact len_le (by decide)) | exact decide_eq_true (by omega) | exact decide_eq_false (by omega) | exact ne_t (by omega) | exact ne_f (by omega) | with_reducible apply lt_ii | with_reducible apply le_ii | with_reducible apply gt_ii | with_reducible apply ge_ii | with_reducible apply eq_ii | with_reducible apply ne_ii | with_reducible apply eq_ss | with_reducible exact add_ii | with_reducible exact sub_ii | with_reducible exact neg_i | with_reducible apply mul_ii | exact okMul_small (by omega) (by omega) | exact mod_ii (by omega) | exact fdiv_ii (by omega) (by omega) | exact mod_ni (by omega) | exact fdiv_ni (by omega) (by omega) | exact pow_ii (by omega) (by omega) (by omega) | with_reducible apply ix_tup | with_reducible apply ix_lst | (simp only [List.set_cons_succ, List.set_cons_zero]; rfl) | exact rfl | exact g10 | exact g11 | exact hlt | exact lenL))
      (apply ev_seq; case' ha => ((first | with_reducible apply ev_set | with_reducible apply ev_par | with_reducible apply ev_par3 | with_reducible apply ev_asg | with_reducible apply ev_ex | with_reducible apply ev_ret | with_reducible exact ev_sNil | (with_reducible apply ev_aug; exact rfl)) <;> (repeat' first | (with_reducible apply ev_var; exact rfl) | with_reducible exact ev_K | with_reducible exact g10 | with_reducible exact g11 | with_reducible exact g1z | with_reducible exact hmax | with_reducible exact ev_aNil | with_reducible exact ev_oNo | with_reducible exact ev_tAll | with_reducible exact ev_gsN | with_reducible apply ev_aCons | with_reducible apply ev_d2 | with_reducible apply ev_d1 | with_reducible apply ev_dN | with_reducible apply ev_dCall | with_reducible apply ev_dTup | with_reducible apply ev_dLst | with_reducible apply ev_dLoc | with_reducible apply ev_sl | with_reducible apply ev_oSo | with_reducible apply ev_ch2b | with_reducible apply ev_ch3b | with_reducible apply ev_tB | with_reducible apply ev_tTru | with_reducible apply ev_tNo | with_reducible apply ev_no | with_reducible apply ev_dML | with_reducible apply ev_gTu | with_reducible apply ev_gsC | with_reducible apply ev_gSb | with_reducible apply ev_gNm | (simp only [List.length_cons, List.length_nil]; exact len_le (by decide)) | exact decide_eq_true (by omega) | exact decide_eq_false (by omega) | exact ne_t (by omega) | exact ne_f (by omega) | with_reducible apply lt_ii | with_reducible apply le_ii | with_reducible apply gt_ii | with_reducible apply ge_ii | with_reducible apply eq_ii | with_reducible apply ne_ii | with_reducible apply eq_ss | with_reducible exact add_ii | with_reducible exact sub_ii | with_reducible exact neg_i | with_reducible apply mul_ii | exact okMul_small (by omega) (by omega) | exact mod_ii (by omega) | exact fdiv_ii (by omega) (by omega) | exact mod_ni (by omega) | exact fdiv_ni (by omega) (by omega) | exact pow_ii (by omega) (by omega) (by omega) | with_reducible apply ix_tup | with_reducible apply ix_lst | (simp only [List.set_cons_succ, List.set_cons_zero]; rfl) | exact rfl | exact g10 | exact g11 | exact g1z | exact hmax)))
      (apply ev_seq; case' ha => ((first | with_reducible apply ev_set | with_reducible apply ev_par | with_reducible apply ev_par3 | with_reducible apply ev_asg | with_reducible apply ev_ex | with_reducible apply ev_ret | with_reducible exact ev_sNil | (with_reducible apply ev_aug; exact rfl)) <;> (repeat' first | (with_reducible apply ev_var; exact rfl) | with_reducible exact ev_K | with_reducible exact g11 | with_reducible exact e2 | with_reducible exact ev_aNil | with_reducible exact ev_oNo | with_reducible exact ev_tAll | with_reducible exact ev_gsN | with_reducible apply ev_aCons | with_reducible apply ev_d2 | with_reducible apply ev_d1 | with_reducible apply ev_dN | with_reducible apply ev_dCall | with_reducible apply ev_dTup | with_reducible apply ev_dLst | with_reducible apply ev_dLoc | with_reducible apply ev_sl | with_reducible apply ev_oSo | with_reducible apply ev_ch2b | with_reducible apply ev_ch3b | with_reducible apply ev_tB | with_reducible apply ev_tTru | with_reducible apply ev_tNo | with_reducible apply ev_no | with_reducible apply ev_dML | with_reducible apply ev_gTu | with_reducible apply ev_gsC | with_reducible apply ev_gSb | with_reducible apply ev_gNm | (simp only [List.length_cons, List.length_nil]; exact len_le (by decide)) | exact decide_eq_true (by omega) | exact decide_eq_false (by omega) | exact ne_t (by omega) | exact ne_f (by omega) | with_reducible apply lt_ii | with_reducible apply le_ii | with_reducible apply gt_ii | with_reducible apply ge_ii | with_reducible apply eq_ii | with_reducible apply ne_ii | with_reducible apply eq_ss | with_reducible exact add_ii | with_reducible exact sub_ii | with_reducible exact neg_i | with_reducible apply mul_ii | exact okMul_small (by omega) (by omega) | exact mod_ii (by omega) | exact fdiv_ii (by omega) (by omega) | exact mod_ni (by omega) | exact fdiv_ni (by omega) (by omega) | exact pow_ii (by omega) (by omega) (by omega) | with_reducible apply ix_tup | with_reducible apply ix_lst | (simp only [List.set_cons_succ, List.set_cons_zero]; rfl) | exact rfl | exact g11 | exact e2)))
      apply ev_sIf_t
      case hc => (repeat' first | (with_reducible apply ev_var; exact rfl) | with_reducible exact ev_K | with_reducible exact decide_eq_true (by rw [hpow]; omega) | with_reducible exact ev_aNil | with_reducible exact ev_oNo | with_reducible exact ev_tAll | with_reducible exact ev_gsN | with_reducible apply ev_aCons | with_reducible apply ev_d2 | with_reducible apply ev_d1 | with_reducible apply ev_dN | with_reducible apply ev_dCall | with_reducible apply ev_dTup | with_reducible apply ev_dLst | with_reducible apply ev_dLoc | with_reducible apply ev_sl | with_reducible apply ev_oSo | with_reducible apply ev_ch2b | with_reducible apply ev_ch3b | with_reducible apply ev_tB | with_reducible apply ev_tTru | with_reducible apply ev_tNo | with_reducible apply ev_no | with_reducible apply ev_dML | with_reducible apply ev_gTu | with_reducible apply ev_gsC | with_reducible apply ev_gSb | with_reducible apply ev_gNm | (simp only [List.length_cons, List.length_nil]; exact len_le (by decide)) | exact decide_eq_true (by omega) | exact decide_eq_false (by omega) | exact ne_t (by omega) | exact ne_f (by omega) | with_reducible apply lt_ii | with_reducible apply le_ii | with_reducible apply gt_ii | with_reducible apply ge_ii | with_reducible apply eq_ii | with_reducible apply ne_ii | with_reducible apply eq_ss | with_reducible exact add_ii | with_reducible exact sub_ii | with_reducible exact neg_i | with_reducible apply mul_ii | exact okMul_small (by omega) (by omega) | exact mod_ii (by omega) | exact fdiv_ii (by omega) (by omega) | exact mod_ni (by omega) | exact fdiv_ni (by omega) (by omega) | exact pow_ii (by omega) (by omega) (by omega) | with_reducible apply ix_tup | with_reducible apply ix_lst | (simp only [List.set_cons_succ, List.set_cons_zero]; rfl) | exact rfl | exact decide_eq_true (by rw [hpow]; omega))
      ((first | with_reducible apply ev_set | with_reducible apply ev_par | with_reducible apply ev_par3 | with_reducible apply ev_asg | with_reducible apply ev_ex | with_reducible apply ev_ret | with_reducible exact ev_sNil | (with_reducible apply ev_aug; exact rfl)) <;> (repeat' first | (with_reducible apply ev_var; exact rfl) | with_reducible exact ev_K | with_reducible exact ev_aNil | with_reducible exact ev_oNo | with_reducible exact ev_tAll | with_reducible exact ev_gsN | with_reducible apply ev_aCons | with_reducible apply ev_d2 | with_reducible apply ev_d1 | with_reducible apply ev_dN | with_reducible apply ev_dCall | with_reducible apply ev_dTup | with_reducible apply ev_dLst | with_reducible apply ev_dLoc | with_reducible apply ev_sl | with_reducible apply ev_oSo | with_reducible apply ev_ch2b | with_reducible apply ev_ch3b | with_reducible apply ev_tB | with_reducible apply ev_tTru | with_reducible apply ev_tNo | with_reducible apply ev_no | with_reducible apply ev_dML | with_reducible apply ev_gTu | with_reducible apply ev_gsC | with_reducible apply ev_gSb | with_reducible apply ev_gNm | (simp only [List.length_cons, List.length_nil]; exact len_le (by decide)) | exact decide_eq_true (by omega) | exact decide_eq_false (by omega) | exact ne_t (by omega) | exact ne_f (by omega) | with_reducible apply lt_ii | with_reducible apply le_ii | with_reducible apply gt_ii | with_reducible apply ge_ii | with_reducible apply eq_ii | with_reducible apply ne_ii | with_reducible apply eq_ss | with_reducible exact add_ii | with_reducible exact sub_ii | with_reducible exact neg_i | with_reducible apply mul_ii | exact okMul_small (by omega) (by omega) | exact mod_ii (by omega) | exact fdiv_ii (by omega) (by omega) | exact mod_ni (by omega) | exact fdiv_ni (by omega) (by omega) | exact pow_ii (by omega) (by omega) (by omega) | with_reducible apply ix_tup | with_reducible apply ix_lst | (simp only [List.set_cons_succ, List.set_cons_zero]; rfl) | exact rfl))
    · have hk : k.natAbs < 2 ^ 100 := by
        show (if 0 - 1 - z > z then 0 - 1 - z else z).natAbs < _
        have hb : ¬ 1000000000000000000 ≤ (if 0 - 1 - z > z then 0 - 1 - z else z) := hb
        split at hb <;> split <;> omega
      obtain ⟨r, hr⟩ := fillR_ok ok2 g2 hk
      refine ⟨r, s2, ok2, ?_⟩
      (apply ev_seq; case' ha => ((first | with_reducible apply ev_set | with_reducible apply ev_par | with_reducible apply ev_par3 | with_reducible apply ev_asg | with_reducible apply ev_ex | with_reducible apply ev_ret | with_reducible exact ev_sNil | (with_reducible apply ev_aug; exact rfl)) <;> (repeat' first | (with_reducible apply ev_var; exact rfl) | with_reducible exact ev_K | with_reducible exact h3 | with_reducible exact e1 | with_reducible exact ev_aNil | with_reducible exact ev_oNo | with_reducible exact ev_tAll | with_reducible exact ev_gsN | with_reducible apply ev_aCons | with_reducible apply ev_d2 | with_reducible apply ev_d1 | with_reducible apply ev_dN | with_reducible apply ev_dCall | with_reducible apply ev_dTup | with_reducible apply ev_dLst | with_reducible apply ev_dLoc | with_reducible apply ev_sl | with_reducible apply ev_oSo | with_reducible apply ev_ch2b | with_reducible apply ev_ch3b | with_reducible apply ev_tB | with_reducible apply ev_tTru | with_reducible apply ev_tNo | with_reducible apply ev_no | with_reducible apply ev_dML | with_reducible apply ev_gTu | with_reducible apply ev_gsC | with_reducible apply ev_gSb | with_reducible apply ev_gNm | (simp only [List.length_cons, List.length_nil]; exact len_le (by decide)) | exact decide_eq_true (by omega) | exact decide_eq_false (by omega) | exact ne_t (by omega) | exact ne_f (by omega) | with_reducible apply lt_ii | with_reducible apply le_ii | with_reducible apply gt_ii | with_reducible apply ge_ii | with_reducible apply eq_ii | with_reducible apply ne_ii | with_reducible apply eq_ss | with_reducible exact add_ii | with_reducible exact sub_ii | with_reducible exact neg_i | with_reducible apply mul_ii | exact okMul_small (by omega) (by omega) | exact mod_ii (by omega) | exact fdiv_ii (by omega) (by omega) | exact mod_ni (by omega) | exact fdiv_ni (by omega) (by omega) | exact pow_ii (by omega) (by omega) (by omega) | with_reducible apply ix_tup | with_reducible apply ix_lst | (simp only [List.set_cons_succ, List.set_cons_zero]; rfl) | exact rfl | exact h3 | exact e1)))
      (apply ev_seq; case' ha => ((first | with_reducible apply ev_set | with_reducible apply ev_par | with_reducible apply ev_par3 | with_reducible apply ev_asg | with_reducible apply ev_ex | with_reducible apply ev_ret | with_reducible exact ev_sNil | (with_reducible apply ev_aug; exact rfl)) <;> (repeat' first | (with_reducible apply ev_var; exact rfl) | with_reducible exact ev_K | with_reducible exact g13 | with_reducible exact ev_aNil | with_reducible exact ev_oNo | with_reducible exact ev_tAll | with_reducible exact ev_gsN | with_reducible apply ev_aCons | with_reducible apply ev_d2 | with_reducible apply ev_d1 | with_reducible apply ev_dN | with_reducible apply ev_dCall | with_reducible apply ev_dTup | with_reducible apply ev_dLst | with_reducible apply ev_dLoc | with_reducible apply ev_sl | with_reducible apply ev_oSo | with_reducible apply ev_ch2b | with_reducible apply ev_ch3b | with_reducible apply ev_tB | with_reducible apply ev_tTru | with_reducible apply ev_tNo | with_reducible apply ev_no | with_reducible apply ev_dML | with_reducible apply ev_gTu | with_reducible apply ev_gsC | with_reducible apply ev_gSb | with_reducible apply ev_gNm | (simp only [List.length_cons, List.length_nil]; exact len_le (by decide)) | exact decide_eq_true (by omega) | exact decide_eq_false (by omega) | exact ne_t (by omega) | exact ne_f (by omega) | with_reducible apply lt_ii | with_reducible apply le_ii | with_reducible apply gt_ii | with_reducible apply ge_ii | with_reducible apply eq_ii | with_reducible apply ne_ii | with_reducible apply eq_ss | with_reducible exact add_ii | with_reducible exact sub_ii | with_reducible exact neg_i | with_reducible apply mul_ii | exact okMul_small (by omega) (by omega) | exact mod_ii (by omega) | exact fdiv_ii (by omega) (by omega) | exact mod_ni (by omega) | exact fdiv_ni (by omega) (by omega) | exact pow_ii (by omega) (by omega) (by omega) | with_reducible apply ix_tup | with_reducible apply ix_lst | (simp only [List.set_cons_succ, List.set_cons_zero]; rfl) | exact rfl | exact g13)))
      apply ev_seq
      case hb => exact hr
      (apply ev_sIf_t; case' hc => (repeat' first | (with_reducible apply ev_var; exact rfl) | with_reducible exact ev_K | with_reducible exact g10 | with_reducible exact g11 | with_reducible exact hlt | with_reducible exact lenL | with_reducible exact ev_aNil | with_reducible exact ev_oNo | with_reducible exact ev_tAll | with_reducible exact ev_gsN | with_reducible apply ev_aCons | with_reducible apply ev_d2 | with_reducible apply ev_d1 | with_reducible apply ev_dN | with_reducible apply ev_dCall | with_reducible apply ev_dTup | with_reducible apply ev_dLst | with_reducible apply ev_dLoc | with_reducible apply ev_sl | with_reducible apply ev_oSo | with_reducible apply ev_ch2b | with_reducible apply ev_ch3b | with_reducible apply ev_tB | with_reducible apply ev_tTru | with_reducible apply ev_tNo | with_reducible apply ev_no | with_reducible apply ev_dML | with_reducible apply ev_gTu | with_reducible apply ev_gsC | with_reducible apply ev_gSb | with_reducible apply ev_gNm | (simp only [List.length_cons, List.length_nil]; exact len_le (by decide)) | exact decide_eq_true (by omega) | exact decide_eq_false (by omega) | exact ne_t (by omega) | exact ne_f (by omega) | with_reducible apply lt_ii | with_reducible apply le_ii | with_reducible apply gt_ii | with_reducible apply ge_ii | with_reducible apply eq_ii | with_reducible apply ne_ii | with_reducible apply eq_ss | with_reducible exact add_ii | with_reducible exact sub_ii | with_reducible exact neg_i | with_reducible apply mul_ii | exact okMul_small (by omega) (by omega) | exact mod_ii (by omega) | exact fdiv_ii (by omega) (by omega) | exact mod_ni (by omega) | exact fdiv_ni (by omega) (by omega) | exact pow_ii (by omega) (by omega) (by omega) | with_reducible apply ix_tup | with_reducible apply ix_lst | (simp only [List.set_cons_succ, List.set_cons_zero]; rfl) | exact rfl | exact g10 | exact g11 | exact hlt | exact lenL))
      (apply ev_seq; case' ha => ((first | with_reducible apply ev_set | with_reducible apply ev_par | with_reducible apply ev_par3 | with_reducible apply ev_asg | with_reducible apply ev_ex | with_reducible apply ev_ret | with_reducible exact ev_sNil | (with_reducible apply ev_aug; exact rfl)) <;> (repeat' first | (with_reducible apply ev_var; exact rfl) | with_reducible exact ev_K | with_reducible exact g10 | with_reducible exact g11 | with_reducible exact g1z | with_reducible exact hmax | with_reducible exact ev_aNil | with_reducible exact ev_oNo | with_reducible exact ev_tAll | with_reducible exact ev_gsN | with_reducible apply ev_aCons | with_reducible apply ev_d2 | with_reducible apply ev_d1 | with_reducible apply ev_dN | with_reducible apply ev_dCall | with_reducible apply ev_dTup | with_reducible apply ev_dLst | with_reducible apply ev_dLoc | with_reducible apply ev_sl | with_reducible apply ev_oSo | with_reducible apply ev_ch2b | with_reducible apply ev_ch3b | with_reducible apply ev_tB | with_reducible apply ev_tTru | with_reducible apply ev_tNo | with_reducible apply ev_no | with_reducible apply ev_dML | with_reducible apply ev_gTu | with_reducible apply ev_gsC | with_reducible apply ev_gSb | with_reducible apply ev_gNm | (simp only [List.length_cons, List.length_nil]; exact len_le (by decide)) | exact decide_eq_true (by omega) | exact decide_eq_false (by omega) | exact ne_t (by omega) | exact ne_f (by omega) | with_reducible apply lt_ii | with_reducible apply le_ii | with_reducible apply gt_ii | with_reducible apply ge_ii | with_reducible apply eq_ii | with_reducible apply ne_ii | with_reducible apply eq_ss | with_reducible exact add_ii | with_reducible exact sub_ii | with_reducible exact neg_i | with_reducible apply mul_ii | exact okMul_small (by omega) (by omega) | exact mod_ii (by omega) | exact fdiv_ii (by omega) (by omega) | exact mod_ni (by omega) | exact fdiv_ni (by omega) (by omega) | exact pow_ii (by omega) (by omega) (by omega) | with_reducible apply ix_tup | with_reducible apply ix_lst | (simp only [List.set_cons_succ, List.set_cons_zero]; rfl) | exact rfl | exact g10 | exact g11 | exact g1z | exact hmax)))
      (apply ev_seq; case' ha => ((first | with_reducible apply ev_set | with_reducible apply ev_par | with_reducible apply ev_par3 | with_reducible apply ev_asg | with_reducible apply ev_ex | with_reducible apply ev_ret | with_reducible exact ev_sNil | (with_reducible apply ev_aug; exact rfl)) <;> (repeat' first | (with_reducible apply ev_var; exact rfl) | with_reducible exact ev_K | with_reducible exact g11 | with_reducible exact e2 | with_reducible exact ev_aNil | with_reducible exact ev_oNo | with_reducible exact ev_tAll | with_reducible exact ev_gsN | with_reducible apply ev_aCons | with_reducible apply ev_d2 | with_reducible apply ev_d1 | with_reducible apply ev_dN | with_reducible apply ev_dCall | with_reducible apply ev_dTup | with_reducible apply ev_dLst | with_reducible apply ev_dLoc | with_reducible apply ev_sl | with_reducible apply ev_oSo | with_reducible apply ev_ch2b | with_reducible apply ev_ch3b | with_reducible apply ev_tB | with_reducible apply ev_tTru | with_reducible apply ev_tNo | with_reducible apply ev_no | with_reducible apply ev_dML | with_reducible apply ev_gTu | with_reducible apply ev_gsC | with_reducible apply ev_gSb | with_reducible apply ev_gNm | (simp only [List.length_cons, List.length_nil]; exact len_le (by decide)) | exact decide_eq_true (by omega) | exact decide_eq_false (by omega) | exact ne_t (by omega) | exact ne_f (by omega) | with_reducible apply lt_ii | with_reducible apply le_ii | with_reducible apply gt_ii | with_reducible apply ge_ii | with_reducible apply eq_ii | with_reducible apply ne_ii | with_reducible apply eq_ss | with_reducible exact add_ii | with_reducible exact sub_ii | with_reducible exact neg_i | with_reducible apply mul_ii | exact okMul_small (by omega) (by omega) | exact mod_ii (by omega) | exact fdiv_ii (by omega) (by omega) | exact mod_ni (by omega) | exact fdiv_ni (by omega) (by omega) | exact pow_ii (by omega) (by omega) (by omega) | with_reducible apply ix_tup | with_reducible apply ix_lst | (simp only [List.set_cons_succ, List.set_cons_zero]; rfl) | exact rfl | exact g11 | exact e2)))
      apply ev_sIf_f
      case hc => (repeat' first | (with_reducible apply ev_var; exact rfl) | with_reducible exact ev_K | with_reducible exact decide_eq_false (by rw [hpow]; omega) | with_reducible exact ev_aNil | with_reducible exact ev_oNo | with_reducible exact ev_tAll | with_reducible exact ev_gsN | with_reducible apply ev_aCons | with_reducible apply ev_d2 | with_reducible apply ev_d1 | with_reducible apply ev_dN | with_reducible apply ev_dCall | with_reducible apply ev_dTup | with_reducible apply ev_dLst | with_reducible apply ev_dLoc | with_reducible apply ev_sl | with_reducible apply ev_oSo | with_reducible apply ev_ch2b | with_reducible apply ev_ch3b | with_reducible apply ev_tB | with_reducible apply ev_tTru | with_reducible apply ev_tNo | with_reducible apply ev_no | with_reducible apply ev_dML | with_reducible apply ev_gTu | with_reducible apply ev_gsC | with_reducible apply ev_gSb | with_reducible apply ev_gNm | (simp only [List.length_cons, List.length_nil]; exact len_le (by decide)) | exact decide_eq_true (by omega) | exact decide_eq_false (by omega) | exact ne_t (by omega) | exact ne_f (by omega) | with_reducible apply lt_ii | with_reducible apply le_ii | with_reducible apply gt_ii | with_reducible apply ge_ii | with_reducible apply eq_ii | with_reducible apply ne_ii | with_reducible apply eq_ss | with_reducible exact add_ii | with_reducible exact sub_ii | with_reducible exact neg_i | with_reducible apply mul_ii | exact okMul_small (by omega) (by omega) | exact mod_ii (by omega) | exact fdiv_ii (by omega) (by omega) | exact mod_ni (by omega) | exact fdiv_ni (by omega) (by omega) | exact pow_ii (by omega) (by omega) (by omega) | with_reducible apply ix_tup | with_reducible apply ix_lst | (simp only [List.set_cons_succ, List.set_cons_zero]; rfl) | exact rfl | exact decide_eq_false (by rw [hpow]; omega))
      exact ev_sNil
  · have hlt : decide (s1.i < ((s1.cells.map PV.int).length : Int)) = false := decide_eq_false (by rw [List.length_map]; exact hg)
    obtain ⟨r, hr⟩ := fillR_ok (k := s1.turn * 69621 + 12345) ok1 g1 (by omega)
    refine ⟨r, s1, ok1, ?_⟩
    (apply ev_seq; case' ha => ((first | with_reducible apply ev_set | with_reducible apply ev_par | with_reducible apply ev_par3 | with_reducible apply ev_asg | with_reducible apply ev_ex | with_reducible apply ev_ret | with_reducible exact ev_sNil | (with_reducible apply ev_aug; exact rfl)) <;> (repeat' first | (with_reducible apply ev_var; exact rfl) | with_reducible exact ev_K | with_reducible exact h3 | with_reducible exact e1 | with_reducible exact ev_aNil | with_reducible exact ev_oNo | with_reducible exact ev_tAll | with_reducible exact ev_gsN | with_reducible apply ev_aCons | with_reducible apply ev_d2 | with_reducible apply ev_d1 | with_reducible apply ev_dN | with_reducible apply ev_dCall | with_reducible apply ev_dTup | with_reducible apply ev_dLst | with_reducible apply ev_dLoc | with_reducible apply ev_sl | with_reducible apply ev_oSo | with_reducible apply ev_ch2b | with_reducible apply ev_ch3b | with_reducible apply ev_tB | with_reducible apply ev_tTru | with_reducible apply ev_tNo | with_reducible apply ev_no | with_reducible apply ev_dML | with_reducible apply ev_gTu | with_reducible apply ev_gsC | with_reducible apply ev_gSb | with_reducible apply ev_gNm | (simp only [List.length_cons, List.length_nil]; exact len_le (by decide)) | exact decide_eq_true (by omega) | exact decide_eq_false (by omega) | exact ne_t (by omega) | exact ne_f (by omega) | with_reducible apply lt_ii | with_reducible apply le_ii | with_reducible apply gt_ii | with_reducible apply ge_ii | with_reducible apply eq_ii | with_reducible apply ne_ii | with_reducible apply eq_ss | with_reducible exact add_ii | with_reducible exact sub_ii | with_reducible exact neg_i | with_reducible apply mul_ii | exact okMul_small (by omega) (by omega) | exact mod_ii (by omega) | exact fdiv_ii (by omega) (by omega) | exact mod_ni (by omega) | exact fdiv_ni (by omega) (by omega) | exact pow_ii (by omega) (by omega) (by omega) | with_reducible apply ix_tup | with_reducible apply ix_lst | (simp only [List.set_cons_succ, List.set_cons_zero]; rfl) | exact rfl | exact h3 | exact e1)))
    (apply ev_seq; case' ha => ((first | with_reducible apply ev_set | with_reducible apply ev_par | with_reducible apply ev_par3 | with_reducible apply ev_asg | with_reducible apply ev_ex | with_reducible apply ev_ret | with_reducible exact ev_sNil | (with_reducible apply ev_aug; exact rfl)) <;> (repeat' first | (with_reducible apply ev_var; exact rfl) | with_reducible exact ev_K | with_reducible exact g13 | with_reducible exact ev_aNil | with_reducible exact ev_oNo | with_reducible exact ev_tAll | with_reducible exact ev_gsN | with_reducible apply ev_aCons | with_reducible apply ev_d2 | with_reducible apply ev_d1 | with_reducible apply ev_dN | with_reducible apply ev_dCall | with_reducible apply ev_dTup | with_reducible apply ev_dLst | with_reducible apply ev_dLoc | with_reducible apply ev_sl | with_reducible apply ev_oSo | with_reducible apply ev_ch2b | with_reducible apply ev_ch3b | with_reducible apply ev_tB | with_reducible apply ev_tTru | with_reducible apply ev_tNo | with_reducible apply ev_no | with_reducible apply ev_dML | with_reducible apply ev_gTu | with_reducible apply ev_gsC | with_reducible apply ev_gSb | with_reducible apply ev_gNm | (simp only [List.length_cons, List.length_nil]; exact len_le (by decide)) | exact decide_eq_true (by omega) | exact decide_eq_false (by omega) | exact ne_t (by omega) | exact ne_f (by omega) | with_reducible apply lt_ii | with_reducible apply le_ii | with_reducible apply gt_ii | with_reducible apply ge_ii | with_reducible apply eq_ii | with_reducible apply ne_ii | with_reducible apply eq_ss | with_reducible exact add_ii | with_reducible exact sub_ii | with_reducible exact neg_i | with_reducible apply mul_ii | exact okMul_small (by omega) (by omega) | exact mod_ii (by omega) | exact fdiv_ii (by omega) (by omega) | exact mod_ni (by omega) | exact fdiv_ni (by omega) (by omega) | exact pow_ii (by omega) (by omega) (by omega) | with_reducible apply ix_tup | with_reducible apply ix_lst | (simp only [List.set_cons_succ, List.set_cons_zero]; rfl) | exact rfl | exact g13)))
    apply ev_seq
    case hb => exact hr
    (apply ev_sIf_f; case' hc => (repeat' first | (with_reducible apply ev_var; exact rfl) | with_reducible exact ev_K | with_reducible exact g10 | with_reducible exact g11 | with_reducible exact hlt | with_reducible exact lenL | with_reducible exact ev_aNil | with_reducible exact ev_oNo | with_reducible exact ev_tAll | with_reducible exact ev_gsN | with_reducible apply ev_aCons | with_reducible apply ev_d2 | with_reducible apply ev_d1 | with_reducible apply ev_dN | with_reducible apply ev_dCall | with_reducible apply ev_dTup | with_reducible apply ev_dLst | with_reducible apply ev_dLoc | with_reducible apply ev_sl | with_reducible apply ev_oSo | with_reducible apply ev_ch2b | with_reducible apply ev_ch3b | with_reducible apply ev_tB | with_reducible apply ev_tTru | with_reducible apply ev_tNo | with_reducible apply ev_no | with_reducible apply ev_dML | with_reducible apply ev_gTu | with_reducible apply ev_gsC | with_reducible apply ev_gSb | with_reducible apply ev_gNm | (simp only [List.length_cons, List.length_nil]; exact len_le (by decide)) | exact decide_eq_true (by omega) | exact decide_eq_false (by omega) | exact ne_t (by omega) | exact ne_f (by omega) | with_reducible apply lt_ii | with_reducible apply le_ii | with_reducible apply gt_ii | with_reducible apply ge_ii | with_reducible apply eq_ii | with_reducible apply ne_ii | with_reducible apply eq_ss | with_reducible exact add_ii | with_reducible exact sub_ii | with_reducible exact neg_i | with_reducible apply mul_ii | exact okMul_small (by omega) (by omega) | exact mod_ii (by omega) | exact fdiv_ii (by omega) (by omega) | exact mod_ni (by omega) | exact fdiv_ni (by omega) (by omega) | exact pow_ii (by omega) (by omega) (by omega) | with_reducible apply ix_tup | with_reducible apply ix_lst | (simp only [List.set_cons_succ, List.set_cons_zero]; rfl) | exact rfl | exact g10 | exact g11 | exact hlt | exact lenL))
    exact ev_sNil
/-! ### take -/
def FillOk (p : Fn) : Prop := ∀ (s : Dr) (n : Nat) (μ : Sto) (l : Nat), s.Ok (n + 1) → μ[l]? = some s.ob → ∃ (k : Int) (s' : Dr), s'.Ok n ∧ p [.loc l] μ = some (.int k, μ.set l s'.ob)
theorem fillOk1 : FillOk (runF 2 dFill) := fun s n μ l ok h => by
  obtain ⟨k, s', ok', e⟩ := fill_ok ok h
  exact ⟨k, s', ok', runF_rt rfl e⟩
theorem fillOk2 : FillOk (runF 2 dFill2) := fun s n μ l ok h => by
  obtain ⟨k, s', ok', e⟩ := fill2_ok ok h
  exact ⟨k, s', ok', runF_rt rfl e⟩
def dTake (p__law_fill : Fn) : DenS :=
  (sSeq (sIf (tB1 (d2 f_lt (d2 f_ix (cVar 0) (cK (.int 2))) (cVar 1))) (sAsg (dCall 1 p__law_fill (aCons (cVar 0) aNil)) (gSb (cVar 0) (cK (.int 2)))) sNil)
  (sSeq (sAsg (d2 f_mod (dN f_int (aCons (d2 f_ix (cVar 0) (cK (.int 2))) aNil)) (cVar 1)) (gNm 2))
  (sSeq (sAsg (d2 f_fdiv (d2 f_ix (cVar 0) (cK (.int 2))) (cVar 1)) (gSb (cVar 0) (cK (.int 2))))
  (sRet (cVar 2)))))
/-- what a drawing gives: some digit, the list in its place turned on -/
def TakeOk (p : Fn) : Prop := ∀ (s : Dr) (n : Nat) (μ : Sto) (l : Nat) (many : Int), s.Ok (n + 1) → μ[l]? = some s.ob → 0 < many → many < 2 ^ 99 → ∃ (d : Int) (s' : Dr), 0 ≤ d ∧ d < many ∧ s'.Ok n ∧ p [.loc l, .int many] μ = some (.int d, μ.set l s'.ob)
theorem takeOk {p : Fn} (hp : FillOk p) : TakeOk (runF 3 (dTake p)) := fun s n μ l many ok h hm hm2 => by
  have h2 := dr_ix2 h
  suffices hh : ∃ s1 : Dr, s1.Ok n ∧ sIf (tB1 (d2 f_lt (d2 f_ix (cVar 0) (cK (.int 2))) (cVar 1))) (sAsg (dCall 1 p (aCons (cVar 0) aNil)) (gSb (cVar 0) (cK (.int 2)))) sNil [some (.loc l), some (.int many), none] μ = some (.nx [some (.loc l), some (.int many), none] (μ.set l s1.ob)) by
    obtain ⟨s1, ok1, e⟩ := hh
    have g : (μ.set l s1.ob)[l]? = some s1.ob := dr_get h
    have g2 := dr_ix2 g
    let s2 : Dr := { s1 with acc := s1.acc / many }
    have e2 : f_set (.loc l) (.int 2) (.int (s1.acc / many)) (μ.set l s1.ob) = some (μ.set l s2.ob) := by
      have := dr_set2 (v := s1.acc / many) g
      rw [List.set_set] at this
      exact this
    refine ⟨s1.acc % many, s2, Int.emod_nonneg _ (by omega), Int.emod_lt_of_pos _ hm, ⟨ok1.i0, ok1.t0, ok1.tn, ok1.cl⟩, ?_⟩
    refine runF_rt (ρ := [some (.loc l), some (.int many), none]) rfl ?_
    apply ev_seq e
    (apply ev_seq; case' ha => ((first | with_reducible apply ev_set | with_reducible apply ev_par | with_reducible apply ev_par3 | with_reducible apply ev_asg | with_reducible apply ev_ex | with_reducible apply ev_ret | with_reducible exact ev_sNil | (with_reducible apply ev_aug; exact rfl)) <;> (repeat' first | (with_reducible apply ev_var; exact rfl) | with_reducible exact ev_K | with_reducible exact g2 | with_reducible exact ev_aNil | with_reducible exact ev_oNo | with_reducible exact ev_tAll | with_reducible exact ev_gsN | with_reducible apply ev_aCons | with_reducible apply ev_d2 | with_reducible apply ev_d1 | with_reducible apply ev_dN | with_reducible apply ev_dCall | with_reducible apply ev_dTup | with_reducible apply ev_dLst | with_reducible apply ev_dLoc | with_reducible apply ev_sl | with_reducible apply ev_oSo | with_reducible apply ev_ch2b | with_reducible apply ev_ch3b | with_reducible apply ev_tB | with_reducible apply ev_tTru | with_reducible apply ev_tNo | with_reducible apply ev_no | with_reducible apply ev_dML | with_reducible apply ev_gTu | with_reducible apply ev_gsC | with_reducible apply ev_gSb | with_reducible apply ev_gNm | (simp only [List.length_cons, List.length_nil]; exact len_le (by decide)) | exact decide_eq_true (by omega) | exact decide_eq_false (by omega) | exact ne_t (by omega) | exact ne_f (by omega) | with_reducible apply lt_ii | with_reducible apply le_ii | with_reducible apply gt_ii | with_reducible apply ge_ii | with_reducible apply eq_ii | with_reducible apply ne_ii | with_reducible apply eq_ss | with_reducible exact add_ii | with_reducible exact sub_ii | with_reducible exact neg_i | with_reducible apply mul_ii | exact okMul_small (by omega) (by omega) | exact mod_ii (by omega) | exact fdiv_ii (by omega) (by omega) | exact mod_ni (by omega) | exact fdiv_ni (by omega) (by omega) | exact pow_ii (by omega) (by omega) (by omega) | with_reducible apply ix_tup | with_reducible apply ix_lst | (simp only [List.set_cons_succ, List.set_cons_zero]; rfl) | exact rfl | exact g2)))
    (apply ev_seq; case' ha => ((first | with_reducible apply ev_set | with_reducible apply ev_par | with_reducible apply ev_par3 | with_reducible apply ev_asg | with_reducible apply ev_ex | with_reducible apply ev_ret | with_reducible exact ev_sNil | (with_reducible apply ev_aug; exact rfl)) <;> (repeat' first | (with_reducible apply ev_var; exact rfl) | with_reducible exact ev_K | with_reducible exact g2 | with_reducible exact e2 | with_reducible exact ev_aNil | with_reducible exact ev_oNo | with_reducible exact ev_tAll | with_reducible exact ev_gsN | with_reducible apply ev_aCons | with_reducible apply ev_d2 | with_reducible apply ev_d1 | with_reducible apply ev_dN | with_reducible apply ev_dCall | with_reducible apply ev_dTup | with_reducible apply ev_dLst | with_reducible apply ev_dLoc | with_reducible apply ev_sl | with_reducible apply ev_oSo | with_reducible apply ev_ch2b | with_reducible apply ev_ch3b | with_reducible apply ev_tB | with_reducible apply ev_tTru | with_reducible apply ev_tNo | with_reducible apply ev_no | with_reducible apply ev_dML | with_reducible apply ev_gTu | with_reducible apply ev_gsC | with_reducible apply ev_gSb | with_reducible apply ev_gNm | (simp only [List.length_cons, List.length_nil]; exact len_le (by decide)) | exact decide_eq_true (by omega) | exact decide_eq_false (by omega) | exact ne_t (by omega) | exact ne_f (by omega) | with_reducible apply lt_ii | with_reducible apply le_ii | with_reducible apply gt_ii | with_reducible apply ge_ii | with_reducible apply eq_ii | with_reducible apply ne_ii | with_reducible apply eq_ss | with_reducible exact add_ii | with_reducible exact sub_ii | with_reducible exact neg_i | with_reducible apply mul_ii | exact okMul_small (by omega) (by omega) | exact mod_ii (by omega) | exact fdiv_ii (by omega) (by omega) | exact mod_ni (by omega) | exact fdiv_ni (by omega) (by omega) | exact pow_ii (by omega) (by omega) (by omega) | with_reducible apply ix_tup | with_reducible apply ix_lst | (simp only [List.set_cons_succ, List.set_cons_zero]; rfl) | exact rfl | exact g2 | exact e2)))
    ((first | with_reducible apply ev_set | with_reducible apply ev_par | with_reducible apply ev_par3 | with_reducible apply ev_asg | with_reducible apply ev_ex | with_reducible apply ev_ret | with_reducible exact ev_sNil | (with_reducible apply ev_aug; exact rfl)) <;> (repeat' first | (with_reducible apply ev_var; exact rfl) | with_reducible exact ev_K | with_reducible exact ev_aNil | with_reducible exact ev_oNo | with_reducible exact ev_tAll | with_reducible exact ev_gsN | with_reducible apply ev_aCons | with_reducible apply ev_d2 | with_reducible apply ev_d1 | with_reducible apply ev_dN | with_reducible apply ev_dCall | with_reducible apply ev_dTup | with_reducible apply ev_dLst | with_reducible apply ev_dLoc | with_reducible apply ev_sl | with_reducible apply ev_oSo | with_reducible apply ev_ch2b | with_reducible apply ev_ch3b | with_reducible apply ev_tB | with_reducible apply ev_tTru | with_reducible apply ev_tNo | with_reducible apply ev_no | with_reducible apply ev_dML | with_reducible apply ev_gTu | with_reducible apply ev_gsC | with_reducible apply ev_gSb | with_reducible apply ev_gNm | (simp only [List.length_cons, List.length_nil]; exact len_le (by decide)) | exact decide_eq_true (by omega) | exact decide_eq_false (by omega) | exact ne_t (by omega) | exact ne_f (by omega) | with_reducible apply lt_ii | with_reducible apply le_ii | with_reducible apply gt_ii | with_reducible apply ge_ii | with_reducible apply eq_ii | with_reducible apply ne_ii | with_reducible apply eq_ss | with_reducible exact add_ii | with_reducible exact sub_ii | with_reducible exact neg_i | with_reducible apply mul_ii | exact okMul_small (by omega) (by omega) | exact mod_ii (by omega) | exact fdiv_ii (by omega) (by omega) | exact mod_ni (by omega) | exact fdiv_ni (by omega) (by omega) | exact pow_ii (by omega) (by omega) (by omega) | with_reducible apply ix_tup | with_reducible apply ix_lst | (simp only [List.set_cons_succ, List.set_cons_zero]; rfl) | exact rfl))
  by_cases hlt : s.acc < many
  · obtain ⟨k, s1, ok1, e⟩ := hp s n μ l ok h
    have g : (μ.set l s1.ob)[l]? = some s1.ob := dr_get h
    let s2 : Dr := { s1 with acc := k }
    have e2 : f_set (.loc l) (.int 2) (.int k) (μ.set l s1.ob) = some (μ.set l s2.ob) := by
      have := dr_set2 (v := k) g
      rw [List.set_set] at this
      exact this
    refine ⟨s2, ⟨ok1.i0, ok1.t0, ok1.tn, ok1.cl⟩, ?_⟩
    (apply ev_sIf_t; case' hc => (repeat' first | (with_reducible apply ev_var; exact rfl) | with_reducible exact ev_K | with_reducible exact h2 | with_reducible exact ev_aNil | with_reducible exact ev_oNo | with_reducible exact ev_tAll | with_reducible exact ev_gsN | with_reducible apply ev_aCons | with_reducible apply ev_d2 | with_reducible apply ev_d1 | with_reducible apply ev_dN | with_reducible apply ev_dCall | with_reducible apply ev_dTup | with_reducible apply ev_dLst | with_reducible apply ev_dLoc | with_reducible apply ev_sl | with_reducible apply ev_oSo | with_reducible apply ev_ch2b | with_reducible apply ev_ch3b | with_reducible apply ev_tB | with_reducible apply ev_tTru | with_reducible apply ev_tNo | with_reducible apply ev_no | with_reducible apply ev_dML | with_reducible apply ev_gTu | with_reducible apply ev_gsC | with_reducible apply ev_gSb | with_reducible apply ev_gNm | (simp only [List.length_cons, List.length_nil]; exact len_le (by decide)) | exact decide_eq_true (by omega) | exact decide_eq_false (by omega) | exact ne_t (by omega) | exact ne_f (by omega) | with_reducible apply lt_ii | with_reducible apply le_ii | with_reducible apply gt_ii | with_reducible apply ge_ii | with_reducible apply eq_ii | with_reducible apply ne_ii | with_reducible apply eq_ss | with_reducible exact add_ii | with_reducible exact sub_ii | with_reducible exact neg_i | with_reducible apply mul_ii | exact okMul_small (by omega) (by omega) | exact mod_ii (by omega) | exact fdiv_ii (by omega) (by omega) | exact mod_ni (by omega) | exact fdiv_ni (by omega) (by omega) | exact pow_ii (by omega) (by omega) (by omega) | with_reducible apply ix_tup | with_reducible apply ix_lst | (simp only [List.set_cons_succ, List.set_cons_zero]; rfl) | exact rfl | exact h2))
    ((first | with_reducible apply ev_set | with_reducible apply ev_par | with_reducible apply ev_par3 | with_reducible apply ev_asg | with_reducible apply ev_ex | with_reducible apply ev_ret | with_reducible exact ev_sNil | (with_reducible apply ev_aug; exact rfl)) <;> (repeat' first | (with_reducible apply ev_var; exact rfl) | with_reducible exact ev_K | with_reducible exact e | with_reducible exact e2 | with_reducible exact ev_aNil | with_reducible exact ev_oNo | with_reducible exact ev_tAll | with_reducible exact ev_gsN | with_reducible apply ev_aCons | with_reducible apply ev_d2 | with_reducible apply ev_d1 | with_reducible apply ev_dN | with_reducible apply ev_dCall | with_reducible apply ev_dTup | with_reducible apply ev_dLst | with_reducible apply ev_dLoc | with_reducible apply ev_sl | with_reducible apply ev_oSo | with_reducible apply ev_ch2b | with_reducible apply ev_ch3b | with_reducible apply ev_tB | with_reducible apply ev_tTru | with_reducible apply ev_tNo | with_reducible apply ev_no | with_reducible apply ev_dML | with_reducible apply ev_gTu | with_reducible apply ev_gsC | with_reducible apply ev_gSb | with_reducible apply ev_gNm | (simp only [List.length_cons, List.length_nil]; exact len_le (by decide)) | exact decide_eq_true (by omega) | exact decide_eq_false (by omega) | exact ne_t (by omega) | exact ne_f (by omega) | with_reducible apply lt_ii | with_reducible apply le_ii | with_reducible apply gt_ii | with_reducible apply ge_ii | with_reducible apply eq_ii | with_reducible apply ne_ii | with_reducible apply eq_ss | with_reducible exact add_ii | with_reducible exact sub_ii | with_reducible exact neg_i | with_reducible apply mul_ii | exact okMul_small (by omega) (by omega) | exact mod_ii (by omega) | exact fdiv_ii (by omega) (by omega) | exact mod_ni (by omega) | exact fdiv_ni (by omega) (by omega) | exact pow_ii (by omega) (by omega) (by omega) | with_reducible apply ix_tup | with_reducible apply ix_lst | (simp only [List.set_cons_succ, List.set_cons_zero]; rfl) | exact rfl | exact e | exact e2))
  · refine ⟨s, ok.le (by omega), ?_⟩
    have : μ.set l s.ob = μ := by
      apply List.ext_getElem?
      intro i
      by_cases hi : l = i
      · subst hi; rw [dr_get h, h]
      · rw [List.getElem?_set_ne hi]
    rw [this]
    (apply ev_sIf_f; case' hc => (repeat' first | (with_reducible apply ev_var; exact rfl) | with_reducible exact ev_K | with_reducible exact h2 | with_reducible exact ev_aNil | with_reducible exact ev_oNo | with_reducible exact ev_tAll | with_reducible exact ev_gsN | with_reducible apply ev_aCons | with_reducible apply ev_d2 | with_reducible apply ev_d1 | with_reducible apply ev_dN | with_reducible apply ev_dCall | with_reducible apply ev_dTup | with_reducible apply ev_dLst | with_reducible apply ev_dLoc | with_reducible apply ev_sl | with_reducible apply ev_oSo | with_reducible apply ev_ch2b | with_reducible apply ev_ch3b | with_reducible apply ev_tB | with_reducible apply ev_tTru | with_reducible apply ev_tNo | with_reducible apply ev_no | with_reducible apply ev_dML | with_reducible apply ev_gTu | with_reducible apply ev_gsC | with_reducible apply ev_gSb | with_reducible apply ev_gNm | (simp only [List.length_cons, List.length_nil]; exact len_le (by decide)) | exact decide_eq_true (by omega) | exact decide_eq_false (by omega) | exact ne_t (by omega) | exact ne_f (by omega) | with_reducible apply lt_ii | with_reducible apply le_ii | with_reducible apply gt_ii | with_reducible apply ge_ii | with_reducible apply eq_ii | with_reducible apply ne_ii | with_reducible apply eq_ss | with_reducible exact add_ii | with_reducible exact sub_ii | with_reducible exact neg_i | with_reducible apply mul_ii | exact okMul_small (by omega) (by omega) | exact mod_ii (by omega) | exact fdiv_ii (by omega) (by omega) | exact mod_ni (by omega) | exact fdiv_ni (by omega) (by omega) | exact pow_ii (by omega) (by omega) (by omega) | with_reducible apply ix_tup | with_reducible apply ix_lst | (simp only [List.set_cons_succ, List.set_cons_zero]; rfl) | exact rfl | exact h2))
    exact ev_sNil
/-! ### start -/
noncomputable def dStart : DenS :=
  (sRet (dLoc (aCons (dLc [1] (itSeq (dSl (cVar 0) oNo (oSo (cK (.int 63))))) (gNm 1) tAll (dN f_int (aCons (cVar 1) aNil))) (aCons (cK (.int 0)) (aCons (cK (.int 0)) (aCons (cK (.int 0)) (aCons (cK (.int 20)) aNil)))))))
theorem start_ok {ns : List Int} {μ : Sto} (hn : ns.length ≤ 63) : ∃ s : Dr, s.Ok (2 ^ 59) ∧ runF 2 dStart [.scr ns] μ = some (.loc μ.length, μ ++ [s.ob]) := by
  let cs : List Int := cutP ns none (some 63)
  have hc : cs.length ≤ 63 := by
    show (cutP ns none (some 63)).length ≤ 63
    unfold cutP
    rw [List.length_take, List.length_drop]
    omega
  have hit : itSeq (dSl (cVar 0) oNo (oSo (cK (.int 63)))) [some (.scr ns), none] μ = some ((cs.map PV.int, []), μ) := by
    apply it_lst
    (repeat' first | (with_reducible apply ev_var; exact rfl) | with_reducible exact ev_K | with_reducible exact ev_aNil | with_reducible exact ev_oNo | with_reducible exact ev_tAll | with_reducible exact ev_gsN | with_reducible apply ev_aCons | with_reducible apply ev_d2 | with_reducible apply ev_d1 | with_reducible apply ev_dN | with_reducible apply ev_dCall | with_reducible apply ev_dTup | with_reducible apply ev_dLst | with_reducible apply ev_dLoc | with_reducible apply ev_sl | with_reducible apply ev_oSo | with_reducible apply ev_ch2b | with_reducible apply ev_ch3b | with_reducible apply ev_tB | with_reducible apply ev_tTru | with_reducible apply ev_tNo | with_reducible apply ev_no | with_reducible apply ev_dML | with_reducible apply ev_gTu | with_reducible apply ev_gsC | with_reducible apply ev_gSb | with_reducible apply ev_gNm | (simp only [List.length_cons, List.length_nil]; exact len_le (by decide)) | exact decide_eq_true (by omega) | exact decide_eq_false (by omega) | exact ne_t (by omega) | exact ne_f (by omega) | with_reducible apply lt_ii | with_reducible apply le_ii | with_reducible apply gt_ii | with_reducible apply ge_ii | with_reducible apply eq_ii | with_reducible apply ne_ii | with_reducible apply eq_ss | with_reducible exact add_ii | with_reducible exact sub_ii | with_reducible exact neg_i | with_reducible apply mul_ii | exact okMul_small (by omega) (by omega) | exact mod_ii (by omega) | exact fdiv_ii (by omega) (by omega) | exact mod_ni (by omega) | exact fdiv_ni (by omega) (by omega) | exact pow_ii (by omega) (by omega) (by omega) | with_reducible apply ix_tup | with_reducible apply ix_lst | (simp only [List.set_cons_succ, List.set_cons_zero]; rfl) | exact rfl)
  have hl : dLc [1] (itSeq (dSl (cVar 0) oNo (oSo (cK (.int 63))))) (gNm 1) tAll (dN f_int (aCons (cVar 1) aNil)) [some (.scr ns), none] μ = some (.lst (cs.map PV.int), μ) := by
    refine ev_lc hit rfl ?_
    have := lc_all (ρ := wipeE [some (.scr ns), none] [1]) (μ := μ) (g := gNm 1) (t := tAll) (e := dN f_int (aCons (cVar 1) aNil)) (ch := []) (fun _ => true) id (cs.map PV.int) [] chk_nil (Nat.le_of_lt (small1000 (by rw [List.length_map]; show 0 + _ ≤ _; omega))) (fun x hx => by
      obtain ⟨i, _, rfl⟩ := List.mem_map.mp hx
      exact ⟨[some (.scr ns), some (.int i)], rfl, rfl, fun _ => rfl⟩)
    rw [this, List.filter_eq_self.mpr (fun _ _ => rfl), List.map_id, List.nil_append]
  refine ⟨⟨cs, 0, 0, 0⟩, ⟨Int.le_refl _, Int.le_refl _, by show (0 : Int) + ((2 ^ 59 : Nat) : Int) ≤ 2 ^ 60; decide, hc⟩, ?_⟩
  refine runF_rt (ρ := [some (.scr ns), none]) rfl ?_
  exact ev_ret (ev_dLoc (ev_aCons hl (ev_aCons ev_K (ev_aCons ev_K (ev_aCons ev_K (ev_aCons ev_K ev_aNil))))) (len_ok (n := 5) rfl (by decide)))
end Fd

/-! FdM: the laws' own helpers for papers: is_int, alike, spoilt, bent. -/
namespace Fd
open PySem PySem.Spec PyProof.Rows L2
theorem atI_some {α : Type} {xs : List α} {i : Int} (h0 : 0 ≤ i) (h : i < xs.length) : ∃ v ∈ xs, L2.atI xs i = some v := by
  obtain ⟨m, hm⟩ := Int.eq_ofNat_of_zero_le h0
  subst hm
  have hm : m < xs.length := by omega
  exact ⟨xs[m], List.getElem_mem hm, L2.atI_nat (by simp [hm])⟩
theorem set_back {μ : Sto} {l : Nat} {o : Ob} (h : μ[l]? = some o) : μ.set l o = μ := by
  apply List.ext_getElem?
  intro i
  by_cases hi : l = i
  · subst hi; rw [dr_get h, h]
  · rw [List.getElem?_set_ne hi]
/-! ### trees: no places of the store, at most n items each, at most d deep -/
mutual
def tre (n : Nat) : PV → Nat → Bool
  | .non, _ => true
  | .bl _, _ => true
  | .int i, _ => decide (i.natAbs < 2 ^ 58)
  | .str x, _ => PyData.strOk x
  | .tup xs, d => match d with
    | 0 => false
    | d + 1 => decide (xs.length ≤ n) && tres n xs d
  | .lst xs, d => match d with
    | 0 => false
    | d + 1 => decide (xs.length ≤ n) && tres n xs d
  | .loc _, _ => false
  | .scr _, _ => false
def tres (n : Nat) : List PV → Nat → Bool
  | [], _ => true
  | x :: xs, d => tre n x d && tres n xs d
end
theorem tres_iff {n d : Nat} : ∀ {xs : List PV}, tres n xs d = true ↔ ∀ x ∈ xs, tre n x d = true
  | [] => ⟨fun _ => (fun _ h => nomatch h), fun _ => rfl⟩
  | x :: xs => by
    show (tre n x d && tres n xs d) = true ↔ _
    rw [Bool.and_eq_true, tres_iff, List.forall_mem_cons]
theorem tre_tup {n d : Nat} {xs : List PV} : tre n (.tup xs) (d + 1) = true ↔ xs.length ≤ n ∧ ∀ x ∈ xs, tre n x d = true := by
  show (decide (xs.length ≤ n) && tres n xs d) = true ↔ _
  rw [Bool.and_eq_true, tres_iff, decide_eq_true_eq]
theorem tre_lst {n d : Nat} {xs : List PV} : tre n (.lst xs) (d + 1) = true ↔ xs.length ≤ n ∧ ∀ x ∈ xs, tre n x d = true := by
  show (decide (xs.length ≤ n) && tres n xs d) = true ↔ _
  rw [Bool.and_eq_true, tres_iff, decide_eq_true_eq]
mutual
theorem tre_mono {n m : Nat} (h : n ≤ m) : ∀ (x : PV) (d : Nat), tre n x d = true → tre m x d = true
  | .non, _, _ => rfl
  | .bl _, _, _ => rfl
  | .int _, _, q => q
  | .str x, _, q => q
  | .tup xs, 0, q => nomatch q
  | .lst xs, 0, q => nomatch q
  | .tup xs, d + 1, q => by
    have q : (decide (xs.length ≤ n) && tres n xs d) = true := q
    show (decide (xs.length ≤ m) && tres m xs d) = true
    rw [Bool.and_eq_true, decide_eq_true_eq] at q ⊢
    exact ⟨Nat.le_trans q.1 h, tres_mono h xs d q.2⟩
  | .lst xs, d + 1, q => by
    have q : (decide (xs.length ≤ n) && tres n xs d) = true := q
    show (decide (xs.length ≤ m) && tres m xs d) = true
    rw [Bool.and_eq_true, decide_eq_true_eq] at q ⊢
    exact ⟨Nat.le_trans q.1 h, tres_mono h xs d q.2⟩
  | .loc _, _, q => nomatch q
  | .scr _, _, q => nomatch q
theorem tres_mono {n m : Nat} (h : n ≤ m) : ∀ (xs : List PV) (d : Nat), tres n xs d = true → tres m xs d = true
  | [], _, _ => rfl
  | x :: xs, d, q => by
    have q : (tre n x d && tres n xs d) = true := q
    show (tre m x d && tres m xs d) = true
    rw [Bool.and_eq_true] at q ⊢
    exact ⟨tre_mono h x d q.1, tres_mono h xs d q.2⟩
end
mutual
theorem tre_pok {n : Nat} : ∀ (x : PV) (d : Nat), tre n x d = true → pok x d = true
  | .non, _, _ => rfl
  | .bl _, _, _ => rfl
  | .int _, _, _ => rfl
  | .str x, _, q => q
  | .tup xs, 0, q => nomatch q
  | .lst xs, 0, q => nomatch q
  | .tup xs, d + 1, q => by
    have q : (decide (xs.length ≤ n) && tres n xs d) = true := q
    rw [Bool.and_eq_true] at q
    exact tres_pok xs d q.2
  | .lst xs, d + 1, q => by
    have q : (decide (xs.length ≤ n) && tres n xs d) = true := q
    rw [Bool.and_eq_true] at q
    exact tres_pok xs d q.2
  | .loc _, _, q => nomatch q
  | .scr _, _, q => nomatch q
theorem tres_pok {n : Nat} : ∀ (xs : List PV) (d : Nat), tres n xs d = true → poks xs d = true
  | [], _, _ => rfl
  | x :: xs, d, q => by
    have q : (tre n x d && tres n xs d) = true := q
    show (pok x d && poks xs d) = true
    rw [Bool.and_eq_true] at q ⊢
    exact ⟨tre_pok x d q.1, tres_pok xs d q.2⟩
end
mutual
theorem tre_deep {n : Nat} : ∀ (x : PV) (d e : Nat), d ≤ e → tre n x d = true → tre n x e = true
  | .non, _, _, _, _ => rfl
  | .bl _, _, _, _, _ => rfl
  | .int _, _, _, _, q => q
  | .str x, _, _, _, q => q
  | .tup xs, 0, _, _, q => nomatch q
  | .lst xs, 0, _, _, q => nomatch q
  | .tup xs, d + 1, 0, h, _ => absurd h (by omega)
  | .lst xs, d + 1, 0, h, _ => absurd h (by omega)
  | .tup xs, d + 1, e + 1, h, q => by
    have q : (decide (xs.length ≤ n) && tres n xs d) = true := q
    show (decide (xs.length ≤ n) && tres n xs e) = true
    rw [Bool.and_eq_true] at q ⊢
    exact ⟨q.1, tres_deep xs d e (by omega) q.2⟩
  | .lst xs, d + 1, e + 1, h, q => by
    have q : (decide (xs.length ≤ n) && tres n xs d) = true := q
    show (decide (xs.length ≤ n) && tres n xs e) = true
    rw [Bool.and_eq_true] at q ⊢
    exact ⟨q.1, tres_deep xs d e (by omega) q.2⟩
  | .loc _, _, _, _, q => nomatch q
  | .scr _, _, _, _, q => nomatch q
theorem tres_deep {n : Nat} : ∀ (xs : List PV) (d e : Nat), d ≤ e → tres n xs d = true → tres n xs e = true
  | [], _, _, _, _ => rfl
  | x :: xs, d, e, h, q => by
    have q : (tre n x d && tres n xs d) = true := q
    show (tre n x e && tres n xs e) = true
    rw [Bool.and_eq_true] at q ⊢
    exact ⟨tre_deep x d e h q.1, tres_deep xs d e h q.2⟩
end
theorem tre_len {n d : Nat} {xs : List PV} (h : tre n (.tup xs) d = true) : xs.length ≤ n := by
  cases d with
  | zero => cases h
  | succ d => exact (tre_tup.mp h).1
theorem sz {n : Nat} (h : n ≤ 1000) : n ≤ sizeLine := Nat.le_of_lt (small1000 h)
theorem mem_cut {xs : List PV} {lo hi : Option Int} {x : PV} (h : x ∈ cutP xs lo hi) : x ∈ xs := List.mem_of_mem_drop (List.mem_of_mem_take h)
theorem len_cut {xs : List PV} {lo hi : Option Int} : (cutP xs lo hi).length ≤ xs.length := by
  unfold cutP; rw [List.length_take, List.length_drop]; omega
theorem tre_cut {n d : Nat} {xs : List PV} {lo hi : Option Int} (h : tre n (.tup xs) d = true) : tre n (.tup (cutP xs lo hi)) d = true := by
  cases d with
  | zero => cases h
  | succ d =>
    have h := tre_tup.mp h
    exact tre_tup.mpr ⟨Nat.le_trans len_cut h.1, fun x hx => h.2 x (mem_cut hx)⟩
theorem tre_app {n m d : Nat} {xs ys : List PV} (h : tre n (.tup xs) (d + 1) = true) (h2 : ∀ y ∈ ys, tre m y d = true) (hn : n ≤ m) (hl : xs.length + ys.length ≤ m) : tre m (.tup (xs ++ ys)) (d + 1) = true := by
  have h := tre_tup.mp (tre_mono hn _ _ h)
  refine tre_tup.mpr ⟨by rw [List.length_append]; exact hl, fun x hx => ?_⟩
  rcases List.mem_append.mp hx with q | q
  · exact h.2 x q
  · exact h2 x q
theorem add_tt {xs ys : List PV} {μ : Sto} (h : xs.length + ys.length ≤ 1000) : f_add (.tup xs) (.tup ys) μ = some (.tup (xs ++ ys), μ) := by
  show (if _ then _ else _) = _
  rw [if_pos (sz h)]
theorem sl_t {xs : List PV} {lo hi : Option Int} {μ : Sto} : f_sl lo hi (.tup xs) μ = some (.tup (cutP xs lo hi), μ) := rfl

theorem sif_true {c : DenT} {a b : DenS} {ρ : En} {μ μ1 : Sto} (h : c ρ μ = some (true, μ1)) : sIf c a b ρ μ = a ρ μ1 := by unfold sIf; rw [h]; rfl
/-! ### spoilt -/
noncomputable def dSpoilt (p__law_take : Fn) (p__law_spoilt : Fn) : DenS :=
  (sSeq (sIf (tTru (d1 (f_isi .str) (cVar 1))) (sRet (d2 f_ix (dLst (aCons (cK (.str (Str.ofString ""))) (aCons (cK (.str (Str.ofString "joined"))) (aCons (cK (.str (Str.ofString "apart"))) (aCons (cK (.str (Str.ofString "prime"))) (aCons (cK (.str (Str.ofString "factors"))) (aCons (cK (.str (Str.ofString "order"))) (aCons (cK (.str (Str.ofString "none"))) (aCons (cK (.str (Str.ofString "square"))) (aCons (cK (.str (Str.ofString "parts"))) (aCons (cK (.str (Str.ofString "same"))) (aCons (cK (.str (Str.ofString "norm"))) aNil)))))))))))) (dCall 2 p__law_take (aCons (cVar 0) (aCons (cK (.int 11)) aNil))))) sNil)
  (sSeq (sIf (tNo (tTru (d1 (f_isi .tuple) (cVar 1)))) (sRet (d2 f_ix (dLst (aCons (cK (.int 0)) (aCons (cK (.int 1)) (aCons (cK (.int 2)) (aCons (d1 f_neg (cK (.int 1))) (aCons (cK (.bl true)) (aCons (cK .non) (aCons (cK (.int 3)) aNil)))))))) (dCall 2 p__law_take (aCons (cVar 0) (aCons (cK (.int 7)) aNil))))) sNil)
  (sSeq (sIf (tOr' (tNo (tTru (cVar 1))) (tB1 (d2 f_eq (dCall 2 p__law_take (aCons (cVar 0) (aCons (cK (.int 5)) aNil))) (cK (.int 0))))) (sRet (d2 f_ix (dLst (aCons (dSl (cVar 1) (oSo (cK (.int 1))) oNo) (aCons (dSl (cVar 1) oNo (oSo (d1 f_neg (cK (.int 1))))) (aCons (d2 f_add (cVar 1) (dSl (cVar 1) (oSo (d1 f_neg (cK (.int 1)))) oNo)) (aCons (d2 f_rev (cVar 1) (d1 f_neg (cK (.int 1)))) (aCons (dN f_list (aCons (cVar 1) aNil)) (aCons (d2 f_add (cVar 1) (dTup (aCons (cK (.int 0)) aNil))) (aCons (dTup aNil) (aCons (dTup (aCons (cK (.int 1)) (aCons (cK (.int 0)) aNil))) aNil))))))))) (dCall 2 p__law_take (aCons (cVar 0) (aCons (cK (.int 8)) aNil))))) sNil)
  (sSeq (sAsg (dCall 2 p__law_take (aCons (cVar 0) (aCons (dN f_len (aCons (cVar 1) aNil)) aNil))) (gNm 2))
  (sRet (d2 f_add (d2 f_add (dSl (cVar 1) oNo (oSo (cVar 2))) (dTup (aCons (dCall 2 p__law_spoilt (aCons (cVar 0) (aCons (d2 f_ix (cVar 1) (cVar 2)) aNil))) aNil))) (dSl (cVar 1) (oSo (d2 f_add (cVar 2) (cK (.int 1)))) oNo)))))))
noncomputable def pSpoilt (pt : Fn) : Nat → Fn
  | 0 => fun _ _ => none
  | k + 1 => runF 3 (dSpoilt pt (pSpoilt pt k))
def cutStrs : List PV := [.str (Str.ofString ""), .str (Str.ofString "joined"), .str (Str.ofString "apart"), .str (Str.ofString "prime"), .str (Str.ofString "factors"), .str (Str.ofString "order"), .str (Str.ofString "none"), .str (Str.ofString "square"), .str (Str.ofString "parts"), .str (Str.ofString "same"), .str (Str.ofString "norm")]
theorem cutStrs_ok (n d : Nat) : ∀ x ∈ cutStrs, tre n x d = true := by
  rw [← tres_iff]
  simp only [cutStrs, tres, tre, Bool.and_true]
  decide +kernel
theorem spoilt_flat {pt : Fn} (ht : TakeOk pt) (j d n m : Nat) (x : PV) (s : Dr) (μ : Sto) (l : Nat) (hx : tre n x 0 = true) (ok : s.Ok (m + 1)) (h : μ[l]? = some s.ob) :
    ∃ (y : PV) (s' : Dr), tre (2 * n + 2) y d = true ∧ s'.Ok m ∧ pSpoilt pt (j + 1) [.loc l, x] μ = some (y, μ.set l s'.ob) := by
  have atom : tTru (d1 (f_isi .tuple) (cVar 1)) [some (.loc l), some x, none] μ = some (false, μ) → tTru (d1 (f_isi .str) (cVar 1)) [some (.loc l), some x, none] μ = some (false, μ) →
      ∃ (y : PV) (s' : Dr), tre (2 * n + 2) y d = true ∧ s'.Ok m ∧ pSpoilt pt (j + 1) [.loc l, x] μ = some (y, μ.set l s'.ob) := fun h1 h2 => by
    obtain ⟨k, s', k0, k1, ok', e⟩ := ht s m μ l 7 ok h (by decide) (by decide)
    obtain ⟨y, hy, ey⟩ := atI_some (xs := [PV.int 0, .int 1, .int 2, .int (-1), .bl true, .non, .int 3]) k0 k1
    refine ⟨y, s', ?_, ok'.le (by omega), ?_⟩
    · have : ∀ z ∈ [PV.int 0, .int 1, .int 2, .int (-1), .bl true, .non, .int 3], tre (2 * n + 2) z d = true := by rw [← tres_iff]; rfl
      exact this y hy
    · refine runF_rt (ρ := [some (.loc l), some x, none]) rfl ?_
      apply ev_seq
      case ha => exact ev_sIf_f h2 ev_sNil
      apply ev_seq_rt
      apply ev_sIf_t
      case hc => exact ev_tNo h1 rfl
      ((first | with_reducible apply ev_set | with_reducible apply ev_par | with_reducible apply ev_par3 | with_reducible apply ev_asg | with_reducible apply ev_ex | with_reducible apply ev_ret | with_reducible exact ev_sNil | (with_reducible apply ev_aug; exact rfl)) <;> (repeat' first | (with_reducible apply ev_var; exact rfl) | with_reducible exact ev_K | with_reducible exact e | with_reducible exact ey | with_reducible exact ev_aNil | with_reducible exact ev_oNo | with_reducible exact ev_tAll | with_reducible exact ev_gsN | with_reducible apply ev_aCons | with_reducible apply ev_d2 | with_reducible apply ev_d1 | with_reducible apply ev_dN | with_reducible apply ev_dCall | with_reducible apply ev_dTup | with_reducible apply ev_dLst | with_reducible apply ev_dLoc | with_reducible apply ev_sl | with_reducible apply ev_oSo | with_reducible apply ev_ch2b | with_reducible apply ev_ch3b | with_reducible apply ev_tB | with_reducible apply ev_tTru | with_reducible apply ev_tNo | with_reducible apply ev_no | with_reducible apply ev_dML | with_reducible apply ev_gTu | with_reducible apply ev_gsC | with_reducible apply ev_gSb | with_reducible apply ev_gNm | (simp only [List.length_cons, List.length_nil]; exact len_le (by decide)) | exact decide_eq_true (by omega) | exact decide_eq_false (by omega) | exact ne_t (by omega) | exact ne_f (by omega) | with_reducible apply lt_ii | with_reducible apply le_ii | with_reducible apply gt_ii | with_reducible apply ge_ii | with_reducible apply eq_ii | with_reducible apply ne_ii | with_reducible apply eq_ss | with_reducible exact add_ii | with_reducible exact sub_ii | with_reducible exact neg_i | with_reducible apply mul_ii | exact okMul_small (by omega) (by omega) | exact mod_ii (by omega) | exact fdiv_ii (by omega) (by omega) | exact mod_ni (by omega) | exact fdiv_ni (by omega) (by omega) | exact pow_ii (by omega) (by omega) (by omega) | with_reducible apply ix_tup | with_reducible apply ix_lst | (simp only [List.set_cons_succ, List.set_cons_zero]; rfl) | exact rfl | exact e | exact ey))
  cases x with
  | str z =>
    obtain ⟨k, s', k0, k1, ok', e⟩ := ht s m μ l 11 ok h (by decide) (by decide)
    obtain ⟨y, hy, ey⟩ := atI_some (xs := cutStrs) k0 k1
    refine ⟨y, s', cutStrs_ok _ _ y hy, ok'.le (by omega), ?_⟩
    refine runF_rt (ρ := [some (.loc l), some (.str z), none]) rfl ?_
    apply ev_seq_rt
    (apply ev_sIf_t; case' hc => (repeat' first | (with_reducible apply ev_var; exact rfl) | with_reducible exact ev_K | with_reducible exact ev_aNil | with_reducible exact ev_oNo | with_reducible exact ev_tAll | with_reducible exact ev_gsN | with_reducible apply ev_aCons | with_reducible apply ev_d2 | with_reducible apply ev_d1 | with_reducible apply ev_dN | with_reducible apply ev_dCall | with_reducible apply ev_dTup | with_reducible apply ev_dLst | with_reducible apply ev_dLoc | with_reducible apply ev_sl | with_reducible apply ev_oSo | with_reducible apply ev_ch2b | with_reducible apply ev_ch3b | with_reducible apply ev_tB | with_reducible apply ev_tTru | with_reducible apply ev_tNo | with_reducible apply ev_no | with_reducible apply ev_dML | with_reducible apply ev_gTu | with_reducible apply ev_gsC | with_reducible apply ev_gSb | with_reducible apply ev_gNm | (simp only [List.length_cons, List.length_nil]; exact len_le (by decide)) | exact decide_eq_true (by omega) | exact decide_eq_false (by omega) | exact ne_t (by omega) | exact ne_f (by omega) | with_reducible apply lt_ii | with_reducible apply le_ii | with_reducible apply gt_ii | with_reducible apply ge_ii | with_reducible apply eq_ii | with_reducible apply ne_ii | with_reducible apply eq_ss | with_reducible exact add_ii | with_reducible exact sub_ii | with_reducible exact neg_i | with_reducible apply mul_ii | exact okMul_small (by omega) (by omega) | exact mod_ii (by omega) | exact fdiv_ii (by omega) (by omega) | exact mod_ni (by omega) | exact fdiv_ni (by omega) (by omega) | exact pow_ii (by omega) (by omega) (by omega) | with_reducible apply ix_tup | with_reducible apply ix_lst | (simp only [List.set_cons_succ, List.set_cons_zero]; rfl) | exact rfl))
    ((first | with_reducible apply ev_set | with_reducible apply ev_par | with_reducible apply ev_par3 | with_reducible apply ev_asg | with_reducible apply ev_ex | with_reducible apply ev_ret | with_reducible exact ev_sNil | (with_reducible apply ev_aug; exact rfl)) <;> (repeat' first | (with_reducible apply ev_var; exact rfl) | with_reducible exact ev_K | with_reducible exact e | with_reducible exact ey | with_reducible exact ev_aNil | with_reducible exact ev_oNo | with_reducible exact ev_tAll | with_reducible exact ev_gsN | with_reducible apply ev_aCons | with_reducible apply ev_d2 | with_reducible apply ev_d1 | with_reducible apply ev_dN | with_reducible apply ev_dCall | with_reducible apply ev_dTup | with_reducible apply ev_dLst | with_reducible apply ev_dLoc | with_reducible apply ev_sl | with_reducible apply ev_oSo | with_reducible apply ev_ch2b | with_reducible apply ev_ch3b | with_reducible apply ev_tB | with_reducible apply ev_tTru | with_reducible apply ev_tNo | with_reducible apply ev_no | with_reducible apply ev_dML | with_reducible apply ev_gTu | with_reducible apply ev_gsC | with_reducible apply ev_gSb | with_reducible apply ev_gNm | (simp only [List.length_cons, List.length_nil]; exact len_le (by decide)) | exact decide_eq_true (by omega) | exact decide_eq_false (by omega) | exact ne_t (by omega) | exact ne_f (by omega) | with_reducible apply lt_ii | with_reducible apply le_ii | with_reducible apply gt_ii | with_reducible apply ge_ii | with_reducible apply eq_ii | with_reducible apply ne_ii | with_reducible apply eq_ss | with_reducible exact add_ii | with_reducible exact sub_ii | with_reducible exact neg_i | with_reducible apply mul_ii | exact okMul_small (by omega) (by omega) | exact mod_ii (by omega) | exact fdiv_ii (by omega) (by omega) | exact mod_ni (by omega) | exact fdiv_ni (by omega) (by omega) | exact pow_ii (by omega) (by omega) (by omega) | with_reducible apply ix_tup | with_reducible apply ix_lst | (simp only [List.set_cons_succ, List.set_cons_zero]; rfl) | exact rfl | exact e | exact ey))
  | non => exact atom rfl rfl
  | bl b => exact atom (by cases b <;> rfl) rfl
  | int i => exact atom rfl rfl
  | _ => cases hx
theorem spoilt_ok {pt : Fn} (ht : TakeOk pt) : ∀ (d n m : Nat) (x : PV) (s : Dr) (μ : Sto) (l : Nat), tre n x d = true → n ≤ 300 → s.Ok (m + (2 * d + 2)) → μ[l]? = some s.ob →
    ∃ (y : PV) (s' : Dr), tre (2 * n + 2) y d = true ∧ s'.Ok m ∧ pSpoilt pt (d + 1) [.loc l, x] μ = some (y, μ.set l s'.ob) := by
  intro d
  induction d with
  | zero =>
    intro n m x s μ l hx hn ok h
    exact spoilt_flat ht 0 0 n m x s μ l hx (ok.le (by omega)) h
  | succ d ih =>
    intro n m x s μ l hx hn ok h
    cases x with
    | tup xs =>
      have hl : xs.length ≤ n := tre_len hx
      have hx' := (tre_tup.mp hx).2
      -- the row of eight
      have pick : ∀ (s1 : Dr) (hd : sIf (tOr' (tNo (tTru (cVar 1))) (tB1 (d2 f_eq (dCall 2 pt (aCons (cVar 0) (aCons (cK (.int 5)) aNil))) (cK (.int 0))))) (sRet (d2 f_ix (dLst (aCons (dSl (cVar 1) (oSo (cK (.int 1))) oNo) (aCons (dSl (cVar 1) oNo (oSo (d1 f_neg (cK (.int 1))))) (aCons (d2 f_add (cVar 1) (dSl (cVar 1) (oSo (d1 f_neg (cK (.int 1)))) oNo)) (aCons (d2 f_rev (cVar 1) (d1 f_neg (cK (.int 1)))) (aCons (dN f_list (aCons (cVar 1) aNil)) (aCons (d2 f_add (cVar 1) (dTup (aCons (cK (.int 0)) aNil))) (aCons (dTup aNil) (aCons (dTup (aCons (cK (.int 1)) (aCons (cK (.int 0)) aNil))) aNil))))))))) (dCall 2 pt (aCons (cVar 0) (aCons (cK (.int 8)) aNil))))) sNil [some (.loc l), some (.tup xs), none] μ = 
            (sRet (d2 f_ix (dLst (aCons (dSl (cVar 1) (oSo (cK (.int 1))) oNo) (aCons (dSl (cVar 1) oNo (oSo (d1 f_neg (cK (.int 1))))) (aCons (d2 f_add (cVar 1) (dSl (cVar 1) (oSo (d1 f_neg (cK (.int 1)))) oNo)) (aCons (d2 f_rev (cVar 1) (d1 f_neg (cK (.int 1)))) (aCons (dN f_list (aCons (cVar 1) aNil)) (aCons (d2 f_add (cVar 1) (dTup (aCons (cK (.int 0)) aNil))) (aCons (dTup aNil) (aCons (dTup (aCons (cK (.int 1)) (aCons (cK (.int 0)) aNil))) aNil))))))))) (dCall 2 pt (aCons (cVar 0) (aCons (cK (.int 8)) aNil))))) [some (.loc l), some (.tup xs), none] (μ.set l s1.ob)),
          s1.Ok (m + 1) → ∃ (y : PV) (s' : Dr), tre (2 * n + 2) y (d + 1) = true ∧ s'.Ok m ∧ pSpoilt pt (d + 1 + 1) [.loc l, .tup xs] μ = some (y, μ.set l s'.ob) := fun s1 hd ok1 => by
        have g1 : (μ.set l s1.ob)[l]? = some s1.ob := dr_get h
        obtain ⟨k, s', k0, k1, ok', e⟩ := ht s1 m (μ.set l s1.ob) l 8 ok1 g1 (by decide) (by decide)
        rw [List.set_set] at e
        let ys : List PV := [.tup (cutP xs (some 1) none), .tup (cutP xs none (some (-1))), .tup (xs ++ cutP xs (some (-1)) none), .tup xs.reverse, .lst xs, .tup (xs ++ [.int 0]), .tup [], .tup [.int 1, .int 0]]
        have hlc : (cutP xs (some (-1)) none).length ≤ n := Nat.le_trans len_cut hl
        obtain ⟨y, hy, ey⟩ := atI_some (xs := ys) k0 k1
        have hm : n ≤ 2 * n + 2 := by omega
        have e5 : f_add (.tup xs) (.tup (cutP xs (some (-1)) none)) (μ.set l s1.ob) = some (.tup (xs ++ cutP xs (some (-1)) none), μ.set l s1.ob) := add_tt (by omega)
        have e6 : f_add (.tup xs) (.tup [.int 0]) (μ.set l s1.ob) = some (.tup (xs ++ [.int 0]), μ.set l s1.ob) := add_tt (by simp only [List.length_cons, List.length_nil]; omega)
        have all : ∀ z ∈ ys, tre (2 * n + 2) z (d + 1) = true := by
          intro z hz
          simp only [ys, List.mem_cons, List.not_mem_nil, or_false] at hz
          rcases hz with rfl | rfl | rfl | rfl | rfl | rfl | rfl | rfl
          · exact tre_mono hm _ _ (tre_cut hx)
          · exact tre_mono hm _ _ (tre_cut hx)
          · exact tre_app hx (fun y hy => tre_mono hm _ _ (hx' y (mem_cut hy))) hm (by omega)
          · exact tre_mono hm _ _ (tre_tup.mpr ⟨by rw [List.length_reverse]; exact hl, fun x q => hx' x (List.mem_reverse.mp q)⟩)
          · exact tre_mono hm _ _ (tre_lst.mpr ⟨hl, hx'⟩)
          · refine tre_app hx (fun y hy => ?_) hm (by simp only [List.length_cons, List.length_nil]; omega)
            simp only [List.mem_cons, List.not_mem_nil, or_false] at hy
            subst hy
            rfl
          · exact tre_tup.mpr ⟨Nat.zero_le _, fun _ q => nomatch q⟩
          · refine tre_tup.mpr ⟨by show 2 ≤ _; omega, fun y hy => ?_⟩
            simp only [List.mem_cons, List.not_mem_nil, or_false] at hy
            rcases hy with rfl | rfl <;> rfl
        refine ⟨y, s', all y hy, ok', ?_⟩
        refine runF_rt (ρ := [some (.loc l), some (.tup xs), none]) rfl ?_
        apply ev_seq
        case ha => exact ev_sIf_f (ev_tTru (b := false) rfl rfl) ev_sNil
        apply ev_seq
        case ha => exact ev_sIf_f (ev_tNo (b := true) (ev_tTru (b := true) rfl rfl) rfl) ev_sNil
        apply ev_seq_rt
        rw [hd]
        ((first | with_reducible apply ev_set | with_reducible apply ev_par | with_reducible apply ev_par3 | with_reducible apply ev_asg | with_reducible apply ev_ex | with_reducible apply ev_ret | with_reducible exact ev_sNil | (with_reducible apply ev_aug; exact rfl)) <;> (repeat' first | (with_reducible apply ev_var; exact rfl) | with_reducible exact ev_K | with_reducible exact e | with_reducible exact ey | with_reducible exact e5 | with_reducible exact e6 | with_reducible exact ev_aNil | with_reducible exact ev_oNo | with_reducible exact ev_tAll | with_reducible exact ev_gsN | with_reducible apply ev_aCons | with_reducible apply ev_d2 | with_reducible apply ev_d1 | with_reducible apply ev_dN | with_reducible apply ev_dCall | with_reducible apply ev_dTup | with_reducible apply ev_dLst | with_reducible apply ev_dLoc | with_reducible apply ev_sl | with_reducible apply ev_oSo | with_reducible apply ev_ch2b | with_reducible apply ev_ch3b | with_reducible apply ev_tB | with_reducible apply ev_tTru | with_reducible apply ev_tNo | with_reducible apply ev_no | with_reducible apply ev_dML | with_reducible apply ev_gTu | with_reducible apply ev_gsC | with_reducible apply ev_gSb | with_reducible apply ev_gNm | (simp only [List.length_cons, List.length_nil]; exact len_le (by decide)) | exact decide_eq_true (by omega) | exact decide_eq_false (by omega) | exact ne_t (by omega) | exact ne_f (by omega) | with_reducible apply lt_ii | with_reducible apply le_ii | with_reducible apply gt_ii | with_reducible apply ge_ii | with_reducible apply eq_ii | with_reducible apply ne_ii | with_reducible apply eq_ss | with_reducible exact add_ii | with_reducible exact sub_ii | with_reducible exact neg_i | with_reducible apply mul_ii | exact okMul_small (by omega) (by omega) | exact mod_ii (by omega) | exact fdiv_ii (by omega) (by omega) | exact mod_ni (by omega) | exact fdiv_ni (by omega) (by omega) | exact pow_ii (by omega) (by omega) (by omega) | with_reducible apply ix_tup | with_reducible apply ix_lst | (simp only [List.set_cons_succ, List.set_cons_zero]; rfl) | exact rfl | exact e | exact ey | exact e5 | exact e6))
      by_cases hz : xs = []
      · refine pick s ?_ (ok.le (by omega))
        rw [set_back h]
        exact sif_true (ev_tOr_t (ev_tNo (b := false) (ev_tTru (b := false) rfl (by subst hz; rfl)) rfl))
      · have hb : (!xs.isEmpty) = true := by
          cases e : xs with
          | nil => exact absurd e hz
          | cons a r => rfl
        obtain ⟨k5, s5, k50, k51, ok5, e5⟩ := ht s (m + 1 + (2 * d + 2)) μ l 5 (ok.le (by omega)) h (by decide) (by decide)
        have g5 : (μ.set l s5.ob)[l]? = some s5.ob := dr_get h
        have test : ∀ b, decide (k5 = 0) = b → tOr' (tNo (tTru (cVar 1))) (tB1 (d2 f_eq (dCall 2 pt (aCons (cVar 0) (aCons (cK (.int 5)) aNil))) (cK (.int 0)))) [some (.loc l), some (.tup xs), none] μ = some (b, μ.set l s5.ob) := fun b hb' => by
          apply ev_tOr_f
          case h => exact ev_tNo (b := true) (ev_tTru (b := true) rfl (by show some (!xs.isEmpty) = _; rw [hb])) rfl
          (repeat' first | (with_reducible apply ev_var; exact rfl) | with_reducible exact ev_K | with_reducible exact e5 | with_reducible exact hb' | with_reducible exact ev_aNil | with_reducible exact ev_oNo | with_reducible exact ev_tAll | with_reducible exact ev_gsN | with_reducible apply ev_aCons | with_reducible apply ev_d2 | with_reducible apply ev_d1 | with_reducible apply ev_dN | with_reducible apply ev_dCall | with_reducible apply ev_dTup | with_reducible apply ev_dLst | with_reducible apply ev_dLoc | with_reducible apply ev_sl | with_reducible apply ev_oSo | with_reducible apply ev_ch2b | with_reducible apply ev_ch3b | with_reducible apply ev_tB | with_reducible apply ev_tTru | with_reducible apply ev_tNo | with_reducible apply ev_no | with_reducible apply ev_dML | with_reducible apply ev_gTu | with_reducible apply ev_gsC | with_reducible apply ev_gSb | with_reducible apply ev_gNm | (simp only [List.length_cons, List.length_nil]; exact len_le (by decide)) | exact decide_eq_true (by omega) | exact decide_eq_false (by omega) | exact ne_t (by omega) | exact ne_f (by omega) | with_reducible apply lt_ii | with_reducible apply le_ii | with_reducible apply gt_ii | with_reducible apply ge_ii | with_reducible apply eq_ii | with_reducible apply ne_ii | with_reducible apply eq_ss | with_reducible exact add_ii | with_reducible exact sub_ii | with_reducible exact neg_i | with_reducible apply mul_ii | exact okMul_small (by omega) (by omega) | exact mod_ii (by omega) | exact fdiv_ii (by omega) (by omega) | exact mod_ni (by omega) | exact fdiv_ni (by omega) (by omega) | exact pow_ii (by omega) (by omega) (by omega) | with_reducible apply ix_tup | with_reducible apply ix_lst | (simp only [List.set_cons_succ, List.set_cons_zero]; rfl) | exact rfl | exact e5 | exact hb')
        by_cases h5 : k5 = 0
        · refine pick s5 ?_ (ok5.le (by omega))
          exact sif_true (test true (decide_eq_true h5))
        · have hp : 0 < xs.length := List.length_pos_iff.mpr hz
          obtain ⟨k, s6, k0, k1, ok6, e6⟩ := ht s5 (m + (2 * d + 2)) (μ.set l s5.ob) l xs.length (ok5.le (by omega)) g5 (by omega) (by omega)
          rw [List.set_set] at e6
          have g6 : (μ.set l s6.ob)[l]? = some s6.ob := dr_get h
          obtain ⟨z, hzm, ez⟩ := atI_some (xs := xs) k0 k1
          obtain ⟨y, s7, ty, ok7, e7⟩ := ih n m z s6 (μ.set l s6.ob) l (hx' z hzm) hn ok6 g6
          rw [List.set_set] at e7
          refine ⟨.tup (cutP xs none (some k) ++ [y] ++ cutP xs (some (k + 1)) none), s7, ?_, ok7, ?_⟩
          · have l1 : (cutP xs none (some k)).length ≤ n := Nat.le_trans len_cut hl
            have l2 : (cutP xs (some (k + 1)) none).length + (cutP xs none (some k)).length ≤ xs.length := by
              unfold cutP
              rw [List.length_take, List.length_take, List.length_drop, List.length_drop]
              have : HT.sIx xs.length xs.length (some k) ≤ HT.sIx xs.length 0 (some (k + 1)) := by
                unfold HT.sIx
                simp only
                split <;> split <;> omega
              have e0 : HT.sIx xs.length 0 none = 0 := rfl
              omega
            refine tre_tup.mpr ⟨by rw [List.length_append, List.length_append]; simp only [List.length_cons, List.length_nil]; omega, fun w hw => ?_⟩
            have hm : n ≤ 2 * n + 2 := by omega
            rcases List.mem_append.mp hw with q | q
            · rcases List.mem_append.mp q with q | q
              · exact tre_mono hm _ _ (hx' w (mem_cut q))
              · rw [List.mem_singleton.mp q]; exact ty
            · exact tre_mono hm _ _ (hx' w (mem_cut q))
          · have l1 : (cutP xs none (some k)).length ≤ n := Nat.le_trans len_cut hl
            have l3 : (cutP xs (some (k + 1)) none).length ≤ n := Nat.le_trans len_cut hl
            have a1 : f_add (.tup (cutP xs none (some k))) (.tup [y]) (μ.set l s7.ob) = some (.tup (cutP xs none (some k) ++ [y]), μ.set l s7.ob) := add_tt (by simp only [List.length_cons, List.length_nil]; omega)
            have a2 : f_add (.tup (cutP xs none (some k) ++ [y])) (.tup (cutP xs (some (k + 1)) none)) (μ.set l s7.ob) = some (.tup (cutP xs none (some k) ++ [y] ++ cutP xs (some (k + 1)) none), μ.set l s7.ob) := add_tt (by rw [List.length_append]; simp only [List.length_cons, List.length_nil]; omega)
            refine runF_rt (ρ := [some (.loc l), some (.tup xs), none]) rfl ?_
            apply ev_seq
            case ha => exact ev_sIf_f (ev_tTru (b := false) rfl rfl) ev_sNil
            apply ev_seq
            case ha => exact ev_sIf_f (ev_tNo (b := true) (ev_tTru (b := true) rfl rfl) rfl) ev_sNil
            apply ev_seq
            case ha => exact ev_sIf_f (test false (decide_eq_false h5)) ev_sNil
            (apply ev_seq; case' ha => ((first | with_reducible apply ev_set | with_reducible apply ev_par | with_reducible apply ev_par3 | with_reducible apply ev_asg | with_reducible apply ev_ex | with_reducible apply ev_ret | with_reducible exact ev_sNil | (with_reducible apply ev_aug; exact rfl)) <;> (repeat' first | (with_reducible apply ev_var; exact rfl) | with_reducible exact ev_K | with_reducible exact e6 | with_reducible exact ev_aNil | with_reducible exact ev_oNo | with_reducible exact ev_tAll | with_reducible exact ev_gsN | with_reducible apply ev_aCons | with_reducible apply ev_d2 | with_reducible apply ev_d1 | with_reducible apply ev_dN | with_reducible apply ev_dCall | with_reducible apply ev_dTup | with_reducible apply ev_dLst | with_reducible apply ev_dLoc | with_reducible apply ev_sl | with_reducible apply ev_oSo | with_reducible apply ev_ch2b | with_reducible apply ev_ch3b | with_reducible apply ev_tB | with_reducible apply ev_tTru | with_reducible apply ev_tNo | with_reducible apply ev_no | with_reducible apply ev_dML | with_reducible apply ev_gTu | with_reducible apply ev_gsC | with_reducible apply ev_gSb | with_reducible apply ev_gNm | (simp only [List.length_cons, List.length_nil]; exact len_le (by decide)) | exact decide_eq_true (by omega) | exact decide_eq_false (by omega) | exact ne_t (by omega) | exact ne_f (by omega) | with_reducible apply lt_ii | with_reducible apply le_ii | with_reducible apply gt_ii | with_reducible apply ge_ii | with_reducible apply eq_ii | with_reducible apply ne_ii | with_reducible apply eq_ss | with_reducible exact add_ii | with_reducible exact sub_ii | with_reducible exact neg_i | with_reducible apply mul_ii | exact okMul_small (by omega) (by omega) | exact mod_ii (by omega) | exact fdiv_ii (by omega) (by omega) | exact mod_ni (by omega) | exact fdiv_ni (by omega) (by omega) | exact pow_ii (by omega) (by omega) (by omega) | with_reducible apply ix_tup | with_reducible apply ix_lst | (simp only [List.set_cons_succ, List.set_cons_zero]; rfl) | exact rfl | exact e6)))
            ((first | with_reducible apply ev_set | with_reducible apply ev_par | with_reducible apply ev_par3 | with_reducible apply ev_asg | with_reducible apply ev_ex | with_reducible apply ev_ret | with_reducible exact ev_sNil | (with_reducible apply ev_aug; exact rfl)) <;> (repeat' first | (with_reducible apply ev_var; exact rfl) | with_reducible exact ev_K | with_reducible exact e7 | with_reducible exact a1 | with_reducible exact a2 | with_reducible exact ez | with_reducible exact ev_aNil | with_reducible exact ev_oNo | with_reducible exact ev_tAll | with_reducible exact ev_gsN | with_reducible apply ev_aCons | with_reducible apply ev_d2 | with_reducible apply ev_d1 | with_reducible apply ev_dN | with_reducible apply ev_dCall | with_reducible apply ev_dTup | with_reducible apply ev_dLst | with_reducible apply ev_dLoc | with_reducible apply ev_sl | with_reducible apply ev_oSo | with_reducible apply ev_ch2b | with_reducible apply ev_ch3b | with_reducible apply ev_tB | with_reducible apply ev_tTru | with_reducible apply ev_tNo | with_reducible apply ev_no | with_reducible apply ev_dML | with_reducible apply ev_gTu | with_reducible apply ev_gsC | with_reducible apply ev_gSb | with_reducible apply ev_gNm | (simp only [List.length_cons, List.length_nil]; exact len_le (by decide)) | exact decide_eq_true (by omega) | exact decide_eq_false (by omega) | exact ne_t (by omega) | exact ne_f (by omega) | with_reducible apply lt_ii | with_reducible apply le_ii | with_reducible apply gt_ii | with_reducible apply ge_ii | with_reducible apply eq_ii | with_reducible apply ne_ii | with_reducible apply eq_ss | with_reducible exact add_ii | with_reducible exact sub_ii | with_reducible exact neg_i | with_reducible apply mul_ii | exact okMul_small (by omega) (by omega) | exact mod_ii (by omega) | exact fdiv_ii (by omega) (by omega) | exact mod_ni (by omega) | exact fdiv_ni (by omega) (by omega) | exact pow_ii (by omega) (by omega) (by omega) | with_reducible apply ix_tup | with_reducible apply ix_lst | (simp only [List.set_cons_succ, List.set_cons_zero]; rfl) | exact rfl | exact e7 | exact a1 | exact a2 | exact ez))
    | lst xs =>
      obtain ⟨k, s', k0, k1, ok', e⟩ := ht s (m + 1) μ l 7 (ok.le (by omega)) h (by decide) (by decide)
      obtain ⟨y, hy, ey⟩ := atI_some (xs := [PV.int 0, .int 1, .int 2, .int (-1), .bl true, .non, .int 3]) k0 k1
      refine ⟨y, s', ?_, ok'.le (by omega), ?_⟩
      · have : ∀ z ∈ [PV.int 0, .int 1, .int 2, .int (-1), .bl true, .non, .int 3], tre (2 * n + 2) z (d + 1) = true := by rw [← tres_iff]; rfl
        exact this y hy
      · refine runF_rt (ρ := [some (.loc l), some (.lst xs), none]) rfl ?_
        apply ev_seq
        case ha => exact ev_sIf_f (ev_tTru (b := false) rfl rfl) ev_sNil
        apply ev_seq_rt
        apply ev_sIf_t
        case hc => exact ev_tNo (b := false) (ev_tTru (b := false) rfl rfl) rfl
        ((first | with_reducible apply ev_set | with_reducible apply ev_par | with_reducible apply ev_par3 | with_reducible apply ev_asg | with_reducible apply ev_ex | with_reducible apply ev_ret | with_reducible exact ev_sNil | (with_reducible apply ev_aug; exact rfl)) <;> (repeat' first | (with_reducible apply ev_var; exact rfl) | with_reducible exact ev_K | with_reducible exact e | with_reducible exact ey | with_reducible exact ev_aNil | with_reducible exact ev_oNo | with_reducible exact ev_tAll | with_reducible exact ev_gsN | with_reducible apply ev_aCons | with_reducible apply ev_d2 | with_reducible apply ev_d1 | with_reducible apply ev_dN | with_reducible apply ev_dCall | with_reducible apply ev_dTup | with_reducible apply ev_dLst | with_reducible apply ev_dLoc | with_reducible apply ev_sl | with_reducible apply ev_oSo | with_reducible apply ev_ch2b | with_reducible apply ev_ch3b | with_reducible apply ev_tB | with_reducible apply ev_tTru | with_reducible apply ev_tNo | with_reducible apply ev_no | with_reducible apply ev_dML | with_reducible apply ev_gTu | with_reducible apply ev_gsC | with_reducible apply ev_gSb | with_reducible apply ev_gNm | (simp only [List.length_cons, List.length_nil]; exact len_le (by decide)) | exact decide_eq_true (by omega) | exact decide_eq_false (by omega) | exact ne_t (by omega) | exact ne_f (by omega) | with_reducible apply lt_ii | with_reducible apply le_ii | with_reducible apply gt_ii | with_reducible apply ge_ii | with_reducible apply eq_ii | with_reducible apply ne_ii | with_reducible apply eq_ss | with_reducible exact add_ii | with_reducible exact sub_ii | with_reducible exact neg_i | with_reducible apply mul_ii | exact okMul_small (by omega) (by omega) | exact mod_ii (by omega) | exact fdiv_ii (by omega) (by omega) | exact mod_ni (by omega) | exact fdiv_ni (by omega) (by omega) | exact pow_ii (by omega) (by omega) (by omega) | with_reducible apply ix_tup | with_reducible apply ix_lst | (simp only [List.set_cons_succ, List.set_cons_zero]; rfl) | exact rfl | exact e | exact ey))
    | loc _ => cases hx
    | scr _ => cases hx
    | str z => exact spoilt_flat ht _ _ n m _ s μ l hx (ok.le (by omega)) h
    | non => exact spoilt_flat ht _ _ n m _ s μ l hx (ok.le (by omega)) h
    | bl b => exact spoilt_flat ht _ _ n m _ s μ l hx (ok.le (by omega)) h
    | int i => exact spoilt_flat ht _ _ n m _ s μ l hx (ok.le (by omega)) h
/-! ### bent -/
noncomputable def dBent (p__law_take : Fn) (p__law_spoilt : Fn) : DenS :=
  (sSeq (sFor (itRg1 (aCons (d2 f_mul (dN f_int (aCons (d2 f_gt (cVar 2) (cK (.int 0))) aNil)) (d2 f_add (cK (.int 1)) (dCall 2 p__law_take (aCons (cVar 0) (aCons (cK (.int 2)) aNil))))) aNil)) (gNm 3) (sAsg (dCall 2 p__law_spoilt (aCons (cVar 0) (aCons (cVar 1) aNil))) (gNm 1)))
  (sRet (cVar 1)))
theorem bent_ok {pt : Fn} (ht : TakeOk pt) (d n m : Nat) (x : PV) (s : Dr) (μ : Sto) (l : Nat) (turn : Int) (hx : tre n x d = true) (hn : n ≤ 100) (ok : s.Ok (m + (4 * d + 5))) (h : μ[l]? = some s.ob) :
    ∃ (y : PV) (s' : Dr), tre (4 * n + 6) y d = true ∧ s'.Ok m ∧ runF 4 (dBent pt (pSpoilt pt (d + 1))) [.loc l, x, .int turn] μ = some (y, μ.set l s'.ob) := by
  obtain ⟨k, s1, k0, k1, ok1, e⟩ := ht s (m + (4 * d + 4)) μ l 2 ok h (by decide) (by decide)
  have g1 : (μ.set l s1.ob)[l]? = some s1.ob := dr_get h
  have fin : ∀ (y : PV) (s' : Dr) (ρ' : En), ρ'[1]? = some (some y) → sFor (itRg1 (aCons (d2 f_mul (dN f_int (aCons (d2 f_gt (cVar 2) (cK (.int 0))) aNil)) (d2 f_add (cK (.int 1)) (dCall 2 pt (aCons (cVar 0) (aCons (cK (.int 2)) aNil))))) aNil)) (gNm 3) (sAsg (dCall 2 (pSpoilt pt (d + 1)) (aCons (cVar 0) (aCons (cVar 1) aNil))) (gNm 1)) [some (.loc l), some x, some (.int turn), none] μ = some (.nx ρ' (μ.set l s'.ob)) →
      runF 4 (dBent pt (pSpoilt pt (d + 1))) [.loc l, x, .int turn] μ = some (y, μ.set l s'.ob) := fun y s' ρ' h1 h2 => by
    refine runF_rt (ρ := [some (.loc l), some x, some (.int turn), none]) rfl ?_
    exact ev_seq h2 (ev_ret (ev_var h1))
  by_cases htu : 0 < turn
  · have hit : ∀ c : Nat, 1 + k = c → itRg1 (aCons (d2 f_mul (dN f_int (aCons (d2 f_gt (cVar 2) (cK (.int 0))) aNil)) (d2 f_add (cK (.int 1)) (dCall 2 pt (aCons (cVar 0) (aCons (cK (.int 2)) aNil))))) aNil) [some (.loc l), some x, some (.int turn), none] μ = some ((rgP 0 c, []), μ.set l s1.ob) := fun c hc => by
      refine it_rg1 (j := 1 * (1 + k)) ?_ (rgIn_of (by omega) (by omega)) (by omega)
      have hi : f_int [.bl true] μ = some (.int 1, μ) := rfl
      (repeat' first | (with_reducible apply ev_var; exact rfl) | with_reducible exact ev_K | with_reducible exact e | with_reducible exact hi | with_reducible exact ev_aNil | with_reducible exact ev_oNo | with_reducible exact ev_tAll | with_reducible exact ev_gsN | with_reducible apply ev_aCons | with_reducible apply ev_d2 | with_reducible apply ev_d1 | with_reducible apply ev_dN | with_reducible apply ev_dCall | with_reducible apply ev_dTup | with_reducible apply ev_dLst | with_reducible apply ev_dLoc | with_reducible apply ev_sl | with_reducible apply ev_oSo | with_reducible apply ev_ch2b | with_reducible apply ev_ch3b | with_reducible apply ev_tB | with_reducible apply ev_tTru | with_reducible apply ev_tNo | with_reducible apply ev_no | with_reducible apply ev_dML | with_reducible apply ev_gTu | with_reducible apply ev_gsC | with_reducible apply ev_gSb | with_reducible apply ev_gNm | (simp only [List.length_cons, List.length_nil]; exact len_le (by decide)) | exact decide_eq_true (by omega) | exact decide_eq_false (by omega) | exact ne_t (by omega) | exact ne_f (by omega) | with_reducible apply lt_ii | with_reducible apply le_ii | with_reducible apply gt_ii | with_reducible apply ge_ii | with_reducible apply eq_ii | with_reducible apply ne_ii | with_reducible apply eq_ss | with_reducible exact add_ii | with_reducible exact sub_ii | with_reducible exact neg_i | with_reducible apply mul_ii | exact okMul_small (by omega) (by omega) | exact mod_ii (by omega) | exact fdiv_ii (by omega) (by omega) | exact mod_ni (by omega) | exact fdiv_ni (by omega) (by omega) | exact pow_ii (by omega) (by omega) (by omega) | with_reducible apply ix_tup | with_reducible apply ix_lst | (simp only [List.set_cons_succ, List.set_cons_zero]; rfl) | exact rfl | exact e | exact hi)
    obtain ⟨y, s2, ty, ok2, e2⟩ := spoilt_ok ht d n (m + (2 * d + 2)) x s1 (μ.set l s1.ob) l hx (by omega) (ok1.le (by omega)) g1
    rw [List.set_set] at e2
    have g2 : (μ.set l s2.ob)[l]? = some s2.ob := dr_get h
    by_cases hk : k = 0
    · refine ⟨y, s2, tre_mono (by omega) _ _ ty, ok2.le (by omega), fin y s2 [some (.loc l), some y, some (.int turn), some (.int 0)] rfl ?_⟩
      refine ev_for (hit 1 (by omega)) ?_
      refine for_step rfl (ρ' := [some (.loc l), some y, some (.int turn), some (.int 0)]) (μ' := μ.set l s2.ob) ?_ chk_nil for_nil
      ((first | with_reducible apply ev_set | with_reducible apply ev_par | with_reducible apply ev_par3 | with_reducible apply ev_asg | with_reducible apply ev_ex | with_reducible apply ev_ret | with_reducible exact ev_sNil | (with_reducible apply ev_aug; exact rfl)) <;> (repeat' first | (with_reducible apply ev_var; exact rfl) | with_reducible exact ev_K | with_reducible exact e2 | with_reducible exact ev_aNil | with_reducible exact ev_oNo | with_reducible exact ev_tAll | with_reducible exact ev_gsN | with_reducible apply ev_aCons | with_reducible apply ev_d2 | with_reducible apply ev_d1 | with_reducible apply ev_dN | with_reducible apply ev_dCall | with_reducible apply ev_dTup | with_reducible apply ev_dLst | with_reducible apply ev_dLoc | with_reducible apply ev_sl | with_reducible apply ev_oSo | with_reducible apply ev_ch2b | with_reducible apply ev_ch3b | with_reducible apply ev_tB | with_reducible apply ev_tTru | with_reducible apply ev_tNo | with_reducible apply ev_no | with_reducible apply ev_dML | with_reducible apply ev_gTu | with_reducible apply ev_gsC | with_reducible apply ev_gSb | with_reducible apply ev_gNm | (simp only [List.length_cons, List.length_nil]; exact len_le (by decide)) | exact decide_eq_true (by omega) | exact decide_eq_false (by omega) | exact ne_t (by omega) | exact ne_f (by omega) | with_reducible apply lt_ii | with_reducible apply le_ii | with_reducible apply gt_ii | with_reducible apply ge_ii | with_reducible apply eq_ii | with_reducible apply ne_ii | with_reducible apply eq_ss | with_reducible exact add_ii | with_reducible exact sub_ii | with_reducible exact neg_i | with_reducible apply mul_ii | exact okMul_small (by omega) (by omega) | exact mod_ii (by omega) | exact fdiv_ii (by omega) (by omega) | exact mod_ni (by omega) | exact fdiv_ni (by omega) (by omega) | exact pow_ii (by omega) (by omega) (by omega) | with_reducible apply ix_tup | with_reducible apply ix_lst | (simp only [List.set_cons_succ, List.set_cons_zero]; rfl) | exact rfl | exact e2))
    · obtain ⟨z, s3, tz, ok3, e3⟩ := spoilt_ok ht d (2 * n + 2) m y s2 (μ.set l s2.ob) l ty (by omega) ok2 g2
      rw [List.set_set] at e3
      refine ⟨z, s3, tre_mono (by omega) _ _ tz, ok3, fin z s3 [some (.loc l), some z, some (.int turn), some (.int 1)] rfl ?_⟩
      refine ev_for (hit 2 (by omega)) ?_
      refine for_step rfl (ρ' := [some (.loc l), some y, some (.int turn), some (.int 0)]) (μ' := μ.set l s2.ob) ?_ chk_nil ?_
      · ((first | with_reducible apply ev_set | with_reducible apply ev_par | with_reducible apply ev_par3 | with_reducible apply ev_asg | with_reducible apply ev_ex | with_reducible apply ev_ret | with_reducible exact ev_sNil | (with_reducible apply ev_aug; exact rfl)) <;> (repeat' first | (with_reducible apply ev_var; exact rfl) | with_reducible exact ev_K | with_reducible exact e2 | with_reducible exact ev_aNil | with_reducible exact ev_oNo | with_reducible exact ev_tAll | with_reducible exact ev_gsN | with_reducible apply ev_aCons | with_reducible apply ev_d2 | with_reducible apply ev_d1 | with_reducible apply ev_dN | with_reducible apply ev_dCall | with_reducible apply ev_dTup | with_reducible apply ev_dLst | with_reducible apply ev_dLoc | with_reducible apply ev_sl | with_reducible apply ev_oSo | with_reducible apply ev_ch2b | with_reducible apply ev_ch3b | with_reducible apply ev_tB | with_reducible apply ev_tTru | with_reducible apply ev_tNo | with_reducible apply ev_no | with_reducible apply ev_dML | with_reducible apply ev_gTu | with_reducible apply ev_gsC | with_reducible apply ev_gSb | with_reducible apply ev_gNm | (simp only [List.length_cons, List.length_nil]; exact len_le (by decide)) | exact decide_eq_true (by omega) | exact decide_eq_false (by omega) | exact ne_t (by omega) | exact ne_f (by omega) | with_reducible apply lt_ii | with_reducible apply le_ii | with_reducible apply gt_ii | with_reducible apply ge_ii | with_reducible apply eq_ii | with_reducible apply ne_ii | with_reducible apply eq_ss | with_reducible exact add_ii | with_reducible exact sub_ii | with_reducible exact neg_i | with_reducible apply mul_ii | exact okMul_small (by omega) (by omega) | exact mod_ii (by omega) | exact fdiv_ii (by omega) (by omega) | exact mod_ni (by omega) | exact fdiv_ni (by omega) (by omega) | exact pow_ii (by omega) (by omega) (by omega) | with_reducible apply ix_tup | with_reducible apply ix_lst | (simp only [List.set_cons_succ, List.set_cons_zero]; rfl) | exact rfl | exact e2))
      refine for_step rfl (ρ' := [some (.loc l), some z, some (.int turn), some (.int 1)]) (μ' := μ.set l s3.ob) ?_ chk_nil for_nil
      ((first | with_reducible apply ev_set | with_reducible apply ev_par | with_reducible apply ev_par3 | with_reducible apply ev_asg | with_reducible apply ev_ex | with_reducible apply ev_ret | with_reducible exact ev_sNil | (with_reducible apply ev_aug; exact rfl)) <;> (repeat' first | (with_reducible apply ev_var; exact rfl) | with_reducible exact ev_K | with_reducible exact e3 | with_reducible exact ev_aNil | with_reducible exact ev_oNo | with_reducible exact ev_tAll | with_reducible exact ev_gsN | with_reducible apply ev_aCons | with_reducible apply ev_d2 | with_reducible apply ev_d1 | with_reducible apply ev_dN | with_reducible apply ev_dCall | with_reducible apply ev_dTup | with_reducible apply ev_dLst | with_reducible apply ev_dLoc | with_reducible apply ev_sl | with_reducible apply ev_oSo | with_reducible apply ev_ch2b | with_reducible apply ev_ch3b | with_reducible apply ev_tB | with_reducible apply ev_tTru | with_reducible apply ev_tNo | with_reducible apply ev_no | with_reducible apply ev_dML | with_reducible apply ev_gTu | with_reducible apply ev_gsC | with_reducible apply ev_gSb | with_reducible apply ev_gNm | (simp only [List.length_cons, List.length_nil]; exact len_le (by decide)) | exact decide_eq_true (by omega) | exact decide_eq_false (by omega) | exact ne_t (by omega) | exact ne_f (by omega) | with_reducible apply lt_ii | with_reducible apply le_ii | with_reducible apply gt_ii | with_reducible apply ge_ii | with_reducible apply eq_ii | with_reducible apply ne_ii | with_reducible apply eq_ss | with_reducible exact add_ii | with_reducible exact sub_ii | with_reducible exact neg_i | with_reducible apply mul_ii | exact okMul_small (by omega) (by omega) | exact mod_ii (by omega) | exact fdiv_ii (by omega) (by omega) | exact mod_ni (by omega) | exact fdiv_ni (by omega) (by omega) | exact pow_ii (by omega) (by omega) (by omega) | with_reducible apply ix_tup | with_reducible apply ix_lst | (simp only [List.set_cons_succ, List.set_cons_zero]; rfl) | exact rfl | exact e3))
  · refine ⟨x, s1, tre_mono (by omega) _ _ hx, ok1.le (by omega), fin x s1 [some (.loc l), some x, some (.int turn), none] rfl ?_⟩
    refine ev_for (xs := []) (ch := []) (μ1 := μ.set l s1.ob) ?_ for_nil
    refine it_rg1 (j := 0 * (1 + k)) (n := 0) ?_ (rgIn_of (by omega) (by omega)) (by omega)
    have hi : f_int [.bl false] μ = some (.int 0, μ) := rfl
    (repeat' first | (with_reducible apply ev_var; exact rfl) | with_reducible exact ev_K | with_reducible exact e | with_reducible exact hi | with_reducible exact ev_aNil | with_reducible exact ev_oNo | with_reducible exact ev_tAll | with_reducible exact ev_gsN | with_reducible apply ev_aCons | with_reducible apply ev_d2 | with_reducible apply ev_d1 | with_reducible apply ev_dN | with_reducible apply ev_dCall | with_reducible apply ev_dTup | with_reducible apply ev_dLst | with_reducible apply ev_dLoc | with_reducible apply ev_sl | with_reducible apply ev_oSo | with_reducible apply ev_ch2b | with_reducible apply ev_ch3b | with_reducible apply ev_tB | with_reducible apply ev_tTru | with_reducible apply ev_tNo | with_reducible apply ev_no | with_reducible apply ev_dML | with_reducible apply ev_gTu | with_reducible apply ev_gsC | with_reducible apply ev_gSb | with_reducible apply ev_gNm | (simp only [List.length_cons, List.length_nil]; exact len_le (by decide)) | exact decide_eq_true (by omega) | exact decide_eq_false (by omega) | exact ne_t (by omega) | exact ne_f (by omega) | with_reducible apply lt_ii | with_reducible apply le_ii | with_reducible apply gt_ii | with_reducible apply ge_ii | with_reducible apply eq_ii | with_reducible apply ne_ii | with_reducible apply eq_ss | with_reducible exact add_ii | with_reducible exact sub_ii | with_reducible exact neg_i | with_reducible apply mul_ii | exact okMul_small (by omega) (by omega) | exact mod_ii (by omega) | exact fdiv_ii (by omega) (by omega) | exact mod_ni (by omega) | exact fdiv_ni (by omega) (by omega) | exact pow_ii (by omega) (by omega) (by omega) | with_reducible apply ix_tup | with_reducible apply ix_lst | (simp only [List.set_cons_succ, List.set_cons_zero]; rfl) | exact rfl | exact e | exact hi)
/-! ### is_int, alike -/
def dIsInt : DenS := (sRet (dAn (d1 (f_isi .int) (cVar 0)) (dNo (d1 (f_isi .bool) (cVar 0)))))
def isIntP : PV → Bool
  | .int _ => true
  | _ => false
theorem isInt_ok {x : PV} {μ : Sto} (hx : ∀ l, x ≠ .loc l) (hs : ∀ l, x ≠ .scr l) : runF 1 dIsInt [x] μ = some (.bl (isIntP x), μ) := by
  refine runF_rt (ρ := [some x]) rfl ?_
  apply ev_ret
  cases x with
  | loc l => exact absurd rfl (hx l)
  | scr l => exact absurd rfl (hs l)
  | _ => rfl
mutual
def plain : PV → Nat → Bool
  | .non, _ => true
  | .int _, _ => true
  | .str _, _ => true
  | .tup xs, d => match d with
    | 0 => false
    | d + 1 => decide (xs.length ≤ 900) && plains xs d
  | _, _ => false
def plains : List PV → Nat → Bool
  | [], _ => true
  | x :: xs, d => plain x d && plains xs d
end
theorem plains_iff {d : Nat} : ∀ {xs : List PV}, plains xs d = true ↔ ∀ x ∈ xs, plain x d = true
  | [] => ⟨fun _ => (fun _ h => nomatch h), fun _ => rfl⟩
  | x :: xs => by
    show (plain x d && plains xs d) = true ↔ _
    rw [Bool.and_eq_true, plains_iff, List.forall_mem_cons]
noncomputable def dAlike (p__law_alike : Fn) : DenS :=
  (sSeq (sIf (tTru (d1 (f_isi .tuple) (cVar 1))) (sRet (dAn (d1 (f_isi .tuple) (cVar 0)) (dAn (d2 f_eq (dN f_len (aCons (cVar 0) aNil)) (dN f_len (aCons (cVar 1) aNil))) (dN f_all (aCons (dLc [2] (itRg1 (aCons (dN f_len (aCons (cVar 1) aNil)) aNil)) (gNm 2) tAll (dCall 2 p__law_alike (aCons (d2 f_ix (cVar 0) (cVar 2)) (aCons (d2 f_ix (cVar 1) (cVar 2)) aNil)))) aNil))))) sNil)
  (sSeq (sIf (tB1 (d2 f_is (cVar 1) (cK .non))) (sRet (d2 f_is (cVar 0) (cK .non))) sNil)
  (sSeq (sIf (tOr' (tTru (d1 (f_isi .bool) (cVar 0))) (tB1 (d2 f_ne (d1 (f_isi .str) (cVar 0)) (d1 (f_isi .str) (cVar 1))))) (sRet (cK (.bl false))) sNil)
  (sRet (dAn (d1 (f_isi2 .int .str) (cVar 0)) (d2 f_eq (cVar 0) (cVar 1)))))))
noncomputable def pAlike : Nat → Fn
  | 0 => fun _ _ => none
  | k + 1 => runF 3 (dAlike (pAlike k))
theorem mem_rgP : ∀ {n : Nat} {lo : Int} {x : PV}, x ∈ rgP lo n → ∃ k : Nat, k < n ∧ x = .int (lo + k)
  | 0, _, _, h => nomatch h
  | n + 1, lo, x, h => by
    rcases List.mem_cons.mp h with e | h
    · exact ⟨0, by omega, by rw [e]; simp⟩
    · obtain ⟨k, hk, e⟩ := mem_rgP h
      exact ⟨k + 1, by omega, by rw [e]; congr 1; push_cast; omega⟩
theorem all_true {l : List PV} {μ : Sto} : f_all [.lst (l.map fun _ => .bl true)] μ = some (.bl true, μ) := by
  have : l.map (fun _ => PV.bl true) = (l.map fun _ => true).map PV.bl := by rw [List.map_map]; rfl
  show Option.map _ ((some (l.map fun _ => PV.bl true)).bind blsP) = _
  rw [this]
  show Option.map _ (blsP _) = _
  rw [blsP_map]
  show some (PV.bl ((l.map fun _ => true).all id), μ) = _
  congr 3
  rw [List.all_eq_true]
  intro x hx
  obtain ⟨_, _, rfl⟩ := List.mem_map.mp hx
  rfl
theorem alike_refl : ∀ (d : Nat) (x : PV) (μ : Sto), plain x d = true → pAlike (d + 1) [x, x] μ = some (.bl true, μ) := by
  intro d
  induction d with
  | zero =>
    intro x μ h
    refine runF_rt (ρ := [some x, some x, none]) rfl ?_
    cases x with
    | non => rfl
    | int i =>
      apply ev_seq
      case ha => exact ev_sIf_f (ev_tTru (b := false) rfl rfl) ev_sNil
      apply ev_seq
      case ha => exact ev_sIf_f (b := sNil) (ev_tB rfl) ev_sNil
      apply ev_seq
      case ha => exact ev_sIf_f (ev_tOr_f (ev_tTru (b := false) rfl rfl) (ev_tB (b := false) rfl)) ev_sNil
      apply ev_ret
      exact ev_an_t (x := .bl true) rfl rfl (ev_d2 rfl rfl (eq_ii (decide_eq_true rfl)))
    | str z =>
      apply ev_seq
      case ha => exact ev_sIf_f (ev_tTru (b := false) rfl rfl) ev_sNil
      apply ev_seq
      case ha => exact ev_sIf_f (b := sNil) (ev_tB rfl) ev_sNil
      apply ev_seq
      case ha => exact ev_sIf_f (ev_tOr_f (ev_tTru (b := false) rfl rfl) (ev_tB (b := false) rfl)) ev_sNil
      apply ev_ret
      exact ev_an_t (x := .bl true) rfl rfl (ev_d2 rfl rfl (eq_ss (decide_eq_true rfl)))
    | _ => cases h
  | succ d ih =>
    intro x μ h
    refine runF_rt (ρ := [some x, some x, none]) rfl ?_
    cases x with
    | non => rfl
    | int i =>
      apply ev_seq
      case ha => exact ev_sIf_f (ev_tTru (b := false) rfl rfl) ev_sNil
      apply ev_seq
      case ha => exact ev_sIf_f (b := sNil) (ev_tB rfl) ev_sNil
      apply ev_seq
      case ha => exact ev_sIf_f (ev_tOr_f (ev_tTru (b := false) rfl rfl) (ev_tB (b := false) rfl)) ev_sNil
      apply ev_ret
      exact ev_an_t (x := .bl true) rfl rfl (ev_d2 rfl rfl (eq_ii (decide_eq_true rfl)))
    | str z =>
      apply ev_seq
      case ha => exact ev_sIf_f (ev_tTru (b := false) rfl rfl) ev_sNil
      apply ev_seq
      case ha => exact ev_sIf_f (b := sNil) (ev_tB rfl) ev_sNil
      apply ev_seq
      case ha => exact ev_sIf_f (ev_tOr_f (ev_tTru (b := false) rfl rfl) (ev_tB (b := false) rfl)) ev_sNil
      apply ev_ret
      exact ev_an_t (x := .bl true) rfl rfl (ev_d2 rfl rfl (eq_ss (decide_eq_true rfl)))
    | tup xs =>
      have h : (decide (xs.length ≤ 900) && plains xs d) = true := h
      rw [Bool.and_eq_true, decide_eq_true_eq, plains_iff] at h
      apply ev_seq_rt
      apply ev_sIf_t
      case hc => exact ev_tTru (b := true) rfl rfl
      apply ev_ret
      apply ev_an_t (x := .bl true) rfl rfl
      apply ev_an_t (x := .bl true) (ev_d2 rfl rfl (eq_ii (decide_eq_true rfl))) rfl
      apply ev_dN (ev_aCons (ev_lc (xs := rgP 0 xs.length) (it_rg1 (j := xs.length) rfl (rgIn_of (by omega) (by omega)) (by omega)) rfl
        (lc_all (fun _ => true) (fun _ => .bl true) _ _ chk_nil (by rw [rgP_length]; exact sz (by show 0 + _ ≤ _; omega)) fun y hy => ?_)) ev_aNil)
      · rw [List.filter_eq_self.mpr (fun _ _ => rfl), List.nil_append]
        exact all_true
      · obtain ⟨k, hk, rfl⟩ := mem_rgP hy
        refine ⟨[some (.tup xs), some (.tup xs), some (.int (0 + k))], rfl, rfl, fun _ => ?_⟩
        have hix : f_ix (.tup xs) (.int (0 + k)) μ = some (xs[k], μ) := ix_tup (by rw [Int.zero_add]; exact L2.atI_nat (by simp [hk]))
        exact ev_dCall (ev_aCons (ev_d2 rfl rfl hix) (ev_aCons (ev_d2 rfl rfl hix) ev_aNil)) (ih _ μ (h.2 _ (List.getElem_mem hk))) rfl
    | _ => cases h
end Fd

/-! Num1: whole numbers: common divisors, joined rests. -/
namespace Nm
/-! ### cofactors -/
theorem wc_math {a B g x : Int} (hg : 0 < g) (hga : g ∣ a) (hgB : g ∣ B) (h : B ∣ a * x - g) : B ∣ a * (x % (B / g)) - g := by
  obtain ⟨a1, rfl⟩ := hga
  obtain ⟨b1, rfl⟩ := hgB
  rw [Int.mul_ediv_cancel_left _ (by omega)]
  have e : x = x % b1 + b1 * (x / b1) := (Int.emod_add_mul_ediv x b1).symm
  have k : g * a1 * (x % b1) - g = (g * a1 * x - g) - g * b1 * (a1 * (x / b1)) := by
    have : g * a1 * x = g * a1 * (x % b1) + g * b1 * (a1 * (x / b1)) := by
      have h2 : g * a1 * x = g * a1 * (x % b1 + b1 * (x / b1)) := congrArg (fun z => g * a1 * z) e
      rw [h2, Int.mul_add]
      congr 1
      ac_rfl
    omega
  rw [k]
  exact Int.dvd_sub h (Int.dvd_mul_right _ _)
/-- one turn of Euclid's steps -/
theorem wc_turn {a B g x r o : Int} (h1 : B ∣ a * x - g) (h2 : B ∣ a * o - r) (t : Int) : B ∣ a * (x - t * o) - (g - t * r) := by
  have e : a * (x - t * o) - (g - t * r) = (a * x - g) - t * (a * o - r) := by
    rw [Int.mul_sub, Int.mul_sub, show a * (t * o) = t * (a * o) by ac_rfl]
    omega
  rw [e]
  exact Int.dvd_sub h1 (Int.dvd_mul_of_dvd_right h2)
theorem gcd_turn (g r : Nat) : Nat.gcd r (g % r) = Nat.gcd g r := by
  rw [Nat.gcd_comm r (g % r), ← Nat.gcd_rec, Nat.gcd_comm]
/-! ### a rest that is the only one -/
theorem eq_of_dvd {n x y : Int} (hx : 0 ≤ x) (hx2 : x < n) (hy : 0 ≤ y) (hy2 : y < n) (h : n ∣ x - y) : x = y := by
  obtain ⟨k, hk⟩ := h
  have h1 : x - y < n := by omega
  have h2 : -n < x - y := by omega
  have hn : 0 < n := by omega
  have : k = 0 := by
    by_cases h0 : k = 0
    · exact h0
    · exfalso
      by_cases hp : 0 < k
      · have : n * 1 ≤ n * k := Int.mul_le_mul_of_nonneg_left (by omega) (by omega)
        omega
      · have : n * k ≤ n * (-1) := Int.mul_le_mul_of_nonneg_left (by omega) (by omega)
        omega
  subst this
  omega
/-- the inverse is the only one -/
theorem inv_uniq {a n x y z : Int} (hx : 0 ≤ x) (hx2 : x < n) (hy : 0 ≤ y) (hy2 : y < n) (h1 : a * x + n * z = 1) (h2 : n ∣ a * y - 1) : y = x := by
  refine eq_of_dvd hy hy2 hx hx2 ?_
  have e : y - x = x * (a * y - 1) + n * (z * y) := by
    have : x * (a * y - 1) = a * x * y - x := by rw [Int.mul_sub, Int.mul_one]; congr 1; ac_rfl
    rw [this]
    have h3 : a * x = 1 - n * z := by omega
    rw [h3, Int.sub_mul, Int.one_mul]
    have : n * z * y = n * (z * y) := by ac_rfl
    omega
  rw [e]
  exact Int.dvd_add (Int.dvd_mul_of_dvd_right h2) (Int.dvd_mul_right _ _)
/-! ### joined rests -/
/-- the least common multiple as the program reckons it -/
def lc (n m : Int) : Int := n / (Int.gcd n m : Int) * m
theorem gcd_pos {n m : Int} (hn : 0 < n) : 0 < (Int.gcd n m : Int) := by
  have : Int.gcd n m ≠ 0 := fun h => by
    have := (Int.gcd_eq_zero_iff.mp h).1
    omega
  omega
theorem lc_pos {n m : Int} (hn : 0 < n) (hm : 0 < m) : 0 < lc n m := by
  unfold lc
  have h1 := gcd_pos (m := m) hn
  obtain ⟨k, hk⟩ := Int.gcd_dvd_left n m
  have e : n / (Int.gcd n m : Int) = k := by
    conv => lhs; lhs; rw [hk]
    exact Int.mul_ediv_cancel_left _ (by omega)
  rw [e]
  have : 0 < k := by
    by_cases h : 0 < k
    · exact h
    · exfalso
      have : (Int.gcd n m : Int) * k ≤ (Int.gcd n m : Int) * 0 := Int.mul_le_mul_of_nonneg_left (by omega) (by omega)
      omega
  exact Int.mul_pos this hm
theorem lc_left {n m : Int} : n ∣ lc n m := by
  unfold lc
  obtain ⟨k, hk⟩ := Int.gcd_dvd_right n m
  have h := Int.ediv_mul_cancel (Int.gcd_dvd_left n m)
  refine ⟨k, ?_⟩
  conv => lhs; rhs; rw [hk]
  rw [← Int.mul_assoc, h]
theorem lc_right {n m : Int} : m ∣ lc n m := Int.dvd_mul_left _ _
theorem lc_least {n m k : Int} (hn : 0 < n) (h1 : n ∣ k) (h2 : m ∣ k) : lc n m ∣ k := by
  have hg := gcd_pos (m := m) hn
  obtain ⟨n1, hn1⟩ := Int.gcd_dvd_left n m
  obtain ⟨m1, hm1⟩ := Int.gcd_dvd_right n m
  have e : lc n m = n1 * m := by
    unfold lc
    have : n / (Int.gcd n m : Int) = n1 := by
      conv => lhs; lhs; rw [hn1]
      exact Int.mul_ediv_cancel_left _ (by omega)
    rw [this]
  rw [e]
  -- gcd * (n1 m) divides k * gcd : n m divides k n and k m
  have a1 : n * m ∣ k * n := by rw [Int.mul_comm k n]; exact Int.mul_dvd_mul_left n h2
  have a2 : n * m ∣ k * m := Int.mul_dvd_mul_right m h1
  have a3 : n * m ∣ (Int.gcd (k * n) (k * m) : Int) := Int.dvd_coe_gcd a1 a2
  rw [Int.gcd_mul_left] at a3
  have a4 : n * m ∣ k * (Int.gcd n m : Int) := by
    have : ((k.natAbs * Int.gcd n m : Nat) : Int) ∣ k * (Int.gcd n m : Int) := by
      rw [Int.natCast_mul]
      exact Int.mul_dvd_mul_right _ (Int.natAbs_dvd.mpr (Int.dvd_refl _))
    exact Int.dvd_trans a3 this
  have a5 : n * m = (Int.gcd n m : Int) * (n1 * m) := by
    conv => lhs; lhs; rw [hn1]
    exact Int.mul_assoc _ _ _
  rw [a5, Int.mul_comm k] at a4
  exact Int.dvd_of_mul_dvd_mul_left (by omega) a4
/-- the greatest common divisor of a least common multiple -/
theorem gcd_lc {n m' m t : Int} (hn : 0 < n) (h1 : (Int.gcd n m : Int) ∣ t) (h2 : (Int.gcd m' m : Int) ∣ t) : (Int.gcd (lc n m') m : Int) ∣ t := by
  have hh : 0 < (Int.gcd (Int.gcd n m') m : Int) := by
    have := gcd_pos (m := m') hn
    exact gcd_pos this
  -- D := gcd (lc n m') m * h divides g1 * g2
  let h : Int := (Int.gcd (Int.gcd n m') m : Int)
  let g1 : Int := (Int.gcd n m : Int)
  let g2 : Int := (Int.gcd m' m : Int)
  let L : Int := lc n m'
  let c : Int := (Int.gcd L m : Int)
  have he : h ∣ (Int.gcd n m' : Int) := Int.gcd_dvd_left _ _
  have hm : h ∣ m := Int.gcd_dvd_right _ _
  have hn' : h ∣ n := Int.dvd_trans he (Int.gcd_dvd_left _ _)
  have hm' : h ∣ m' := Int.dvd_trans he (Int.gcd_dvd_right _ _)
  have cL : c ∣ L := Int.gcd_dvd_left _ _
  have cm : c ∣ m := Int.gcd_dvd_right _ _
  have eL : L * (Int.gcd n m' : Int) = n * m' := by
    show n / (Int.gcd n m' : Int) * m' * (Int.gcd n m' : Int) = n * m'
    have := Int.ediv_mul_cancel (Int.gcd_dvd_left n m')
    rw [show n / (Int.gcd n m' : Int) * m' * (Int.gcd n m' : Int) = n / (Int.gcd n m' : Int) * (Int.gcd n m' : Int) * m' by ac_rfl, this]
  have d1 : c * h ∣ n * m' := by rw [← eL]; exact Int.mul_dvd_mul cL he
  have d2 : c * h ∣ m * m' := Int.mul_dvd_mul cm hm'
  have d3 : c * h ∣ m * n := Int.mul_dvd_mul cm hn'
  have d4 : c * h ∣ m * m := Int.mul_dvd_mul cm hm
  have mulg : ∀ u v z : Int, c * h ∣ z * u → c * h ∣ z * v → c * h ∣ z * (Int.gcd u v : Int) := fun u v z p q => by
    have a := Int.dvd_coe_gcd p q
    rw [Int.gcd_mul_left, Int.natCast_mul] at a
    exact Int.dvd_trans a (Int.mul_dvd_mul_right _ (Int.natAbs_dvd.mpr (Int.dvd_refl _)))
  have e1 : c * h ∣ m' * g1 := mulg n m m' (by rw [Int.mul_comm m' n]; exact d1) (by rw [Int.mul_comm m' m]; exact d2)
  have e2 : c * h ∣ m * g1 := mulg n m m d3 d4
  have e3 : c * h ∣ g1 * g2 := mulg m' m g1 (by rw [Int.mul_comm g1 m']; exact e1) (by rw [Int.mul_comm g1 m]; exact e2)
  -- g1 * g2 divides t * h : both divide t, h = gcd g1 g2
  have hg : h = (Int.gcd g1 g2 : Int) := by
    have x1 : h ∣ (Int.gcd g1 g2 : Int) := Int.dvd_coe_gcd (Int.dvd_coe_gcd hn' hm) (Int.dvd_coe_gcd hm' hm)
    have y1 : (Int.gcd g1 g2 : Int) ∣ g1 := Int.gcd_dvd_left _ _
    have y2 : (Int.gcd g1 g2 : Int) ∣ g2 := Int.gcd_dvd_right _ _
    have x2 : (Int.gcd g1 g2 : Int) ∣ h := Int.dvd_coe_gcd (Int.dvd_coe_gcd (Int.dvd_trans y1 (Int.gcd_dvd_left _ _)) (Int.dvd_trans y2 (Int.gcd_dvd_left _ _))) (Int.dvd_trans y1 (Int.gcd_dvd_right _ _))
    exact Int.dvd_antisymm (by omega) (by omega) x1 x2
  have f : g1 * g2 ∣ t * h := by
    rw [hg]
    have p1 : g1 * g2 ∣ t * g1 := by rw [Int.mul_comm t]; exact Int.mul_dvd_mul_left _ h2
    have p2 : g1 * g2 ∣ t * g2 := Int.mul_dvd_mul_right _ h1
    have a := Int.dvd_coe_gcd p1 p2
    rw [Int.gcd_mul_left, Int.natCast_mul] at a
    exact Int.dvd_trans a (Int.mul_dvd_mul_right _ (Int.natAbs_dvd.mpr (Int.dvd_refl _)))
  have f2 : h * c ∣ h * t := by
    rw [Int.mul_comm h c, Int.mul_comm h t]
    exact Int.dvd_trans e3 f
  exact Int.dvd_of_mul_dvd_mul_left (by omega) f2
end Nm

/-! Num2: joined rests of many pairs. -/
namespace Nm
theorem bezN : ∀ (b a : Nat), ∃ x y : Int, (a : Int) * x + (b : Int) * y = (Nat.gcd a b : Int) := by
  intro b
  induction b using Nat.strongRecOn with
  | ind b ih =>
    intro a
    by_cases hb : b = 0
    · subst hb
      exact ⟨1, 0, by simp⟩
    · obtain ⟨x, y, h⟩ := ih (a % b) (Nat.mod_lt _ (by omega)) b
      refine ⟨y, x - (a / b : Nat) * y, ?_⟩
      rw [← gcd_turn a b, ← h]
      have e : ((a : Nat) : Int) = (b : Int) * ((a / b : Nat) : Int) + ((a % b : Nat) : Int) := by
        have := Nat.div_add_mod a b
        omega
      rw [Int.mul_sub, show (b : Int) * (((a / b : Nat) : Int) * y) = (b : Int) * ((a / b : Nat) : Int) * y by ac_rfl]
      conv => lhs; lhs; lhs; rw [e]
      rw [Int.add_mul]
      omega
theorem bez (a b : Int) : ∃ x y : Int, a * x + b * y = (Int.gcd a b : Int) := by
  obtain ⟨x, y, h⟩ := bezN b.natAbs a.natAbs
  have sg : ∀ c : Int, ∃ e : Int, ∀ z : Int, c * (e * z) = (c.natAbs : Int) * z := fun c => by
    by_cases hc : 0 ≤ c
    · exact ⟨1, fun z => by rw [Int.one_mul, Int.natAbs_of_nonneg hc]⟩
    · refine ⟨-1, fun z => ?_⟩
      have : (c.natAbs : Int) = -c := by omega
      rw [this, Int.neg_mul c z, Int.neg_one_mul, Int.mul_neg]
  obtain ⟨e, he⟩ := sg a
  obtain ⟨f, hf⟩ := sg b
  exact ⟨e * x, f * y, by rw [he, hf]; exact h⟩
/-- u leaves both rests -/
def Fits (r n s m u : Int) : Prop := 0 ≤ u ∧ u < lc n m ∧ n ∣ u - r ∧ m ∣ u - s
theorem Fits.uniq {r n s m u v : Int} (hn : 0 < n) (h : Fits r n s m u) (k : Fits r n s m v) : u = v := by
  refine eq_of_dvd h.1 h.2.1 k.1 k.2.1 (lc_least hn ?_ ?_)
  · have := Int.dvd_sub h.2.2.1 k.2.2.1
    rw [show u - r - (v - r) = u - v by omega] at this
    exact this
  · have := Int.dvd_sub h.2.2.2 k.2.2.2
    rw [show u - s - (v - s) = u - v by omega] at this
    exact this
theorem Fits.gcd {r n s m u : Int} (h : Fits r n s m u) : (Int.gcd n m : Int) ∣ s - r := by
  have h1 := Int.dvd_trans (Int.gcd_dvd_left n m) h.2.2.1
  have h2 := Int.dvd_trans (Int.gcd_dvd_right n m) h.2.2.2
  have := Int.dvd_sub h1 h2
  rw [show u - r - (u - s) = s - r by omega] at this
  exact this
/-- the program's formula -/
theorem Fits.of {r n s m x y : Int} (hn : 0 < n) (hm : 0 < m) (hxy : n * x + m * y = (Int.gcd n m : Int)) (h : (Int.gcd n m : Int) ∣ s - r) : Fits r n s m ((r + n * ((s - r) / (Int.gcd n m : Int) * x)) % lc n m) := by
  have hW := lc_pos hn hm
  refine ⟨Int.emod_nonneg _ (by omega), Int.emod_lt_of_pos _ hW, ?_, ?_⟩
  · have a : lc n m ∣ (r + n * ((s - r) / (Int.gcd n m : Int) * x)) - (r + n * ((s - r) / (Int.gcd n m : Int) * x)) % lc n m := Int.dvd_self_sub_emod
    have b := Int.dvd_trans lc_left a
    have c : n ∣ n * ((s - r) / (Int.gcd n m : Int) * x) := Int.dvd_mul_right _ _
    have d := Int.dvd_sub c b
    rw [show ∀ p q w : Int, p - (r + p - q) = q - r by intros; omega] at d
    · exact d
    · exact 0
  · have a : lc n m ∣ (r + n * ((s - r) / (Int.gcd n m : Int) * x)) - (r + n * ((s - r) / (Int.gcd n m : Int) * x)) % lc n m := Int.dvd_self_sub_emod
    have b := Int.dvd_trans lc_right a
    obtain ⟨k, hk⟩ := h
    have hg := gcd_pos (m := m) hn
    have e : (s - r) / (Int.gcd n m : Int) = k := by rw [hk]; exact Int.mul_ediv_cancel_left _ (by omega)
    have c : m ∣ (r + n * ((s - r) / (Int.gcd n m : Int) * x)) - s := by
      rw [e]
      have : n * (k * x) = k * (n * x) := by ac_rfl
      rw [this, show n * x = (Int.gcd n m : Int) - m * y by omega, Int.mul_sub, show k * (Int.gcd n m : Int) = (Int.gcd n m : Int) * k by ac_rfl, ← hk]
      refine ⟨-(k * y), ?_⟩
      have : k * (m * y) = m * (k * y) := by ac_rfl
      rw [this, Int.mul_neg]
      omega
    have d := Int.dvd_sub c b
    rw [show ∀ p q : Int, p - s - (p - q) = q - s by intros; omega] at d
    exact d
theorem fits_iff {r n s m : Int} (hn : 0 < n) (hm : 0 < m) : (∃ u, Fits r n s m u) ↔ (Int.gcd n m : Int) ∣ s - r := by
  constructor
  · rintro ⟨u, h⟩
    exact h.gcd
  · intro h
    obtain ⟨x, y, e⟩ := bez n m
    exact ⟨_, Fits.of hn hm e h⟩
open Classical in
/-- all pairs joined, one behind another -/
noncomputable def foldJ : List (Int × Int) → Int × Int → Option (Int × Int)
  | [], st => some st
  | q :: ps, st => if h : ∃ u, Fits st.1 st.2 q.1 q.2 u then foldJ ps (Classical.choose h, lc st.2 q.2) else none
theorem foldJ_yes {q : Int × Int} {ps : List (Int × Int)} {r n u : Int} (hn : 0 < n) (h : Fits r n q.1 q.2 u) : foldJ (q :: ps) (r, n) = foldJ ps (u, lc n q.2) := by
  have hh : ∃ u, Fits (r, n).1 (r, n).2 q.1 q.2 u := ⟨u, h⟩
  have e : foldJ (q :: ps) (r, n) = foldJ ps (Classical.choose hh, lc n q.2) := by
    conv => lhs; unfold foldJ
    exact dif_pos hh
  rw [e, Fits.uniq hn (Classical.choose_spec hh) h]
theorem foldJ_no {q : Int × Int} {ps : List (Int × Int)} {r n : Int} (h : ¬ ∃ u, Fits r n q.1 q.2 u) : foldJ (q :: ps) (r, n) = none := by
  unfold foldJ
  exact dif_neg h
def Compat (p q : Int × Int) : Prop := (Int.gcd p.2 q.2 : Int) ∣ p.1 - q.1
structure InvJ (P : List (Int × Int)) (r n : Int) : Prop where
  n0 : 0 < n
  at_ : ∀ p ∈ P, p.2 ∣ n ∧ p.2 ∣ r - p.1
  sup : ∀ k t : Int, (∀ p ∈ P, (Int.gcd p.2 k : Int) ∣ t) → (Int.gcd n k : Int) ∣ t
theorem InvJ.nil : InvJ [] 0 1 := ⟨by decide, fun _ h => (nomatch h), fun k t _ => by simp⟩
theorem InvJ.snoc {P : List (Int × Int)} {r n u : Int} {q : Int × Int} (I : InvJ P r n) (hm : 0 < q.2) (h : Fits r n q.1 q.2 u) : InvJ (P ++ [q]) u (lc n q.2) := by
  refine ⟨lc_pos I.n0 hm, fun p hp => ?_, fun k t ht => ?_⟩
  · rcases List.mem_append.mp hp with hp | hp
    · obtain ⟨a, b⟩ := I.at_ p hp
      refine ⟨Int.dvd_trans a lc_left, ?_⟩
      have := Int.dvd_add (Int.dvd_trans a h.2.2.1) b
      rw [show u - r + (r - p.1) = u - p.1 by omega] at this
      exact this
    · rw [List.mem_singleton.mp hp]
      exact ⟨lc_right, h.2.2.2⟩
  · exact gcd_lc I.n0 (I.sup k t fun p hp => ht p (List.mem_append_left _ hp)) (ht q (List.mem_append_right _ (List.mem_singleton.mpr rfl)))
theorem InvJ.fits_iff {P : List (Int × Int)} {r n : Int} {q : Int × Int} (I : InvJ P r n) (hm : 0 < q.2) : (∃ u, Fits r n q.1 q.2 u) ↔ ∀ p ∈ P, Compat p q := by
  rw [Nm.fits_iff I.n0 hm]
  constructor
  · intro h p hp
    obtain ⟨a, b⟩ := I.at_ p hp
    have h1 : (Int.gcd p.2 q.2 : Int) ∣ (Int.gcd n q.2 : Int) := Int.dvd_coe_gcd (Int.dvd_trans (Int.gcd_dvd_left _ _) a) (Int.gcd_dvd_right _ _)
    have h2 := Int.dvd_trans h1 h
    have h3 := Int.dvd_trans (Int.gcd_dvd_left p.2 q.2) b
    have := Int.dvd_add h2 h3
    rw [show q.1 - r + (r - p.1) = -(p.1 - q.1) by omega] at this
    exact Int.dvd_neg.mp this
  · intro h
    refine I.sup _ _ fun p hp => ?_
    obtain ⟨a, b⟩ := I.at_ p hp
    have h3 := Int.dvd_trans (Int.gcd_dvd_left p.2 q.2) b
    have := Int.dvd_add (h p hp) h3
    rw [show p.1 - q.1 + (r - p.1) = -(q.1 - r) by omega] at this
    exact Int.dvd_neg.mp this
def AllC (P : List (Int × Int)) : List (Int × Int) → Prop
  | [] => True
  | q :: ps => (∀ p ∈ P, Compat p q) ∧ AllC (P ++ [q]) ps
theorem foldJ_iff : ∀ (ps P : List (Int × Int)) (r n : Int), InvJ P r n → (∀ q ∈ ps, 0 < q.2) → ((∃ st, foldJ ps (r, n) = some st) ↔ AllC P ps)
  | [], P, r, n, _, _ => ⟨fun _ => trivial, fun _ => ⟨_, rfl⟩⟩
  | q :: ps, P, r, n, I, hm => by
    have hq := hm q List.mem_cons_self
    by_cases h : ∃ u, Fits r n q.1 q.2 u
    · obtain ⟨u, hu⟩ := h
      rw [foldJ_yes I.n0 hu, foldJ_iff ps (P ++ [q]) u _ (I.snoc hq hu) fun z hz => hm z (List.mem_cons_of_mem _ hz)]
      exact ⟨fun z => ⟨(I.fits_iff hq).mp ⟨u, hu⟩, z⟩, fun z => z.2⟩
    · rw [foldJ_no h]
      refine ⟨fun z => ?_, fun z => absurd ((I.fits_iff hq).mpr z.1) h⟩
      obtain ⟨_, z⟩ := z
      cases z
theorem allC_iff : ∀ (ps P : List (Int × Int)), AllC P ps ↔ ∀ i (hi : i < ps.length), ∀ p ∈ P ++ ps.take i, Compat p ps[i]
  | [], P => ⟨fun _ i hi => absurd hi (by simp), fun _ => trivial⟩
  | q :: ps, P => by
    show ((∀ p ∈ P, Compat p q) ∧ AllC (P ++ [q]) ps) ↔ _
    rw [allC_iff ps (P ++ [q])]
    constructor
    · rintro ⟨h1, h2⟩ i hi p hp
      cases i with
      | zero =>
        simp only [List.take_zero, List.append_nil] at hp
        exact h1 p hp
      | succ i =>
        refine h2 i (by simpa using hi) p ?_
        rw [List.take_succ_cons] at hp
        simpa using hp
    · intro h
      refine ⟨fun p hp => h 0 (by simp) p (by simpa using hp), fun i hi p hp => ?_⟩
      have := h (i + 1) (by simpa using hi) p (by rw [List.take_succ_cons]; simpa using hp)
      exact this
theorem lc_le {n m : Int} (hn : 0 < n) (hm : 0 < m) : lc n m ≤ n * m := by
  unfold lc
  refine Int.mul_le_mul_of_nonneg_right ?_ (by omega)
  exact Int.ediv_le_self _ (by omega)
end Nm

/-! FdG: common divisors, cofactors: the program's own, shared by many laws. -/
namespace Fd
open PySem PySem.Spec PyProof.Rows L2 Nm
theorem abs_i {i : Int} {μ : Sto} : f_abs [.int i] μ = some (.int (i.natAbs : Int), μ) := by
  show some (PV.int (if i < 0 then -i else i), μ) = _
  congr 3
  split <;> omega
/-! ### common divisors -/
theorem gcd_loop (μ : Sto) : ∀ (b a : Nat), sWh (tB1 (d2 f_ne (cVar 1) (cK (.int 0)))) (sPar 0 1 (aCons (cVar 1) (aCons (d2 f_mod (cVar 0) (cVar 1)) aNil))) [some (.int a), some (.int b)] μ = some (.nx [some (.int (Nat.gcd a b : Nat)), some (.int 0)] μ) := by
  intro b
  induction b using Nat.strongRecOn with
  | ind b ih =>
    intro a
    by_cases hb : b = 0
    · subst hb
      rw [Nat.gcd_zero_right]
      apply wh_done
      (repeat' first | (with_reducible apply ev_var; exact rfl) | with_reducible exact ev_K | with_reducible exact ev_aNil | with_reducible exact ev_oNo | with_reducible exact ev_tAll | with_reducible exact ev_gsN | with_reducible apply ev_aCons | with_reducible apply ev_d2 | with_reducible apply ev_d1 | with_reducible apply ev_dN | with_reducible apply ev_dCall | with_reducible apply ev_dTup | with_reducible apply ev_dLst | with_reducible apply ev_dLoc | with_reducible apply ev_sl | with_reducible apply ev_oSo | with_reducible apply ev_ch2b | with_reducible apply ev_ch3b | with_reducible apply ev_tB | with_reducible apply ev_tTru | with_reducible apply ev_tNo | with_reducible apply ev_no | with_reducible apply ev_dML | with_reducible apply ev_gTu | with_reducible apply ev_gsC | with_reducible apply ev_gSb | with_reducible apply ev_gNm | (simp only [List.length_cons, List.length_nil]; exact len_le (by decide)) | exact decide_eq_true (by omega) | exact decide_eq_false (by omega) | exact ne_t (by omega) | exact ne_f (by omega) | with_reducible apply lt_ii | with_reducible apply le_ii | with_reducible apply gt_ii | with_reducible apply ge_ii | with_reducible apply eq_ii | with_reducible apply ne_ii | with_reducible apply eq_ss | with_reducible exact add_ii | with_reducible exact sub_ii | with_reducible exact neg_i | with_reducible apply mul_ii | exact okMul_small (by omega) (by omega) | exact mod_ii (by omega) | exact fdiv_ii (by omega) (by omega) | exact mod_ni (by omega) | exact fdiv_ni (by omega) (by omega) | exact pow_ii (by omega) (by omega) (by omega) | with_reducible apply ix_tup | with_reducible apply ix_lst | (simp only [List.set_cons_succ, List.set_cons_zero]; rfl) | exact rfl)
    · have e := ih (a % b) (Nat.mod_lt _ (by omega)) b
      rw [gcd_turn] at e
      refine wh_step (ρ' := [some (.int b), some (.int (a % b : Nat))]) (μ1 := μ) (μ' := μ) ?_ ?_ e
      · (repeat' first | (with_reducible apply ev_var; exact rfl) | with_reducible exact ev_K | with_reducible exact ev_aNil | with_reducible exact ev_oNo | with_reducible exact ev_tAll | with_reducible exact ev_gsN | with_reducible apply ev_aCons | with_reducible apply ev_d2 | with_reducible apply ev_d1 | with_reducible apply ev_dN | with_reducible apply ev_dCall | with_reducible apply ev_dTup | with_reducible apply ev_dLst | with_reducible apply ev_dLoc | with_reducible apply ev_sl | with_reducible apply ev_oSo | with_reducible apply ev_ch2b | with_reducible apply ev_ch3b | with_reducible apply ev_tB | with_reducible apply ev_tTru | with_reducible apply ev_tNo | with_reducible apply ev_no | with_reducible apply ev_dML | with_reducible apply ev_gTu | with_reducible apply ev_gsC | with_reducible apply ev_gSb | with_reducible apply ev_gNm | (simp only [List.length_cons, List.length_nil]; exact len_le (by decide)) | exact decide_eq_true (by omega) | exact decide_eq_false (by omega) | exact ne_t (by omega) | exact ne_f (by omega) | with_reducible apply lt_ii | with_reducible apply le_ii | with_reducible apply gt_ii | with_reducible apply ge_ii | with_reducible apply eq_ii | with_reducible apply ne_ii | with_reducible apply eq_ss | with_reducible exact add_ii | with_reducible exact sub_ii | with_reducible exact neg_i | with_reducible apply mul_ii | exact okMul_small (by omega) (by omega) | exact mod_ii (by omega) | exact fdiv_ii (by omega) (by omega) | exact mod_ni (by omega) | exact fdiv_ni (by omega) (by omega) | exact pow_ii (by omega) (by omega) (by omega) | with_reducible apply ix_tup | with_reducible apply ix_lst | (simp only [List.set_cons_succ, List.set_cons_zero]; rfl) | exact rfl)
      · have hm : f_mod (.int a) (.int b) μ = some (.int ((a % b : Nat) : Int), μ) := by rw [mod_ii (by omega)]; rfl
        ((first | with_reducible apply ev_set | with_reducible apply ev_par | with_reducible apply ev_par3 | with_reducible apply ev_asg | with_reducible apply ev_ex | with_reducible apply ev_ret | with_reducible exact ev_sNil | (with_reducible apply ev_aug; exact rfl)) <;> (repeat' first | (with_reducible apply ev_var; exact rfl) | with_reducible exact ev_K | with_reducible exact hm | with_reducible exact ev_aNil | with_reducible exact ev_oNo | with_reducible exact ev_tAll | with_reducible exact ev_gsN | with_reducible apply ev_aCons | with_reducible apply ev_d2 | with_reducible apply ev_d1 | with_reducible apply ev_dN | with_reducible apply ev_dCall | with_reducible apply ev_dTup | with_reducible apply ev_dLst | with_reducible apply ev_dLoc | with_reducible apply ev_sl | with_reducible apply ev_oSo | with_reducible apply ev_ch2b | with_reducible apply ev_ch3b | with_reducible apply ev_tB | with_reducible apply ev_tTru | with_reducible apply ev_tNo | with_reducible apply ev_no | with_reducible apply ev_dML | with_reducible apply ev_gTu | with_reducible apply ev_gsC | with_reducible apply ev_gSb | with_reducible apply ev_gNm | (simp only [List.length_cons, List.length_nil]; exact len_le (by decide)) | exact decide_eq_true (by omega) | exact decide_eq_false (by omega) | exact ne_t (by omega) | exact ne_f (by omega) | with_reducible apply lt_ii | with_reducible apply le_ii | with_reducible apply gt_ii | with_reducible apply ge_ii | with_reducible apply eq_ii | with_reducible apply ne_ii | with_reducible apply eq_ss | with_reducible exact add_ii | with_reducible exact sub_ii | with_reducible exact neg_i | with_reducible apply mul_ii | exact okMul_small (by omega) (by omega) | exact mod_ii (by omega) | exact fdiv_ii (by omega) (by omega) | exact mod_ni (by omega) | exact fdiv_ni (by omega) (by omega) | exact pow_ii (by omega) (by omega) (by omega) | with_reducible apply ix_tup | with_reducible apply ix_lst | (simp only [List.set_cons_succ, List.set_cons_zero]; rfl) | exact rfl | exact hm))
noncomputable def dGcd : DenS :=
  (sSeq (sPar 0 1 (aCons (dN f_abs (aCons (cVar 0) aNil)) (aCons (dN f_abs (aCons (cVar 1) aNil)) aNil)))
  (sSeq (sWh (tB1 (d2 f_ne (cVar 1) (cK (.int 0)))) (sPar 0 1 (aCons (cVar 1) (aCons (d2 f_mod (cVar 0) (cVar 1)) aNil))))
  (sRet (cVar 0))))
noncomputable def p_gcd : Fn := runF 2 dGcd
theorem gcd_ok (a b : Int) (μ : Sto) : p_gcd [.int a, .int b] μ = some (.int (Int.gcd a b : Int), μ) := by
  refine runF_rt (ρ := [some (.int a), some (.int b)]) rfl ?_
  (apply ev_seq; case' ha => ((first | with_reducible apply ev_set | with_reducible apply ev_par | with_reducible apply ev_par3 | with_reducible apply ev_asg | with_reducible apply ev_ex | with_reducible apply ev_ret | with_reducible exact ev_sNil | (with_reducible apply ev_aug; exact rfl)) <;> (repeat' first | (with_reducible apply ev_var; exact rfl) | with_reducible exact ev_K | with_reducible exact abs_i | with_reducible exact ev_aNil | with_reducible exact ev_oNo | with_reducible exact ev_tAll | with_reducible exact ev_gsN | with_reducible apply ev_aCons | with_reducible apply ev_d2 | with_reducible apply ev_d1 | with_reducible apply ev_dN | with_reducible apply ev_dCall | with_reducible apply ev_dTup | with_reducible apply ev_dLst | with_reducible apply ev_dLoc | with_reducible apply ev_sl | with_reducible apply ev_oSo | with_reducible apply ev_ch2b | with_reducible apply ev_ch3b | with_reducible apply ev_tB | with_reducible apply ev_tTru | with_reducible apply ev_tNo | with_reducible apply ev_no | with_reducible apply ev_dML | with_reducible apply ev_gTu | with_reducible apply ev_gsC | with_reducible apply ev_gSb | with_reducible apply ev_gNm | (simp only [List.length_cons, List.length_nil]; exact len_le (by decide)) | exact decide_eq_true (by omega) | exact decide_eq_false (by omega) | exact ne_t (by omega) | exact ne_f (by omega) | with_reducible apply lt_ii | with_reducible apply le_ii | with_reducible apply gt_ii | with_reducible apply ge_ii | with_reducible apply eq_ii | with_reducible apply ne_ii | with_reducible apply eq_ss | with_reducible exact add_ii | with_reducible exact sub_ii | with_reducible exact neg_i | with_reducible apply mul_ii | exact okMul_small (by omega) (by omega) | exact mod_ii (by omega) | exact fdiv_ii (by omega) (by omega) | exact mod_ni (by omega) | exact fdiv_ni (by omega) (by omega) | exact pow_ii (by omega) (by omega) (by omega) | with_reducible apply ix_tup | with_reducible apply ix_lst | (simp only [List.set_cons_succ, List.set_cons_zero]; rfl) | exact rfl | exact abs_i)))
  apply ev_seq (gcd_loop μ b.natAbs a.natAbs)
  ((first | with_reducible apply ev_set | with_reducible apply ev_par | with_reducible apply ev_par3 | with_reducible apply ev_asg | with_reducible apply ev_ex | with_reducible apply ev_ret | with_reducible exact ev_sNil | (with_reducible apply ev_aug; exact rfl)) <;> (repeat' first | (with_reducible apply ev_var; exact rfl) | with_reducible exact ev_K | with_reducible exact ev_aNil | with_reducible exact ev_oNo | with_reducible exact ev_tAll | with_reducible exact ev_gsN | with_reducible apply ev_aCons | with_reducible apply ev_d2 | with_reducible apply ev_d1 | with_reducible apply ev_dN | with_reducible apply ev_dCall | with_reducible apply ev_dTup | with_reducible apply ev_dLst | with_reducible apply ev_dLoc | with_reducible apply ev_sl | with_reducible apply ev_oSo | with_reducible apply ev_ch2b | with_reducible apply ev_ch3b | with_reducible apply ev_tB | with_reducible apply ev_tTru | with_reducible apply ev_tNo | with_reducible apply ev_no | with_reducible apply ev_dML | with_reducible apply ev_gTu | with_reducible apply ev_gsC | with_reducible apply ev_gSb | with_reducible apply ev_gNm | (simp only [List.length_cons, List.length_nil]; exact len_le (by decide)) | exact decide_eq_true (by omega) | exact decide_eq_false (by omega) | exact ne_t (by omega) | exact ne_f (by omega) | with_reducible apply lt_ii | with_reducible apply le_ii | with_reducible apply gt_ii | with_reducible apply ge_ii | with_reducible apply eq_ii | with_reducible apply ne_ii | with_reducible apply eq_ss | with_reducible exact add_ii | with_reducible exact sub_ii | with_reducible exact neg_i | with_reducible apply mul_ii | exact okMul_small (by omega) (by omega) | exact mod_ii (by omega) | exact fdiv_ii (by omega) (by omega) | exact mod_ni (by omega) | exact fdiv_ni (by omega) (by omega) | exact pow_ii (by omega) (by omega) (by omega) | with_reducible apply ix_tup | with_reducible apply ix_lst | (simp only [List.set_cons_succ, List.set_cons_zero]; rfl) | exact rfl))
/-! ### cofactors -/
noncomputable def dWc : DenS :=
  (sSeq (sIf (tB1 (d2 f_eq (cVar 1) (cK (.int 0)))) (sRet (dTup (aCons (dN f_abs (aCons (cVar 0) aNil)) (aCons (d2 f_sub (d2 f_gt (cVar 0) (cK (.int 0))) (d2 f_lt (cVar 0) (cK (.int 0)))) (aCons (cK (.int 0)) aNil))))) sNil)
  (sSeq (sPar 2 3 (aCons (dN f_abs (aCons (cVar 1) aNil)) (aCons (cK (.int 0)) aNil)))
  (sSeq (sPar 4 5 (aCons (d2 f_mod (cVar 0) (dN f_abs (aCons (cVar 1) aNil))) (aCons (cK (.int 1)) aNil)))
  (sSeq (sWh (tB1 (d2 f_ne (cVar 4) (cK (.int 0)))) (sSeq (sAsg (d2 f_fdiv (cVar 2) (cVar 4)) (gNm 6))
  (sAsg (dTup (aCons (cVar 4) (aCons (cVar 5) (aCons (d2 f_sub (cVar 2) (d2 f_mul (cVar 6) (cVar 4))) (aCons (d2 f_sub (cVar 3) (d2 f_mul (cVar 6) (cVar 5))) aNil))))) (gTu 4 (gsCons (gNm 2) (gsCons (gNm 3) (gsCons (gNm 4) (gsCons (gNm 5) gsNil))))))))
  (sSeq (sAsg (d2 f_mod (cVar 3) (d2 f_fdiv (dN f_abs (aCons (cVar 1) aNil)) (cVar 2))) (gNm 3))
  (sRet (dTup (aCons (cVar 2) (aCons (cVar 3) (aCons (d2 f_fdiv (d2 f_sub (cVar 2) (d2 f_mul (cVar 0) (cVar 3))) (cVar 1)) aNil))))))))))
noncomputable def p_wc : Fn := runF 7 dWc
def wcBody : DenS := (sSeq (sAsg (d2 f_fdiv (cVar 2) (cVar 4)) (gNm 6))
  (sAsg (dTup (aCons (cVar 4) (aCons (cVar 5) (aCons (d2 f_sub (cVar 2) (d2 f_mul (cVar 6) (cVar 4))) (aCons (d2 f_sub (cVar 3) (d2 f_mul (cVar 6) (cVar 5))) aNil))))) (gTu 4 (gsCons (gNm 2) (gsCons (gNm 3) (gsCons (gNm 4) (gsCons (gNm 5) gsNil)))))))
structure WcI (a B : Int) (G : Nat) (g x r o X O : Int) : Prop where
  g0 : 0 < g
  gB : g ≤ B
  r0 : 0 ≤ r
  rg : r < g
  h1 : B ∣ a * x - g
  h2 : B ∣ a * o - r
  hG : Nat.gcd g.natAbs r.natAbs = G
  x1 : -X ≤ x
  x2 : x ≤ X
  o1 : -O ≤ o
  o2 : o ≤ O
  XB : X ≤ B
  O0 : 0 ≤ O
  X0 : 0 ≤ X
  sm : X * r + O * g ≤ B
theorem WcI.O_le {a B : Int} {G : Nat} {g x r o X O : Int} (I : WcI a B G g x r o X O) : O ≤ B := by
  have h := I.sm
  have h1 : O * 1 ≤ O * g := Int.mul_le_mul_of_nonneg_left (by have := I.g0; omega) I.O0
  have h2 : 0 ≤ X * r := Int.mul_nonneg I.X0 I.r0
  omega
theorem mul_small {i j : Int} {B : Int} (h0 : 0 ≤ i) (h : i ≤ B) (j1 : -B ≤ j) (j2 : j ≤ B) (hB : B < 2 ^ 95) : okMul i j = true := okMul_small (by omega) (by omega)
theorem WcI.step {a B : Int} {G : Nat} {g x r o X O : Int} (I : WcI a B G g x r o X O) (hr : r ≠ 0) : WcI a B G r o (g - g / r * r) (x - g / r * o) O (X + g / r * O) := by
  have r0 := I.r0
  have g0 := I.g0
  have rg := I.rg
  have gB := I.gB
  have hrp : 0 < r := by omega
  have e : g - g / r * r = g % r := by
    have := Int.emod_add_mul_ediv g r
    rw [Int.mul_comm r] at this
    omega
  have t0 : 0 ≤ g / r := Int.ediv_nonneg (by omega) (by omega)
  have hto1 : -(g / r * O) ≤ g / r * o := by rw [← Int.mul_neg]; exact Int.mul_le_mul_of_nonneg_left I.o1 t0
  have hto2 : g / r * o ≤ g / r * O := Int.mul_le_mul_of_nonneg_left I.o2 t0
  have htO : 0 ≤ g / r * O := Int.mul_nonneg t0 I.O0
  have x1 := I.x1; have x2 := I.x2; have X0 := I.X0
  refine ⟨hrp, by omega, ?_, ?_, I.h2, wc_turn I.h1 I.h2 _, ?_, I.o1, I.o2, by omega, by omega, I.O_le, by omega, I.O0, ?_⟩
  · rw [e]; exact Int.emod_nonneg _ (by omega)
  · rw [e]; exact Int.emod_lt_of_pos _ hrp
  · rw [e, ← I.hG, ← gcd_turn g.natAbs r.natAbs]
    obtain ⟨g', rfl⟩ := Int.eq_ofNat_of_zero_le (show 0 ≤ g by omega)
    obtain ⟨r', rfl⟩ := Int.eq_ofNat_of_zero_le r0
    rfl
  · have h := I.sm
    have q : O * (g - g / r * r) + (X + g / r * O) * r = X * r + O * g := by
      rw [Int.mul_sub, Int.add_mul, show O * (g / r * r) = g / r * O * r by ac_rfl]
      omega
    omega
theorem wc_loop (a b B : Int) (G : Nat) (hB : B < 2 ^ 95) (μ : Sto) : ∀ (n : Nat) (g x r o X O : Int) (t : Option PV), r.natAbs = n → WcI a B G g x r o X O →
    ∃ (x' o' : Int) (t' : Option PV), B ∣ a * x' - G ∧ -B ≤ x' ∧ x' ≤ B ∧ sWh (tB1 (d2 f_ne (cVar 4) (cK (.int 0)))) wcBody [some (.int a), some (.int b), some (.int g), some (.int x), some (.int r), some (.int o), t] μ =
      some (.nx [some (.int a), some (.int b), some (.int G), some (.int x'), some (.int 0), some (.int o'), t'] μ) := by
  intro n
  induction n using Nat.strongRecOn with
  | ind n ih =>
    intro g x r o X O t hn I
    have r0 := I.r0
    have g0 := I.g0
    have rg := I.rg
    have gB := I.gB
    have x1 := I.x1; have x2 := I.x2; have X0 := I.X0; have XB := I.XB
    have o1 := I.o1; have o2 := I.o2; have OB := I.O_le
    by_cases hr : r = 0
    · have hg : (G : Int) = g := by
        have := I.hG
        rw [hr, Int.natAbs_zero, Nat.gcd_zero_right] at this
        omega
      refine ⟨x, o, t, by rw [hg]; exact I.h1, by omega, by omega, ?_⟩
      rw [hg, hr]
      apply wh_done
      (repeat' first | (with_reducible apply ev_var; exact rfl) | with_reducible exact ev_K | with_reducible exact ev_aNil | with_reducible exact ev_oNo | with_reducible exact ev_tAll | with_reducible exact ev_gsN | with_reducible apply ev_aCons | with_reducible apply ev_d2 | with_reducible apply ev_d1 | with_reducible apply ev_dN | with_reducible apply ev_dCall | with_reducible apply ev_dTup | with_reducible apply ev_dLst | with_reducible apply ev_dLoc | with_reducible apply ev_sl | with_reducible apply ev_oSo | with_reducible apply ev_ch2b | with_reducible apply ev_ch3b | with_reducible apply ev_tB | with_reducible apply ev_tTru | with_reducible apply ev_tNo | with_reducible apply ev_no | with_reducible apply ev_dML | with_reducible apply ev_gTu | with_reducible apply ev_gsC | with_reducible apply ev_gSb | with_reducible apply ev_gNm | (simp only [List.length_cons, List.length_nil]; exact len_le (by decide)) | exact decide_eq_true (by omega) | exact decide_eq_false (by omega) | exact ne_t (by omega) | exact ne_f (by omega) | with_reducible apply lt_ii | with_reducible apply le_ii | with_reducible apply gt_ii | with_reducible apply ge_ii | with_reducible apply eq_ii | with_reducible apply ne_ii | with_reducible apply eq_ss | with_reducible exact add_ii | with_reducible exact sub_ii | with_reducible exact neg_i | with_reducible apply mul_ii | exact okMul_small (by omega) (by omega) | exact mod_ii (by omega) | exact fdiv_ii (by omega) (by omega) | exact mod_ni (by omega) | exact fdiv_ni (by omega) (by omega) | exact pow_ii (by omega) (by omega) (by omega) | with_reducible apply ix_tup | with_reducible apply ix_lst | (simp only [List.set_cons_succ, List.set_cons_zero]; rfl) | exact rfl)
    · have I2 := I.step hr
      have hlt : (g - g / r * r).natAbs < n := by have := I2.r0; have := I2.rg; omega
      obtain ⟨x', o', t', k1, k2, k3, k4⟩ := ih _ hlt r o (g - g / r * r) (x - g / r * o) _ _ (some (.int (g / r))) rfl I2
      refine ⟨x', o', t', k1, k2, k3, ?_⟩
      have t0 : 0 ≤ g / r := Int.ediv_nonneg (by omega) (by omega)
      have tg : g / r ≤ g := Int.ediv_le_self _ (by omega)
      refine wh_step (μ1 := μ) (μ' := μ) ?_ ?_ k4
      · (repeat' first | (with_reducible apply ev_var; exact rfl) | with_reducible exact ev_K | with_reducible exact ev_aNil | with_reducible exact ev_oNo | with_reducible exact ev_tAll | with_reducible exact ev_gsN | with_reducible apply ev_aCons | with_reducible apply ev_d2 | with_reducible apply ev_d1 | with_reducible apply ev_dN | with_reducible apply ev_dCall | with_reducible apply ev_dTup | with_reducible apply ev_dLst | with_reducible apply ev_dLoc | with_reducible apply ev_sl | with_reducible apply ev_oSo | with_reducible apply ev_ch2b | with_reducible apply ev_ch3b | with_reducible apply ev_tB | with_reducible apply ev_tTru | with_reducible apply ev_tNo | with_reducible apply ev_no | with_reducible apply ev_dML | with_reducible apply ev_gTu | with_reducible apply ev_gsC | with_reducible apply ev_gSb | with_reducible apply ev_gNm | (simp only [List.length_cons, List.length_nil]; exact len_le (by decide)) | exact decide_eq_true (by omega) | exact decide_eq_false (by omega) | exact ne_t (by omega) | exact ne_f (by omega) | with_reducible apply lt_ii | with_reducible apply le_ii | with_reducible apply gt_ii | with_reducible apply ge_ii | with_reducible apply eq_ii | with_reducible apply ne_ii | with_reducible apply eq_ss | with_reducible exact add_ii | with_reducible exact sub_ii | with_reducible exact neg_i | with_reducible apply mul_ii | exact okMul_small (by omega) (by omega) | exact mod_ii (by omega) | exact fdiv_ii (by omega) (by omega) | exact mod_ni (by omega) | exact fdiv_ni (by omega) (by omega) | exact pow_ii (by omega) (by omega) (by omega) | with_reducible apply ix_tup | with_reducible apply ix_lst | (simp only [List.set_cons_succ, List.set_cons_zero]; rfl) | exact rfl)
      · have m1 : f_mul (.int (g / r)) (.int r) μ = some (.int (g / r * r), μ) := mul_ii (mul_small t0 (by omega) (by omega) (by omega) hB)
        have m2 : f_mul (.int (g / r)) (.int o) μ = some (.int (g / r * o), μ) := mul_ii (mul_small t0 (by omega) (by omega) (by omega) hB)
        (apply ev_seq; case' ha => ((first | with_reducible apply ev_set | with_reducible apply ev_par | with_reducible apply ev_par3 | with_reducible apply ev_asg | with_reducible apply ev_ex | with_reducible apply ev_ret | with_reducible exact ev_sNil | (with_reducible apply ev_aug; exact rfl)) <;> (repeat' first | (with_reducible apply ev_var; exact rfl) | with_reducible exact ev_K | with_reducible exact ev_aNil | with_reducible exact ev_oNo | with_reducible exact ev_tAll | with_reducible exact ev_gsN | with_reducible apply ev_aCons | with_reducible apply ev_d2 | with_reducible apply ev_d1 | with_reducible apply ev_dN | with_reducible apply ev_dCall | with_reducible apply ev_dTup | with_reducible apply ev_dLst | with_reducible apply ev_dLoc | with_reducible apply ev_sl | with_reducible apply ev_oSo | with_reducible apply ev_ch2b | with_reducible apply ev_ch3b | with_reducible apply ev_tB | with_reducible apply ev_tTru | with_reducible apply ev_tNo | with_reducible apply ev_no | with_reducible apply ev_dML | with_reducible apply ev_gTu | with_reducible apply ev_gsC | with_reducible apply ev_gSb | with_reducible apply ev_gNm | (simp only [List.length_cons, List.length_nil]; exact len_le (by decide)) | exact decide_eq_true (by omega) | exact decide_eq_false (by omega) | exact ne_t (by omega) | exact ne_f (by omega) | with_reducible apply lt_ii | with_reducible apply le_ii | with_reducible apply gt_ii | with_reducible apply ge_ii | with_reducible apply eq_ii | with_reducible apply ne_ii | with_reducible apply eq_ss | with_reducible exact add_ii | with_reducible exact sub_ii | with_reducible exact neg_i | with_reducible apply mul_ii | exact okMul_small (by omega) (by omega) | exact mod_ii (by omega) | exact fdiv_ii (by omega) (by omega) | exact mod_ni (by omega) | exact fdiv_ni (by omega) (by omega) | exact pow_ii (by omega) (by omega) (by omega) | with_reducible apply ix_tup | with_reducible apply ix_lst | (simp only [List.set_cons_succ, List.set_cons_zero]; rfl) | exact rfl)))
        ((first | with_reducible apply ev_set | with_reducible apply ev_par | with_reducible apply ev_par3 | with_reducible apply ev_asg | with_reducible apply ev_ex | with_reducible apply ev_ret | with_reducible exact ev_sNil | (with_reducible apply ev_aug; exact rfl)) <;> (repeat' first | (with_reducible apply ev_var; exact rfl) | with_reducible exact ev_K | with_reducible exact m1 | with_reducible exact m2 | with_reducible exact ev_aNil | with_reducible exact ev_oNo | with_reducible exact ev_tAll | with_reducible exact ev_gsN | with_reducible apply ev_aCons | with_reducible apply ev_d2 | with_reducible apply ev_d1 | with_reducible apply ev_dN | with_reducible apply ev_dCall | with_reducible apply ev_dTup | with_reducible apply ev_dLst | with_reducible apply ev_dLoc | with_reducible apply ev_sl | with_reducible apply ev_oSo | with_reducible apply ev_ch2b | with_reducible apply ev_ch3b | with_reducible apply ev_tB | with_reducible apply ev_tTru | with_reducible apply ev_tNo | with_reducible apply ev_no | with_reducible apply ev_dML | with_reducible apply ev_gTu | with_reducible apply ev_gsC | with_reducible apply ev_gSb | with_reducible apply ev_gNm | (simp only [List.length_cons, List.length_nil]; exact len_le (by decide)) | exact decide_eq_true (by omega) | exact decide_eq_false (by omega) | exact ne_t (by omega) | exact ne_f (by omega) | with_reducible apply lt_ii | with_reducible apply le_ii | with_reducible apply gt_ii | with_reducible apply ge_ii | with_reducible apply eq_ii | with_reducible apply ne_ii | with_reducible apply eq_ss | with_reducible exact add_ii | with_reducible exact sub_ii | with_reducible exact neg_i | with_reducible apply mul_ii | exact okMul_small (by omega) (by omega) | exact mod_ii (by omega) | exact fdiv_ii (by omega) (by omega) | exact mod_ni (by omega) | exact fdiv_ni (by omega) (by omega) | exact pow_ii (by omega) (by omega) (by omega) | with_reducible apply ix_tup | with_reducible apply ix_lst | (simp only [List.set_cons_succ, List.set_cons_zero]; rfl) | exact rfl | exact m1 | exact m2))
/-- a * x + b * y = g, x the least -/
theorem wc_ok {a b : Int} (hb : b ≠ 0) (ha : a.natAbs < 2 ^ 90) (hb2 : b.natAbs < 2 ^ 90) (μ : Sto) : ∃ x y : Int, a * x + b * y = (Int.gcd a b : Int) ∧ 0 ≤ x ∧ x < (b.natAbs : Int) / (Int.gcd a b : Int) ∧ p_wc [.int a, .int b] μ = some (.tup [.int (Int.gcd a b : Int), .int x, .int y], μ) := by
  have hB0 : (0 : Int) < b.natAbs := by omega
  have hB : (b.natAbs : Int) < 2 ^ 95 := by omega
  have hr0 : 0 ≤ a % (b.natAbs : Int) := Int.emod_nonneg _ (by omega)
  have hr1 : a % (b.natAbs : Int) < (b.natAbs : Int) := Int.emod_lt_of_pos _ hB0
  have hG : Nat.gcd (b.natAbs : Int).natAbs (a % (b.natAbs : Int)).natAbs = Int.gcd a b := by
    have e : (Int.gcd (a % b.natAbs) b.natAbs : Nat) = Int.gcd a b.natAbs := by
      apply Nat.dvd_antisymm
      · refine Int.dvd_gcd ?_ (Int.gcd_dvd_right _ _)
        have h1 := Int.gcd_dvd_left (a % b.natAbs) (b.natAbs : Int)
        have h2 := Int.gcd_dvd_right (a % b.natAbs) (b.natAbs : Int)
        have h3 := Int.emod_add_mul_ediv a (b.natAbs : Int)
        have h4 := Int.dvd_add h1 (Int.dvd_trans h2 (Int.dvd_mul_right (b.natAbs : Int) (a / (b.natAbs : Int))))
        rw [h3] at h4
        exact h4
      · refine Int.dvd_gcd ?_ (Int.gcd_dvd_right _ _)
        have h1 := Int.gcd_dvd_left a (b.natAbs : Int)
        have h2 := Int.gcd_dvd_right a (b.natAbs : Int)
        have h3 := Int.emod_add_mul_ediv a (b.natAbs : Int)
        have h4 := Int.dvd_sub h1 (Int.dvd_trans h2 (Int.dvd_mul_right (b.natAbs : Int) (a / (b.natAbs : Int))))
        rw [show a - (b.natAbs : Int) * (a / (b.natAbs : Int)) = a % (b.natAbs : Int) by omega] at h4
        exact h4
    rw [Nat.gcd_comm]
    exact e.trans rfl
  have I : WcI a b.natAbs (Int.gcd a b) b.natAbs 0 (a % b.natAbs) 1 0 1 := by
    refine ⟨hB0, Int.le_refl _, hr0, hr1, ?_, ?_, hG, by decide, by decide, by decide, by decide, by omega, by decide, by decide, by omega⟩
    · rw [Int.mul_zero, Int.zero_sub]; exact Int.dvd_neg.mpr (Int.dvd_refl _)
    · rw [Int.mul_one]; exact Int.dvd_self_sub_emod
  obtain ⟨x, o, t, k1, k2, k3, k4⟩ := wc_loop a b _ _ hB μ _ _ _ _ _ _ _ none rfl I
  have hg0 : 0 < (Int.gcd a b : Int) := by rw [Int.gcd_comm]; exact (by
    have : Int.gcd b a ≠ 0 := fun h => hb (Int.gcd_eq_zero_iff.mp h).1
    omega)
  have hgB : (Int.gcd a b : Int) ∣ (b.natAbs : Int) := Int.dvd_natAbs.mpr (Int.gcd_dvd_right _ _)
  have hga := Int.gcd_dvd_left a b
  have hgle : (Int.gcd a b : Int) ≤ b.natAbs := Int.le_of_dvd hB0 hgB
  have hq : 0 < (b.natAbs : Int) / (Int.gcd a b : Int) := Int.ediv_pos_of_pos_of_dvd hB0 (by omega) hgB
  have hq2 : (b.natAbs : Int) / (Int.gcd a b : Int) ≤ b.natAbs := Int.ediv_le_self _ (by omega)
  have x0 : 0 ≤ x % ((b.natAbs : Int) / (Int.gcd a b : Int)) := Int.emod_nonneg _ (by omega)
  have x1 : x % ((b.natAbs : Int) / (Int.gcd a b : Int)) < (b.natAbs : Int) / (Int.gcd a b : Int) := Int.emod_lt_of_pos _ hq
  have d := wc_math hg0 hga hgB k1
  have f1 : f_fdiv (.int b.natAbs) (.int (Int.gcd a b : Int)) μ = some (.int ((b.natAbs : Int) / (Int.gcd a b : Int)), μ) := fdiv_ii hg0 (by omega)
  have f2 : f_mod (.int x) (.int ((b.natAbs : Int) / (Int.gcd a b : Int))) μ = some (.int (x % ((b.natAbs : Int) / (Int.gcd a b : Int))), μ) := mod_ii hq
  generalize x % ((b.natAbs : Int) / (Int.gcd a b : Int)) = x' at x0 x1 d f2
  have hbd : b ∣ (Int.gcd a b : Int) - a * x' := by
    have := Int.dvd_neg.mpr (Int.natAbs_dvd.mp d)
    rw [show -(a * x' - (Int.gcd a b : Int)) = (Int.gcd a b : Int) - a * x' by omega] at this
    exact this
  have f3 : f_fdiv (.int ((Int.gcd a b : Int) - a * x')) (.int b) μ = some (.int (((Int.gcd a b : Int) - a * x').fdiv b), μ) := by
    by_cases hp : 0 < b
    · rw [fdiv_ii hp (by omega), Int.fdiv_eq_ediv_of_nonneg _ (by omega)]
    · exact fdiv_ni (by omega) (by omega)
  have f4 : f_mul (.int a) (.int x') μ = some (.int (a * x'), μ) := mul_ii (okMul_small (by omega) (by omega))
  refine ⟨x', ((Int.gcd a b : Int) - a * x').fdiv b, ?_, x0, x1, ?_⟩
  · have := Int.fdiv_mul_cancel hbd
    rw [Int.mul_comm b]
    omega
  · refine runF_rt (ρ := [some (.int a), some (.int b), none, none, none, none, none]) rfl ?_
    apply ev_seq
    case ha =>
      (apply ev_sIf_f; case' hc => (repeat' first | (with_reducible apply ev_var; exact rfl) | with_reducible exact ev_K | with_reducible exact ev_aNil | with_reducible exact ev_oNo | with_reducible exact ev_tAll | with_reducible exact ev_gsN | with_reducible apply ev_aCons | with_reducible apply ev_d2 | with_reducible apply ev_d1 | with_reducible apply ev_dN | with_reducible apply ev_dCall | with_reducible apply ev_dTup | with_reducible apply ev_dLst | with_reducible apply ev_dLoc | with_reducible apply ev_sl | with_reducible apply ev_oSo | with_reducible apply ev_ch2b | with_reducible apply ev_ch3b | with_reducible apply ev_tB | with_reducible apply ev_tTru | with_reducible apply ev_tNo | with_reducible apply ev_no | with_reducible apply ev_dML | with_reducible apply ev_gTu | with_reducible apply ev_gsC | with_reducible apply ev_gSb | with_reducible apply ev_gNm | (simp only [List.length_cons, List.length_nil]; exact len_le (by decide)) | exact decide_eq_true (by omega) | exact decide_eq_false (by omega) | exact ne_t (by omega) | exact ne_f (by omega) | with_reducible apply lt_ii | with_reducible apply le_ii | with_reducible apply gt_ii | with_reducible apply ge_ii | with_reducible apply eq_ii | with_reducible apply ne_ii | with_reducible apply eq_ss | with_reducible exact add_ii | with_reducible exact sub_ii | with_reducible exact neg_i | with_reducible apply mul_ii | exact okMul_small (by omega) (by omega) | exact mod_ii (by omega) | exact fdiv_ii (by omega) (by omega) | exact mod_ni (by omega) | exact fdiv_ni (by omega) (by omega) | exact pow_ii (by omega) (by omega) (by omega) | with_reducible apply ix_tup | with_reducible apply ix_lst | (simp only [List.set_cons_succ, List.set_cons_zero]; rfl) | exact rfl))
      exact ev_sNil
    (apply ev_seq; case' ha => ((first | with_reducible apply ev_set | with_reducible apply ev_par | with_reducible apply ev_par3 | with_reducible apply ev_asg | with_reducible apply ev_ex | with_reducible apply ev_ret | with_reducible exact ev_sNil | (with_reducible apply ev_aug; exact rfl)) <;> (repeat' first | (with_reducible apply ev_var; exact rfl) | with_reducible exact ev_K | with_reducible exact abs_i | with_reducible exact ev_aNil | with_reducible exact ev_oNo | with_reducible exact ev_tAll | with_reducible exact ev_gsN | with_reducible apply ev_aCons | with_reducible apply ev_d2 | with_reducible apply ev_d1 | with_reducible apply ev_dN | with_reducible apply ev_dCall | with_reducible apply ev_dTup | with_reducible apply ev_dLst | with_reducible apply ev_dLoc | with_reducible apply ev_sl | with_reducible apply ev_oSo | with_reducible apply ev_ch2b | with_reducible apply ev_ch3b | with_reducible apply ev_tB | with_reducible apply ev_tTru | with_reducible apply ev_tNo | with_reducible apply ev_no | with_reducible apply ev_dML | with_reducible apply ev_gTu | with_reducible apply ev_gsC | with_reducible apply ev_gSb | with_reducible apply ev_gNm | (simp only [List.length_cons, List.length_nil]; exact len_le (by decide)) | exact decide_eq_true (by omega) | exact decide_eq_false (by omega) | exact ne_t (by omega) | exact ne_f (by omega) | with_reducible apply lt_ii | with_reducible apply le_ii | with_reducible apply gt_ii | with_reducible apply ge_ii | with_reducible apply eq_ii | with_reducible apply ne_ii | with_reducible apply eq_ss | with_reducible exact add_ii | with_reducible exact sub_ii | with_reducible exact neg_i | with_reducible apply mul_ii | exact okMul_small (by omega) (by omega) | exact mod_ii (by omega) | exact fdiv_ii (by omega) (by omega) | exact mod_ni (by omega) | exact fdiv_ni (by omega) (by omega) | exact pow_ii (by omega) (by omega) (by omega) | with_reducible apply ix_tup | with_reducible apply ix_lst | (simp only [List.set_cons_succ, List.set_cons_zero]; rfl) | exact rfl | exact abs_i)))
    (apply ev_seq; case' ha => ((first | with_reducible apply ev_set | with_reducible apply ev_par | with_reducible apply ev_par3 | with_reducible apply ev_asg | with_reducible apply ev_ex | with_reducible apply ev_ret | with_reducible exact ev_sNil | (with_reducible apply ev_aug; exact rfl)) <;> (repeat' first | (with_reducible apply ev_var; exact rfl) | with_reducible exact ev_K | with_reducible exact abs_i | with_reducible exact ev_aNil | with_reducible exact ev_oNo | with_reducible exact ev_tAll | with_reducible exact ev_gsN | with_reducible apply ev_aCons | with_reducible apply ev_d2 | with_reducible apply ev_d1 | with_reducible apply ev_dN | with_reducible apply ev_dCall | with_reducible apply ev_dTup | with_reducible apply ev_dLst | with_reducible apply ev_dLoc | with_reducible apply ev_sl | with_reducible apply ev_oSo | with_reducible apply ev_ch2b | with_reducible apply ev_ch3b | with_reducible apply ev_tB | with_reducible apply ev_tTru | with_reducible apply ev_tNo | with_reducible apply ev_no | with_reducible apply ev_dML | with_reducible apply ev_gTu | with_reducible apply ev_gsC | with_reducible apply ev_gSb | with_reducible apply ev_gNm | (simp only [List.length_cons, List.length_nil]; exact len_le (by decide)) | exact decide_eq_true (by omega) | exact decide_eq_false (by omega) | exact ne_t (by omega) | exact ne_f (by omega) | with_reducible apply lt_ii | with_reducible apply le_ii | with_reducible apply gt_ii | with_reducible apply ge_ii | with_reducible apply eq_ii | with_reducible apply ne_ii | with_reducible apply eq_ss | with_reducible exact add_ii | with_reducible exact sub_ii | with_reducible exact neg_i | with_reducible apply mul_ii | exact okMul_small (by omega) (by omega) | exact mod_ii (by omega) | exact fdiv_ii (by omega) (by omega) | exact mod_ni (by omega) | exact fdiv_ni (by omega) (by omega) | exact pow_ii (by omega) (by omega) (by omega) | with_reducible apply ix_tup | with_reducible apply ix_lst | (simp only [List.set_cons_succ, List.set_cons_zero]; rfl) | exact rfl | exact abs_i)))
    apply ev_seq k4
    (apply ev_seq; case' ha => ((first | with_reducible apply ev_set | with_reducible apply ev_par | with_reducible apply ev_par3 | with_reducible apply ev_asg | with_reducible apply ev_ex | with_reducible apply ev_ret | with_reducible exact ev_sNil | (with_reducible apply ev_aug; exact rfl)) <;> (repeat' first | (with_reducible apply ev_var; exact rfl) | with_reducible exact ev_K | with_reducible exact abs_i | with_reducible exact f1 | with_reducible exact f2 | with_reducible exact ev_aNil | with_reducible exact ev_oNo | with_reducible exact ev_tAll | with_reducible exact ev_gsN | with_reducible apply ev_aCons | with_reducible apply ev_d2 | with_reducible apply ev_d1 | with_reducible apply ev_dN | with_reducible apply ev_dCall | with_reducible apply ev_dTup | with_reducible apply ev_dLst | with_reducible apply ev_dLoc | with_reducible apply ev_sl | with_reducible apply ev_oSo | with_reducible apply ev_ch2b | with_reducible apply ev_ch3b | with_reducible apply ev_tB | with_reducible apply ev_tTru | with_reducible apply ev_tNo | with_reducible apply ev_no | with_reducible apply ev_dML | with_reducible apply ev_gTu | with_reducible apply ev_gsC | with_reducible apply ev_gSb | with_reducible apply ev_gNm | (simp only [List.length_cons, List.length_nil]; exact len_le (by decide)) | exact decide_eq_true (by omega) | exact decide_eq_false (by omega) | exact ne_t (by omega) | exact ne_f (by omega) | with_reducible apply lt_ii | with_reducible apply le_ii | with_reducible apply gt_ii | with_reducible apply ge_ii | with_reducible apply eq_ii | with_reducible apply ne_ii | with_reducible apply eq_ss | with_reducible exact add_ii | with_reducible exact sub_ii | with_reducible exact neg_i | with_reducible apply mul_ii | exact okMul_small (by omega) (by omega) | exact mod_ii (by omega) | exact fdiv_ii (by omega) (by omega) | exact mod_ni (by omega) | exact fdiv_ni (by omega) (by omega) | exact pow_ii (by omega) (by omega) (by omega) | with_reducible apply ix_tup | with_reducible apply ix_lst | (simp only [List.set_cons_succ, List.set_cons_zero]; rfl) | exact rfl | exact abs_i | exact f1 | exact f2)))
    ((first | with_reducible apply ev_set | with_reducible apply ev_par | with_reducible apply ev_par3 | with_reducible apply ev_asg | with_reducible apply ev_ex | with_reducible apply ev_ret | with_reducible exact ev_sNil | (with_reducible apply ev_aug; exact rfl)) <;> (repeat' first | (with_reducible apply ev_var; exact rfl) | with_reducible exact ev_K | with_reducible exact f4 | with_reducible exact f3 | with_reducible exact ev_aNil | with_reducible exact ev_oNo | with_reducible exact ev_tAll | with_reducible exact ev_gsN | with_reducible apply ev_aCons | with_reducible apply ev_d2 | with_reducible apply ev_d1 | with_reducible apply ev_dN | with_reducible apply ev_dCall | with_reducible apply ev_dTup | with_reducible apply ev_dLst | with_reducible apply ev_dLoc | with_reducible apply ev_sl | with_reducible apply ev_oSo | with_reducible apply ev_ch2b | with_reducible apply ev_ch3b | with_reducible apply ev_tB | with_reducible apply ev_tTru | with_reducible apply ev_tNo | with_reducible apply ev_no | with_reducible apply ev_dML | with_reducible apply ev_gTu | with_reducible apply ev_gsC | with_reducible apply ev_gSb | with_reducible apply ev_gNm | (simp only [List.length_cons, List.length_nil]; exact len_le (by decide)) | exact decide_eq_true (by omega) | exact decide_eq_false (by omega) | exact ne_t (by omega) | exact ne_f (by omega) | with_reducible apply lt_ii | with_reducible apply le_ii | with_reducible apply gt_ii | with_reducible apply ge_ii | with_reducible apply eq_ii | with_reducible apply ne_ii | with_reducible apply eq_ss | with_reducible exact add_ii | with_reducible exact sub_ii | with_reducible exact neg_i | with_reducible apply mul_ii | exact okMul_small (by omega) (by omega) | exact mod_ii (by omega) | exact fdiv_ii (by omega) (by omega) | exact mod_ni (by omega) | exact fdiv_ni (by omega) (by omega) | exact pow_ii (by omega) (by omega) (by omega) | with_reducible apply ix_tup | with_reducible apply ix_lst | (simp only [List.set_cons_succ, List.set_cons_zero]; rfl) | exact rfl | exact f4 | exact f3))
theorem wc_zero (a : Int) (μ : Sto) : p_wc [.int a, .int 0] μ = some (.tup [.int (Int.gcd a 0 : Int), .int (b2 (decide (0 < a)) - b2 (decide (a < 0))), .int 0], μ) := by
  refine runF_rt (ρ := [some (.int a), some (.int 0), none, none, none, none, none]) rfl ?_
  apply ev_seq_rt
  (apply ev_sIf_t; case' hc => (repeat' first | (with_reducible apply ev_var; exact rfl) | with_reducible exact ev_K | with_reducible exact ev_aNil | with_reducible exact ev_oNo | with_reducible exact ev_tAll | with_reducible exact ev_gsN | with_reducible apply ev_aCons | with_reducible apply ev_d2 | with_reducible apply ev_d1 | with_reducible apply ev_dN | with_reducible apply ev_dCall | with_reducible apply ev_dTup | with_reducible apply ev_dLst | with_reducible apply ev_dLoc | with_reducible apply ev_sl | with_reducible apply ev_oSo | with_reducible apply ev_ch2b | with_reducible apply ev_ch3b | with_reducible apply ev_tB | with_reducible apply ev_tTru | with_reducible apply ev_tNo | with_reducible apply ev_no | with_reducible apply ev_dML | with_reducible apply ev_gTu | with_reducible apply ev_gsC | with_reducible apply ev_gSb | with_reducible apply ev_gNm | (simp only [List.length_cons, List.length_nil]; exact len_le (by decide)) | exact decide_eq_true (by omega) | exact decide_eq_false (by omega) | exact ne_t (by omega) | exact ne_f (by omega) | with_reducible apply lt_ii | with_reducible apply le_ii | with_reducible apply gt_ii | with_reducible apply ge_ii | with_reducible apply eq_ii | with_reducible apply ne_ii | with_reducible apply eq_ss | with_reducible exact add_ii | with_reducible exact sub_ii | with_reducible exact neg_i | with_reducible apply mul_ii | exact okMul_small (by omega) (by omega) | exact mod_ii (by omega) | exact fdiv_ii (by omega) (by omega) | exact mod_ni (by omega) | exact fdiv_ni (by omega) (by omega) | exact pow_ii (by omega) (by omega) (by omega) | with_reducible apply ix_tup | with_reducible apply ix_lst | (simp only [List.set_cons_succ, List.set_cons_zero]; rfl) | exact rfl))
  have : (Int.gcd a 0 : Int) = a.natAbs := by rw [Int.gcd_zero_right]
  rw [this]
  have h1 : f_gt (.int a) (.int 0) μ = some (.bl (decide (0 < a)), μ) := rfl
  have h2 : f_lt (.int a) (.int 0) μ = some (.bl (decide (a < 0)), μ) := rfl
  ((first | with_reducible apply ev_set | with_reducible apply ev_par | with_reducible apply ev_par3 | with_reducible apply ev_asg | with_reducible apply ev_ex | with_reducible apply ev_ret | with_reducible exact ev_sNil | (with_reducible apply ev_aug; exact rfl)) <;> (repeat' first | (with_reducible apply ev_var; exact rfl) | with_reducible exact ev_K | with_reducible exact abs_i | with_reducible exact h1 | with_reducible exact h2 | with_reducible exact ev_aNil | with_reducible exact ev_oNo | with_reducible exact ev_tAll | with_reducible exact ev_gsN | with_reducible apply ev_aCons | with_reducible apply ev_d2 | with_reducible apply ev_d1 | with_reducible apply ev_dN | with_reducible apply ev_dCall | with_reducible apply ev_dTup | with_reducible apply ev_dLst | with_reducible apply ev_dLoc | with_reducible apply ev_sl | with_reducible apply ev_oSo | with_reducible apply ev_ch2b | with_reducible apply ev_ch3b | with_reducible apply ev_tB | with_reducible apply ev_tTru | with_reducible apply ev_tNo | with_reducible apply ev_no | with_reducible apply ev_dML | with_reducible apply ev_gTu | with_reducible apply ev_gsC | with_reducible apply ev_gSb | with_reducible apply ev_gNm | (simp only [List.length_cons, List.length_nil]; exact len_le (by decide)) | exact decide_eq_true (by omega) | exact decide_eq_false (by omega) | exact ne_t (by omega) | exact ne_f (by omega) | with_reducible apply lt_ii | with_reducible apply le_ii | with_reducible apply gt_ii | with_reducible apply ge_ii | with_reducible apply eq_ii | with_reducible apply ne_ii | with_reducible apply eq_ss | with_reducible exact add_ii | with_reducible exact sub_ii | with_reducible exact neg_i | with_reducible apply mul_ii | exact okMul_small (by omega) (by omega) | exact mod_ii (by omega) | exact fdiv_ii (by omega) (by omega) | exact mod_ni (by omega) | exact fdiv_ni (by omega) (by omega) | exact pow_ii (by omega) (by omega) (by omega) | with_reducible apply ix_tup | with_reducible apply ix_lst | (simp only [List.set_cons_succ, List.set_cons_zero]; rfl) | exact rfl | exact abs_i | exact h1 | exact h2))
/-- both cases of the cofactors, with bounds -/
theorem told_ok {a b : Int} (ha : a.natAbs < 2 ^ 85) (hb : b.natAbs < 2 ^ 85) (μ : Sto) : ∃ x y : Int, a * x + b * y = (Int.gcd a b : Int) ∧ x.natAbs < 2 ^ 86 ∧ y.natAbs < 2 ^ 180 ∧ p_wc [.int a, .int b] μ = some (.tup [.int (Int.gcd a b : Int), .int x, .int y], μ) := by
  by_cases hz : b = 0
  · subst hz
    have hg : (Int.gcd a 0 : Int) = a.natAbs := by rw [Int.gcd_zero_right]
    refine ⟨_, 0, ?_, ?_, by decide, wc_zero a μ⟩
    · rw [hg]
      by_cases h1 : 0 < a
      · rw [decide_eq_true h1, decide_eq_false (by omega)]
        show a * (1 - 0) + 0 * 0 = _
        omega
      · by_cases h2 : a < 0
        · rw [decide_eq_false h1, decide_eq_true h2]
          show a * (0 - 1) + 0 * 0 = _
          omega
        · rw [decide_eq_false h1, decide_eq_false h2]
          show a * (0 - 0) + 0 * 0 = _
          omega
    · cases decide (0 < a) <;> cases decide (a < 0) <;> decide
  · obtain ⟨x, y, e, x0, x1, h⟩ := wc_ok (a := a) hz (by omega) (by omega) μ
    have hg0 : 0 < (Int.gcd a b : Int) := by
      rw [Int.gcd_comm]
      have : Int.gcd b a ≠ 0 := fun h => hz (Int.gcd_eq_zero_iff.mp h).1
      omega
    have hgb : (Int.gcd a b : Int) ≤ b.natAbs := Int.le_of_dvd (by omega) (Int.dvd_natAbs.mpr (Int.gcd_dvd_right _ _))
    have hq : (b.natAbs : Int) / (Int.gcd a b : Int) ≤ b.natAbs := Int.ediv_le_self _ (by omega)
    have hax : (a * x).natAbs < 2 ^ (85 + 85) := wide_lt ha (by omega)
    have hy : y.natAbs ≤ (b * y).natAbs := by
      rw [Int.natAbs_mul]
      have := Nat.mul_le_mul_right y.natAbs (show 1 ≤ b.natAbs by omega)
      omega
    have hby : b * y = (Int.gcd a b : Int) - a * x := by omega
    rw [hby] at hy
    refine ⟨x, y, e, by omega, ?_, h⟩
    clear h e hby
    generalize a * x = p at hax hy
    omega
end Fd

/-! Fd10: more operators in place, sorted, ranges with a step, enumerate, zip, index, insert. -/
namespace Fd
open PySem PySem.Spec PyProof.Rows L2

/-! ### x += e .. -/
def g_add : Op2 := fun x y μ => match x, y with
  | .int i, .int j => some (.int (i + j), μ)
  | .str a, .str b => if a.length + b.length ≤ sizeLine then some (.str (a ++ b), μ) else none
  | _, _ => none
def r_iadd : R2 := fun x y H Q => rI0 (fun i j => .int (i + j)) x y H Q ∨ (∃ i j, x = .str i ∧ y = .str j ∧ i.length + j.length ≤ sizeLine ∧ Q (.str (i ++ j)) H)
theorem a_add {X : Cx} : OpR X (inplaceOp .Add) r_iadd := iop_add.or iop_add_str
theorem s_iadd {K : Frg} : S2 K r_iadd g_add := by
  intro ι H μ x y v μ' hx hy Q S rx ry h q
  unfold g_add at h
  split at h
  · cases h; cases rx; cases ry; exact .inl ⟨_, _, rfl, rfl, q.pure S rfl⟩
  · split at h
    · cases h; cases rx; cases ry; exact .inr ⟨_, _, rfl, rfl, by assumption, q.pure S rfl⟩
    · cases h
  · cases h
def g_sub : Op2 := fun x y μ => match x, y with
  | .int i, .int j => some (.int (i - j), μ)
  | _, _ => none
theorem s_isub {K : Frg} : S2 K (rI0 fun i j => .int (i - j)) g_sub := by
  intro ι H μ x y v μ' hx hy Q S rx ry h q
  unfold g_sub at h
  split at h
  · cases h; cases rx; cases ry; exact ⟨_, _, rfl, rfl, q.pure S rfl⟩
  · cases h
theorem a_mul {X : Cx} : OpR X (inplaceOp .Mult) (rI CMulW fun i j => .int (i * j)) := opI fun _ _ _ _ _ _ _ hc q => imul_int q hc.ok
def g_mul : Op2 := fun x y μ => match x, y with
  | .int i, .int j => if okMul i j = true then some (.int (i * j), μ) else none
  | _, _ => none
theorem s_imul {K : Frg} : S2 K (rI CMulW fun i j => .int (i * j)) g_mul := by
  intro ι H μ x y v μ' hx hy Q S rx ry h q
  unfold g_mul at h
  split at h
  · split at h
    · rename_i hk
      cases h; cases rx; cases ry; exact ⟨_, _, rfl, rfl, okMul_iff hk, q.pure S rfl⟩
    · cases h
  · cases h
theorem a_fdiv {X : Cx} : OpR X (inplaceOp .FloorDiv) (rI CDivZ fun i j => .int (i.fdiv j)) := opI fun _ _ _ _ _ _ _ hc q => ifloordiv_int hc.1 q (.inl (PyProof.noPylong_of_log2 hc.2))
def g_fdiv : Op2 := fun x y μ => match x, y with
  | .int i, .int j => if 0 < j ∧ j.natAbs.log2 < 9000 then some (.int (i / j), μ) else if j < 0 ∧ j.natAbs.log2 < 9000 then some (.int (i.fdiv j), μ) else none
  | _, _ => none
theorem s_ifdiv {K : Frg} : S2 K (rI CDivZ fun i j => .int (i.fdiv j)) g_fdiv := by
  intro ι H μ x y v μ' hx hy Q S rx ry h q
  unfold g_fdiv at h
  split at h
  · split at h
    · rename_i hk
      cases h; cases rx; cases ry
      exact ⟨_, _, rfl, rfl, ⟨by omega, hk.2⟩, q.pure S (show V.int _ = V.int _ from congrArg V.int (Int.fdiv_eq_ediv_of_nonneg _ (by omega)))⟩
    · split at h
      · rename_i hk
        cases h; cases rx; cases ry; exact ⟨_, _, rfl, rfl, ⟨by omega, hk.2⟩, q.pure S rfl⟩
      · cases h
  · cases h
theorem s_imod {K : Frg} : S2 K (rI (fun _ j => 0 < j) fun i j => .int (i % j)) (fun x y μ => match x, y with
  | .int i, .int j => if 0 < j then some (.int (i % j), μ) else none
  | _, _ => none) := by
  intro ι H μ x y v μ' hx hy Q S rx ry h q
  simp only at h
  split at h
  · split at h
    · rename_i hk
      cases h; cases rx; cases ry; exact ⟨_, _, rfl, rfl, hk, q.pure S rfl⟩
    · cases h
  · cases h

/-! ### o[i] op= e, o a list of the store -/
theorem get_lst {X : Cx} : PGet X (rIxL X.K) := by
  intro pins s σ H x y v u Q I rx ry h
  obtain ⟨p, xs, i, z, rfl, rfl, hq, he, q⟩ := h
  cases rx
  obtain ⟨t, rfl⟩ := ry
  obtain ⟨its, r, pl, hz⟩ := I.list hq
  obtain ⟨j, h1, h2, h3, h4, h5⟩ := atI_get he
  obtain ⟨w, ew, rw'⟩ := r.get h2
  have hl := r.length
  have hn := line63
  by_cases h0 : 0 ≤ i
  · have hj : i.toNat = j := Option.some.inj ((seqIndex_of h0 h5).symm.trans h1)
    exact wpAny_getItem_list pl.isList h0 (by omega) (by rw [hj]; simpa using ew) ⟨z, H, I, rw', q⟩
  · have hj : (i + (its.toArray.size : Int)).toNat = j := by
      have := Option.some.inj ((seqIndex_neg (by omega) h4).symm.trans h1)
      rw [List.size_toArray, ← hl]
      exact this
    exact wpAny_getItem_list_neg pl.isList (by omega) (by rw [List.size_toArray]; omega) (by omega) (by rw [hj]; simpa using ew) ⟨z, H, I, rw', q⟩
def f_ixL : Op2 := fun x y μ => match y with
  | .int i => (rdL μ x).bind fun xs => (L2.atI xs i).map fun v => (v, μ)
  | _ => none
theorem s_ixL {K : Frg} : S2 K (rIxL K) f_ixL := by
  intro ι H μ x y v μ' hx hy Q S rx ry h q
  unfold f_ixL at h
  split at h
  · obtain ⟨xs, e1, e2⟩ := Option.bind_eq_some_iff.mp h
    obtain ⟨w, e3, e4⟩ := Option.map_eq_some_iff.mp e2
    cases e4; cases ry
    obtain ⟨a, us, rfl, ta, ra⟩ := rdL_rep S rx e1
    obtain ⟨z, h1, h2⟩ := ra.atI e3
    exact ⟨a, us, _, z, rfl, rfl, .of ta, h1, q.pure S h2⟩
  · cases h
def sAugS (f : Op2) (o i e : Den) : DenS := fun ρ μ => (o ρ μ).bind fun p => (i ρ p.2).bind fun q => (f_ixL p.1 q.1 q.2).bind fun x => (e ρ x.2).bind fun y => (f x.1 y.1 y.2).bind fun z => (f_set p.1 q.1 z.1 z.2).map fun μ' => .nx ρ μ'
theorem s_augS {X : Cx} {o i e : Expr} {od id ed : Den} {op : Operator} {r : R2} {f : Op2} {tpos pos : Pos} (hop : OpR X (inplaceOp op) r) (hr : S2 X.K r f) (ho : PE X o (tD X.K od)) (hi : PE X i (tD X.K id)) (he : PE X e (tD X.K ed))
    (ha : ∀ ov iv new, augStore i ov iv new = (do holding [new, ov, iv] (setItem ov iv new); release [new, ov, iv] []; pure .next) := by intros; rfl) : PS X (.AugAssign (.Subscript o i tpos) op e pos) (tS X.K (sAugS f od id ed)) :=
  (ps_augS ho hi get_lst he hop set_list ha).weak fun D σ H h => by
    obtain ⟨ι, ρ, μ, out, E, S, e, q⟩ := h
    obtain ⟨⟨x, μ1⟩, e1, e⟩ := Option.bind_eq_some_iff.mp e
    obtain ⟨⟨y, μ2⟩, e2, e⟩ := Option.bind_eq_some_iff.mp e
    obtain ⟨⟨v, μ3⟩, e3, e⟩ := Option.bind_eq_some_iff.mp e
    obtain ⟨⟨w, μ4⟩, e4, e⟩ := Option.bind_eq_some_iff.mp e
    obtain ⟨⟨z, μ5⟩, e5, e⟩ := Option.bind_eq_some_iff.mp e
    obtain ⟨μ6, e6, e7⟩ := Option.map_eq_some_iff.mp e
    cases e7
    refine ⟨ι, ρ, μ, x, μ1, E, S, e1, fun hx ι1 H1 X1 R1 S1 => ⟨ι1, ρ, μ1, y, μ2, E.mono X1, S1, e2, fun hy ι2 H2 X2 R2 S2 => ?_⟩⟩
    refine s_ixL ι2 H2 μ2 x y v μ3 hx hy _ S2 (R1.mono X2) R2 e3 fun hv ι3 H3 X3 R3 S3 => ?_
    refine ⟨ι3, ρ, μ3, w, μ4, E.mono (X1.trans (X2.trans X3)), S3, e4, fun hw ι4 H4 X4 R4 S4 => ?_⟩
    refine hr ι4 H4 μ4 v w z μ5 hv hw _ S4 (R3.mono X4) R4 e5 fun hz ι5 H5 X5 R5 S5 => ?_
    have X15 := X1.trans (X2.trans (X3.trans (X4.trans X5)))
    refine set_rep S5 (R1.mono (X2.trans (X3.trans (X4.trans X5)))) (R2.mono (X3.trans (X4.trans X5))) R5 e6 fun H6 X6 S6 => q σ ι5 H6 (X15.trans X6) (E.mono (X15.trans X6)) S6

/-! ### sorted, ints -/
def insI (i : Int) : List Int → List Int
  | [] => [i]
  | j :: r => if i ≤ j then i :: j :: r else j :: insI i r
def srtI : List Int → List Int
  | [] => []
  | i :: r => insI i (srtI r)
theorem insI_perm (i : Int) : ∀ r : List Int, (insI i r).Perm (i :: r)
  | [] => .refl _
  | j :: r => by
    unfold insI
    split
    · exact .refl _
    · exact (List.Perm.cons j (insI_perm i r)).trans (.swap i j r)
theorem srtI_perm : ∀ r : List Int, (srtI r).Perm r
  | [] => .refl _
  | i :: r => (insI_perm i (srtI r)).trans (.cons i (srtI_perm r))
theorem insI_sorted (i : Int) : ∀ r : List Int, r.Pairwise (· ≤ ·) → (insI i r).Pairwise (· ≤ ·)
  | [], _ => List.pairwise_cons.mpr ⟨fun _ h => (nomatch h), .nil⟩
  | j :: r, h => by
    have hj := List.pairwise_cons.mp h
    unfold insI
    split
    · rename_i hij
      exact List.pairwise_cons.mpr ⟨fun k hk => by
        rcases List.mem_cons.mp hk with e | hk
        · rw [e]; exact hij
        · exact Int.le_trans hij (hj.1 k hk), h⟩
    · rename_i hij
      refine List.pairwise_cons.mpr ⟨fun k hk => ?_, insI_sorted i r hj.2⟩
      rcases List.mem_cons.mp ((insI_perm i r).mem_iff.mp hk) with e | hk
      · omega
      · exact hj.1 k hk
theorem srtI_sorted : ∀ r : List Int, (srtI r).Pairwise (· ≤ ·)
  | [] => .nil
  | i :: r => insI_sorted i _ (srtI_sorted r)
theorem sorted_uniq : ∀ {xs ys : List Int}, xs.Perm ys → xs.Pairwise (· ≤ ·) → ys.Pairwise (· ≤ ·) → xs = ys
  | [], ys, p, _, _ => (List.nil_perm.mp p).symm
  | x :: xs, [], p, _, _ => absurd p (by simp)
  | x :: xs, y :: ys, p, hx, hy => by
    have hx' := List.pairwise_cons.mp hx
    have hy' := List.pairwise_cons.mp hy
    have e : x = y := by
      have h1 : y ∈ x :: xs := p.mem_iff.mpr List.mem_cons_self
      have h2 : x ∈ y :: ys := p.mem_iff.mp List.mem_cons_self
      rcases List.mem_cons.mp h1 with e | h1
      · exact e.symm
      · rcases List.mem_cons.mp h2 with e | h2
        · exact e
        · have a := hx'.1 y h1
          have b := hy'.1 x h2
          omega
    subst e
    rw [sorted_uniq (List.Perm.cons_inv p) hx'.2 hy'.2]
def f_sorted : Fn := fun xs μ => match xs with
  | [x] => ((rdL μ x).bind intsP).map fun ns => (.lst ((srtI ns).map .int), μ)
  | _ => none
theorem s_sorted {K : Frg} : SN K (rSortedI K) f_sorted := by
  intro ι H μ xs v μ' hs Q S R h q
  unfold f_sorted at h
  split at h
  · obtain ⟨ns, e1, e2⟩ := Option.map_eq_some_iff.mp h
    obtain ⟨ys, e3, e4⟩ := Option.bind_eq_some_iff.mp e1
    cases e2
    obtain ⟨y, t, rfl, r1, rfl⟩ := R
    obtain ⟨a, us, rfl, ta, ra⟩ := rdL_rep S r1 e3
    obtain ⟨rfl, _⟩ := intsP_rep e4 ra
    refine ⟨a, ns, rfl, .of ta, fun ns' p hp hs new => ?_⟩
    have e : ns' = srtI ns := sorted_uniq (hp.trans (srtI_perm ns).symm) hs (srtI_sorted ns)
    subst e
    exact q.lst S (repVs_ints _) new
  · cases h

/-! ### range(a, b, c) -/
def rgC (lo c : Int) (n : Nat) : List PV := (List.range n).map fun (k : Nat) => .int (lo + (k : Int) * c)
def itRg3 (r : DenA) : DenI := fun ρ μ => match r ρ μ with
  | some ([.int i, .int j, .int c], μ') => if (decide (c ≠ 0) && (decide (c.natAbs < 1073741824) && (Builtin.Range.small i j c && decide (0 ≤ Builtin.Range.rangeSize i j c)))) = true then some ((rgC i c (Builtin.Range.rangeSize i j c).toNat, []), μ') else none
  | _ => none
theorem itc_ok {K : Frg} {lo c : Int} {k : Nat} {ι : Ad} {n : Nat} {H : Hp} : ItOk K (Itc lo c k) (rgC lo c k) [] ι n H := by
  have hl : (rgC lo c k).length = k := by unfold rgC; rw [List.length_map, List.length_range]
  refine ⟨fun i ι2 μ2 H2 hi e S c => ?_, fun ι2 μ2 H2 e S c => ?_, fun i ι2 μ2 H2 x H3 z hz e S c y => ?_⟩
  · rw [hl] at hi; exact hi
  · rw [hl]; exact Nat.le_refl _
  · obtain ⟨e1, y⟩ := y
    subst e1 y
    have hi : i < k := by rw [← hl]; exact (List.getElem?_eq_some_iff.mp hz).1
    unfold rgC at hz
    rw [List.getElem?_map, List.getElem?_range hi] at hz
    cases hz
    exact ⟨.refl, S, rfl⟩
theorem i_rg3 {X : Cx} {tg a b c : Expr} {r : DenA} {p pos : Pos} (hm : X.mg "range" = none) (ha : PA X [a, b, c] (tA X.K r)) (hg : Gl X "range" := by rfl) (hs : starEach [a, b, c] X.env = (false, eval a X.env) :: starEach [b, c] X.env := by rfl) (hpl : (backTo pos (starEach [b, c] X.env)).any (·.1) = false := by rfl) :
    PI X tg (.Call (.Name "range" p) [a, b, c] [] pos) (tI X.K (itRg3 r)) :=
  (pi_range3 hg hm ha hs hpl).weak fun σ H R h => by
    obtain ⟨ι, ρ, μ, p, μ', E, S, e, c, q⟩ := h
    unfold itRg3 at e
    split at e
    · rename_i i j k μ1 e1
      split at e
      · rename_i hj
        cases e
        rw [Bool.and_eq_true, Bool.and_eq_true, Bool.and_eq_true, decide_eq_true_eq, decide_eq_true_eq, decide_eq_true_eq] at hj
        refine ⟨ι, ρ, μ, _, _, E, S, e1, fun hs ι1 H1 X1 R1 S1 => ?_⟩
        obtain ⟨y, t, rfl, r1, y2, t2, rfl, r2, y3, t3, rfl, r3, rfl⟩ := R1
        cases r1; cases r2; cases r3
        exact ⟨i, j, k, _, rfl, ⟨hj.1, hj.2.1, hj.2.2.1, (Int.toNat_of_nonneg hj.2.2.2).symm⟩, q ι1 H1 _ X1 S1 itc_ok⟩
      · cases e
    · cases e
theorem ci_rg3 {r : DenA} (ρ : En) (μ : Sto) (p : List PV × List (Nat × List PV)) (μ' : Sto) (h : itRg3 r ρ μ = some (p, μ')) : ChkOk p.2 μ' := by
  unfold itRg3 at h
  split at h
  · split at h
    · cases h; exact chk_nil
    · cases h
  · cases h

/-! ### enumerate, zip: over lists -/
/-- a list's items and what must stand -/
def rdI (μ : Sto) : PV → Option (List PV × List (Nat × List PV))
  | .lst xs => some (xs, [])
  | .loc l => match μ[l]? with
    | some (.lst xs) => some (xs, [(l, xs)])
    | _ => none
  | _ => none
theorem rdI_ok {K : Frg} {ι : Ad} {μ : Sto} {H : Hp} {x : PV} {v : V} {xs : List PV} {ch : List (Nat × List PV)} (S : RepS K ι H μ) (r : RepV K ι μ.length H x v) (h : rdI μ x = some (xs, ch)) :
    ChkOk ch μ ∧ ∃ a ys, v = .ref a ∧ SqL K H a ys ∧ RepVs K ι μ.length H xs ys ∧ ∀ (ι2 : Ad) (μ2 : Sto) (H2 : Hp), ExtP ι μ.length H ι2 μ2.length H2 → RepS K ι2 H2 μ2 → ChkOk ch μ2 → ∃ ys, SqL K H2 a ys ∧ RepVs K ι2 μ2.length H2 xs ys := by
  unfold rdI at h
  split at h
  · cases h
    obtain ⟨a, ys, rfl, ⟨t, g⟩, q⟩ := r
    exact ⟨chk_nil, a, ys, rfl, .of t, q, fun ι2 μ2 H2 e S2 c => ⟨ys, .of (e.keep a _ t g.1 g.2), RepVs.monoP e q⟩⟩
  · rename_i l
    obtain ⟨hl, rfl⟩ := r
    split at h
    · rename_i zs em
      cases h
      obtain ⟨ys, t, q⟩ := S.obj l _ em
      refine ⟨fun p hp => ?_, ι l, ys, rfl, .of t, q, fun ι2 μ2 H2 e S2 c => ?_⟩
      · rw [List.mem_singleton.mp hp]; exact em
      · have em2 := c (l, xs) (List.mem_singleton.mpr rfl)
        obtain ⟨ys2, t2, r2⟩ := S2.obj l _ em2
        rw [e.same l hl] at t2
        exact ⟨ys2, .of t2, r2⟩
    · cases h
  · cases h
def enP : Nat → List PV → List PV
  | _, [] => []
  | k, x :: xs => .tup [.int (k : Int), x] :: enP (k + 1) xs
theorem enP_length : ∀ (xs : List PV) (k : Nat), (enP k xs).length = xs.length
  | [], _ => rfl
  | x :: xs, k => congrArg Nat.succ (enP_length xs (k + 1))
theorem enP_get : ∀ (xs : List PV) (k i : Nat), (enP k xs)[i]? = (xs[i]?).map fun x => .tup [.int ((k + i : Nat) : Int), x]
  | [], _, i => by cases i <;> rfl
  | x :: xs, k, 0 => rfl
  | x :: xs, k, i + 1 => by
    show (enP (k + 1) xs)[i]? = (xs[i]?).map _
    rw [enP_get xs (k + 1) i, show k + 1 + i = k + (i + 1) by omega]
def itEnum (d : Den) : DenI := fun ρ μ => (d ρ μ).bind fun p => (rdI p.2 p.1).map fun q => ((enP 0 q.1, q.2), p.2)
def itZip (r : DenA) : DenI := fun ρ μ => match r ρ μ with
  | some ([x, y], μ') => (rdI μ' x).bind fun p => (rdI μ' y).map fun q => ((List.zipWith (fun a b => PV.tup [a, b]) p.1 q.1, p.2 ++ q.2), μ')
  | _ => none
theorem tup2 {K : Frg} {ι : Ad} {μ : Sto} {H : Hp} {x y : PV} {u w : V} (S : RepS K ι H μ) {T : Addr} (hT : H T = none) (rx : RepV K ι μ.length H x u) (ry : RepV K ι μ.length H y w) :
    Ext ι μ.length H ι μ.length (upd H T (.tup [u, w])) ∧ RepS K ι (upd H T (.tup [u, w])) μ ∧ RepV K ι μ.length (upd H T (.tup [u, w])) (.tup [x, y]) (.ref T) := by
  have X := Ext.new1 (o := .tup [u, w]) S hT
  exact ⟨X, S.new1 hT, T, [u, w], rfl, .inl ⟨upd_same, S.off hT⟩, RepVs.mono X (.cons rx (.one ry))⟩
section
variable {X : Cx} {e e2 : Expr} {elts : List Expr} {kk : Nat} {p pos tpos : Pos} {d : Den} {r : DenA}
theorem i_enum (hm : X.mg "enumerate" = none) (ha : PE X e (tD X.K d)) (hg : Gl X "enumerate" := by rfl) (hs : starEach [e] X.env = [(false, eval e X.env)] := by rfl) : PI X (.Tuple elts kk tpos) (.Call (.Name "enumerate" p) [e] [] pos) (tI X.K (itEnum d)) :=
  (pi_enum hg hm (pa_cons ha pa_nil (by exact hs)) hs).weak fun σ H R h => by
    obtain ⟨ι, ρ, μ, p, μ', E, S, e, c, q⟩ := h
    obtain ⟨⟨x, μ1⟩, e1, e⟩ := Option.bind_eq_some_iff.mp e
    obtain ⟨⟨xs, ch⟩, e2, e3⟩ := Option.map_eq_some_iff.mp e
    cases e3
    refine ⟨ι, ρ, μ, x, _, E, S, e1, fun hx ι1 H1 X1 R1 S1 => ?_⟩
    obtain ⟨_, a, ys, rfl, hS, hR, hK⟩ := rdI_ok S1 R1 e2
    refine ⟨a, ys, rfl, hS, q ι1 H1 _ X1 S1 ⟨fun i ι2 μ2 H2 hi e S2 c => ?_, fun ι2 μ2 H2 e S2 c => ?_, fun i ι2 μ2 H2 v H3 z hz e S2 c y => ?_⟩⟩
    · obtain ⟨ys, s, r⟩ := hK ι2 μ2 H2 e S2 c
      have hi : i < xs.length := by rw [← enP_length xs 0]; exact hi
      exact ⟨ys, ys[i]'(by rw [← r.length]; exact hi), s, by simp⟩
    · obtain ⟨ys, s, r⟩ := hK ι2 μ2 H2 e S2 c
      exact ⟨ys, s, by rw [enP_length, r.length]; exact Nat.le_refl _⟩
    · obtain ⟨ys, s, r⟩ := hK ι2 μ2 H2 e S2 c
      have hz : (enP 0 xs)[i]? = some z := hz
      rw [enP_get] at hz
      obtain ⟨w, hw, rfl⟩ := Option.map_eq_some_iff.mp hz
      obtain ⟨T, u, rfl, hT, rfl, hu⟩ := y
      obtain ⟨u', h1, h2⟩ := r.get hw
      have := (hu ys s).symm.trans h1
      cases this
      rw [Nat.zero_add]
      exact tup2 S2 hT rfl h2
theorem ci_enum (ρ : En) (μ : Sto) (p : List PV × List (Nat × List PV)) (μ' : Sto) (h : itEnum d ρ μ = some (p, μ')) : ChkOk p.2 μ' := by
  obtain ⟨⟨x, μ1⟩, e1, e⟩ := Option.bind_eq_some_iff.mp h
  obtain ⟨⟨xs, ch⟩, e2, e3⟩ := Option.map_eq_some_iff.mp e
  cases e3
  unfold rdI at e2
  split at e2
  · cases e2; exact chk_nil
  · split at e2
    · rename_i zs em
      cases e2
      intro q hq
      rw [List.mem_singleton.mp hq]
      exact em
    · cases e2
  · cases e2
theorem i_zip (hm : X.mg "zip" = none) (ha : PA X [e, e2] (tA X.K r)) (hg : Gl X "zip" := by rfl) (hs : starEach [e, e2] X.env = (false, eval e X.env) :: starEach [e2] X.env := by rfl) (hpl : (backTo pos (starEach [e2] X.env)).any (·.1) = false := by rfl) :
    PI X (.Tuple elts kk tpos) (.Call (.Name "zip" p) [e, e2] [] pos) (tI X.K (itZip r)) :=
  (pi_zip hg hm ha hs hpl).weak fun σ H R h => by
    obtain ⟨ι, ρ, μ, p, μ', E, S, e, c, q⟩ := h
    unfold itZip at e
    split at e
    · rename_i x y μ1 e1
      obtain ⟨⟨xs, ch⟩, e2, e⟩ := Option.bind_eq_some_iff.mp e
      obtain ⟨⟨ys, ch2⟩, e3, e4⟩ := Option.map_eq_some_iff.mp e
      cases e4
      refine ⟨ι, ρ, μ, _, _, E, S, e1, fun hs ι1 H1 X1 R1 S1 => ?_⟩
      obtain ⟨hx, t, rfl, r1, hy, t2, rfl, r2, rfl⟩ := R1
      obtain ⟨_, a, us, rfl, hS, hR, hK⟩ := rdI_ok S1 r1 e2
      obtain ⟨_, b, ws, rfl, hS2, hR2, hK2⟩ := rdI_ok S1 r2 e3
      have chk1 : ∀ {μ2 : Sto}, ChkOk (ch ++ ch2) μ2 → ChkOk ch μ2 ∧ ChkOk ch2 μ2 := fun c => ⟨fun p hp => c p (List.mem_append_left _ hp), fun p hp => c p (List.mem_append_right _ hp)⟩
      refine ⟨a, b, us, ws, rfl, hS, hS2, q ι1 H1 _ X1 S1 ⟨fun i ι2 μ2 H2 hi e S2 c => ?_, fun ι2 μ2 H2 e S2 c => ?_, fun i ι2 μ2 H2 v H3 z hz e S2 c y => ?_⟩⟩
      · obtain ⟨us, s, r⟩ := hK ι2 μ2 H2 e S2 (chk1 c).1
        obtain ⟨ws, s2, r2⟩ := hK2 ι2 μ2 H2 e S2 (chk1 c).2
        have hi : i < (List.zipWith (fun a b => PV.tup [a, b]) xs ys).length := hi
        rw [List.length_zipWith] at hi
        exact ⟨us, ws, us[i]'(by rw [← r.length]; omega), ws[i]'(by rw [← r2.length]; omega), s, s2, by simp, by simp⟩
      · obtain ⟨us, s, r⟩ := hK ι2 μ2 H2 e S2 (chk1 c).1
        obtain ⟨ws, s2, r2⟩ := hK2 ι2 μ2 H2 e S2 (chk1 c).2
        refine ⟨us, ws, s, s2, ?_⟩
        show us.length ≤ (List.zipWith (fun a b => PV.tup [a, b]) xs ys).length ∨ ws.length ≤ (List.zipWith (fun a b => PV.tup [a, b]) xs ys).length
        rw [List.length_zipWith, ← r.length, ← r2.length]
        omega
      · obtain ⟨us, s, r⟩ := hK ι2 μ2 H2 e S2 (chk1 c).1
        obtain ⟨ws, s2, r2⟩ := hK2 ι2 μ2 H2 e S2 (chk1 c).2
        have hz : (List.zipWith (fun a b => PV.tup [a, b]) xs ys)[i]? = some z := hz
        rw [List.getElem?_zipWith] at hz
        obtain ⟨T, u, w, rfl, hT, rfl, hu, hw⟩ := y
        cases ex : xs[i]? with
        | none => rw [ex] at hz; cases hz
        | some x0 =>
          cases ey : ys[i]? with
          | none => rw [ex, ey] at hz; cases hz
          | some y0 =>
            rw [ex, ey] at hz
            cases hz
            obtain ⟨u', h1, h2⟩ := r.get ex
            obtain ⟨w', h3, h4⟩ := r2.get ey
            have q1 := (hu us s).symm.trans h1
            have q2 := (hw ws s2).symm.trans h3
            cases q1; cases q2
            exact tup2 S2 hT h2 h4
    · cases e
theorem ci_zip (ρ : En) (μ : Sto) (p : List PV × List (Nat × List PV)) (μ' : Sto) (h : itZip r ρ μ = some (p, μ')) : ChkOk p.2 μ' := by
  unfold itZip at h
  have key : ∀ {x : PV} {xs : List PV} {ch : List (Nat × List PV)} {ν : Sto}, rdI ν x = some (xs, ch) → ChkOk ch ν := fun {x xs ch ν} e2 => by
    unfold rdI at e2
    split at e2
    · cases e2; exact chk_nil
    · split at e2
      · rename_i zs em
        cases e2
        intro q hq
        rw [List.mem_singleton.mp hq]
        exact em
      · cases e2
    · cases e2
  split at h
  · obtain ⟨⟨xs, ch⟩, e2, e⟩ := Option.bind_eq_some_iff.mp h
    obtain ⟨⟨ys, ch2⟩, e3, e4⟩ := Option.map_eq_some_iff.mp e
    cases e4
    intro q hq
    rcases List.mem_append.mp hq with z | z
    · exact key e2 q z
    · exact key e3 q z
  · cases h
end
end Fd

/-! Fd11: comprehensions of two for. -/
namespace Fd
open PySem PySem.Spec PyProof.Rows L2
theorem RepE.monoP {K : Frg} {ι ι1 : Ad} {n n1 : Nat} {H H1 : Hp} {ρ : En} {σ : L2.St} (e : ExtP ι n H ι1 n1 H1) (h : RepE K ι n H ρ σ) : RepE K ι1 n1 H1 ρ σ :=
  ⟨h.len, fun i x hx => let ⟨v, h1, h2⟩ := h.at_ i x hx; ⟨v, h1, h2.monoP e⟩⟩
theorem ExtP.put {ι ι1 : Ad} {n n1 : Nat} {H H1 : Hp} {D : Addr} {o : HO} (X : ExtP ι n H ι1 n1 H1) (z : ι.Z D) : ExtP ι n H ι1 n1 (upd H1 D o) :=
  ⟨X.le, X.same, fun b u h g zb => by rw [upd_ne fun e => zb (by rw [e]; exact z)]; exact X.keep b u h g zb, fun b h => by
    by_cases e : b = D
    · subst e; rw [upd_same]; exact fun k => nomatch k
    · rw [upd_ne e]; exact X.dom b h, X.new, X.zup, X.zdn⟩
open Classical in
noncomputable def lcL2 (ρ : En) (g : DenG) (t : DenT) (d1 : DenI) (g1 : DenG) (t1 : DenT) (e : Den) (vs1 : List Nat) (ch : List (Nat × List PV)) : List PV → List PV → Sto → Option (List PV × Sto)
  | [], acc, μ => some (acc, μ)
  | x :: xs, acc, μ => (g x ρ μ).bind fun p => (t p.1 p.2).bind fun q => if q.1 = true
      then (d1 p.1 q.2).bind fun r => (lcL (wipeE p.1 vs1) g1 t1 e r.1.2 r.1.1 acc r.2).bind fun s => if ChkOk ch s.2 then lcL2 ρ g t d1 g1 t1 e vs1 ch xs s.1 s.2 else none
      else if ChkOk ch q.2 then lcL2 ρ g t d1 g1 t1 e vs1 ch xs acc q.2 else none
noncomputable def dLc2 (vs vs1 : List Nat) (it : DenI) (g : DenG) (t : DenT) (it1 : DenI) (g1 : DenG) (t1 : DenT) (e : Den) : Den := fun ρ μ => (it ρ μ).bind fun p => (lcL2 (wipeE ρ vs) g t it1 g1 t1 e vs1 p.1.2 p.1.1 [] p.2).map fun r => (.lst r.1, r.2)
open Classical in
theorem t_lc2 {K : Frg} {vs vs1 : List Nat} {tg tg1 : TG} {di di1 : DenI} {g g1 : DenG} {t t1 : DenT} {e : Den} (gi : GIn K tg g vs) (gi1 : GIn K tg1 g1 vs1) (hci : ∀ ρ μ p μ', di ρ μ = some (p, μ') → ChkOk p.2 μ') (hci1 : ∀ ρ μ p μ', di1 ρ μ = some (p, μ') → ChkOk p.2 μ')
    {σ : L2.St} {H : Hp} {Q : VK} (h : tD K (dLc2 vs vs1 di g t di1 g1 t1 e) σ H Q) : tLc2 (tI K di) tg (tT K t) (tI K di1) tg1 (tT K t1) (tD K e) vs vs1 σ H Q := by
  obtain ⟨ι, ρ, μ, v, μ', E, S, e0, q⟩ := h
  obtain ⟨⟨⟨xs, ch⟩, μ1⟩, e1, e0⟩ := Option.bind_eq_some_iff.mp e0
  obtain ⟨⟨out, μ2⟩, he, e3⟩ := Option.map_eq_some_iff.mp e0
  cases e3
  have hch := hci _ _ _ _ e1
  refine ⟨ι, ρ, μ, (xs, ch), μ1, E, S, e1, hch, fun ι1 H1 J X1 S1 ok D hD => ?_⟩
  have E1 := E.mono X1
  have q : Aft K ι1 μ1 H1 (.lst out) μ2 Q := q.mono X1
  have ok : ItOk K J xs ch ι1 μ1.length H1 := ok
  have c1 : ChkOk ch μ1 := hch
  have he : lcL2 (wipeE ρ vs) g t di1 g1 t1 e vs1 ch xs [] μ1 = some (out, μ2) := he
  clear e1 hch X1 S E
  let Pv : Nat → Hp → Prop := fun i H => ∃ ι2 ν acc ys, Ext ι1 μ1.length H1 ι2 ν.length H ∧ ι2.Z D ∧ RepS K ι2 H ν ∧ H D = some (.lst ys) ∧ RepVs K ι2 ν.length H acc ys ∧ ChkOk ch ν ∧
    lcL2 (wipeE ρ vs) g t di1 g1 t1 e vs1 ch (xs.drop i) acc ν = some (out, μ2)
  refine ⟨fun i m H => m = xs.length - i ∧ i ≤ xs.length ∧ Pv i H, ⟨xs.length, by simp, Nat.zero_le _, addZ ι1 D, μ1, [], [], Ext.addZ S1 hD, .inr rfl, S1.addZ hD, upd_same, rfl, c1, he⟩, ?_⟩
  rintro i m H ⟨rfl, hi, ι2, ν, acc, ys, X2, z2, S2, hDy, R2, c2, e2⟩
  by_cases hlt : i < xs.length
  · have hd : xs.drop i = xs[i] :: xs.drop (i + 1) := List.drop_eq_getElem_cons hlt
    rw [hd] at e2
    unfold lcL2 at e2
    obtain ⟨⟨ρ3, μ3⟩, e3, e2⟩ := Option.bind_eq_some_iff.mp e2
    obtain ⟨⟨b, μ4⟩, e4, e2⟩ := Option.bind_eq_some_iff.mp e2
    refine .inr ⟨ok.goes i ι2 ν H hlt X2.p S2 c2, Pv (i + 1), fun H' h => ⟨xs.length - (i + 1), by omega, rfl, hlt, h⟩, fun x H3 y => ?_⟩
    obtain ⟨X3, S3, R3⟩ := ok.yields i ι2 ν H x H3 xs[i] (by simp [hlt]) X2.p S2 c2 y
    have E3 : RepE K ι2 ν.length H3 (wipeE ρ vs) (L2.wipe σ vs) := (E1.wipe vs).mono (X2.trans X3)
    have h0 := gi.imp x (L2.wipe σ vs) H3 (fun σ2 H2 => tT K t σ2 H2 fun b H3 => if b = true then tI K di1 σ2 H3 fun J1 H4 => ∃ W1 : Nat → Nat → Hp → Prop, (∃ m, W1 0 m H4) ∧ ∀ j k H, W1 j k H →
      (J1.stop j H ∧ Pv (i + 1) H) ∨ (J1.go j H ∧ ∃ Nx1 : Hp → Prop, (∀ H', Nx1 H' → ∃ k', k' < k ∧ W1 (j + 1) k' H') ∧ ∀ x H', J1.yld j H x H' → tg1 x (L2.wipe σ2 vs1) H' fun σ3 H5 => L2.wipe σ3 vs1 = L2.wipe σ2 vs1 ∧ tT K t1 σ3 H5 fun b H6 =>
        if b = true then tD K e σ3 H6 fun y H7 => ∃ acc, H7 D = some (.lst acc) ∧ acc.length < sizeLine ∧ Nx1 (upd H7 D (.lst (acc ++ [y]))) else Nx1 H6)
      else Pv (i + 1) H3) ?_
    · rw [wipe_idem] at h0
      exact h0
    refine ⟨ι2, wipeE ρ vs, ν, xs[i], ρ3, μ3, E3, S3, R3, e3, fun σ4 ι4 H4 X4 E4 S4 => ⟨ι4, ρ3, μ3, b, μ4, E4, S4, e4, fun ι5 H5 X5 S5 => ?_⟩⟩
    have e2 : (if b = true then _ else _) = some (out, μ2) := e2
    have hoffD : ∀ l, l < ν.length → ι2 l ≠ D := fun l hl z => S2.zap l hl (by rw [z]; exact z2)
    have X25 := X3.trans (X4.trans X5)
    have hDy5 : H5 D = some (.lst ys) := X25.keep D _ hDy hoffD
    have z5 : ι5.Z D := X25.zup D z2
    cases b with
    | false =>
      rw [if_neg Bool.false_ne_true] at e2
      refine iteF ?_
      split at e2
      · rename_i c5
        exact ⟨ι5, μ4, acc, ys, X2.trans X25, z5, S5, hDy5, RepVs.mono X25 R2, c5, e2⟩
      · cases e2
    | true =>
      rw [if_pos rfl] at e2
      refine iteT ?_
      obtain ⟨⟨⟨zs, ch1⟩, μ6⟩, e5, e2⟩ := Option.bind_eq_some_iff.mp e2
      obtain ⟨⟨out1, μ7⟩, e6, e2⟩ := Option.bind_eq_some_iff.mp e2
      have e6 : lcL (wipeE ρ3 vs1) g1 t1 e ch1 zs acc μ6 = some (out1, μ7) := e6
      have hch1 := hci1 _ _ _ _ e5
      refine ⟨ι5, ρ3, μ4, (zs, ch1), μ6, E4.mono X5, S5, e5, hch1, fun ι6 H6 J1 X6 S6 ok1 => ?_⟩
      have ok1 : ItOk K J1 zs ch1 ι6 μ6.length H6 := ok1
      have X26 := X25.trans X6
      have z6 : ι6.Z D := X26.zup D z2
      have hDy6 : H6 D = some (.lst ys) := X26.keep D _ hDy hoffD
      let Pv1 : Nat → Hp → Prop := fun j H => ∃ ι7 ν7 acc7 hy7, ExtP ι6 μ6.length H6 ι7 ν7.length H ∧ Ext ι1 μ1.length H1 ι7 ν7.length H ∧ RepS K ι7 H ν7 ∧ H D = some (.lst hy7) ∧ RepVs K ι7 ν7.length H acc7 hy7 ∧ ChkOk ch1 ν7 ∧
        lcL (wipeE ρ3 vs1) g1 t1 e ch1 (zs.drop j) acc7 ν7 = some (out1, μ7)
      refine ⟨fun j k H => k = zs.length - j ∧ j ≤ zs.length ∧ Pv1 j H, ⟨zs.length, by simp, Nat.zero_le _, ι6, μ6, acc, ys, Ext.refl.p, X2.trans X26, S6, hDy6, RepVs.mono X26 R2, hch1, e6⟩, ?_⟩
      rintro j k H8 ⟨rfl, hj, ι7, ν7, acc7, hy7, XP, XE, S7, hD7, R7, c7, e7⟩
      have z7 : ι7.Z D := XP.zup D z6
      by_cases hlt1 : j < zs.length
      · have hd1 : zs.drop j = zs[j] :: zs.drop (j + 1) := List.drop_eq_getElem_cons hlt1
        rw [hd1] at e7
        unfold lcL at e7
        obtain ⟨⟨ρ9, μ9⟩, e9, e7⟩ := Option.bind_eq_some_iff.mp e7
        obtain ⟨⟨b1, μ10⟩, e10, e7⟩ := Option.bind_eq_some_iff.mp e7
        refine .inr ⟨ok1.goes j ι7 ν7 H8 hlt1 XP S7 c7, Pv1 (j + 1), fun H' h => ⟨zs.length - (j + 1), by omega, rfl, hlt1, h⟩, fun x1 H9 y1 => ?_⟩
        obtain ⟨X9, S9, R9⟩ := ok1.yields j ι7 ν7 H8 x1 H9 zs[j] (by simp [hlt1]) XP S7 c7 y1
        have E9 : RepE K ι7 ν7.length H9 (wipeE ρ3 vs1) (L2.wipe σ4 vs1) := ((E4.wipe vs1).mono (X5.trans X6)).monoP (XP.trans X9.p)
        have h1 := gi1.imp x1 (L2.wipe σ4 vs1) H9 (fun σ3 H5 => tT K t1 σ3 H5 fun b H6 =>
          if b = true then tD K e σ3 H6 fun y H7 => ∃ acc, H7 D = some (.lst acc) ∧ acc.length < sizeLine ∧ Pv1 (j + 1) (upd H7 D (.lst (acc ++ [y]))) else Pv1 (j + 1) H6) ?_
        · rw [wipe_idem] at h1
          exact h1
        refine ⟨ι7, wipeE ρ3 vs1, ν7, zs[j], ρ9, μ9, E9, S9, R9, e9, fun σ10 ι10 H10 X10 E10 S10 => ⟨ι10, ρ9, μ9, b1, μ10, E10, S10, e10, fun ι11 H11 X11 S11 => ?_⟩⟩
        have e7 : (if b1 = true then _ else _) = some (out1, μ7) := e7
        have hoff7 : ∀ l, l < ν7.length → ι7 l ≠ D := fun l hl z => S7.zap l hl (by rw [z]; exact z7)
        have X711 := X9.trans (X10.trans X11)
        have hD11 : H11 D = some (.lst hy7) := X711.keep D _ hD7 hoff7
        have z11 : ι11.Z D := X711.zup D z7
        cases b1 with
        | false =>
          rw [if_neg Bool.false_ne_true] at e7
          refine iteF ?_
          split at e7
          · rename_i c11
            exact ⟨ι11, μ10, acc7, hy7, XP.trans X711.p, XE.trans X711, S11, hD11, RepVs.mono X711 R7, c11, e7⟩
          · cases e7
        | true =>
          rw [if_pos rfl] at e7
          refine iteT ?_
          obtain ⟨⟨w, μ12⟩, e12, e7⟩ := Option.bind_eq_some_iff.mp e7
          refine ⟨ι11, ρ9, μ10, w, μ12, E10.mono X11, S11, e12, fun hw ι12 H12 X12 R12 S12 => ?_⟩
          split at e7
          · rename_i c12
            have X712 := X711.trans X12
            have z12 : ι12.Z D := X12.zup D z11
            have R712 : RepVs K ι12 μ12.length H12 acc7 hy7 := RepVs.mono X712 R7
            refine ⟨hy7, X712.keep D _ hD7 hoff7, by rw [← R7.length]; exact c12.2, ι12, μ12, acc7 ++ [w], hy7 ++ [hw], (XP.trans X712.p).put z6, (XE.trans X712).privR hD, S12.priv z12, upd_same, (R712.append (.one R12)).priv z12, c12.1, e7⟩
          · cases e7
      · have hj2 : j = zs.length := by omega
        subst hj2
        rw [List.drop_length] at e7
        cases e7
        refine .inl ⟨ok1.stops ι7 _ H8 XP S7 c7, ?_⟩
        have e2 : (if ChkOk ch _ then _ else none) = some (out, μ2) := e2
        split at e2
        · rename_i c8
          exact ⟨ι7, _, out1, hy7, XE, z7, S7, hD7, R7, c8, e2⟩
        · cases e2
  · have hi2 : i = xs.length := by omega
    subst hi2
    rw [List.drop_length] at e2
    cases e2
    have zs : ∀ a, ι1.Z a → ι2.Z a := X2.zup
    refine .inl ⟨ok.stops ι2 _ H X2.p S2 c2, q _ (setZ ι2 ι1.Z) H X2.setR ?_ (S2.setZ zs)⟩
    exact ⟨D, ys, rfl, ⟨hDy, fun l hl z => S2.zap l hl (by have z : ι2 l = D := z; rw [z]; exact z2), fun z => S2.zin D (zs D z) |> fun _ => S1.zin D z hD⟩, R2.setZ zs⟩
section
variable {X : Cx}
theorem e_lc2 {elt tg iter tg1 iter1 : Expr} {ifs ifs1 : List Expr} {scope : Scope} {own : List (Str × Nat)} {vs1 : List Nat} {pos : Pos} {di di1 : DenI} {gt gt1 : TG} {g g1 : DenG} {t t1 : DenT} {e : Den} (hN : X.N.Nodup) (hi : PI X tg iter (tI X.K di)) (hci : ∀ ρ μ p μ', di ρ μ = some (p, μ') → ChkOk p.2 μ')
    (hci1 : ∀ ρ μ p μ', di1 ρ μ = some (p, μ') → ChkOk p.2 μ') (ok : BlkOk X.N X.env.scope scope own) (hv : ∀ i ∈ vs1, i ∈ own.map (·.2)) (gi : GIn X.K gt g (own.map (·.2))) (gi1 : GIn X.K gt1 g1 vs1)
    (hg : ∀ (s : Shared) (H : Hp) (C : Addr) (cl : List (Str × Addr)) (fp : List Addr), PG (X.blk s H scope (compEnvC scope cl C X.env) fp) tg gt) (ht : ∀ (s : Shared) (H : Hp) (C : Addr) (cl : List (Str × Addr)) (fp : List Addr), PTs (X.blk s H scope (compEnvC scope cl C X.env) fp) ifs (tT X.K t))
    (hi1 : ∀ (s : Shared) (H : Hp) (C : Addr) (cl : List (Str × Addr)) (fp : List Addr), PI (X.blk s H scope (compEnvC scope cl C X.env) fp) tg1 iter1 (tI X.K di1))
    (hg1 : ∀ (s : Shared) (H : Hp) (C : Addr) (cl : List (Str × Addr)) (fp : List Addr), PG (X.blk s H scope (compEnvC scope cl C X.env) fp) tg1 gt1) (ht1 : ∀ (s : Shared) (H : Hp) (C : Addr) (cl : List (Str × Addr)) (fp : List Addr), PTs (X.blk s H scope (compEnvC scope cl C X.env) fp) ifs1 (tT X.K t1))
    (he : ∀ (s : Shared) (H : Hp) (C : Addr) (cl : List (Str × Addr)) (fp : List Addr), PE (X.blk s H scope (compEnvC scope cl C X.env) fp) elt (tD X.K e)) (hc : X.calm = true := by rfl) (hs : ∀ x, foldedSetIterable iter X.env x = pure x := by intro _; rfl) (hs1 : ∀ env x, foldedSetIterable iter1 env x = pure x := by intro _ _; rfl) :
    PE X (.ListComp elt [⟨tg, iter, ifs, 0⟩, ⟨tg1, iter1, ifs1, 0⟩] scope pos) (tD X.K (dLc2 (own.map (·.2)) vs1 di g t di1 g1 t1 e)) :=
  (pe_lc2 hc hN hi ok hv hg ht hi1 hg1 ht1 he hs hs1).weak fun _ _ _ h => t_lc2 gi gi1 hci hci1 h
end
section
variable {X : Cx}
theorem s_setLc2 (i : Nat) {y : Str} {py : Pos} {elt tg iter tg1 iter1 : Expr} {ifs ifs1 : List Expr} {scope : Scope} {own : List (Str × Nat)} {vs1 : List Nat} {pos spos : Pos} {di di1 : DenI} {gt gt1 : TG} {g g1 : DenG} {t t1 : DenT} {e : Den} (hN : X.N.Nodup)
    (hsw : swapsWith (.ListComp elt [⟨tg, iter, ifs, 0⟩, ⟨tg1, iter1, ifs1, 0⟩] scope pos) (some (.Name y py)) spos.line X.env = pure true) (hi : PI X tg iter (tI X.K di)) (hci : ∀ ρ μ p μ', di ρ μ = some (p, μ') → ChkOk p.2 μ')
    (hci1 : ∀ ρ μ p μ', di1 ρ μ = some (p, μ') → ChkOk p.2 μ') (ok : BlkOk X.N X.env.scope scope own) (hv : ∀ i ∈ vs1, i ∈ own.map (·.2)) (gi : GIn X.K gt g (own.map (·.2))) (gi1 : GIn X.K gt1 g1 vs1)
    (hg : ∀ (s : Shared) (H : Hp) (C : Addr) (cl : List (Str × Addr)) (fp : List Addr), PG (X.blk s H scope (compEnvC scope cl C X.env) fp) tg gt) (ht : ∀ (s : Shared) (H : Hp) (C : Addr) (cl : List (Str × Addr)) (fp : List Addr), PTs (X.blk s H scope (compEnvC scope cl C X.env) fp) ifs (tT X.K t))
    (hi1 : ∀ (s : Shared) (H : Hp) (C : Addr) (cl : List (Str × Addr)) (fp : List Addr), PI (X.blk s H scope (compEnvC scope cl C X.env) fp) tg1 iter1 (tI X.K di1))
    (hg1 : ∀ (s : Shared) (H : Hp) (C : Addr) (cl : List (Str × Addr)) (fp : List Addr), PG (X.blk s H scope (compEnvC scope cl C X.env) fp) tg1 gt1) (ht1 : ∀ (s : Shared) (H : Hp) (C : Addr) (cl : List (Str × Addr)) (fp : List Addr), PTs (X.blk s H scope (compEnvC scope cl C X.env) fp) ifs1 (tT X.K t1))
    (he : ∀ (s : Shared) (H : Hp) (C : Addr) (cl : List (Str × Addr)) (fp : List Addr), PE (X.blk s H scope (compEnvC scope cl C X.env) fp) elt (tD X.K e)) (hy : X.N[i]? = some y := by rfl) (hyl : X.env.scope.names.lookup y = some .local := by rfl) (hc : X.calm = true := by rfl)
    (hs : ∀ x, foldedSetIterable iter X.env x = pure x := by intro _; rfl) (hs1 : ∀ env x, foldedSetIterable iter1 env x = pure x := by intro _ _; rfl) :
    PS X (.Assign [.Name y py] (.ListComp elt [⟨tg, iter, ifs, 0⟩, ⟨tg1, iter1, ifs1, 0⟩] scope pos) spos) (tS X.K (sAsg (dLc2 (own.map (·.2)) vs1 di g t di1 g1 t1 e) (gNm i))) :=
  (ps_setLc2 (i := i) hc hN hy hyl hsw hi ok hv hg ht hi1 hg1 ht1 he hs hs1).weak fun D σ H h => by
    obtain ⟨ι, ρ, μ, o, E, S, e, q⟩ := h
    obtain ⟨⟨v, μ1⟩, e1, e⟩ := Option.bind_eq_some_iff.mp e
    obtain ⟨⟨ρ2, μ2⟩, e2, e3⟩ := Option.map_eq_some_iff.mp e
    cases e3; cases e2
    exact t_lc2 gi gi1 hci hci1 (Q := fun x H1 => gName i x σ H1 D.nx) ⟨ι, ρ, μ, v, μ1, E, S, e1, fun hv ι1 H1 X1 R1 S1 => q _ ι1 H1 X1 ((E.mono X1).set i R1) S1⟩
end
theorem wipe_get (σ : L2.St) : ∀ (vs : List Nat) (i : Nat), (L2.wipe σ vs)[i]? = if i ∈ vs ∧ i < σ.length then some none else σ[i]? := by
  intro vs
  induction vs with
  | nil => intro i; simp [L2.wipe]
  | cons v vs ih =>
    intro i
    show ((L2.wipe σ vs).set v none)[i]? = _
    by_cases hv : v = i
    · subst hv
      by_cases hl : v < σ.length
      · rw [List.getElem?_set_self (by rw [wipe_length]; exact hl), if_pos ⟨List.mem_cons_self, hl⟩]
      · rw [if_neg fun z => hl z.2, List.getElem?_eq_none (by rw [List.length_set, wipe_length]; omega), List.getElem?_eq_none (by omega)]
    · rw [List.getElem?_set_ne hv, ih i]
      by_cases hc : i ∈ vs ∧ i < σ.length
      · rw [if_pos hc, if_pos ⟨List.mem_cons_of_mem _ hc.1, hc.2⟩]
      · rw [if_neg hc, if_neg fun z => hc ⟨(List.mem_cons.mp z.1).resolve_left fun e => hv e.symm, z.2⟩]
theorem wipe_in (σ : L2.St) (i : Nat) (o : Option V) (vs : List Nat) (h : i ∈ vs) : L2.wipe (σ.set i o) vs = L2.wipe σ vs := by
  apply List.ext_getElem?
  intro j
  rw [wipe_get, wipe_get, List.length_set]
  by_cases hj : j ∈ vs ∧ j < σ.length
  · rw [if_pos hj, if_pos hj]
  · rw [if_neg hj, if_neg hj]
    by_cases e : i = j
    · subst e
      have hl : ¬ i < σ.length := fun l => hj ⟨h, l⟩
      rw [List.getElem?_eq_none (by rw [List.length_set]; omega), List.getElem?_eq_none (by omega)]
    · rw [List.getElem?_set_ne e]
theorem gin_nmV {K : Frg} (i : Nat) {vs : List Nat} (h : i ∈ vs := by decide) : GIn K (gName i) (gNm i) vs := ⟨fun v σ H Q q => by
  obtain ⟨ι, ρ, μ, pv, ρ', μ', E, S, R, e, q⟩ := q
  cases e
  exact ⟨wipe_in _ _ _ _ h, q _ ι H .refl (E.set i R) S⟩⟩
theorem gin_tu2V {K : Frg} (i j : Nat) {vs : List Nat} (h : i ∈ vs := by decide) (h2 : j ∈ vs := by decide) : GIn K (gTup K 2 (gCons (gName i) (gCons (gName j) gNil))) (gTu 2 (gsCons (gNm i) (gsCons (gNm j) gsNil))) vs := ⟨fun v σ H Q q => by
  obtain ⟨ι, ρ, μ, pv, ρ', μ', E, S, R, e, q⟩ := q
  unfold gTu at e
  split at e
  · rename_i xs
    split at e
    · rename_i hl
      match xs, hl with
      | [x, y], _ =>
        cases e
        obtain ⟨a, ys, rfl, t, u, r1, rfl, h1, w, r2, rfl, h3, rfl⟩ := R
        exact ⟨a, [u, w], rfl, t.sq, rfl, u, [w], rfl, w, [], rfl, rfl, (wipe_in _ _ _ _ h2).trans (wipe_in _ _ _ _ h), q _ ι H .refl ((E.set i h1).set j h3) S⟩
    · cases e
  · cases e⟩
theorem gin_tu3V {K : Frg} (i j k : Nat) {vs : List Nat} (h : i ∈ vs := by decide) (h2 : j ∈ vs := by decide) (h3 : k ∈ vs := by decide) : GIn K (gTup K 3 (gCons (gName i) (gCons (gName j) (gCons (gName k) gNil)))) (gTu 3 (gsCons (gNm i) (gsCons (gNm j) (gsCons (gNm k) gsNil)))) vs := ⟨fun v σ H Q q => by
  obtain ⟨ι, ρ, μ, pv, ρ', μ', E, S, R, e, q⟩ := q
  unfold gTu at e
  split at e
  · rename_i xs
    split at e
    · rename_i hl
      match xs, hl with
      | [x, y, z], _ =>
        cases e
        obtain ⟨a, ys, rfl, t, u, r1, rfl, k1, w, r2, rfl, k2, w3, r3, rfl, k3, rfl⟩ := R
        exact ⟨a, [u, w, w3], rfl, t.sq, rfl, u, [w, w3], rfl, w, [w3], rfl, w3, [], rfl, rfl, (wipe_in _ _ _ _ h3).trans ((wipe_in _ _ _ _ h2).trans (wipe_in _ _ _ _ h)), q _ ι H .refl (((E.set i k1).set j k2).set k k3) S⟩
    · cases e
  · cases e⟩
theorem e_gintE {X : Cx} {x : Str} {i : Int} {pos : Pos} (hm : ∃ t, X.mg x = some (.int i t)) (hg : Gl X x := by rfl) (hd : (x == ("__debug__" : Str)) = false := by decide) : PE X (.Name x pos) (tD X.K (cK (.int i))) := by
  obtain ⟨t, h⟩ := hm
  exact e_gint hg h hd
end Fd

/-! Fd12: dicts whose keys are ints and texts; sums of lists that will be changed. -/
namespace Fd
open PySem PySem.Spec PyProof.Rows L2
/-! ### a dict's pairs -/
def kGet (kvs : List (PV × PV)) (k : Key) : Option PV := match kvs with
  | [] => none
  | p :: r => if keyOf p.1 = some k then some p.2 else kGet r k
def kHas (kvs : List (PV × PV)) (k : Key) : Bool := kvs.any fun p => decide (keyOf p.1 = some k)
def kSub (kvs : List (PV × PV)) (k : Key) (v : PV) : List (PV × PV) := kvs.map fun p => if keyOf p.1 = some k then (p.1, v) else p
def kPut (kvs : List (PV × PV)) (y : PV) (k : Key) (v : PV) : List (PV × PV) := if kHas kvs k = true then kSub kvs k v else kvs ++ [(y, v)]
section
variable {K : Frg} {ι : Ad} {n : Nat} {H : Hp}
theorem RepKs.len {κ : Type} {key : PV → Option κ} : ∀ {xs : List (PV × PV)} {ys : List (κ × V)}, RepKs K ι n H key xs ys → xs.length = ys.length
  | [], _, h => by cases h; rfl
  | (k, x) :: xs, _, h => by
    obtain ⟨q, y, r, rfl, hk, h1, h2⟩ := h
    rw [List.length_cons, List.length_cons, RepKs.len h2]
theorem kGet_rep {k : Key} : ∀ {xs : List (PV × PV)} {ys : List (Key × V)}, RepKs K ι n H keyOf xs ys → (kGet xs k = none → valV ys k = none) ∧ ∀ x, kGet xs k = some x → ∃ v, valV ys k = some v ∧ RepV K ι n H x v
  | [], _, h => by cases h; exact ⟨fun _ => rfl, fun x e => nomatch e⟩
  | (j, x) :: xs, _, h => by
    obtain ⟨q, y, r, rfl, hk, h1, h2⟩ := h
    have ih := kGet_rep (k := k) h2
    unfold kGet
    simp only [hk]
    by_cases e : q = k
    · subst e
      rw [if_pos rfl]
      refine ⟨fun z => (by cases z), fun z hz => ?_⟩
      cases hz
      exact ⟨y, valV_pos rfl, h1⟩
    · rw [if_neg (fun z => e (Option.some.inj z)), valV_neg (p := (q, y)) e]
      exact ih
theorem kHas_rep {k : Key} : ∀ {xs : List (PV × PV)} {ys : List (Key × V)}, RepKs K ι n H keyOf xs ys → kHas xs k = ys.any fun kv => decide (kv.1 = k)
  | [], _, h => by cases h; rfl
  | (j, x) :: xs, _, h => by
    obtain ⟨q, y, r, rfl, hk, h1, h2⟩ := h
    have ih := kHas_rep (k := k) h2
    unfold kHas at ih ⊢
    rw [List.any_cons, List.any_cons, ih]
    congr 1
    simp only [hk, Option.some.injEq]
theorem kSub_rep {k : Key} {v : PV} {hv : V} (rv : RepV K ι n H v hv) : ∀ {xs : List (PV × PV)} {ys : List (Key × V)}, RepKs K ι n H keyOf xs ys → RepKs K ι n H keyOf (kSub xs k v) (ys.map fun kv => if kv.1 = k then (kv.1, hv) else kv)
  | [], _, h => by cases h; rfl
  | (j, x) :: xs, _, h => by
    obtain ⟨q, y, r, rfl, hk, h1, h2⟩ := h
    have ih := kSub_rep (k := k) rv h2
    unfold kSub at ih ⊢
    rw [List.map_cons, List.map_cons]
    by_cases e : q = k
    · subst e
      simp only [hk, if_true]
      exact ⟨q, hv, _, rfl, hk, rv, ih⟩
    · simp only [hk, Option.some.injEq, if_neg e]
      exact ⟨q, y, _, rfl, hk, h1, ih⟩
theorem kApp_rep {k : Key} {y v : PV} {hv : V} (hy : keyOf y = some k) (rv : RepV K ι n H v hv) : ∀ {xs : List (PV × PV)} {ys : List (Key × V)}, RepKs K ι n H keyOf xs ys → RepKs K ι n H keyOf (xs ++ [(y, v)]) (ys ++ [(k, hv)])
  | [], _, h => by cases h; exact ⟨k, hv, [], rfl, hy, rv, rfl⟩
  | (j, x) :: xs, _, h => by
    obtain ⟨q, w, r, rfl, hk, h1, h2⟩ := h
    exact ⟨q, w, _, rfl, hk, h1, kApp_rep hy rv h2⟩
theorem kPut_rep {k : Key} {y v : PV} {hv : V} (hy : keyOf y = some k) (rv : RepV K ι n H v hv) {xs : List (PV × PV)} {ys : List (Key × V)} (h : RepKs K ι n H keyOf xs ys) : RepKs K ι n H keyOf (kPut xs y k v) (putK ys k hv) := by
  unfold kPut putK
  rw [kHas_rep h]
  split
  · exact kSub_rep rv h
  · exact kApp_rep hy rv h
end
theorem keyOf_rep {K : Frg} {ι : Ad} {n : Nat} {H : Hp} {y : PV} {hy : V} {k : Key} (r : RepV K ι n H y hy) (e : keyOf y = some k) : hy = kV k := by
  unfold keyOf at e
  split at e
  · cases e; cases r; rfl
  · cases e; cases r; rfl
  · cases e
/-! ### {} -/
def dDic : Den := fun _ μ => some (.loc μ.length, μ ++ [.dic false []])
theorem e_dic {X : Cx} {pos : Pos} : PE X (.Dict [] [] pos) (tD X.K dDic) :=
  pe_dnewK.weak fun σ H Q h p hp => by
    obtain ⟨ι, ρ, μ, v, μ', E, S, e, q⟩ := h
    cases e
    have hl : (μ ++ [Ob.dic false []]).length = μ.length + 1 := by simp
    refine q _ (addI ι μ.length p) _ (by rw [hl]; exact Ext.add S hp) ?_ ?_
    · rw [hl]
      exact ⟨Nat.lt_succ_self _, by rw [addI_at]⟩
    · exact S.add hp ⟨[], upd_same, rfl⟩
/-! ### d[y], y in d, y not in d -/
def dicAt (μ : Sto) : PV → Option (List (PV × PV))
  | .loc l => match μ[l]? with
    | some (.dic false kvs) => some kvs
    | _ => none
  | _ => none
theorem dicAt_rep {K : Frg} {ι : Ad} {H : Hp} {μ : Sto} {x : PV} {hx : V} {kvs : List (PV × PV)} (S : RepS K ι H μ) (r : RepV K ι μ.length H x hx) (e : dicAt μ x = some kvs) : ∃ l ys, x = .loc l ∧ hx = .ref (ι l) ∧ μ[l]? = some (.dic false kvs) ∧ l < μ.length ∧ H (ι l) = some (.dK ys) ∧ RepKs K ι μ.length H keyOf kvs ys := by
  unfold dicAt at e
  split at e
  · rename_i l
    split at e
    · rename_i em
      cases e
      obtain ⟨hl, rfl⟩ := r
      obtain ⟨ys, t, rr⟩ := S.obj l _ em
      exact ⟨l, ys, rfl, rfl, em, hl, t, rr⟩
    · cases e
  · cases e
def f_dix : Op2 := fun x y μ => match dicAt μ x, keyOf y with
  | some kvs, some k => (kGet kvs k).map fun v => (v, μ)
  | _, _ => none
theorem s_dix {K : Frg} : S2 K (fun x y H Q => ∃ a v, x = .ref a ∧ DGet H a y (some v) ∧ Q v H) f_dix := by
  intro ι H μ x y v μ' hx hy Q S rx ry h q
  unfold f_dix at h
  split at h
  · rename_i kvs k e1 e2
    obtain ⟨w, e3, e4⟩ := Option.map_eq_some_iff.mp h
    cases e4
    obtain ⟨l, ys, rfl, rfl, em, hl, t, rr⟩ := dicAt_rep S rx e1
    obtain ⟨u, hu, ru⟩ := (kGet_rep (k := k) rr).2 _ e3
    have := keyOf_rep ry e2
    subst this
    have g := DGet.k (k := k) t
    rw [hu] at g
    exact ⟨_, u, rfl, g, q.pure S ru⟩
  · cases h
def f_din : Op2 := fun y x μ => match dicAt μ x, keyOf y with
  | some kvs, some k => some (.bl (kGet kvs k).isSome, μ)
  | _, _ => none
def f_dni : Op2 := fun y x μ => match dicAt μ x, keyOf y with
  | some kvs, some k => some (.bl !(kGet kvs k).isSome, μ)
  | _, _ => none
theorem kGet_some {K : Frg} {ι : Ad} {n : Nat} {H : Hp} {k : Key} {xs : List (PV × PV)} {ys : List (Key × V)} (h : RepKs K ι n H keyOf xs ys) : (kGet xs k).isSome = (valV ys k).isSome := by
  obtain ⟨h1, h2⟩ := kGet_rep (k := k) h
  cases e : kGet xs k with
  | none => rw [h1 e]; rfl
  | some x =>
    obtain ⟨v, e2, _⟩ := h2 x e
    rw [e2]; rfl
theorem s_din {K : Frg} : S2 K (fun y x H Q => ∃ a o, x = .ref a ∧ DGet H a y o ∧ Q (.bl o.isSome) H) f_din := by
  intro ι H μ y x v μ' hy hx Q S ry rx h q
  unfold f_din at h
  split at h
  · rename_i kvs k e1 e2
    cases h
    obtain ⟨l, ys, rfl, rfl, em, hl, t, rr⟩ := dicAt_rep S rx e1
    have := keyOf_rep ry e2
    subst this
    exact ⟨_, _, rfl, DGet.k (k := k) t, by rw [← kGet_some rr]; exact q.pure S rfl⟩
  · cases h
theorem s_dni {K : Frg} : S2 K (fun y x H Q => ∃ a o, x = .ref a ∧ DGet H a y o ∧ Q (.bl (!o.isSome)) H) f_dni := by
  intro ι H μ y x v μ' hy hx Q S ry rx h q
  unfold f_dni at h
  split at h
  · rename_i kvs k e1 e2
    cases h
    obtain ⟨l, ys, rfl, rfl, em, hl, t, rr⟩ := dicAt_rep S rx e1
    have := keyOf_rep ry e2
    subst this
    exact ⟨_, _, rfl, DGet.k (k := k) t, by rw [← kGet_some rr]; exact q.pure S rfl⟩
  · cases h
section
variable {X : Cx} {a b c e o i : Expr} {da db dc d : Den} {pos pos' apos cpos : Pos}
theorem e_dix (hu : X.A.units + 65 < cLine) (ha : PE X a (tD X.K da)) (hb : PE X b (tD X.K db)) (hs : NoSl b := by exact fun _ _ => rfl) : PE X (.Subscript a b pos) (tD X.K (d2 f_dix da db)) :=
  (pe_dget (by omega) ha hb hs).weak fun _ _ _ h => t_2 s_dix h
theorem e_din (hu : X.A.units + 65 < cLine) (hb : PE X b (tD X.K db)) (ha : PE X a (tD X.K da)) (hm : behindInMarks .In a = false) : PE X (.Compare b [.In] [a] pos) (tD X.K (d2 f_din db da)) :=
  (pe_cmp (pc_din (by omega) hb ha) hm).weak fun _ _ _ h => t_2 s_din h
theorem e_dni (hu : X.A.units + 65 < cLine) (hb : PE X b (tD X.K db)) (ha : PE X a (tD X.K da)) (hm : behindInMarks .NotIn a = false) : PE X (.Compare b [.NotIn] [a] pos) (tD X.K (d2 f_dni db da)) :=
  (pe_cmp (pc_dnotin (by omega) hb ha) hm).weak fun _ _ _ h => t_2 s_dni h
theorem x_din (hu : X.A.units + 65 < cLine) (hb : PE X b (tD X.K db)) (ha : PE X a (tD X.K da)) (hm : behindInMarks .In a = false) : PT X (.Compare b [.In] [a] pos) (tT X.K (tB1 (d2 f_din db da))) :=
  (pt_cmp (pc_din (by omega) hb ha) hm).weak fun σ H Q h => t_2 s_din (t_b _ _ _ h)
theorem x_dni (hu : X.A.units + 65 < cLine) (hb : PE X b (tD X.K db)) (ha : PE X a (tD X.K da)) (hm : behindInMarks .NotIn a = false) : PT X (.Compare b [.NotIn] [a] pos) (tT X.K (tB1 (d2 f_dni db da))) :=
  (pt_cmp (pc_dnotin (by omega) hb ha) hm).weak fun σ H Q h => t_2 s_dni (t_b _ _ _ h)
end
/-! ### d[y] = v -/
def f_dput (o i v : PV) (μ : Sto) : Option Sto := match o, keyOf i, dicAt μ o with
  | .loc l, some k, some kvs => if kvs.length < sizeLine then some (μ.set l (.dic false (kPut kvs i k v))) else none
  | _, _, _ => none
theorem dput_rep {K : Frg} {ι : Ad} {H : Hp} {μ μ' : Sto} {o i v : PV} {ho hi hv : V} {Q : Hp → Prop} (S : RepS K ι H μ) (ro : RepV K ι μ.length H o ho) (ri : RepV K ι μ.length H i hi) (rv : RepV K ι μ.length H v hv)
    (e : f_dput o i v μ = some μ') (q : ∀ H', Ext ι μ.length H ι μ'.length H' → RepS K ι H' μ' → Q H') : ∃ a H4, ho = .ref a ∧ DPut H a hi hv H4 ∧ Q H4 := by
  unfold f_dput at e
  split at e
  · rename_i l k kvs e1 e2
    split at e
    · rename_i hz
      cases e
      obtain ⟨l', ys, el, rfl, em, hl, t, rr⟩ := dicAt_rep S ro e2
      cases el
      have := keyOf_rep ri e1
      subst this
      have X := Ext.put (o := .dK (putK ys k hv)) S hl
      refine ⟨ι l, _, rfl, DPut.k (v := hv) t (by rw [← rr.len]; exact hz), q _ ?_ (S.put hl ⟨_, upd_same, ?_⟩)⟩
      · rw [List.length_set]; exact X
      · exact kPut_rep e1 (rv.mono X) (rr.mono X)
    · cases e
  · cases e
def gDp (o i : Den) : DenG := fun v ρ μ => (o ρ μ).bind fun p => (i ρ p.2).bind fun q => (f_dput p.1 q.1 v q.2).map fun μ' => (ρ, μ')
theorem s_dput {X : Cx} {o i value : Expr} {d2 d3 d : Den} {pos pos' : Pos} (hu : X.A.units + 65 < cLine) (ho : PE X o (tD X.K d2)) (hi : PE X i (tD X.K d3)) (hv : PE X value (tD X.K d)) (hs : swapsWith value (some (.Subscript o i pos')) pos.line X.env = pure false := by rfl) :
    PS X (.Assign [.Subscript o i pos'] value pos) (tS X.K (sAsg d (gDp d2 d3))) :=
  (ps_dput (by omega) ho hi hv hs).weak fun D σ H h => by
    obtain ⟨ι, ρ, μ, o, E, S, e, q⟩ := h
    obtain ⟨⟨v, μ1⟩, e1, e⟩ := Option.bind_eq_some_iff.mp e
    obtain ⟨⟨ρ9, μ9⟩, e5, e6⟩ := Option.map_eq_some_iff.mp e
    obtain ⟨⟨x, μ2⟩, e2, e5⟩ := Option.bind_eq_some_iff.mp e5
    obtain ⟨⟨y, μ3⟩, e3, e5⟩ := Option.bind_eq_some_iff.mp e5
    obtain ⟨μ4, e4, e7⟩ := Option.map_eq_some_iff.mp e5
    cases e7
    cases e6
    refine ⟨ι, ρ, μ, v, μ1, E, S, e1, fun hv ι1 H1 X1 R1 S1 => ⟨ι1, ρ, μ1, x, μ2, E.mono X1, S1, e2, fun hx ι2 H2 X2 R2 S2 => ⟨ι2, ρ, μ2, y, μ3, E.mono (X1.trans X2), S2, e3, fun hy ι3 H3 X3 R3 S3 => ?_⟩⟩⟩
    exact dput_rep (Q := fun H4 => D.nx σ H4) S3 (R2.mono X3) R3 (R1.mono (X2.trans X3)) e4 fun H4 X4 S4 => q σ ι3 H4 (X1.trans (X2.trans (X3.trans X4))) (E.mono (X1.trans (X2.trans (X3.trans X4)))) S4
/-! ### a sum of lists that will be changed -/
def f_addM : Op2 := fun x y μ => match rdL μ x, rdL μ y with
  | some xs, some ys => if xs.length + ys.length ≤ sizeLine then some (.loc μ.length, μ ++ [.lst (xs ++ ys)]) else none
  | _, _ => none
theorem s_addM {K : Frg} : S2 K (r_add K) f_addM := by
  intro ι H μ x y v μ' hx hy Q S rx ry h q
  unfold f_addM at h
  split at h
  · rename_i xs ys e1 e2
    split at h
    · rename_i hz
      cases h
      obtain ⟨a, us, rfl, ta, ra⟩ := rdL_rep S rx e1
      obtain ⟨b, ws, rfl, tb, rb⟩ := rdL_rep S ry e2
      exact .inr (.inr (.inr (.inr (.inr (.inr ⟨a, b, us, ws, rfl, rfl, ta, tb, by rw [← ra.length, ← rb.length]; exact hz, fun p hp => q.loc S (ra.append rb) hp⟩)))))
    · cases h
  · cases h
end Fd

/-! Fd13: sorted(set(xs)), xs a list of ints. -/
namespace Fd
open PySem PySem.Spec PyProof.Rows L2
section
variable {P : Program} {w : World} {A : Around} {E : Value → Shared → Prop} {s : Shared}
/-- the set before anything is in it -/
abbrev s0 (w : World) : Obj := { cls := .type "set", dict := none, data := .set #[] 0 (.fresh 0 0 (!w.params.followText "set-order")) }
abbrev hp0 (w : World) (h : Heap) : Heap := h.push (s0 w)
theorem set_of_lst {l : Addr} {xs : Array Value} (ms : List Int) {Q : Value → Shared → Prop} (hh : A.handled = none) (hl : s.heap.IsList l xs) (hx : IntsAre xs.toList ms) (hb : ms.length + 1 < scanBound)
    (q : ∀ (h2 : Heap) (tk n : Nat), SetR w h2 s.heap.objs.size (fun j => decide (j ∈ ms)) n → n ≤ ms.length → (∀ b o, s.heap.get? b = some o → h2.get? b = some o) → Q (.ref s.heap.objs.size) { s with heap := h2, toks := tk }) : wpAny (model P w) A (call (.type "set") [.ref l]) Q E s := by
  have len : xs.size = ms.length := by have z := IntsAre.length hx; rwa [Array.length_toList] at z
  obtain ⟨c, tl, hmro⟩ := F.called_set.mro; have hmade := F.called_set.made; have hsub := F.called_set.sub
  refine wpAny_call (codeAny_of_tree ?_)
  show wpAny _ _ (callAny (Value.type "set") _) _ _ _
  refine wpAny_pure ⟨Code.quiet_builtin _ (by decide +kernel), codeAny_builtin F.entry_type_call ?_⟩; rw [Around.under_plain (weight_type_call_type "set" [.ref l] []) rfl]
  have h1 := F.called_set.notType; have h2 := F.called_set.canCreate; have hct := F.typeCall_set_1 (.ref l)
  repeat (any_goals (first | assumption | wp_step))
  refine codeAny_mono (code_set_led1 (.ref l) (E := E) (Q₁ := fun o t => o = .ref s.heap.objs.size ∧ t = { s with heap := hp0 w s.heap }) ⟨rfl, rfl⟩) fun r t hr => ?_
  cases r with
  | error e => exact hr
  | ok fl => cases fl with
    | ret o =>
      obtain ⟨rfl, rfl⟩ := hr
      have get0 : (hp0 w s.heap).get? s.heap.objs.size = some (s0 w) := Heap.get?_push_size _ rfl
      have ty0 : Shared.TypeIs { s with heap := hp0 w s.heap } (.ref s.heap.objs.size) "set" := ⟨_, get0, rfl⟩
      have hli := F.called_set.init.lookup; have hbi := F.called_set.init.bind (.ref s.heap.objs.size)
      repeat (any_goals (first | assumption | wp_step))
      refine codeAny_mono (codeAny_call_builtin (R := wants (fun r t => r = .none ∧ ∃ h2 tk n, t = { s with heap := h2, toks := tk } ∧ SetR w h2 s.heap.objs.size (fun j => decide (j ∈ ms)) n ∧ n ≤ ms.length ∧ (∀ b o, s.heap.get? b = some o → h2.get? b = some o)) E) F.called_set.init.plain F.entry_set_init (check_set_init_1 ty0 ?_)) fun r2 t2 hr2 => ?_
      · obtain ⟨⟨ocls, odict, odata, oslots⟩, hol, hcl, nl, hdl⟩ := hl
        simp only at hcl hdl; subst hcl; subst hdl
        have hol2 : (hp0 w s.heap).get? l = some { cls := .type "list", dict := odict, data := .seq xs nl, slots := oslots } := Heap.get?_push_of_some _ hol
        have hsls := F.sub_list_set; have hslf := F.sub_list_frozenset
        have hne : (Value.type "list" == Value.type "dict") = false := by decide
        have hl1 : (hp0 w s.heap).IsList l xs := ⟨_, hol2, rfl, nl, rfl⟩
        unfold Builtin.«set.__init__» noKeywords Builtin.Frozenset.updateFrom; generalize hPI : pyIter = PI
        wp_walk
        subst hPI
        refine wpAny_pyIter_list hl1 ?_; refine wpAny_bind (wpAny_runValue ?_)
        have lS : l < s.heap.objs.size := Heap.lt_size hol
        have hh3 : A.in1.in1.in1.handled = none := by simp [hh]
        have neI : l ≠ (hp0 w s.heap).objs.size := by rw [Heap.size_push]; exact Nat.ne_of_lt (Nat.lt_succ_of_lt lS)
        have notin : s.heap.objs.size ∉ [(hp0 w s.heap).objs.size, l] := by
          rw [Heap.size_push]
          simp only [List.mem_cons, List.not_mem_nil, or_false, not_or]; exact ⟨Nat.ne_of_lt (Nat.lt_succ_self _), Nat.ne_of_gt lS⟩
        have vals : ∀ (i : Nat) (v : Value), xs[i]? = some v → ∃ k t, ms[i]? = some k ∧ v = .int k t := fun i v hv => by
          have hi : i < ms.length := by rw [← len]; exact (Array.getElem?_eq_some_iff.mp hv).1
          obtain ⟨t, e⟩ := IntsAre.int_at hx i v (by rw [Array.getElem?_toList]; exact hv)
          exact ⟨ms[i], t, List.getElem?_eq_getElem hi, by rw [e, List.getD_eq_getElem?_getD, List.getElem?_eq_getElem hi] <;> rfl⟩
        refine set_update_ints ((Walks.list hh3 _ l neI xs).toS) s.heap.objs.size notin ms len hb vals (xs.size - 0) 0 _ (by omega) (Nat.zero_le _) ⟨⟨_, Heap.get?_push_size _ rfl, rfl, rfl⟩, (hl1.push _)⟩ ⟨0, Nat.le_refl 0, setR_new_at (Heap.get?_push_of_some _ get0)⟩ ?_
        intro t n hm hn hS
        obtain ⟨h2, g2, d2, tk, os2⟩ := t
        have eg : g2 = s.gens := hm.gens
        have ed : d2 = s.drawn := hm.drawn
        have eo : os2 = s.os := hm.os
        subst eg; subst ed; subst eo
        show wpAny _ _ _ _ _ _
        refine wpAny_pure ?_
        show wpAny _ _ (ret Value.none) _ _ _
        rw [len] at hn
        refine wpAny_pure ⟨rfl, h2, tk, n, rfl, hS, hn, fun b o e => ?_⟩
        have b0 : b < s.heap.objs.size := Heap.lt_size e
        refine hm.heap b o ?_ (Heap.get?_push_of_some _ (Heap.get?_push_of_some _ e))
        simp only [List.mem_cons, List.not_mem_nil, or_false, not_or]
        exact ⟨Nat.ne_of_lt b0, by rw [Heap.size_push]; exact Nat.ne_of_lt (Nat.lt_succ_of_lt b0)⟩
      · cases r2 with
        | error e => exact hr2
        | ok fl2 => cases fl2 with
          | ret r =>
            obtain ⟨rfl, h2, tk, n, rfl, hS, hn, hk⟩ := hr2
            repeat (any_goals (first | assumption | wp_step))
            exact q _ _ _ hS hn hk
          | _ => exact hr2.elim
    | _ => exact hr.elim
end
end Fd

/-! Fd14: sorted(set(xs)), the rule. -/
namespace Fd
open PySem PySem.Spec PyProof.Rows L2
/-- the members, ascending, each once -/
def insD (i : Int) : List Int → List Int
  | [] => [i]
  | j :: r => if i < j then i :: j :: r else if i = j then j :: r else j :: insD i r
def sortD (ms : List Int) : List Int := ms.foldr insD []
theorem insD_mem {i k : Int} : ∀ {r : List Int}, k ∈ insD i r ↔ k = i ∨ k ∈ r
  | [] => by simp [insD]
  | j :: r => by
    unfold insD
    split
    · simp
    · split
      · rename_i h; subst h; simp
      · rw [List.mem_cons, insD_mem (r := r), List.mem_cons]
        constructor
        · rintro (h | h | h)
          · exact .inr (.inl h)
          · exact .inl h
          · exact .inr (.inr h)
        · rintro (h | h | h)
          · exact .inr (.inl h)
          · exact .inl h
          · exact .inr (.inr h)
theorem insD_asc {i : Int} : ∀ {r : List Int}, r.Pairwise (· < ·) → (insD i r).Pairwise (· < ·)
  | [], _ => by simp [insD]
  | j :: r, h => by
    have h2 := List.pairwise_cons.mp h
    unfold insD
    split
    · rename_i hij
      refine List.pairwise_cons.mpr ⟨fun k hk => ?_, h⟩
      rcases List.mem_cons.mp hk with rfl | hk
      · exact hij
      · exact Int.lt_trans hij (h2.1 k hk)
    · split
      · exact h
      · refine List.pairwise_cons.mpr ⟨fun k hk => ?_, insD_asc h2.2⟩
        rcases insD_mem.mp hk with rfl | hk
        · omega
        · exact h2.1 k hk
theorem sortD_mem {k : Int} : ∀ {ms : List Int}, k ∈ sortD ms ↔ k ∈ ms
  | [] => Iff.rfl
  | j :: r => by
    show k ∈ insD j (sortD r) ↔ _
    rw [insD_mem, sortD_mem (ms := r), List.mem_cons]
theorem sortD_asc : ∀ {ms : List Int}, (sortD ms).Pairwise (· < ·)
  | [] => List.Pairwise.nil
  | j :: r => insD_asc (sortD_asc (ms := r))
theorem asc_uniq : ∀ {a b : List Int}, a.Pairwise (· < ·) → b.Pairwise (· < ·) → (∀ k, k ∈ a ↔ k ∈ b) → a = b
  | [], [], _, _, _ => rfl
  | [], y :: b, _, _, h => by have := (h y).mpr List.mem_cons_self; cases this
  | x :: a, [], _, _, h => by have := (h x).mp List.mem_cons_self; cases this
  | x :: a, y :: b, ha, hb, h => by
    have a2 := List.pairwise_cons.mp ha
    have b2 := List.pairwise_cons.mp hb
    have e : x = y := by
      rcases List.mem_cons.mp ((h x).mp List.mem_cons_self) with e | hx
      · exact e
      · rcases List.mem_cons.mp ((h y).mpr List.mem_cons_self) with e | hy
        · exact e.symm
        · have := a2.1 y hy; have := b2.1 x hx; omega
    subst e
    congr 1
    refine asc_uniq a2.2 b2.2 fun k => ⟨fun hk => ?_, fun hk => ?_⟩
    · rcases List.mem_cons.mp ((h k).mp (List.mem_cons_of_mem _ hk)) with e | q
      · have := a2.1 k hk; omega
      · exact q
    · rcases List.mem_cons.mp ((h k).mpr (List.mem_cons_of_mem _ hk)) with e | q
      · have := b2.1 k hk; omega
      · exact q
def rSetL (K : Frg) (w : World) : List V → Hp → VK → Prop := fun xs H Q => ∃ (l : Addr) (ms : List Int), xs = [V.ref l] ∧ SqL K H l (ms.map V.int) ∧ ms.length < 64 ∧ ∀ (p : Addr) (n : Nat), H p = none → n ≤ ms.length → Q (.ref p) (upd H p (SetO w p (fun j => decide (j ∈ ms)) n))
section
variable {X : Cx}
theorem cr_setL (hc : X.calm = true) : CallR X (.type "set") (rSetL X.K X.w) := by
  intro pins s σ H xs us Q I r h
  obtain ⟨l, ms, rfl, hl, hf, q⟩ := h
  rw [Vals.ref1 r]
  obtain ⟨its, rv, pl, hz⟩ := I.list hl
  have fr : H s.heap.objs.size = none := I.hok.fresh (Nat.le_refl _)
  refine set_of_lst ms (I.ok.hd hc) pl.isList (by simpa using ints_of_vals rv) (by unfold scanBound; omega) fun h2 tk n R hn k => ?_
  exact ⟨.ref s.heap.objs.size, upd H s.heap.objs.size (SetO X.w s.heap.objs.size (fun j => decide (j ∈ ms)) n), I.laid (t' := tk) k (Nat.le_refl _) (setO_new R), rfl, q _ n fr hn⟩
def rSSet (K : Frg) (w : World) : List V → Hp → VK → Prop := fun vs H Q => rSetL K w vs H fun x H2 => rSortedSet w [x] H2 Q
def f_sset : Fn := fun xs μ => match xs with
  | [x] => ((rdL μ x).bind intsP).bind fun ns => if ns.length < 64 then some (.lst ((sortD ns).map .int), μ) else none
  | _ => none
theorem s_sset {K : Frg} {w : World} : SN K (rSSet K w) f_sset := by
  intro ι H μ xs v μ' hs Q S R h q
  unfold f_sset at h
  split at h
  · obtain ⟨ns, e1, e2⟩ := Option.bind_eq_some_iff.mp h
    obtain ⟨ys, e3, e4⟩ := Option.bind_eq_some_iff.mp e1
    split at e2
    · rename_i hl
      cases e2
      obtain ⟨y, t, rfl, r1, rfl⟩ := R
      obtain ⟨a, us, rfl, ta, ra⟩ := rdL_rep S r1 e3
      obtain ⟨rfl, _⟩ := intsP_rep e4 ra
      refine ⟨a, ns, rfl, .of ta, hl, fun p n hp hn => ⟨p, _, n, rfl, upd_same, by omega, fun ms p2 h1 h2 h3 new => ?_⟩⟩
      have e : ms = sortD ns := asc_uniq h1 sortD_asc fun k => by rw [h2 k, sortD_mem, decide_eq_true_eq]
      subst e
      exact (q.mono (Ext.new1 S hp)).lst (S.new1 hp) (repVs_ints _) new
    · cases e2
  · cases h
variable {e : Expr} {d : DenA} {p p2 pos pos2 : Pos}
theorem e_sset (hc : X.calm = true) (hm : X.mg "sorted" = none) (hm2 : X.mg "set" = none) (ha : PA X [e] (tA X.K d)) (hg : Gl X "sorted" := by rfl) (hg2 : Gl X "set" := by rfl)
    (he : starEach [e] X.env = (false, eval e X.env) :: starEach [] X.env := by rfl) (hpl : (backTo pos2 (starEach [] X.env)).any (·.1) = false := by rfl)
    (he2 : starEach [.Call (.Name "set" p2) [e] [] pos2] X.env = (false, eval (.Call (.Name "set" p2) [e] [] pos2) X.env) :: starEach [] X.env := by rfl) (hpl2 : (backTo pos (starEach [] X.env)).any (·.1) = false := by rfl) :
    PE X (.Call (.Name "sorted" p) [.Call (.Name "set" p2) [e] [] pos2] [] pos) (tD X.K (dN f_sset d)) :=
  (pe_callB (cr_sortedSet hc) hg hm (by decide +kernel) (pa_cons (pe_callTy (cr_setL hc) hg2 hm2 (by decide +kernel) ha (by decide) (by decide) he hpl) pa_nil he2) (by decide) (by decide) he2 hpl2).weak fun σ H Q h => (show tCB (rSSet X.K X.w) (tA X.K d) σ H Q from t_n s_sset h)
end
end Fd

/-! FdN: more steps: comprehensions and loops over lists that come from plain ones. -/
namespace Fd
open PySem PySem.Spec PyProof.Rows L2
theorem rgP_from : ∀ (n : Nat) (lo : Int), rgP lo n = (List.range n).map (fun i : Nat => PV.int (lo + i))
  | 0, _ => rfl
  | n + 1, lo => by
    show PV.int lo :: rgP (lo + 1) n = _
    rw [rgP_from n, List.range_succ_eq_map, List.map_cons, List.map_map]
    congr 1
    · congr 1; simp
    · apply List.map_congr_left
      intro i _
      show PV.int _ = PV.int _
      congr 1
      simp only [Nat.succ_eq_add_one]
      push_cast
      omega
theorem rgP_range (n : Nat) : rgP 0 n = (List.range n).map (fun i : Nat => PV.int i) := by
  rw [rgP_from]; apply List.map_congr_left; intro i _; rw [Int.zero_add]
theorem rgP_range1 (n : Nat) : rgP 1 n = (List.range n).map (fun i : Nat => PV.int ((i + 1 : Nat) : Int)) := by
  rw [rgP_from]; apply List.map_congr_left; intro i _; congr 1; push_cast; omega
theorem all_bl {μ : Sto} (bs : List Bool) : f_all [.lst (bs.map PV.bl)] μ = some (.bl (bs.all id), μ) := by
  show Option.map _ ((some (bs.map PV.bl)).bind blsP) = _
  show Option.map _ (blsP _) = _
  rw [blsP_map]
  rfl
theorem any_bl {μ : Sto} (bs : List Bool) : f_any [.lst (bs.map PV.bl)] μ = some (.bl (bs.any id), μ) := by
  show Option.map _ ((some (bs.map PV.bl)).bind blsP) = _
  show Option.map _ (blsP _) = _
  rw [blsP_map]
  rfl
theorem all_bl' {α : Type} {μ : Sto} (xs : List α) (p : α → Bool) : f_all [.lst (xs.map fun x => PV.bl (p x))] μ = some (.bl (xs.all p), μ) := by
  have := all_bl (μ := μ) (xs.map p)
  rw [List.map_map, List.all_map] at this
  exact this
theorem any_bl' {α : Type} {μ : Sto} (xs : List α) (p : α → Bool) : f_any [.lst (xs.map fun x => PV.bl (p x))] μ = some (.bl (xs.any p), μ) := by
  have := any_bl (μ := μ) (xs.map p)
  rw [List.map_map, List.any_map] at this
  exact this
section
variable {α : Type} {ρ : En} {μ : Sto} {g : DenG} {t : DenT} {e : Den} {ch : List (Nat × List PV)}
theorem lc_map (inj : α → PV) (p : α → Bool) (f : α → PV) : ∀ (xs : List α) (acc : List PV), ChkOk ch μ → acc.length + xs.length ≤ sizeLine →
    (∀ x ∈ xs, ∃ ρ1, g (inj x) ρ μ = some (ρ1, μ) ∧ t ρ1 μ = some (p x, μ) ∧ (p x = true → e ρ1 μ = some (f x, μ))) → lcL ρ g t e ch (xs.map inj) acc μ = some (acc ++ (xs.filter p).map f, μ)
  | [], acc, _, _, _ => by rw [List.map_nil, lc_nil]; simp
  | x :: xs, acc, hc, hl, h => by
    have hl' : acc.length + (xs.length + 1) ≤ sizeLine := hl
    obtain ⟨ρ1, h1, h2, h3⟩ := h x List.mem_cons_self
    rw [List.map_cons]
    cases hp : p x with
    | true =>
      rw [hp] at h2
      refine lc_yes h1 h2 (h3 hp) hc (by omega) ?_
      rw [lc_map inj p f xs (acc ++ [f x]) hc (by rw [List.length_append]; simp only [List.length_cons, List.length_nil]; omega) fun y hy => h y (List.mem_cons_of_mem _ hy)]
      rw [List.filter_cons_of_pos hp]
      simp
    | false =>
      rw [hp] at h2
      refine lc_no h1 h2 hc ?_
      rw [lc_map inj p f xs acc hc (by omega) fun y hy => h y (List.mem_cons_of_mem _ hy)]
      rw [List.filter_cons_of_neg (by rw [hp]; exact Bool.false_ne_true)]
/-- no test -/
theorem lc_map0 (inj : α → PV) (f : α → PV) (xs : List α) (hc : ChkOk ch μ) (hl : xs.length ≤ sizeLine)
    (h : ∀ x ∈ xs, ∃ ρ1, g (inj x) ρ μ = some (ρ1, μ) ∧ e ρ1 μ = some (f x, μ)) : lcL ρ g tAll e ch (xs.map inj) [] μ = some (xs.map f, μ) := by
  rw [lc_map inj (fun _ => true) f xs [] hc (by simpa using hl) fun x hx => by
    obtain ⟨ρ1, h1, h2⟩ := h x hx
    exact ⟨ρ1, h1, rfl, fun _ => h2⟩]
  rw [List.filter_eq_self.mpr (fun _ _ => rfl), List.nil_append]
/-- a comprehension that draws: the store goes on; S speaks of how many items are left and of the store -/
theorem lc_draw (inj : α → PV) (S : Nat → Sto → Prop) (Q : PV → Prop) : ∀ (xs : List α) (acc : List PV) (μ : Sto), S xs.length μ → acc.length + xs.length ≤ sizeLine →
    (∀ x ∈ xs, ∀ k μ, S (k + 1) μ → ∃ ρ1 v μ', g (inj x) ρ μ = some (ρ1, μ) ∧ e ρ1 μ = some (v, μ') ∧ Q v ∧ S k μ') → ∃ (vs : List PV) (μ' : Sto), lcL ρ g tAll e [] (xs.map inj) acc μ = some (acc ++ vs, μ') ∧ S 0 μ' ∧ vs.length = xs.length ∧ ∀ v ∈ vs, Q v
  | [], acc, μ, hS, _, _ => ⟨[], μ, by rw [List.map_nil, lc_nil, List.append_nil], hS, rfl, fun v hv => by cases hv⟩
  | x :: xs, acc, μ, hS, hl, h => by
    have hl' : acc.length + (xs.length + 1) ≤ sizeLine := hl
    obtain ⟨ρ1, v, μ1, h1, h2, h3, h4⟩ := h x List.mem_cons_self xs.length μ hS
    obtain ⟨vs, μ2, k1, k2, k3, k4⟩ := lc_draw inj S Q xs (acc ++ [v]) μ1 h4 (by rw [List.length_append]; simp only [List.length_cons, List.length_nil]; omega) fun y hy => h y (List.mem_cons_of_mem _ hy)
    refine ⟨v :: vs, μ2, ?_, k2, by simp [k3], ?_⟩
    · rw [List.map_cons]
      refine lc_yes h1 rfl h2 (by intro p hp; cases hp) (by omega) ?_
      rw [k1]; simp
    · intro w hw
      rcases List.mem_cons.mp hw with rfl | hw
      · exact h3
      · exact k4 w hw
end
theorem lc2_map {α β : Type} {ρ : En} {μ : Sto} {g g1 : DenG} {d1 : DenI} {e : Den} {vs1 : List Nat} {ch : List (Nat × List PV)} (inj : α → PV) (inj2 : β → PV) (f : α → β → PV) (ys : List β) (hc : ChkOk ch μ) : ∀ (xs : List α) (acc : List PV), acc.length + xs.length * ys.length ≤ sizeLine →
    (∀ x ∈ xs, ∃ ρ1, g (inj x) ρ μ = some (ρ1, μ) ∧ d1 ρ1 μ = some ((ys.map inj2, []), μ) ∧ ∀ y ∈ ys, ∃ ρ2, g1 (inj2 y) (wipeE ρ1 vs1) μ = some (ρ2, μ) ∧ e ρ2 μ = some (f x y, μ)) →
    lcL2 ρ g tAll d1 g1 tAll e vs1 ch (xs.map inj) acc μ = some (acc ++ xs.flatMap fun x => ys.map (f x), μ)
  | [], acc, _, _ => by rw [List.map_nil, List.flatMap_nil, List.append_nil]; rfl
  | x :: xs, acc, hl, h => by
    obtain ⟨ρ1, h1, h2, h3⟩ := h x List.mem_cons_self
    have hl' : acc.length + ys.length + xs.length * ys.length ≤ sizeLine := by
      rw [List.length_cons, Nat.succ_mul] at hl; omega
    rw [List.map_cons]
    unfold lcL2
    have h4 := lc_map (ρ := wipeE ρ1 vs1) (μ := μ) (g := g1) (t := tAll) (e := e) (ch := []) inj2 (fun _ => true) (f x) ys acc (by intro p hp; cases hp) (by omega) fun y hy => by
      obtain ⟨ρ2, k1, k2⟩ := h3 y hy
      exact ⟨ρ2, k1, rfl, fun _ => k2⟩
    rw [List.filter_eq_self.mpr (fun _ _ => rfl)] at h4
    simp only [h1, ev_tAll, h2, h4, Option.bind_some, if_true, if_pos hc]
    rw [lc2_map inj inj2 f ys hc xs (acc ++ ys.map (f x)) (by rw [List.length_append, List.length_map]; omega) fun y hy => h y (List.mem_cons_of_mem _ hy)]
    rw [List.flatMap_cons, List.append_assoc]
theorem ev_lc2 {ρ ρ' : En} {μ μ1 μ2 : Sto} {vs vs1 : List Nat} {it it1 : DenI} {g g1 : DenG} {t t1 : DenT} {e : Den} {xs out : List PV} {ch : List (Nat × List PV)} (hi : it ρ μ = some ((xs, ch), μ1)) (hw : wipeE ρ vs = ρ') (h : lcL2 ρ' g t it1 g1 t1 e vs1 ch xs [] μ1 = some (out, μ2)) : dLc2 vs vs1 it g t it1 g1 t1 e ρ μ = some (.lst out, μ2) := by
  unfold dLc2; rw [hi]; show Option.map _ (lcL2 (wipeE ρ vs) g t it1 g1 t1 e vs1 ch xs [] μ1) = _; rw [hw, h]; rfl
/-- a loop over plain items, what holds after each of them -/
theorem for_inv {α : Type} {g : DenG} {b : DenS} {ch : List (Nat × List PV)} (inj : α → PV) (I : List α → En → Sto → Prop) : ∀ (xs done : List α) (ρ : En) (μ : Sto), I done ρ μ →
    (∀ (done : List α) (x : α) (rest : List α) (ρ : En) (μ : Sto), I done ρ μ → x ∈ xs → ∃ ρ1 μ1 ρ' μ', g (inj x) ρ μ = some (ρ1, μ1) ∧ (b ρ1 μ1 = some (.nx ρ' μ') ∨ b ρ1 μ1 = some (.ct ρ' μ')) ∧ ChkOk ch μ' ∧ I (done ++ [x]) ρ' μ') →
    ∃ ρ' μ', I (done ++ xs) ρ' μ' ∧ forL g b ch (xs.map inj) ρ μ = some (.nx ρ' μ')
  | [], done, ρ, μ, h, _ => ⟨ρ, μ, by rw [List.append_nil]; exact h, for_nil⟩
  | x :: xs, done, ρ, μ, h, st => by
    obtain ⟨ρ1, μ1, ρ2, μ2, h1, h2, h3, h4⟩ := st done x xs ρ μ h List.mem_cons_self
    obtain ⟨ρ', μ', k1, k2⟩ := for_inv inj I xs (done ++ [x]) ρ2 μ2 h4 fun d y r ρ μ hi hy => st d y r ρ μ hi (List.mem_cons_of_mem _ hy)
    refine ⟨ρ', μ', by rw [List.append_assoc] at k1; exact k1, ?_⟩
    rw [List.map_cons]
    rcases h2 with h2 | h2
    · exact for_step h1 h2 h3 k2
    · exact for_ct h1 h2 h3 k2
/-- a list of values each of which is the picture of something -/
theorem unmap {α : Type} {inj : α → PV} {P : α → Prop} : ∀ {vs : List PV}, (∀ v ∈ vs, ∃ u, v = inj u ∧ P u) → ∃ us : List α, vs = us.map inj ∧ ∀ u ∈ us, P u
  | [], _ => ⟨[], rfl, fun _ h => nomatch h⟩
  | v :: vs, h => by
    obtain ⟨u, rfl, hu⟩ := h v List.mem_cons_self
    obtain ⟨us, rfl, hus⟩ := unmap (fun w hw => h w (List.mem_cons_of_mem _ hw))
    exact ⟨u :: us, rfl, fun w hw => by
      rcases List.mem_cons.mp hw with rfl | hw
      · exact hu
      · exact hus w hw⟩
theorem take0 {pt : Fn} (ht : TakeOk pt) {s : Dr} {n : Nat} {r : Sto} (many : Int) (ok : s.Ok (n + 1)) (hm : 0 < many) (hm2 : many < 2 ^ 99) : ∃ (d : Int) (s' : Dr), 0 ≤ d ∧ d < many ∧ s'.Ok n ∧ pt [.loc 0, .int many] (s.ob :: r) = some (.int d, s'.ob :: r) := by
  obtain ⟨d, s', a, b, c, e⟩ := ht s n (s.ob :: r) 0 many ok rfl hm hm2
  exact ⟨d, s', a, b, c, e⟩
noncomputable def p_al : Fn := pAlike 8
theorem al_ok {x : PV} {μ : Sto} (h : plain x 7 = true) : p_al [x, x] μ = some (.bl true, μ) := alike_refl 7 x μ h
theorem ne_bb {b : Bool} {μ : Sto} : f_ne (.bl b) (.bl b) μ = some (.bl false, μ) := by cases b <;> rfl
/-- told is a bool and what is due: no return -/
theorem told_bool {ρ : En} {μ : Sto} {i : Nat} {b : Bool} {d : Den} {a : DenS} (h : ρ[i]? = some (some (.bl b))) (hd : d ρ μ = some (.bl b, μ)) : sIf (tOr' (tNo (tTru (d1 (f_isi .bool) (cVar i)))) (tB1 (d2 f_ne (cVar i) d))) a sNil ρ μ = some (.nx ρ μ) := by
  refine ev_sIf_f (ev_tOr_f (ev_tNo (b := true) (ev_tTru (x := .bl true) (ev_d1 (ev_var h) ?_) rfl) rfl) (ev_tB (ev_d2 (ev_var h) hd ne_bb))) ev_sNil
  cases b <;> rfl
end Fd

/-! Num9: primes, and the only list of primes and exponents of a number. -/
namespace Nm
def IsP (p : Nat) : Prop := 2 ≤ p ∧ ∀ d, d ∣ p → d = 1 ∨ d = p
theorem IsP.cop {p a : Nat} (hp : IsP p) (h : ¬ p ∣ a) : Nat.gcd p a = 1 := by
  rcases hp.2 _ (Nat.gcd_dvd_left p a) with e | e
  · exact e
  · exact absurd (by rw [← e]; exact Nat.gcd_dvd_right p a) h
theorem IsP.dvd_mul {p a b : Nat} (hp : IsP p) (h : p ∣ a * b) : p ∣ a ∨ p ∣ b := by
  by_cases ha : p ∣ a
  · exact .inl ha
  · exact .inr (Nat.Coprime.dvd_of_dvd_mul_left (hp.cop ha) h)
theorem IsP.dvd_pow {p a : Nat} (hp : IsP p) : ∀ {e : Nat}, p ∣ a ^ e → p ∣ a
  | 0, h => by
    rw [Nat.pow_zero] at h
    have := Nat.le_of_dvd (by decide) h
    have := hp.1
    omega
  | e + 1, h => by
    rw [Nat.pow_succ] at h
    rcases hp.dvd_mul h with h | h
    · exact hp.dvd_pow h
    · exact h
def prodL : List (Nat × Nat) → Nat
  | [] => 1
  | q :: L => q.1 ^ q.2 * prodL L
def Asc (b : Nat) : List (Nat × Nat) → Prop
  | [] => True
  | q :: L => b ≤ q.1 ∧ IsP q.1 ∧ 0 < q.2 ∧ Asc (q.1 + 1) L
theorem Asc.mono {b c : Nat} (h : b ≤ c) : ∀ {L : List (Nat × Nat)}, Asc c L → Asc b L
  | [], _ => trivial
  | q :: L, ⟨h1, h2, h3, h4⟩ => ⟨Nat.le_trans h h1, h2, h3, h4⟩
theorem Asc.mem {b : Nat} : ∀ {L : List (Nat × Nat)}, Asc b L → ∀ q ∈ L, b ≤ q.1 ∧ IsP q.1 ∧ 0 < q.2
  | [], _, q, hq => nomatch hq
  | r :: L, ⟨h1, h2, h3, h4⟩, q, hq => by
    rcases List.mem_cons.mp hq with rfl | hq
    · exact ⟨h1, h2, h3⟩
    · obtain ⟨a, b, c⟩ := h4.mem q hq
      exact ⟨by omega, b, c⟩
theorem prodL_pos : ∀ {b : Nat} {L : List (Nat × Nat)}, Asc b L → 0 < prodL L
  | _, [], _ => Nat.one_pos
  | _, q :: L, ⟨h1, h2, h3, h4⟩ => Nat.mul_pos (Nat.pow_pos (by have := h2.1; omega)) (prodL_pos h4)
theorem prodL_dvd {p b : Nat} (hp : IsP p) : ∀ {L : List (Nat × Nat)}, Asc b L → p ∣ prodL L → ∃ e, (p, e) ∈ L
  | [], _, h => by
    have h : p ∣ 1 := h
    have := Nat.le_of_dvd (by decide) h
    have := hp.1
    omega
  | q :: L, ⟨h1, h2, h3, h4⟩, h => by
    rcases hp.dvd_mul h with h | h
    · rcases h2.2 p (hp.dvd_pow h) with e | e
      · have := hp.1; omega
      · exact ⟨q.2, by rw [e]; exact List.mem_cons_self⟩
    · obtain ⟨e, he⟩ := prodL_dvd hp h4 h
      exact ⟨e, List.mem_cons_of_mem _ he⟩
theorem mem_dvd : ∀ {L : List (Nat × Nat)} {q : Nat × Nat}, q ∈ L → q.1 ^ q.2 ∣ prodL L
  | r :: L, q, h => by
    rcases List.mem_cons.mp h with rfl | h
    · exact ⟨_, rfl⟩
    · exact Nat.dvd_trans (mem_dvd h) ⟨r.1 ^ r.2, Nat.mul_comm _ _⟩
theorem pow_uniq {p : Nat} (hp : IsP p) : ∀ {e f A B : Nat}, ¬ p ∣ A → ¬ p ∣ B → p ^ e * A = p ^ f * B → e = f ∧ A = B
  | 0, 0, A, B, _, _, h => ⟨rfl, by simpa using h⟩
  | 0, f + 1, A, B, hA, _, h => by
    rw [Nat.pow_zero, Nat.one_mul, Nat.pow_succ] at h
    exact absurd ⟨p ^ f * B, by rw [h]; ac_rfl⟩ hA
  | e + 1, 0, A, B, _, hB, h => by
    rw [Nat.pow_zero, Nat.one_mul, Nat.pow_succ] at h
    exact absurd ⟨p ^ e * A, by rw [← h]; ac_rfl⟩ hB
  | e + 1, f + 1, A, B, hA, hB, h => by
    have : p * (p ^ e * A) = p * (p ^ f * B) := by
      rw [Nat.pow_succ, Nat.pow_succ] at h
      rw [show p * (p ^ e * A) = p ^ e * p * A by ac_rfl, h]; ac_rfl
    have h2 := Nat.eq_of_mul_eq_mul_left (by have := hp.1; omega) this
    obtain ⟨a, b⟩ := pow_uniq hp hA hB h2
    exact ⟨by omega, b⟩
theorem Asc.ndvd {p : Nat} (hp : IsP p) {L : List (Nat × Nat)} (h : Asc (p + 1) L) : ¬ p ∣ prodL L := fun d => by
  obtain ⟨e, he⟩ := prodL_dvd hp h d
  have := (h.mem _ he).1
  simp only at this
  omega
theorem dvd_powk {r k : Nat} (hk : 0 < k) : r ∣ r ^ k := by
  have := Nat.pow_dvd_pow r (show 1 ≤ k from hk)
  rwa [Nat.pow_one] at this
theorem prodL_one {b : Nat} {q : Nat × Nat} {M : List (Nat × Nat)} (h : Asc b (q :: M)) : prodL (q :: M) ≠ 1 := fun e => by
  have h1 : q.1 ∣ prodL (q :: M) := Nat.dvd_trans (dvd_powk h.2.2.1) ⟨prodL M, rfl⟩
  rw [e] at h1
  have := Nat.le_of_dvd (by decide) h1
  have := h.2.1.1
  omega
theorem asc_uniqL : ∀ {L M : List (Nat × Nat)} {b c : Nat}, Asc b L → Asc c M → prodL L = prodL M → L = M
  | [], [], _, _, _, _, _ => rfl
  | [], q :: M, b, c, hL, hM, h => absurd h.symm (prodL_one hM)
  | q :: L, [], b, c, hL, hM, h => absurd h (prodL_one hL)
  | (p, e) :: L, (q, f) :: M, b, c, ⟨a1, a2, a3, a4⟩, ⟨b1, b2, b3, b4⟩, h => by
    have a2 : IsP p := a2
    have b2 : IsP q := b2
    have a3 : 0 < e := a3
    have b3 : 0 < f := b3
    have a4 : Asc (p + 1) L := a4
    have b4 : Asc (q + 1) M := b4
    have hL : Asc p ((p, e) :: L) := ⟨Nat.le_refl _, a2, a3, a4⟩
    have hM : Asc q ((q, f) :: M) := ⟨Nat.le_refl _, b2, b3, b4⟩
    have d1 : p ∣ prodL ((q, f) :: M) := by rw [← h]; exact Nat.dvd_trans (dvd_powk a3) ⟨prodL L, rfl⟩
    have d2 : q ∣ prodL ((p, e) :: L) := by rw [h]; exact Nat.dvd_trans (dvd_powk b3) ⟨prodL M, rfl⟩
    obtain ⟨g, hg⟩ := prodL_dvd a2 hM d1
    obtain ⟨g2, hg2⟩ := prodL_dvd b2 hL d2
    have l1 : q ≤ p := (hM.mem _ hg).1
    have l2 : p ≤ q := (hL.mem _ hg2).1
    have e1 : p = q := by omega
    subst e1
    obtain ⟨x, y⟩ := pow_uniq (e := e) (f := f) a2 (Asc.ndvd a2 a4) (Asc.ndvd a2 b4) h
    subst x
    rw [asc_uniqL a4 b4 y]
/-! ### trial division -/
/-- what holds of the numbers along the loop -/
structure TD (n0 p n : Nat) (L : List (Nat × Nat)) : Prop where
  p2 : 2 ≤ p
  n1 : 0 < n
  eq : n0 = prodL L * n
  asc : Asc 2 L
  lt : ∀ q ∈ L, q.1 < p
  no : ∀ d, 2 ≤ d → d < p → ¬ d ∣ n
theorem prodL_app : ∀ {L : List (Nat × Nat)} {q : Nat × Nat}, prodL (L ++ [q]) = prodL L * q.1 ^ q.2
  | [], q => by show q.1 ^ q.2 * 1 = 1 * q.1 ^ q.2; omega
  | r :: L, q => by
    show r.1 ^ r.2 * prodL (L ++ [q]) = _
    rw [prodL_app, ← Nat.mul_assoc]; rfl
theorem asc_app {q : Nat × Nat} (h1 : IsP q.1) (h2 : 0 < q.2) : ∀ {L : List (Nat × Nat)} {b : Nat}, Asc b L → b ≤ q.1 → (∀ r ∈ L, r.1 < q.1) → Asc b (L ++ [q])
  | [], b, _, hb, _ => ⟨hb, h1, h2, trivial⟩
  | r :: L, b, ⟨a1, a2, a3, a4⟩, hb, hl => ⟨a1, a2, a3, asc_app h1 h2 a4 (hl r List.mem_cons_self) fun s hs => hl s (List.mem_cons_of_mem _ hs)⟩
theorem TD.start {n : Nat} (h : 0 < n) : TD n 2 n [] := ⟨Nat.le_refl _, h, (Nat.one_mul _).symm, trivial, (fun _ h => nomatch h), fun d h1 h2 => by omega⟩
theorem TD.prime {n0 p n : Nat} {L : List (Nat × Nat)} (I : TD n0 p n L) (h : p ∣ n) : IsP p := ⟨I.p2, fun d hd => by
  by_cases h1 : d = 1
  · exact .inl h1
  · by_cases h2 : d = p
    · exact .inr h2
    · have hp := I.p2
      have hle := Nat.le_of_dvd (by omega) hd
      have h0 : 0 < d := Nat.pos_of_dvd_of_pos hd (by omega)
      exact absurd (Nat.dvd_trans hd h) (I.no d (by omega) (by omega))⟩
/-- p divides n = p ^ e m just e times; then on to the next -/
theorem TD.turn {n0 p n e m : Nat} {L : List (Nat × Nat)} (I : TD n0 p n L) (he : n = p ^ e * m) (hm : ¬ p ∣ m) : TD n0 (p + 1) m (if 0 < e then L ++ [(p, e)] else L) := by
  have m0 : 0 < m := by
    by_cases z : 0 < m
    · exact z
    · exact absurd (by rw [show m = 0 by omega]; exact Nat.dvd_zero p) hm
  have no : ∀ d, 2 ≤ d → d < p + 1 → ¬ d ∣ m := fun d h1 h2 hd => by
    by_cases h3 : d = p
    · subst h3; exact hm hd
    · exact I.no d h1 (by omega) (Nat.dvd_trans hd ⟨p ^ e, by rw [he]; ac_rfl⟩)
  by_cases h0 : 0 < e
  · rw [if_pos h0]
    have hpn : p ∣ n := by
      rw [he]
      obtain ⟨k, rfl⟩ : ∃ k, e = k + 1 := ⟨e - 1, by omega⟩
      exact ⟨p ^ k * m, by rw [Nat.pow_succ]; ac_rfl⟩
    have hp := I.prime hpn
    refine ⟨by have := I.p2; omega, m0, by rw [I.eq, prodL_app, he]; simp only; ac_rfl, asc_app hp h0 I.asc I.p2 I.lt, fun q hq => ?_, no⟩
    rcases List.mem_append.mp hq with q' | q'
    · have := I.lt q q'; omega
    · rw [List.mem_singleton.mp q']; exact Nat.lt_succ_self _
  · rw [if_neg h0]
    have : e = 0 := by omega
    subst this
    rw [Nat.pow_zero, Nat.one_mul] at he
    subst he
    exact ⟨by have := I.p2; omega, m0, I.eq, I.asc, fun q hq => by have := I.lt q hq; omega, no⟩
/-- an even number behind 2 may be left out -/
theorem TD.skip {n0 p n : Nat} {L : List (Nat × Nat)} (I : TD n0 p n L) (h : p % 2 = 0) (h2 : 2 < p) : TD n0 (p + 1) n L :=
  ⟨by omega, I.n1, I.eq, I.asc, fun q hq => by have := I.lt q hq; omega, fun d h3 h4 hd => by
    by_cases h5 : d = p
    · subst h5
      exact I.no 2 (by decide) h2 (Nat.dvd_trans (Nat.dvd_of_mod_eq_zero h) hd)
    · exact I.no d h3 (by omega) hd⟩
/-- the end of the loop -/
theorem TD.done {n0 p n : Nat} {L : List (Nat × Nat)} (I : TD n0 p n L) (h : n < p * p) : Asc 2 (if 1 < n then L ++ [(n, 1)] else L) ∧ prodL (if 1 < n then L ++ [(n, 1)] else L) = n0 := by
  by_cases h1 : 1 < n
  · rw [if_pos h1]
    have hp : IsP n := ⟨h1, fun d hd => by
      by_cases e1 : d = 1
      · exact .inl e1
      · by_cases e2 : d = n
        · exact .inr e2
        · exfalso
          obtain ⟨k, hk⟩ := hd
          have d0 : 0 < d := by
            by_cases z : 0 < d
            · exact z
            · rw [show d = 0 by omega, Nat.zero_mul] at hk; omega
          have k0 : 0 < k := by
            by_cases z : 0 < k
            · exact z
            · rw [show k = 0 by omega, Nat.mul_zero] at hk; omega
          have k1 : k ≠ 1 := fun z => e2 (by rw [hk, z, Nat.mul_one])
          by_cases hdp : d < p
          · exact I.no d (by omega) hdp ⟨k, hk⟩
          · have hkp : k < p := by
              by_cases z : k < p
              · exact z
              · have := Nat.mul_le_mul (show p ≤ d by omega) (show p ≤ k by omega)
                omega
            exact I.no k (by omega) hkp ⟨d, by rw [hk]; ac_rfl⟩⟩
    have hn : p ≤ n := by
      by_cases z : p ≤ n
      · exact z
      · exact absurd (Nat.dvd_refl n) (I.no n h1 (by omega))
    refine ⟨asc_app hp Nat.one_pos I.asc h1 fun q hq => by have := I.lt q hq; exact Nat.lt_of_lt_of_le this hn, ?_⟩
    rw [prodL_app, I.eq, Nat.pow_one]
  · rw [if_neg h1]
    have : n = 1 := by have := I.n1; omega
    exact ⟨I.asc, by rw [I.eq, this, Nat.mul_one]⟩
/-! ### the list itself -/
def stripN (p : Nat) : Nat → Nat → Nat → Nat × Nat
  | 0, n, e => (e, n)
  | k + 1, n, e => if n % p = 0 then stripN p k (n / p) (e + 1) else (e, n)
theorem stripN_ok {p : Nat} (hp : 2 ≤ p) : ∀ (k n e : Nat), 0 < n → n ≤ k → p ^ e * n = p ^ (stripN p k n e).1 * (stripN p k n e).2 ∧ ¬ p ∣ (stripN p k n e).2 ∧ e ≤ (stripN p k n e).1
  | 0, n, e, h, h2 => by omega
  | k + 1, n, e, h, h2 => by
    unfold stripN
    split
    · rename_i hz
      have hd := Nat.dvd_of_mod_eq_zero hz
      have hlt : n / p < n := Nat.div_lt_self h hp
      have h0 : 0 < n / p := Nat.div_pos (Nat.le_of_dvd h hd) (by omega)
      obtain ⟨a, b, c⟩ := stripN_ok hp k (n / p) (e + 1) h0 (by omega)
      refine ⟨?_, b, by omega⟩
      rw [← a, Nat.pow_succ, Nat.mul_assoc, Nat.mul_div_cancel' hd]
    · rename_i hz
      exact ⟨rfl, fun hd => hz (Nat.mod_eq_zero_of_dvd hd), Nat.le_refl _⟩
def tdN : Nat → Nat → Nat → List (Nat × Nat) → List (Nat × Nat)
  | 0, _, n, L => if 1 < n then L ++ [(n, 1)] else L
  | k + 1, p, n, L => if n < p * p then (if 1 < n then L ++ [(n, 1)] else L) else tdN k (p + 1) (stripN p n n 0).2 (if 0 < (stripN p n n 0).1 then L ++ [(p, (stripN p n n 0).1)] else L)
def pfl (n : Nat) : List (Nat × Nat) := tdN n 2 n []
theorem tdN_ok : ∀ (k n0 p n : Nat) (L : List (Nat × Nat)), TD n0 p n L → n < (p + k) * (p + k) → Asc 2 (tdN k p n L) ∧ prodL (tdN k p n L) = n0
  | 0, n0, p, n, L, I, h => I.done h
  | k + 1, n0, p, n, L, I, h => by
    unfold tdN
    split
    · rename_i hlt
      exact I.done hlt
    · obtain ⟨a, b, c⟩ := stripN_ok I.p2 n n 0 I.n1 (Nat.le_refl _)
      rw [Nat.pow_zero, Nat.one_mul] at a
      have hle : (stripN p n n 0).2 ≤ n := Nat.le_of_dvd I.n1 ⟨_, by rw [Nat.mul_comm]; exact a⟩
      refine tdN_ok k n0 (p + 1) _ _ (I.turn a b) ?_
      rw [show p + 1 + k = p + (k + 1) by omega]
      omega
theorem pfl_ok {n : Nat} (h : 0 < n) : Asc 2 (pfl n) ∧ prodL (pfl n) = n := tdN_ok n n 2 n [] (TD.start h) (by
  have : (2 + n) * (2 + n) = n * n + 4 * n + 4 := by grind
  omega)
theorem pfl_of {n : Nat} {L : List (Nat × Nat)} (h : 0 < n) (h1 : Asc 2 L) (h2 : prodL L = n) : L = pfl n := asc_uniqL h1 (pfl_ok h).1 (by rw [h2, (pfl_ok h).2])
theorem len_pow : ∀ {b : Nat} {L : List (Nat × Nat)}, Asc b L → 2 ^ L.length ≤ prodL L
  | _, [], _ => Nat.le_refl _
  | _, q :: L, ⟨h1, h2, h3, h4⟩ => by
    have ih := len_pow h4
    have hq : 2 ≤ q.1 ^ q.2 := Nat.le_trans h2.1 (Nat.le_of_dvd (Nat.pow_pos (by have := h2.1; omega)) (dvd_powk h3))
    show 2 ^ (L.length + 1) ≤ q.1 ^ q.2 * prodL L
    rw [Nat.pow_succ, Nat.mul_comm]
    exact Nat.mul_le_mul hq ih
theorem TD.len {n0 p n : Nat} {L : List (Nat × Nat)} (I : TD n0 p n L) {B : Nat} (h : n0 < 2 ^ B) : L.length < B := by
  have h1 := len_pow I.asc
  have h2 : prodL L ≤ n0 := by rw [I.eq]; exact Nat.le_mul_of_pos_right _ I.n1
  exact (Nat.pow_lt_pow_iff_right (by decide)).mp (Nat.lt_of_le_of_lt (Nat.le_trans h1 h2) h)
theorem TD.le {n0 p n : Nat} {L : List (Nat × Nat)} (I : TD n0 p n L) : n ≤ n0 := by
  rw [I.eq]; exact Nat.le_mul_of_pos_left _ (prodL_pos I.asc)
end Nm

/-! Num10: divisors from the parts; how many rests have no common divisor. -/
namespace Nm
/-! ### divisors -/
def dvE (F : List Nat) (p : Nat) : Nat → List Nat
  | 0 => F
  | e + 1 => dvE F p e ++ F.map (· * p ^ (e + 1))
def dvs : List (Nat × Nat) → List Nat → List Nat
  | [], F => F
  | q :: L, F => dvs L (dvE F q.1 q.2)
/-- F: just the divisors of m, each once -/
structure DvI (F : List Nat) (m : Nat) : Prop where
  m0 : 0 < m
  mem : ∀ d, d ∈ F ↔ d ∣ m
  nd : F.Nodup
theorem dvE_mem {F : List Nat} {p d : Nat} : ∀ {e : Nat}, d ∈ dvE F p e ↔ ∃ t, t ≤ e ∧ ∃ f ∈ F, d = f * p ^ t
  | 0 => by
    show d ∈ F ↔ _
    constructor
    · intro h; exact ⟨0, Nat.le_refl _, d, h, by rw [Nat.pow_zero, Nat.mul_one]⟩
    · rintro ⟨t, ht, f, hf, rfl⟩
      have : t = 0 := by omega
      subst this
      rw [Nat.pow_zero, Nat.mul_one]; exact hf
  | e + 1 => by
    show d ∈ dvE F p e ++ F.map _ ↔ _
    rw [List.mem_append, dvE_mem, List.mem_map]
    constructor
    · rintro (⟨t, ht, f, hf, rfl⟩ | ⟨f, hf, rfl⟩)
      · exact ⟨t, by omega, f, hf, rfl⟩
      · exact ⟨e + 1, Nat.le_refl _, f, hf, rfl⟩
    · rintro ⟨t, ht, f, hf, rfl⟩
      by_cases h : t = e + 1
      · subst h; exact .inr ⟨f, hf, rfl⟩
      · exact .inl ⟨t, by omega, f, hf, rfl⟩
theorem dvE_nd {F : List Nat} {p m : Nat} (hp : IsP p) (hm : ¬ p ∣ m) (I : DvI F m) : ∀ e : Nat, (dvE F p e).Nodup
  | 0 => I.nd
  | e + 1 => by
    have hF : ∀ f ∈ F, ¬ p ∣ f := fun f hf hd => hm (Nat.dvd_trans hd ((I.mem f).mp hf))
    show (dvE F p e ++ F.map _).Nodup
    rw [List.nodup_append]
    refine ⟨dvE_nd hp hm I e, ?_, ?_⟩
    · unfold List.Nodup
      rw [List.pairwise_map]
      refine List.Pairwise.imp (fun {a b} h e2 => h ?_) I.nd
      exact Nat.eq_of_mul_eq_mul_right (Nat.pow_pos (by have := hp.1; omega)) e2
    · intro a ha b hb e2
      obtain ⟨t, ht, f, hf, rfl⟩ := dvE_mem.mp ha
      obtain ⟨g, hg, rfl⟩ := List.mem_map.mp hb
      have := (pow_uniq hp (e := t) (f := e + 1) (hF f hf) (hF g hg) (by rw [Nat.mul_comm, e2, Nat.mul_comm])).1
      omega
theorem dvE_ok {F : List Nat} {p m e : Nat} (hp : IsP p) (hm : ¬ p ∣ m) (I : DvI F m) : DvI (dvE F p e) (p ^ e * m) := by
  have p0 : 0 < p := by have := hp.1; omega
  refine ⟨Nat.mul_pos (Nat.pow_pos p0) I.m0, fun d => ?_, dvE_nd hp hm I e⟩
  rw [dvE_mem]
  constructor
  · rintro ⟨t, ht, f, hf, rfl⟩
    rw [Nat.mul_comm]
    exact Nat.mul_dvd_mul (Nat.pow_dvd_pow p ht) ((I.mem f).mp hf)
  · intro hd
    have d0 : 0 < d := Nat.pos_of_dvd_of_pos hd (Nat.mul_pos (Nat.pow_pos p0) I.m0)
    obtain ⟨a, b, c⟩ := stripN_ok hp.1 d d 0 d0 (Nat.le_refl _)
    rw [Nat.pow_zero, Nat.one_mul] at a
    generalize (stripN p d d 0).1 = t at a
    generalize (stripN p d d 0).2 = f at a b
    have hc : Nat.Coprime f (p ^ e) := by
      show Nat.gcd f (p ^ e) = 1
      rw [Nat.gcd_comm]
      exact Nat.Coprime.pow_left e (hp.cop b)
    have h1 : f ∣ m := Nat.Coprime.dvd_of_dvd_mul_left hc (Nat.dvd_trans ⟨p ^ t, by rw [a]; ac_rfl⟩ hd)
    have h2 : t ≤ e := by
      by_cases z : t ≤ e
      · exact z
      · exfalso
        have h3 : p ^ (e + 1) ∣ p ^ e * m := Nat.dvd_trans (Nat.dvd_trans (Nat.pow_dvd_pow p (show e + 1 ≤ t by omega)) ⟨f, a⟩) hd
        rw [Nat.pow_succ] at h3
        exact hm (Nat.dvd_of_mul_dvd_mul_left (Nat.pow_pos p0) h3)
    exact ⟨t, h2, f, (I.mem f).mpr h1, by rw [a]; ac_rfl⟩
theorem dvs_ok : ∀ {L : List (Nat × Nat)} {F : List Nat} {m b : Nat}, Asc b L → (∀ q ∈ L, ¬ q.1 ∣ m) → DvI F m → DvI (dvs L F) (m * prodL L)
  | [], F, m, b, _, _, I => by show DvI F (m * 1); rw [Nat.mul_one]; exact I
  | q :: L, F, m, b, ⟨h1, h2, h3, h4⟩, hm, I => by
    have J := dvE_ok (e := q.2) h2 (hm q List.mem_cons_self) I
    have := dvs_ok h4 (fun r hr hd => by
      have hr2 := h4.mem r hr
      rcases hr2.2.1.dvd_mul hd with z | z
      · rcases h2.2 _ (hr2.2.1.dvd_pow z) with e | e
        · have := hr2.2.1.1; omega
        · have := hr2.1; omega
      · exact hm r (List.mem_cons_of_mem _ hr) z) J
    show DvI (dvs L (dvE F q.1 q.2)) (m * (q.1 ^ q.2 * prodL L))
    rw [show m * (q.1 ^ q.2 * prodL L) = q.1 ^ q.2 * m * prodL L by ac_rfl]
    exact this
theorem dvs_all {n : Nat} (h : 0 < n) : DvI (dvs (pfl n) [1]) n := by
  have I : DvI [1] 1 := ⟨Nat.one_pos, fun d => by
    rw [List.mem_singleton]
    exact ⟨fun e => by rw [e]; exact Nat.dvd_refl 1, fun e => Nat.eq_one_of_dvd_one e⟩, by simp⟩
  have := dvs_ok (pfl_ok h).1 (fun q hq hd => by
    have := ((pfl_ok h).1.mem q hq).2.1.1
    have := Nat.le_of_dvd (by decide) hd
    omega) I
  rw [Nat.one_mul, (pfl_ok h).2] at this
  exact this
theorem dvE_len {F : List Nat} {p : Nat} : ∀ e : Nat, (dvE F p e).length = (e + 1) * F.length
  | 0 => by show F.length = 1 * F.length; rw [Nat.one_mul]
  | e + 1 => by
    show (dvE F p e ++ F.map _).length = _
    rw [List.length_append, dvE_len e, List.length_map, ← Nat.succ_mul]
theorem succ_le_two_pow : ∀ e : Nat, e + 1 ≤ 2 ^ e
  | 0 => Nat.le_refl _
  | e + 1 => by
    have := succ_le_two_pow e
    rw [Nat.pow_succ]; omega
/-- the list is no longer than the number -/
theorem dvE_len_le {F : List Nat} {p m e : Nat} (hp : 2 ≤ p) (h : F.length ≤ m) : (dvE F p e).length ≤ p ^ e * m := by
  rw [dvE_len]
  exact Nat.mul_le_mul (Nat.le_trans (succ_le_two_pow e) (Nat.pow_le_pow_left hp e)) h
/-! ### rests without a common divisor -/
def okU (P : List Nat) (k : Nat) : Bool := P.all fun p => !decide (p ∣ k)
def cntU (P : List Nat) (N : Nat) : Nat := ((List.range N).filter (okU P)).length
theorem mult_count {p : Nat} (hp : 0 < p) (Q : Nat → Bool) : ∀ M : Nat, ((List.range (p * M)).filter fun k => decide (p ∣ k) && Q k).length = ((List.range M).filter fun k => Q (p * k)).length
  | 0 => by rw [Nat.mul_zero]; rfl
  | M + 1 => by
    have seg : ∀ j : Nat, j ≤ p → ((List.range (p * M + j)).filter fun k => decide (p ∣ k) && Q k).length = ((List.range (p * M)).filter fun k => decide (p ∣ k) && Q k).length + (if 0 < j then (if Q (p * M) = true then 1 else 0) else 0) := by
      intro j
      induction j with
      | zero => intro _; rfl
      | succ j ih =>
        intro hj
        rw [show p * M + (j + 1) = (p * M + j) + 1 by omega, List.range_succ, List.filter_append, List.length_append, ih (by omega)]
        by_cases h0 : j = 0
        · subst h0
          rw [Nat.add_zero]
          by_cases hq : Q (p * M) = true
          · rw [List.filter_cons_of_pos (by rw [hq, Bool.and_true, decide_eq_true_eq]; exact ⟨M, rfl⟩)]; simp [hq]
          · rw [List.filter_cons_of_neg (by simp [hq])]; simp [hq]
        · have nd : ¬ p ∣ p * M + j := fun hd => by
            have h1 := (Nat.dvd_add_right ⟨M, rfl⟩).mp hd
            have := Nat.le_of_dvd (by omega) h1
            omega
          rw [List.filter_cons_of_neg (by simp [nd])]
          simp [show 0 < j by omega]
    rw [Nat.mul_succ, seg p (Nat.le_refl _), mult_count hp Q M, if_pos hp, List.range_succ, List.filter_append, List.length_append]
    congr 1
    by_cases hq : Q (p * M) = true
    · simp [hq]
    · simp [hq]
theorem filter_split (a b : Nat → Bool) : ∀ l : List Nat, (l.filter b).length = (l.filter fun k => !a k && b k).length + (l.filter fun k => a k && b k).length
  | [] => rfl
  | x :: l => by
    have ih := filter_split a b l
    cases ha : a x <;> cases hb : b x <;> simp [ha, hb, ih] <;> omega
theorem okU_mul {p : Nat} (hp : IsP p) {P : List Nat} (hP : ∀ q ∈ P, IsP q ∧ q ≠ p) (k : Nat) : okU P (p * k) = okU P k := by
  unfold okU
  rw [Bool.eq_iff_iff, List.all_eq_true, List.all_eq_true]
  constructor
  · intro h q hq
    have := h q hq
    simp only [Bool.not_eq_true', decide_eq_false_iff_not] at this ⊢
    exact fun hd => this (Nat.dvd_trans hd ⟨p, Nat.mul_comm _ _⟩)
  · intro h q hq
    have := h q hq
    simp only [Bool.not_eq_true', decide_eq_false_iff_not] at this ⊢
    intro hd
    rcases (hP q hq).1.dvd_mul hd with z | z
    · rcases hp.2 q z with e | e
      · have := (hP q hq).1.1; omega
      · exact (hP q hq).2 e
    · exact this z
def prodP : List Nat → Nat
  | [] => 1
  | p :: P => p * prodP P
def prodM : List Nat → Nat
  | [] => 1
  | p :: P => (p - 1) * prodM P
def PrL (P : List Nat) : Prop := P.Nodup ∧ ∀ p ∈ P, IsP p
theorem cntU_ok : ∀ {P : List Nat} {N : Nat}, PrL P → prodP P ∣ N → cntU P N * prodP P = N * prodM P
  | [], N, _, _ => by
    show ((List.range N).filter (okU [])).length * 1 = N * 1
    have : (List.range N).filter (okU []) = List.range N := List.filter_eq_self.mpr (fun _ _ => rfl)
    rw [this, List.length_range]
  | p :: P, N, ⟨nd, hp⟩, hN => by
    obtain ⟨M, hM⟩ := hN
    have p1 := hp p List.mem_cons_self
    have nd' := List.nodup_cons.mp nd
    have h1 : cntU P N * prodP P = N * prodM P := cntU_ok ⟨nd'.2, fun q hq => hp q (List.mem_cons_of_mem _ hq)⟩ ⟨p * M, by rw [hM]; show p * prodP P * M = _; ac_rfl⟩
    have h2 : cntU P (prodP P * M) * prodP P = prodP P * M * prodM P := cntU_ok ⟨nd'.2, fun q hq => hp q (List.mem_cons_of_mem _ hq)⟩ ⟨M, rfl⟩
    have eN : N = p * (prodP P * M) := by rw [hM]; show p * prodP P * M = _; ac_rfl
    have sp : cntU P N = cntU (p :: P) N + cntU P (prodP P * M) := by
      unfold cntU
      rw [filter_split (fun k => decide (p ∣ k)) (okU P) (List.range N)]
      congr 1
      · conv => lhs; rw [eN]
        rw [mult_count (by have := p1.1; omega) (okU P)]
        congr 1
        apply List.filter_congr
        intro k _
        exact okU_mul p1 (fun q hq => ⟨hp q (List.mem_cons_of_mem _ hq), fun e => nd'.1 (by rw [← e]; exact hq)⟩) k
    show cntU (p :: P) N * (p * prodP P) = N * ((p - 1) * prodM P)
    obtain ⟨r, rfl⟩ : ∃ r, p = r + 1 := ⟨p - 1, by have := p1.1; omega⟩
    rw [sp] at h1
    rw [Nat.add_sub_cancel]
    generalize cntU ((r + 1) :: P) N = A at h1 ⊢
    generalize cntU P (prodP P * M) = B at h1 h2
    generalize prodP P = X at *
    generalize prodM P = Y at *
    rw [eN] at h1 ⊢
    have h3 : A * X + B * X = (r + 1) * (X * M) * Y := by rw [← h1, Nat.add_mul]
    rw [h2] at h3
    have h4 : A * X = r * (X * M * Y) := by
      have : (r + 1) * (X * M) * Y = r * (X * M * Y) + X * M * Y := by grind
      omega
    rw [show A * ((r + 1) * X) = (r + 1) * (A * X) by ac_rfl, h4]
    ac_rfl
def utF : List (Nat × Nat) → Nat → Nat
  | [], n => n
  | q :: L, n => utF L (n / q.1 * (q.1 - 1))
theorem utF_ok : ∀ {L : List (Nat × Nat)} {n : Nat}, (∀ q ∈ L, 0 < q.1) → prodP (L.map (·.1)) ∣ n → utF L n * prodP (L.map (·.1)) = n * prodM (L.map (·.1))
  | [], n, _, _ => rfl
  | q :: L, n, h0, ⟨M, hM⟩ => by
    have hq := h0 q List.mem_cons_self
    have e1 : n / q.1 = prodP (L.map (·.1)) * M := by
      rw [hM]
      show q.1 * prodP (L.map (·.1)) * M / q.1 = _
      rw [Nat.mul_assoc, Nat.mul_div_cancel_left _ hq]
    show utF L (n / q.1 * (q.1 - 1)) * (q.1 * prodP (L.map (·.1))) = n * ((q.1 - 1) * prodM (L.map (·.1)))
    rw [e1]
    have ih := utF_ok (L := L) (n := prodP (L.map (·.1)) * M * (q.1 - 1)) (fun r hr => h0 r (List.mem_cons_of_mem _ hr)) ⟨M * (q.1 - 1), by ac_rfl⟩
    rw [show utF L (prodP (L.map (·.1)) * M * (q.1 - 1)) * (q.1 * prodP (L.map (·.1))) = q.1 * (utF L (prodP (L.map (·.1)) * M * (q.1 - 1)) * prodP (L.map (·.1))) by ac_rfl, ih, hM]
    show q.1 * (prodP (L.map (·.1)) * M * (q.1 - 1) * prodM (L.map (·.1))) = q.1 * prodP (L.map (·.1)) * M * ((q.1 - 1) * prodM (L.map (·.1)))
    ac_rfl
theorem asc_nd : ∀ {L : List (Nat × Nat)} {b : Nat}, Asc b L → (L.map (·.1)).Nodup
  | [], _, _ => by simp
  | q :: L, b, ⟨h1, h2, h3, h4⟩ => by
    rw [List.map_cons, List.nodup_cons]
    refine ⟨fun h => ?_, asc_nd h4⟩
    obtain ⟨r, hr, e⟩ := List.mem_map.mp h
    have := (h4.mem r hr).1
    omega
theorem prodP_dvd : ∀ {L : List (Nat × Nat)} {b : Nat}, Asc b L → prodP (L.map (·.1)) ∣ prodL L
  | [], _, _ => Nat.dvd_refl 1
  | q :: L, b, ⟨h1, h2, h3, h4⟩ => Nat.mul_dvd_mul (dvd_powk h3) (prodP_dvd h4)
theorem prodP_pos : ∀ {L : List (Nat × Nat)} {b : Nat}, Asc b L → 0 < prodP (L.map (·.1))
  | [], _, _ => Nat.one_pos
  | q :: L, b, ⟨h1, h2, h3, h4⟩ => Nat.mul_pos (by have := h2.1; show 0 < q.1; omega) (prodP_pos h4)
/-- a number above 1 has a prime -/
theorem has_prime {n : Nat} (h : 1 < n) : ∃ q ∈ pfl n, q.1 ∣ n := by
  obtain ⟨a, b⟩ := pfl_ok (show 0 < n by omega)
  cases e : pfl n with
  | nil => rw [e] at b; have b : 1 = n := b; omega
  | cons q L =>
    refine ⟨q, List.mem_cons_self, ?_⟩
    rw [e] at a b
    rw [← b]
    exact Nat.dvd_trans (dvd_powk a.2.2.1) ⟨prodL L, rfl⟩
theorem okU_gcd {n : Nat} (h : 0 < n) (k : Nat) : okU ((pfl n).map (·.1)) k = decide (Nat.gcd k n = 1) := by
  obtain ⟨a, b⟩ := pfl_ok h
  unfold okU
  rw [Bool.eq_iff_iff, List.all_eq_true, decide_eq_true_eq]
  constructor
  · intro hall
    apply Classical.byContradiction
    intro hne
    have g0 : 0 < Nat.gcd k n := Nat.gcd_pos_of_pos_right _ h
    obtain ⟨q, hq, hd⟩ := has_prime (show 1 < Nat.gcd k n by omega)
    have pq := ((pfl_ok g0).1.mem q hq).2.1
    have d1 : q.1 ∣ n := Nat.dvd_trans hd (Nat.gcd_dvd_right _ _)
    rw [← b] at d1
    obtain ⟨e, he⟩ := prodL_dvd pq a d1
    have := hall q.1 (List.mem_map.mpr ⟨_, he, rfl⟩)
    simp only [Bool.not_eq_true', decide_eq_false_iff_not] at this
    exact this (Nat.dvd_trans hd (Nat.gcd_dvd_left _ _))
  · intro hg p hp
    obtain ⟨q, hq, rfl⟩ := List.mem_map.mp hp
    simp only [Bool.not_eq_true', decide_eq_false_iff_not]
    intro hd
    have pq := a.mem q hq
    have d1 : q.1 ∣ n := by
      rw [← b]
      exact Nat.dvd_trans (dvd_powk pq.2.2) (mem_dvd hq)
    have := Nat.dvd_gcd hd d1
    rw [hg] at this
    have := Nat.le_of_dvd (by decide) this
    have := pq.2.1.1
    omega
/-- the rests with an inverse, counted -/
theorem units_count {n : Nat} (h : 0 < n) : utF (pfl n) n = ((List.range n).filter fun k => decide (Nat.gcd k n = 1)).length := by
  obtain ⟨a, b⟩ := pfl_ok h
  have d : prodP ((pfl n).map (·.1)) ∣ n := by
    have := prodP_dvd a
    rw [b] at this
    exact this
  have e1 := utF_ok (L := pfl n) (n := n) (fun q hq => by have := (a.mem q hq).2.1.1; omega) d
  have e2 := cntU_ok (P := (pfl n).map (·.1)) (N := n) ⟨asc_nd a, fun p hp => by
    obtain ⟨q, hq, rfl⟩ := List.mem_map.mp hp
    exact (a.mem q hq).2.1⟩ d
  have e3 : utF (pfl n) n = cntU ((pfl n).map (·.1)) n := Nat.eq_of_mul_eq_mul_right (prodP_pos a) (e1.trans e2.symm)
  rw [e3]
  unfold cntU
  congr 1
  apply List.filter_congr
  intro k _
  exact okU_gcd h k
end Nm

/-! Num11: primes up to 5000: a root is found soon, and the papers are not deep. -/
namespace Nm
def pwNL : Nat → Nat → Nat → Nat → Nat → Nat
  | 0, _, f, _, _ => f
  | c + 1, k, f, b, n => if 0 < k then pwNL c (k / 2) (if k % 2 = 1 then f * b % n else f) (b * b % n) n else f
def pwn (a k n : Nat) : Nat := pwNL k k (1 % n) (a % n) n
def rootN (a n : Nat) (ps : List Nat) : Bool := decide (pwn a (n - 1) n = 1 % n) && ps.all fun p => !decide (pwn a ((n - 1) / p) n = 1 % n)
def isOne (n : Nat) (L : List (Nat × Nat)) : Bool := match L with
  | [q] => Nat.beq q.1 n && Nat.beq q.2 1
  | _ => false
/-- papers of at most k levels -/
def lev : Nat → Nat → Bool
  | 0, _ => false
  | k + 1, n => (pfl (n - 1)).all fun q => lev k q.1
def chk11 (n : Nat) : Bool := !isOne n (pfl n) || ((List.range 40).any (fun a => rootN (a + 1) n ((pfl (n - 1)).map (·.1))) && lev 9 n)
theorem all11 : (List.range 5001).all (fun n => chk11 n) = true := by decide +kernel
end Nm

/-! Num12: numbers up to 5000 have few divisors. -/
namespace Nm
def lenD : List (Nat × Nat) → Nat
  | [] => 1
  | q :: L => (q.2 + 1) * lenD L
theorem all12 : (List.range 5001).all (fun n => Nat.ble (lenD (pfl n)) 900) = true := by decide +kernel
theorem dvs_len : ∀ {L : List (Nat × Nat)} {F : List Nat}, (dvs L F).length = lenD L * F.length
  | [], F => by show F.length = 1 * F.length; rw [Nat.one_mul]
  | q :: L, F => by
    show (dvs L (dvE F q.1 q.2)).length = _
    rw [dvs_len, dvE_len]
    show lenD L * ((q.2 + 1) * F.length) = (q.2 + 1) * lenD L * F.length
    ac_rfl
theorem few {n : Nat} (h : n ≤ 5000) : (dvs (pfl n) [1]).length ≤ 900 := by
  have := List.all_eq_true.mp all12 n (List.mem_range.mpr (by omega))
  rw [dvs_len]
  simpa using Nat.le_of_ble_eq_true this
end Nm

/-! FdF: powers by a number, primes and exponents: the program's own and the laws', shared by many laws. -/
namespace Fd
open PySem PySem.Spec PyProof.Rows L2 Nm
/-! ### powers -/
def pwL : Nat → Int → Int → Int → Int → Int
  | 0, _, f, _, _ => f
  | c + 1, k, f, b, n => if 0 < k then pwL c (k / 2) (if k % 2 = 1 then f * b % n else f) (b * b % n) n else f
/-- a to the k, by n -/
def pw (a k n : Int) : Int := pwL k.toNat k (1 % n) (a % n) n
noncomputable def dPow : DenS :=
  (sSeq (sPar 3 4 (aCons (d2 f_mod (cK (.int 1)) (cVar 2)) (aCons (d2 f_mod (cVar 0) (cVar 2)) aNil)))
  (sSeq (sWh (tB1 (d2 f_gt (cVar 1) (cK (.int 0)))) (sSeq (sIf (tB1 (d2 f_eq (d2 f_mod (cVar 1) (cK (.int 2))) (cK (.int 1)))) (sAsg (d2 f_mod (d2 f_mul (cVar 3) (cVar 4)) (cVar 2)) (gNm 3)) sNil)
  (sSeq (sAsg (d2 f_mod (d2 f_mul (cVar 4) (cVar 4)) (cVar 2)) (gNm 4))
  (sAsg (d2 f_fdiv (cVar 1) (cK (.int 2))) (gNm 1)))))
  (sRet (cVar 3))))
noncomputable def dLpow : DenS :=
  (sSeq (sPar 3 4 (aCons (d2 f_mod (cK (.int 1)) (cVar 2)) (aCons (d2 f_mod (cVar 0) (cVar 2)) aNil)))
  (sSeq (sWh (tB1 (d2 f_gt (cVar 1) (cK (.int 0)))) (sSeq (sIf (tB1 (d2 f_eq (d2 f_mod (cVar 1) (cK (.int 2))) (cK (.int 1)))) (sAsg (d2 f_mod (d2 f_mul (cVar 3) (cVar 4)) (cVar 2)) (gNm 3)) sNil)
  (sPar 4 1 (aCons (d2 f_mod (d2 f_mul (cVar 4) (cVar 4)) (cVar 2)) (aCons (d2 f_fdiv (cVar 1) (cK (.int 2))) aNil)))))
  (sRet (cVar 3))))
noncomputable def p_pow : Fn := runF 5 dPow
noncomputable def p_lpow : Fn := runF 5 dLpow
def pwA : DenS := (sSeq (sIf (tB1 (d2 f_eq (d2 f_mod (cVar 1) (cK (.int 2))) (cK (.int 1)))) (sAsg (d2 f_mod (d2 f_mul (cVar 3) (cVar 4)) (cVar 2)) (gNm 3)) sNil)
  (sSeq (sAsg (d2 f_mod (d2 f_mul (cVar 4) (cVar 4)) (cVar 2)) (gNm 4))
  (sAsg (d2 f_fdiv (cVar 1) (cK (.int 2))) (gNm 1))))
def pwB : DenS := (sSeq (sIf (tB1 (d2 f_eq (d2 f_mod (cVar 1) (cK (.int 2))) (cK (.int 1)))) (sAsg (d2 f_mod (d2 f_mul (cVar 3) (cVar 4)) (cVar 2)) (gNm 3)) sNil)
  (sPar 4 1 (aCons (d2 f_mod (d2 f_mul (cVar 4) (cVar 4)) (cVar 2)) (aCons (d2 f_fdiv (cVar 1) (cK (.int 2))) aNil))))
theorem pow_loop {a n : Int} (hn : 0 < n) (hn2 : n < 2 ^ 90) (μ : Sto) : ∀ (c : Nat) (k f b : Int), k.toNat ≤ c → 0 ≤ k → 0 ≤ f → f < n → 0 ≤ b → b < n → ∃ b' : Int,
    sWh (tB1 (d2 f_gt (cVar 1) (cK (.int 0)))) pwA [some (.int a), some (.int k), some (.int n), some (.int f), some (.int b)] μ = some (.nx [some (.int a), some (.int 0), some (.int n), some (.int (pwL c k f b n)), some (.int b')] μ) ∧
    sWh (tB1 (d2 f_gt (cVar 1) (cK (.int 0)))) pwB [some (.int a), some (.int k), some (.int n), some (.int f), some (.int b)] μ = some (.nx [some (.int a), some (.int 0), some (.int n), some (.int (pwL c k f b n)), some (.int b')] μ) := by
  intro c
  induction c with
  | zero =>
    intro k f b hk k0 f0 f1 b0 b1
    have hz : k = 0 := by omega
    subst hz
    refine ⟨b, ?_, ?_⟩
    · apply wh_done; (repeat' first | (with_reducible apply ev_var; exact rfl) | with_reducible exact ev_K | with_reducible exact ev_aNil | with_reducible exact ev_oNo | with_reducible exact ev_tAll | with_reducible exact ev_gsN | with_reducible apply ev_aCons | with_reducible apply ev_d2 | with_reducible apply ev_d1 | with_reducible apply ev_dN | with_reducible apply ev_dCall | with_reducible apply ev_dTup | with_reducible apply ev_dLst | with_reducible apply ev_dLoc | with_reducible apply ev_sl | with_reducible apply ev_oSo | with_reducible apply ev_ch2b | with_reducible apply ev_ch3b | with_reducible apply ev_tB | with_reducible apply ev_tTru | with_reducible apply ev_tNo | with_reducible apply ev_no | with_reducible apply ev_dML | with_reducible apply ev_gTu | with_reducible apply ev_gsC | with_reducible apply ev_gSb | with_reducible apply ev_gNm | (simp only [List.length_cons, List.length_nil]; exact len_le (by decide)) | exact decide_eq_true (by omega) | exact decide_eq_false (by omega) | exact ne_t (by omega) | exact ne_f (by omega) | with_reducible apply lt_ii | with_reducible apply le_ii | with_reducible apply gt_ii | with_reducible apply ge_ii | with_reducible apply eq_ii | with_reducible apply ne_ii | with_reducible apply eq_ss | with_reducible exact add_ii | with_reducible exact sub_ii | with_reducible exact neg_i | with_reducible apply mul_ii | exact okMul_small (by omega) (by omega) | exact mod_ii (by omega) | exact fdiv_ii (by omega) (by omega) | exact mod_ni (by omega) | exact fdiv_ni (by omega) (by omega) | exact pow_ii (by omega) (by omega) (by omega) | with_reducible apply ix_tup | with_reducible apply ix_lst | (simp only [List.set_cons_succ, List.set_cons_zero]; rfl) | exact rfl)
    · apply wh_done; (repeat' first | (with_reducible apply ev_var; exact rfl) | with_reducible exact ev_K | with_reducible exact ev_aNil | with_reducible exact ev_oNo | with_reducible exact ev_tAll | with_reducible exact ev_gsN | with_reducible apply ev_aCons | with_reducible apply ev_d2 | with_reducible apply ev_d1 | with_reducible apply ev_dN | with_reducible apply ev_dCall | with_reducible apply ev_dTup | with_reducible apply ev_dLst | with_reducible apply ev_dLoc | with_reducible apply ev_sl | with_reducible apply ev_oSo | with_reducible apply ev_ch2b | with_reducible apply ev_ch3b | with_reducible apply ev_tB | with_reducible apply ev_tTru | with_reducible apply ev_tNo | with_reducible apply ev_no | with_reducible apply ev_dML | with_reducible apply ev_gTu | with_reducible apply ev_gsC | with_reducible apply ev_gSb | with_reducible apply ev_gNm | (simp only [List.length_cons, List.length_nil]; exact len_le (by decide)) | exact decide_eq_true (by omega) | exact decide_eq_false (by omega) | exact ne_t (by omega) | exact ne_f (by omega) | with_reducible apply lt_ii | with_reducible apply le_ii | with_reducible apply gt_ii | with_reducible apply ge_ii | with_reducible apply eq_ii | with_reducible apply ne_ii | with_reducible apply eq_ss | with_reducible exact add_ii | with_reducible exact sub_ii | with_reducible exact neg_i | with_reducible apply mul_ii | exact okMul_small (by omega) (by omega) | exact mod_ii (by omega) | exact fdiv_ii (by omega) (by omega) | exact mod_ni (by omega) | exact fdiv_ni (by omega) (by omega) | exact pow_ii (by omega) (by omega) (by omega) | with_reducible apply ix_tup | with_reducible apply ix_lst | (simp only [List.set_cons_succ, List.set_cons_zero]; rfl) | exact rfl)
  | succ c ih =>
    intro k f b hk k0 f0 f1 b0 b1
    unfold pwL
    by_cases hz : k = 0
    · subst hz
      rw [if_neg (by decide)]
      refine ⟨b, ?_, ?_⟩
      · apply wh_done; (repeat' first | (with_reducible apply ev_var; exact rfl) | with_reducible exact ev_K | with_reducible exact ev_aNil | with_reducible exact ev_oNo | with_reducible exact ev_tAll | with_reducible exact ev_gsN | with_reducible apply ev_aCons | with_reducible apply ev_d2 | with_reducible apply ev_d1 | with_reducible apply ev_dN | with_reducible apply ev_dCall | with_reducible apply ev_dTup | with_reducible apply ev_dLst | with_reducible apply ev_dLoc | with_reducible apply ev_sl | with_reducible apply ev_oSo | with_reducible apply ev_ch2b | with_reducible apply ev_ch3b | with_reducible apply ev_tB | with_reducible apply ev_tTru | with_reducible apply ev_tNo | with_reducible apply ev_no | with_reducible apply ev_dML | with_reducible apply ev_gTu | with_reducible apply ev_gsC | with_reducible apply ev_gSb | with_reducible apply ev_gNm | (simp only [List.length_cons, List.length_nil]; exact len_le (by decide)) | exact decide_eq_true (by omega) | exact decide_eq_false (by omega) | exact ne_t (by omega) | exact ne_f (by omega) | with_reducible apply lt_ii | with_reducible apply le_ii | with_reducible apply gt_ii | with_reducible apply ge_ii | with_reducible apply eq_ii | with_reducible apply ne_ii | with_reducible apply eq_ss | with_reducible exact add_ii | with_reducible exact sub_ii | with_reducible exact neg_i | with_reducible apply mul_ii | exact okMul_small (by omega) (by omega) | exact mod_ii (by omega) | exact fdiv_ii (by omega) (by omega) | exact mod_ni (by omega) | exact fdiv_ni (by omega) (by omega) | exact pow_ii (by omega) (by omega) (by omega) | with_reducible apply ix_tup | with_reducible apply ix_lst | (simp only [List.set_cons_succ, List.set_cons_zero]; rfl) | exact rfl)
      · apply wh_done; (repeat' first | (with_reducible apply ev_var; exact rfl) | with_reducible exact ev_K | with_reducible exact ev_aNil | with_reducible exact ev_oNo | with_reducible exact ev_tAll | with_reducible exact ev_gsN | with_reducible apply ev_aCons | with_reducible apply ev_d2 | with_reducible apply ev_d1 | with_reducible apply ev_dN | with_reducible apply ev_dCall | with_reducible apply ev_dTup | with_reducible apply ev_dLst | with_reducible apply ev_dLoc | with_reducible apply ev_sl | with_reducible apply ev_oSo | with_reducible apply ev_ch2b | with_reducible apply ev_ch3b | with_reducible apply ev_tB | with_reducible apply ev_tTru | with_reducible apply ev_tNo | with_reducible apply ev_no | with_reducible apply ev_dML | with_reducible apply ev_gTu | with_reducible apply ev_gsC | with_reducible apply ev_gSb | with_reducible apply ev_gNm | (simp only [List.length_cons, List.length_nil]; exact len_le (by decide)) | exact decide_eq_true (by omega) | exact decide_eq_false (by omega) | exact ne_t (by omega) | exact ne_f (by omega) | with_reducible apply lt_ii | with_reducible apply le_ii | with_reducible apply gt_ii | with_reducible apply ge_ii | with_reducible apply eq_ii | with_reducible apply ne_ii | with_reducible apply eq_ss | with_reducible exact add_ii | with_reducible exact sub_ii | with_reducible exact neg_i | with_reducible apply mul_ii | exact okMul_small (by omega) (by omega) | exact mod_ii (by omega) | exact fdiv_ii (by omega) (by omega) | exact mod_ni (by omega) | exact fdiv_ni (by omega) (by omega) | exact pow_ii (by omega) (by omega) (by omega) | with_reducible apply ix_tup | with_reducible apply ix_lst | (simp only [List.set_cons_succ, List.set_cons_zero]; rfl) | exact rfl)
    · rw [if_pos (by omega)]
      have bb : f_mul (.int b) (.int b) μ = some (.int (b * b), μ) := mul_ii (okMul_small (by omega) (by omega))
      have fb : f_mul (.int f) (.int b) μ = some (.int (f * b), μ) := mul_ii (okMul_small (by omega) (by omega))
      have m1 : f_mod (.int (b * b)) (.int n) μ = some (.int (b * b % n), μ) := mod_ii hn
      have m2 : f_mod (.int (f * b)) (.int n) μ = some (.int (f * b % n), μ) := mod_ii hn
      have n0 : 0 ≤ b * b % n := Int.emod_nonneg _ (by omega)
      have n1 : b * b % n < n := Int.emod_lt_of_pos _ hn
      have p0 : 0 ≤ f * b % n := Int.emod_nonneg _ (by omega)
      have p1 : f * b % n < n := Int.emod_lt_of_pos _ hn
      by_cases hodd : k % 2 = 1
      · rw [if_pos hodd]
        obtain ⟨b', e1, e2⟩ := ih (k / 2) (f * b % n) (b * b % n) (by omega) (by omega) p0 p1 n0 n1
        have test : sIf (tB1 (d2 f_eq (d2 f_mod (cVar 1) (cK (.int 2))) (cK (.int 1)))) (sAsg (d2 f_mod (d2 f_mul (cVar 3) (cVar 4)) (cVar 2)) (gNm 3)) sNil [some (.int a), some (.int k), some (.int n), some (.int f), some (.int b)] μ = some (.nx [some (.int a), some (.int k), some (.int n), some (.int (f * b % n)), some (.int b)] μ) := by
          (apply ev_sIf_t; case' hc => (repeat' first | (with_reducible apply ev_var; exact rfl) | with_reducible exact ev_K | with_reducible exact ev_aNil | with_reducible exact ev_oNo | with_reducible exact ev_tAll | with_reducible exact ev_gsN | with_reducible apply ev_aCons | with_reducible apply ev_d2 | with_reducible apply ev_d1 | with_reducible apply ev_dN | with_reducible apply ev_dCall | with_reducible apply ev_dTup | with_reducible apply ev_dLst | with_reducible apply ev_dLoc | with_reducible apply ev_sl | with_reducible apply ev_oSo | with_reducible apply ev_ch2b | with_reducible apply ev_ch3b | with_reducible apply ev_tB | with_reducible apply ev_tTru | with_reducible apply ev_tNo | with_reducible apply ev_no | with_reducible apply ev_dML | with_reducible apply ev_gTu | with_reducible apply ev_gsC | with_reducible apply ev_gSb | with_reducible apply ev_gNm | (simp only [List.length_cons, List.length_nil]; exact len_le (by decide)) | exact decide_eq_true (by omega) | exact decide_eq_false (by omega) | exact ne_t (by omega) | exact ne_f (by omega) | with_reducible apply lt_ii | with_reducible apply le_ii | with_reducible apply gt_ii | with_reducible apply ge_ii | with_reducible apply eq_ii | with_reducible apply ne_ii | with_reducible apply eq_ss | with_reducible exact add_ii | with_reducible exact sub_ii | with_reducible exact neg_i | with_reducible apply mul_ii | exact okMul_small (by omega) (by omega) | exact mod_ii (by omega) | exact fdiv_ii (by omega) (by omega) | exact mod_ni (by omega) | exact fdiv_ni (by omega) (by omega) | exact pow_ii (by omega) (by omega) (by omega) | with_reducible apply ix_tup | with_reducible apply ix_lst | (simp only [List.set_cons_succ, List.set_cons_zero]; rfl) | exact rfl))
          ((first | with_reducible apply ev_set | with_reducible apply ev_par | with_reducible apply ev_par3 | with_reducible apply ev_asg | with_reducible apply ev_ex | with_reducible apply ev_ret | with_reducible exact ev_sNil | (with_reducible apply ev_aug; exact rfl)) <;> (repeat' first | (with_reducible apply ev_var; exact rfl) | with_reducible exact ev_K | with_reducible exact fb | with_reducible exact m2 | with_reducible exact ev_aNil | with_reducible exact ev_oNo | with_reducible exact ev_tAll | with_reducible exact ev_gsN | with_reducible apply ev_aCons | with_reducible apply ev_d2 | with_reducible apply ev_d1 | with_reducible apply ev_dN | with_reducible apply ev_dCall | with_reducible apply ev_dTup | with_reducible apply ev_dLst | with_reducible apply ev_dLoc | with_reducible apply ev_sl | with_reducible apply ev_oSo | with_reducible apply ev_ch2b | with_reducible apply ev_ch3b | with_reducible apply ev_tB | with_reducible apply ev_tTru | with_reducible apply ev_tNo | with_reducible apply ev_no | with_reducible apply ev_dML | with_reducible apply ev_gTu | with_reducible apply ev_gsC | with_reducible apply ev_gSb | with_reducible apply ev_gNm | (simp only [List.length_cons, List.length_nil]; exact len_le (by decide)) | exact decide_eq_true (by omega) | exact decide_eq_false (by omega) | exact ne_t (by omega) | exact ne_f (by omega) | with_reducible apply lt_ii | with_reducible apply le_ii | with_reducible apply gt_ii | with_reducible apply ge_ii | with_reducible apply eq_ii | with_reducible apply ne_ii | with_reducible apply eq_ss | with_reducible exact add_ii | with_reducible exact sub_ii | with_reducible exact neg_i | with_reducible apply mul_ii | exact okMul_small (by omega) (by omega) | exact mod_ii (by omega) | exact fdiv_ii (by omega) (by omega) | exact mod_ni (by omega) | exact fdiv_ni (by omega) (by omega) | exact pow_ii (by omega) (by omega) (by omega) | with_reducible apply ix_tup | with_reducible apply ix_lst | (simp only [List.set_cons_succ, List.set_cons_zero]; rfl) | exact rfl | exact fb | exact m2))
        refine ⟨b', wh_step (μ1 := μ) (μ' := μ) ?_ ?_ e1, wh_step (μ1 := μ) (μ' := μ) ?_ ?_ e2⟩
        · (repeat' first | (with_reducible apply ev_var; exact rfl) | with_reducible exact ev_K | with_reducible exact ev_aNil | with_reducible exact ev_oNo | with_reducible exact ev_tAll | with_reducible exact ev_gsN | with_reducible apply ev_aCons | with_reducible apply ev_d2 | with_reducible apply ev_d1 | with_reducible apply ev_dN | with_reducible apply ev_dCall | with_reducible apply ev_dTup | with_reducible apply ev_dLst | with_reducible apply ev_dLoc | with_reducible apply ev_sl | with_reducible apply ev_oSo | with_reducible apply ev_ch2b | with_reducible apply ev_ch3b | with_reducible apply ev_tB | with_reducible apply ev_tTru | with_reducible apply ev_tNo | with_reducible apply ev_no | with_reducible apply ev_dML | with_reducible apply ev_gTu | with_reducible apply ev_gsC | with_reducible apply ev_gSb | with_reducible apply ev_gNm | (simp only [List.length_cons, List.length_nil]; exact len_le (by decide)) | exact decide_eq_true (by omega) | exact decide_eq_false (by omega) | exact ne_t (by omega) | exact ne_f (by omega) | with_reducible apply lt_ii | with_reducible apply le_ii | with_reducible apply gt_ii | with_reducible apply ge_ii | with_reducible apply eq_ii | with_reducible apply ne_ii | with_reducible apply eq_ss | with_reducible exact add_ii | with_reducible exact sub_ii | with_reducible exact neg_i | with_reducible apply mul_ii | exact okMul_small (by omega) (by omega) | exact mod_ii (by omega) | exact fdiv_ii (by omega) (by omega) | exact mod_ni (by omega) | exact fdiv_ni (by omega) (by omega) | exact pow_ii (by omega) (by omega) (by omega) | with_reducible apply ix_tup | with_reducible apply ix_lst | (simp only [List.set_cons_succ, List.set_cons_zero]; rfl) | exact rfl)
        · apply ev_seq test
          (apply ev_seq; case' ha => ((first | with_reducible apply ev_set | with_reducible apply ev_par | with_reducible apply ev_par3 | with_reducible apply ev_asg | with_reducible apply ev_ex | with_reducible apply ev_ret | with_reducible exact ev_sNil | (with_reducible apply ev_aug; exact rfl)) <;> (repeat' first | (with_reducible apply ev_var; exact rfl) | with_reducible exact ev_K | with_reducible exact bb | with_reducible exact m1 | with_reducible exact ev_aNil | with_reducible exact ev_oNo | with_reducible exact ev_tAll | with_reducible exact ev_gsN | with_reducible apply ev_aCons | with_reducible apply ev_d2 | with_reducible apply ev_d1 | with_reducible apply ev_dN | with_reducible apply ev_dCall | with_reducible apply ev_dTup | with_reducible apply ev_dLst | with_reducible apply ev_dLoc | with_reducible apply ev_sl | with_reducible apply ev_oSo | with_reducible apply ev_ch2b | with_reducible apply ev_ch3b | with_reducible apply ev_tB | with_reducible apply ev_tTru | with_reducible apply ev_tNo | with_reducible apply ev_no | with_reducible apply ev_dML | with_reducible apply ev_gTu | with_reducible apply ev_gsC | with_reducible apply ev_gSb | with_reducible apply ev_gNm | (simp only [List.length_cons, List.length_nil]; exact len_le (by decide)) | exact decide_eq_true (by omega) | exact decide_eq_false (by omega) | exact ne_t (by omega) | exact ne_f (by omega) | with_reducible apply lt_ii | with_reducible apply le_ii | with_reducible apply gt_ii | with_reducible apply ge_ii | with_reducible apply eq_ii | with_reducible apply ne_ii | with_reducible apply eq_ss | with_reducible exact add_ii | with_reducible exact sub_ii | with_reducible exact neg_i | with_reducible apply mul_ii | exact okMul_small (by omega) (by omega) | exact mod_ii (by omega) | exact fdiv_ii (by omega) (by omega) | exact mod_ni (by omega) | exact fdiv_ni (by omega) (by omega) | exact pow_ii (by omega) (by omega) (by omega) | with_reducible apply ix_tup | with_reducible apply ix_lst | (simp only [List.set_cons_succ, List.set_cons_zero]; rfl) | exact rfl | exact bb | exact m1)))
          ((first | with_reducible apply ev_set | with_reducible apply ev_par | with_reducible apply ev_par3 | with_reducible apply ev_asg | with_reducible apply ev_ex | with_reducible apply ev_ret | with_reducible exact ev_sNil | (with_reducible apply ev_aug; exact rfl)) <;> (repeat' first | (with_reducible apply ev_var; exact rfl) | with_reducible exact ev_K | with_reducible exact ev_aNil | with_reducible exact ev_oNo | with_reducible exact ev_tAll | with_reducible exact ev_gsN | with_reducible apply ev_aCons | with_reducible apply ev_d2 | with_reducible apply ev_d1 | with_reducible apply ev_dN | with_reducible apply ev_dCall | with_reducible apply ev_dTup | with_reducible apply ev_dLst | with_reducible apply ev_dLoc | with_reducible apply ev_sl | with_reducible apply ev_oSo | with_reducible apply ev_ch2b | with_reducible apply ev_ch3b | with_reducible apply ev_tB | with_reducible apply ev_tTru | with_reducible apply ev_tNo | with_reducible apply ev_no | with_reducible apply ev_dML | with_reducible apply ev_gTu | with_reducible apply ev_gsC | with_reducible apply ev_gSb | with_reducible apply ev_gNm | (simp only [List.length_cons, List.length_nil]; exact len_le (by decide)) | exact decide_eq_true (by omega) | exact decide_eq_false (by omega) | exact ne_t (by omega) | exact ne_f (by omega) | with_reducible apply lt_ii | with_reducible apply le_ii | with_reducible apply gt_ii | with_reducible apply ge_ii | with_reducible apply eq_ii | with_reducible apply ne_ii | with_reducible apply eq_ss | with_reducible exact add_ii | with_reducible exact sub_ii | with_reducible exact neg_i | with_reducible apply mul_ii | exact okMul_small (by omega) (by omega) | exact mod_ii (by omega) | exact fdiv_ii (by omega) (by omega) | exact mod_ni (by omega) | exact fdiv_ni (by omega) (by omega) | exact pow_ii (by omega) (by omega) (by omega) | with_reducible apply ix_tup | with_reducible apply ix_lst | (simp only [List.set_cons_succ, List.set_cons_zero]; rfl) | exact rfl))
        · (repeat' first | (with_reducible apply ev_var; exact rfl) | with_reducible exact ev_K | with_reducible exact ev_aNil | with_reducible exact ev_oNo | with_reducible exact ev_tAll | with_reducible exact ev_gsN | with_reducible apply ev_aCons | with_reducible apply ev_d2 | with_reducible apply ev_d1 | with_reducible apply ev_dN | with_reducible apply ev_dCall | with_reducible apply ev_dTup | with_reducible apply ev_dLst | with_reducible apply ev_dLoc | with_reducible apply ev_sl | with_reducible apply ev_oSo | with_reducible apply ev_ch2b | with_reducible apply ev_ch3b | with_reducible apply ev_tB | with_reducible apply ev_tTru | with_reducible apply ev_tNo | with_reducible apply ev_no | with_reducible apply ev_dML | with_reducible apply ev_gTu | with_reducible apply ev_gsC | with_reducible apply ev_gSb | with_reducible apply ev_gNm | (simp only [List.length_cons, List.length_nil]; exact len_le (by decide)) | exact decide_eq_true (by omega) | exact decide_eq_false (by omega) | exact ne_t (by omega) | exact ne_f (by omega) | with_reducible apply lt_ii | with_reducible apply le_ii | with_reducible apply gt_ii | with_reducible apply ge_ii | with_reducible apply eq_ii | with_reducible apply ne_ii | with_reducible apply eq_ss | with_reducible exact add_ii | with_reducible exact sub_ii | with_reducible exact neg_i | with_reducible apply mul_ii | exact okMul_small (by omega) (by omega) | exact mod_ii (by omega) | exact fdiv_ii (by omega) (by omega) | exact mod_ni (by omega) | exact fdiv_ni (by omega) (by omega) | exact pow_ii (by omega) (by omega) (by omega) | with_reducible apply ix_tup | with_reducible apply ix_lst | (simp only [List.set_cons_succ, List.set_cons_zero]; rfl) | exact rfl)
        · apply ev_seq test
          ((first | with_reducible apply ev_set | with_reducible apply ev_par | with_reducible apply ev_par3 | with_reducible apply ev_asg | with_reducible apply ev_ex | with_reducible apply ev_ret | with_reducible exact ev_sNil | (with_reducible apply ev_aug; exact rfl)) <;> (repeat' first | (with_reducible apply ev_var; exact rfl) | with_reducible exact ev_K | with_reducible exact bb | with_reducible exact m1 | with_reducible exact ev_aNil | with_reducible exact ev_oNo | with_reducible exact ev_tAll | with_reducible exact ev_gsN | with_reducible apply ev_aCons | with_reducible apply ev_d2 | with_reducible apply ev_d1 | with_reducible apply ev_dN | with_reducible apply ev_dCall | with_reducible apply ev_dTup | with_reducible apply ev_dLst | with_reducible apply ev_dLoc | with_reducible apply ev_sl | with_reducible apply ev_oSo | with_reducible apply ev_ch2b | with_reducible apply ev_ch3b | with_reducible apply ev_tB | with_reducible apply ev_tTru | with_reducible apply ev_tNo | with_reducible apply ev_no | with_reducible apply ev_dML | with_reducible apply ev_gTu | with_reducible apply ev_gsC | with_reducible apply ev_gSb | with_reducible apply ev_gNm | (simp only [List.length_cons, List.length_nil]; exact len_le (by decide)) | exact decide_eq_true (by omega) | exact decide_eq_false (by omega) | exact ne_t (by omega) | exact ne_f (by omega) | with_reducible apply lt_ii | with_reducible apply le_ii | with_reducible apply gt_ii | with_reducible apply ge_ii | with_reducible apply eq_ii | with_reducible apply ne_ii | with_reducible apply eq_ss | with_reducible exact add_ii | with_reducible exact sub_ii | with_reducible exact neg_i | with_reducible apply mul_ii | exact okMul_small (by omega) (by omega) | exact mod_ii (by omega) | exact fdiv_ii (by omega) (by omega) | exact mod_ni (by omega) | exact fdiv_ni (by omega) (by omega) | exact pow_ii (by omega) (by omega) (by omega) | with_reducible apply ix_tup | with_reducible apply ix_lst | (simp only [List.set_cons_succ, List.set_cons_zero]; rfl) | exact rfl | exact bb | exact m1))
      · rw [if_neg hodd]
        obtain ⟨b', e1, e2⟩ := ih (k / 2) f (b * b % n) (by omega) (by omega) f0 f1 n0 n1
        have test : sIf (tB1 (d2 f_eq (d2 f_mod (cVar 1) (cK (.int 2))) (cK (.int 1)))) (sAsg (d2 f_mod (d2 f_mul (cVar 3) (cVar 4)) (cVar 2)) (gNm 3)) sNil [some (.int a), some (.int k), some (.int n), some (.int f), some (.int b)] μ = some (.nx [some (.int a), some (.int k), some (.int n), some (.int f), some (.int b)] μ) := by
          (apply ev_sIf_f; case' hc => (repeat' first | (with_reducible apply ev_var; exact rfl) | with_reducible exact ev_K | with_reducible exact ev_aNil | with_reducible exact ev_oNo | with_reducible exact ev_tAll | with_reducible exact ev_gsN | with_reducible apply ev_aCons | with_reducible apply ev_d2 | with_reducible apply ev_d1 | with_reducible apply ev_dN | with_reducible apply ev_dCall | with_reducible apply ev_dTup | with_reducible apply ev_dLst | with_reducible apply ev_dLoc | with_reducible apply ev_sl | with_reducible apply ev_oSo | with_reducible apply ev_ch2b | with_reducible apply ev_ch3b | with_reducible apply ev_tB | with_reducible apply ev_tTru | with_reducible apply ev_tNo | with_reducible apply ev_no | with_reducible apply ev_dML | with_reducible apply ev_gTu | with_reducible apply ev_gsC | with_reducible apply ev_gSb | with_reducible apply ev_gNm | (simp only [List.length_cons, List.length_nil]; exact len_le (by decide)) | exact decide_eq_true (by omega) | exact decide_eq_false (by omega) | exact ne_t (by omega) | exact ne_f (by omega) | with_reducible apply lt_ii | with_reducible apply le_ii | with_reducible apply gt_ii | with_reducible apply ge_ii | with_reducible apply eq_ii | with_reducible apply ne_ii | with_reducible apply eq_ss | with_reducible exact add_ii | with_reducible exact sub_ii | with_reducible exact neg_i | with_reducible apply mul_ii | exact okMul_small (by omega) (by omega) | exact mod_ii (by omega) | exact fdiv_ii (by omega) (by omega) | exact mod_ni (by omega) | exact fdiv_ni (by omega) (by omega) | exact pow_ii (by omega) (by omega) (by omega) | with_reducible apply ix_tup | with_reducible apply ix_lst | (simp only [List.set_cons_succ, List.set_cons_zero]; rfl) | exact rfl))
          exact ev_sNil
        refine ⟨b', wh_step (μ1 := μ) (μ' := μ) ?_ ?_ e1, wh_step (μ1 := μ) (μ' := μ) ?_ ?_ e2⟩
        · (repeat' first | (with_reducible apply ev_var; exact rfl) | with_reducible exact ev_K | with_reducible exact ev_aNil | with_reducible exact ev_oNo | with_reducible exact ev_tAll | with_reducible exact ev_gsN | with_reducible apply ev_aCons | with_reducible apply ev_d2 | with_reducible apply ev_d1 | with_reducible apply ev_dN | with_reducible apply ev_dCall | with_reducible apply ev_dTup | with_reducible apply ev_dLst | with_reducible apply ev_dLoc | with_reducible apply ev_sl | with_reducible apply ev_oSo | with_reducible apply ev_ch2b | with_reducible apply ev_ch3b | with_reducible apply ev_tB | with_reducible apply ev_tTru | with_reducible apply ev_tNo | with_reducible apply ev_no | with_reducible apply ev_dML | with_reducible apply ev_gTu | with_reducible apply ev_gsC | with_reducible apply ev_gSb | with_reducible apply ev_gNm | (simp only [List.length_cons, List.length_nil]; exact len_le (by decide)) | exact decide_eq_true (by omega) | exact decide_eq_false (by omega) | exact ne_t (by omega) | exact ne_f (by omega) | with_reducible apply lt_ii | with_reducible apply le_ii | with_reducible apply gt_ii | with_reducible apply ge_ii | with_reducible apply eq_ii | with_reducible apply ne_ii | with_reducible apply eq_ss | with_reducible exact add_ii | with_reducible exact sub_ii | with_reducible exact neg_i | with_reducible apply mul_ii | exact okMul_small (by omega) (by omega) | exact mod_ii (by omega) | exact fdiv_ii (by omega) (by omega) | exact mod_ni (by omega) | exact fdiv_ni (by omega) (by omega) | exact pow_ii (by omega) (by omega) (by omega) | with_reducible apply ix_tup | with_reducible apply ix_lst | (simp only [List.set_cons_succ, List.set_cons_zero]; rfl) | exact rfl)
        · apply ev_seq test
          (apply ev_seq; case' ha => ((first | with_reducible apply ev_set | with_reducible apply ev_par | with_reducible apply ev_par3 | with_reducible apply ev_asg | with_reducible apply ev_ex | with_reducible apply ev_ret | with_reducible exact ev_sNil | (with_reducible apply ev_aug; exact rfl)) <;> (repeat' first | (with_reducible apply ev_var; exact rfl) | with_reducible exact ev_K | with_reducible exact bb | with_reducible exact m1 | with_reducible exact ev_aNil | with_reducible exact ev_oNo | with_reducible exact ev_tAll | with_reducible exact ev_gsN | with_reducible apply ev_aCons | with_reducible apply ev_d2 | with_reducible apply ev_d1 | with_reducible apply ev_dN | with_reducible apply ev_dCall | with_reducible apply ev_dTup | with_reducible apply ev_dLst | with_reducible apply ev_dLoc | with_reducible apply ev_sl | with_reducible apply ev_oSo | with_reducible apply ev_ch2b | with_reducible apply ev_ch3b | with_reducible apply ev_tB | with_reducible apply ev_tTru | with_reducible apply ev_tNo | with_reducible apply ev_no | with_reducible apply ev_dML | with_reducible apply ev_gTu | with_reducible apply ev_gsC | with_reducible apply ev_gSb | with_reducible apply ev_gNm | (simp only [List.length_cons, List.length_nil]; exact len_le (by decide)) | exact decide_eq_true (by omega) | exact decide_eq_false (by omega) | exact ne_t (by omega) | exact ne_f (by omega) | with_reducible apply lt_ii | with_reducible apply le_ii | with_reducible apply gt_ii | with_reducible apply ge_ii | with_reducible apply eq_ii | with_reducible apply ne_ii | with_reducible apply eq_ss | with_reducible exact add_ii | with_reducible exact sub_ii | with_reducible exact neg_i | with_reducible apply mul_ii | exact okMul_small (by omega) (by omega) | exact mod_ii (by omega) | exact fdiv_ii (by omega) (by omega) | exact mod_ni (by omega) | exact fdiv_ni (by omega) (by omega) | exact pow_ii (by omega) (by omega) (by omega) | with_reducible apply ix_tup | with_reducible apply ix_lst | (simp only [List.set_cons_succ, List.set_cons_zero]; rfl) | exact rfl | exact bb | exact m1)))
          ((first | with_reducible apply ev_set | with_reducible apply ev_par | with_reducible apply ev_par3 | with_reducible apply ev_asg | with_reducible apply ev_ex | with_reducible apply ev_ret | with_reducible exact ev_sNil | (with_reducible apply ev_aug; exact rfl)) <;> (repeat' first | (with_reducible apply ev_var; exact rfl) | with_reducible exact ev_K | with_reducible exact ev_aNil | with_reducible exact ev_oNo | with_reducible exact ev_tAll | with_reducible exact ev_gsN | with_reducible apply ev_aCons | with_reducible apply ev_d2 | with_reducible apply ev_d1 | with_reducible apply ev_dN | with_reducible apply ev_dCall | with_reducible apply ev_dTup | with_reducible apply ev_dLst | with_reducible apply ev_dLoc | with_reducible apply ev_sl | with_reducible apply ev_oSo | with_reducible apply ev_ch2b | with_reducible apply ev_ch3b | with_reducible apply ev_tB | with_reducible apply ev_tTru | with_reducible apply ev_tNo | with_reducible apply ev_no | with_reducible apply ev_dML | with_reducible apply ev_gTu | with_reducible apply ev_gsC | with_reducible apply ev_gSb | with_reducible apply ev_gNm | (simp only [List.length_cons, List.length_nil]; exact len_le (by decide)) | exact decide_eq_true (by omega) | exact decide_eq_false (by omega) | exact ne_t (by omega) | exact ne_f (by omega) | with_reducible apply lt_ii | with_reducible apply le_ii | with_reducible apply gt_ii | with_reducible apply ge_ii | with_reducible apply eq_ii | with_reducible apply ne_ii | with_reducible apply eq_ss | with_reducible exact add_ii | with_reducible exact sub_ii | with_reducible exact neg_i | with_reducible apply mul_ii | exact okMul_small (by omega) (by omega) | exact mod_ii (by omega) | exact fdiv_ii (by omega) (by omega) | exact mod_ni (by omega) | exact fdiv_ni (by omega) (by omega) | exact pow_ii (by omega) (by omega) (by omega) | with_reducible apply ix_tup | with_reducible apply ix_lst | (simp only [List.set_cons_succ, List.set_cons_zero]; rfl) | exact rfl))
        · (repeat' first | (with_reducible apply ev_var; exact rfl) | with_reducible exact ev_K | with_reducible exact ev_aNil | with_reducible exact ev_oNo | with_reducible exact ev_tAll | with_reducible exact ev_gsN | with_reducible apply ev_aCons | with_reducible apply ev_d2 | with_reducible apply ev_d1 | with_reducible apply ev_dN | with_reducible apply ev_dCall | with_reducible apply ev_dTup | with_reducible apply ev_dLst | with_reducible apply ev_dLoc | with_reducible apply ev_sl | with_reducible apply ev_oSo | with_reducible apply ev_ch2b | with_reducible apply ev_ch3b | with_reducible apply ev_tB | with_reducible apply ev_tTru | with_reducible apply ev_tNo | with_reducible apply ev_no | with_reducible apply ev_dML | with_reducible apply ev_gTu | with_reducible apply ev_gsC | with_reducible apply ev_gSb | with_reducible apply ev_gNm | (simp only [List.length_cons, List.length_nil]; exact len_le (by decide)) | exact decide_eq_true (by omega) | exact decide_eq_false (by omega) | exact ne_t (by omega) | exact ne_f (by omega) | with_reducible apply lt_ii | with_reducible apply le_ii | with_reducible apply gt_ii | with_reducible apply ge_ii | with_reducible apply eq_ii | with_reducible apply ne_ii | with_reducible apply eq_ss | with_reducible exact add_ii | with_reducible exact sub_ii | with_reducible exact neg_i | with_reducible apply mul_ii | exact okMul_small (by omega) (by omega) | exact mod_ii (by omega) | exact fdiv_ii (by omega) (by omega) | exact mod_ni (by omega) | exact fdiv_ni (by omega) (by omega) | exact pow_ii (by omega) (by omega) (by omega) | with_reducible apply ix_tup | with_reducible apply ix_lst | (simp only [List.set_cons_succ, List.set_cons_zero]; rfl) | exact rfl)
        · apply ev_seq test
          ((first | with_reducible apply ev_set | with_reducible apply ev_par | with_reducible apply ev_par3 | with_reducible apply ev_asg | with_reducible apply ev_ex | with_reducible apply ev_ret | with_reducible exact ev_sNil | (with_reducible apply ev_aug; exact rfl)) <;> (repeat' first | (with_reducible apply ev_var; exact rfl) | with_reducible exact ev_K | with_reducible exact bb | with_reducible exact m1 | with_reducible exact ev_aNil | with_reducible exact ev_oNo | with_reducible exact ev_tAll | with_reducible exact ev_gsN | with_reducible apply ev_aCons | with_reducible apply ev_d2 | with_reducible apply ev_d1 | with_reducible apply ev_dN | with_reducible apply ev_dCall | with_reducible apply ev_dTup | with_reducible apply ev_dLst | with_reducible apply ev_dLoc | with_reducible apply ev_sl | with_reducible apply ev_oSo | with_reducible apply ev_ch2b | with_reducible apply ev_ch3b | with_reducible apply ev_tB | with_reducible apply ev_tTru | with_reducible apply ev_tNo | with_reducible apply ev_no | with_reducible apply ev_dML | with_reducible apply ev_gTu | with_reducible apply ev_gsC | with_reducible apply ev_gSb | with_reducible apply ev_gNm | (simp only [List.length_cons, List.length_nil]; exact len_le (by decide)) | exact decide_eq_true (by omega) | exact decide_eq_false (by omega) | exact ne_t (by omega) | exact ne_f (by omega) | with_reducible apply lt_ii | with_reducible apply le_ii | with_reducible apply gt_ii | with_reducible apply ge_ii | with_reducible apply eq_ii | with_reducible apply ne_ii | with_reducible apply eq_ss | with_reducible exact add_ii | with_reducible exact sub_ii | with_reducible exact neg_i | with_reducible apply mul_ii | exact okMul_small (by omega) (by omega) | exact mod_ii (by omega) | exact fdiv_ii (by omega) (by omega) | exact mod_ni (by omega) | exact fdiv_ni (by omega) (by omega) | exact pow_ii (by omega) (by omega) (by omega) | with_reducible apply ix_tup | with_reducible apply ix_lst | (simp only [List.set_cons_succ, List.set_cons_zero]; rfl) | exact rfl | exact bb | exact m1))
theorem pow_ok {a k n : Int} (hn : 0 < n) (hn2 : n < 2 ^ 90) (hk : 0 ≤ k) (μ : Sto) : p_pow [.int a, .int k, .int n] μ = some (.int (pw a k n), μ) ∧ p_lpow [.int a, .int k, .int n] μ = some (.int (pw a k n), μ) := by
  have m1 : f_mod (.int 1) (.int n) μ = some (.int (1 % n), μ) := mod_ii hn
  have m2 : f_mod (.int a) (.int n) μ = some (.int (a % n), μ) := mod_ii hn
  obtain ⟨b', e1, e2⟩ := pow_loop (a := a) hn hn2 μ k.toNat k (1 % n) (a % n) (Nat.le_refl _) hk (Int.emod_nonneg _ (by omega)) (Int.emod_lt_of_pos _ hn) (Int.emod_nonneg _ (by omega)) (Int.emod_lt_of_pos _ hn)
  constructor
  · refine runF_rt (ρ := [some (.int a), some (.int k), some (.int n), none, none]) rfl ?_
    unfold dPow
    (apply ev_seq; case' ha => ((first | with_reducible apply ev_set | with_reducible apply ev_par | with_reducible apply ev_par3 | with_reducible apply ev_asg | with_reducible apply ev_ex | with_reducible apply ev_ret | with_reducible exact ev_sNil | (with_reducible apply ev_aug; exact rfl)) <;> (repeat' first | (with_reducible apply ev_var; exact rfl) | with_reducible exact ev_K | with_reducible exact m1 | with_reducible exact m2 | with_reducible exact ev_aNil | with_reducible exact ev_oNo | with_reducible exact ev_tAll | with_reducible exact ev_gsN | with_reducible apply ev_aCons | with_reducible apply ev_d2 | with_reducible apply ev_d1 | with_reducible apply ev_dN | with_reducible apply ev_dCall | with_reducible apply ev_dTup | with_reducible apply ev_dLst | with_reducible apply ev_dLoc | with_reducible apply ev_sl | with_reducible apply ev_oSo | with_reducible apply ev_ch2b | with_reducible apply ev_ch3b | with_reducible apply ev_tB | with_reducible apply ev_tTru | with_reducible apply ev_tNo | with_reducible apply ev_no | with_reducible apply ev_dML | with_reducible apply ev_gTu | with_reducible apply ev_gsC | with_reducible apply ev_gSb | with_reducible apply ev_gNm | (simp only [List.length_cons, List.length_nil]; exact len_le (by decide)) | exact decide_eq_true (by omega) | exact decide_eq_false (by omega) | exact ne_t (by omega) | exact ne_f (by omega) | with_reducible apply lt_ii | with_reducible apply le_ii | with_reducible apply gt_ii | with_reducible apply ge_ii | with_reducible apply eq_ii | with_reducible apply ne_ii | with_reducible apply eq_ss | with_reducible exact add_ii | with_reducible exact sub_ii | with_reducible exact neg_i | with_reducible apply mul_ii | exact okMul_small (by omega) (by omega) | exact mod_ii (by omega) | exact fdiv_ii (by omega) (by omega) | exact mod_ni (by omega) | exact fdiv_ni (by omega) (by omega) | exact pow_ii (by omega) (by omega) (by omega) | with_reducible apply ix_tup | with_reducible apply ix_lst | (simp only [List.set_cons_succ, List.set_cons_zero]; rfl) | exact rfl | exact m1 | exact m2)))
    apply ev_seq e1
    exact ev_ret (ev_var rfl)
  · refine runF_rt (ρ := [some (.int a), some (.int k), some (.int n), none, none]) rfl ?_
    unfold dLpow
    (apply ev_seq; case' ha => ((first | with_reducible apply ev_set | with_reducible apply ev_par | with_reducible apply ev_par3 | with_reducible apply ev_asg | with_reducible apply ev_ex | with_reducible apply ev_ret | with_reducible exact ev_sNil | (with_reducible apply ev_aug; exact rfl)) <;> (repeat' first | (with_reducible apply ev_var; exact rfl) | with_reducible exact ev_K | with_reducible exact m1 | with_reducible exact m2 | with_reducible exact ev_aNil | with_reducible exact ev_oNo | with_reducible exact ev_tAll | with_reducible exact ev_gsN | with_reducible apply ev_aCons | with_reducible apply ev_d2 | with_reducible apply ev_d1 | with_reducible apply ev_dN | with_reducible apply ev_dCall | with_reducible apply ev_dTup | with_reducible apply ev_dLst | with_reducible apply ev_dLoc | with_reducible apply ev_sl | with_reducible apply ev_oSo | with_reducible apply ev_ch2b | with_reducible apply ev_ch3b | with_reducible apply ev_tB | with_reducible apply ev_tTru | with_reducible apply ev_tNo | with_reducible apply ev_no | with_reducible apply ev_dML | with_reducible apply ev_gTu | with_reducible apply ev_gsC | with_reducible apply ev_gSb | with_reducible apply ev_gNm | (simp only [List.length_cons, List.length_nil]; exact len_le (by decide)) | exact decide_eq_true (by omega) | exact decide_eq_false (by omega) | exact ne_t (by omega) | exact ne_f (by omega) | with_reducible apply lt_ii | with_reducible apply le_ii | with_reducible apply gt_ii | with_reducible apply ge_ii | with_reducible apply eq_ii | with_reducible apply ne_ii | with_reducible apply eq_ss | with_reducible exact add_ii | with_reducible exact sub_ii | with_reducible exact neg_i | with_reducible apply mul_ii | exact okMul_small (by omega) (by omega) | exact mod_ii (by omega) | exact fdiv_ii (by omega) (by omega) | exact mod_ni (by omega) | exact fdiv_ni (by omega) (by omega) | exact pow_ii (by omega) (by omega) (by omega) | with_reducible apply ix_tup | with_reducible apply ix_lst | (simp only [List.set_cons_succ, List.set_cons_zero]; rfl) | exact rfl | exact m1 | exact m2)))
    apply ev_seq e2
    exact ev_ret (ev_var rfl)
/-! ### primes and exponents -/
def pq (q : Nat × Nat) : PV := .tup [.int (q.1 : Int), .int (q.2 : Int)]
theorem ok_pq (m : Nat) : ∀ L : List (Nat × Nat), okLs m (L.map pq) = true
  | [] => rfl
  | q :: L => by
    show (okL m (pq q) && okLs m (L.map pq)) = true
    rw [ok_pq m L]; rfl
noncomputable def dPof : DenS :=
  (sSeq (sAsg (dLoc aNil) (gNm 1))
  (sSeq (sAsg (cK (.int 2)) (gNm 2))
  (sSeq (sWh (tB1 (d2 f_le (d2 f_mul (cVar 2) (cVar 2)) (cVar 0))) (sSeq (sAsg (cK (.int 0)) (gNm 3))
  (sSeq (sWh (tB1 (d2 f_eq (d2 f_mod (cVar 0) (cVar 2)) (cK (.int 0)))) (sSeq (sAsg (d2 f_fdiv (cVar 0) (cVar 2)) (gNm 0))
  (sAug 3 g_add (cK (.int 1)))))
  (sSeq (sIf (tB1 (d2 f_gt (cVar 3) (cK (.int 0)))) (sEx (dML f_app (cVar 1) (aCons (dTup (aCons (cVar 2) (aCons (cVar 3) aNil))) aNil))) sNil)
  (sAug 2 g_add (dIf (tB1 (d2 f_eq (cVar 2) (cK (.int 2)))) (cK (.int 1)) (cK (.int 2))))))))
  (sSeq (sIf (tB1 (d2 f_gt (cVar 0) (cK (.int 1)))) (sEx (dML f_app (cVar 1) (aCons (dTup (aCons (cVar 0) (aCons (cK (.int 1)) aNil))) aNil))) sNil)
  (sRet (dN f_tuple (aCons (cVar 1) aNil)))))))
noncomputable def dLprs : DenS :=
  (sSeq (sPar 1 2 (aCons (dLoc aNil) (aCons (cK (.int 2)) aNil)))
  (sSeq (sWh (tB1 (d2 f_le (d2 f_mul (cVar 2) (cVar 2)) (cVar 0))) (sSeq (sAsg (cK (.int 0)) (gNm 3))
  (sSeq (sWh (tB1 (d2 f_eq (d2 f_mod (cVar 0) (cVar 2)) (cK (.int 0)))) (sPar 0 3 (aCons (d2 f_fdiv (cVar 0) (cVar 2)) (aCons (d2 f_add (cVar 3) (cK (.int 1))) aNil))))
  (sSeq (sIf (tB1 (d2 f_gt (cVar 3) (cK (.int 0)))) (sEx (dML f_app (cVar 1) (aCons (dTup (aCons (cVar 2) (aCons (cVar 3) aNil))) aNil))) sNil)
  (sAsg (d2 f_add (cVar 2) (cK (.int 1))) (gNm 2))))))
  (sRet (d2 f_add (cVar 1) (dIf (tB1 (d2 f_gt (cVar 0) (cK (.int 1)))) (dLst (aCons (dTup (aCons (cVar 0) (aCons (cK (.int 1)) aNil))) aNil)) (dLst aNil))))))
noncomputable def p_pof : Fn := runZ 4 dPof
noncomputable def p_lprs : Fn := runZ 4 dLprs
theorem mod_nn {n p : Nat} (hp : 0 < p) (μ : Sto) : f_mod (.int n) (.int p) μ = some (.int ((n % p : Nat) : Int), μ) := by rw [mod_ii (by omega)]; rfl
theorem div_nn {n p : Nat} (hp : 0 < p) (h2 : p < 2 ^ 90) (μ : Sto) : f_fdiv (.int n) (.int p) μ = some (.int ((n / p : Nat) : Int), μ) := by rw [fdiv_ii (by omega) (by omega)]; rfl
def stA : DenS := (sSeq (sAsg (d2 f_fdiv (cVar 0) (cVar 2)) (gNm 0)) (sAug 3 g_add (cK (.int 1))))
def stB : DenS := (sPar 0 3 (aCons (d2 f_fdiv (cVar 0) (cVar 2)) (aCons (d2 f_add (cVar 3) (cK (.int 1))) aNil)))
theorem strip_loop {p : Nat} (hp : 2 ≤ p) (hp2 : p < 2 ^ 90) (F : PV) (μ : Sto) : ∀ (k n e : Nat), 0 < n → n ≤ k →
    sWh (tB1 (d2 f_eq (d2 f_mod (cVar 0) (cVar 2)) (cK (.int 0)))) stA [some (.int n), some F, some (.int p), some (.int e)] μ = some (.nx [some (.int ((stripN p k n e).2 : Nat)), some F, some (.int p), some (.int ((stripN p k n e).1 : Nat))] μ) ∧
    sWh (tB1 (d2 f_eq (d2 f_mod (cVar 0) (cVar 2)) (cK (.int 0)))) stB [some (.int n), some F, some (.int p), some (.int e)] μ = some (.nx [some (.int ((stripN p k n e).2 : Nat)), some F, some (.int p), some (.int ((stripN p k n e).1 : Nat))] μ)
  | 0, n, e, h, h2 => by omega
  | k + 1, n, e, h, h2 => by
    have m := mod_nn (n := n) (p := p) (by omega) μ
    have d := div_nn (n := n) (p := p) (by omega) hp2 μ
    unfold stripN
    by_cases hz : n % p = 0
    · rw [if_pos hz]
      have hlt : n / p < n := Nat.div_lt_self h hp
      have h0 : 0 < n / p := Nat.div_pos (Nat.le_of_dvd h (Nat.dvd_of_mod_eq_zero hz)) (by omega)
      obtain ⟨e1, e2⟩ := strip_loop hp hp2 F μ k (n / p) (e + 1) h0 (by omega)
      have t : f_eq (.int ((n % p : Nat) : Int)) (.int 0) μ = some (.bl true, μ) := eq_ii (decide_eq_true (by omega))
      have ad : f_add (.int (e : Int)) (.int 1) μ = some (.int ((e + 1 : Nat) : Int), μ) := rfl
      have ga : g_add (.int (e : Int)) (.int 1) μ = some (.int ((e + 1 : Nat) : Int), μ) := rfl
      constructor
      · refine wh_step (μ1 := μ) (μ' := μ) (ev_tB (ev_d2 (ev_d2 (ev_var rfl) (ev_var rfl) m) ev_K t)) ?_ e1
        unfold stA
        exact ev_seq (ev_set (ev_d2 (ev_var rfl) (ev_var rfl) d) rfl) (ev_aug rfl ev_K ga rfl)
      · refine wh_step (μ1 := μ) (μ' := μ) (ev_tB (ev_d2 (ev_d2 (ev_var rfl) (ev_var rfl) m) ev_K t)) ?_ e2
        unfold stB
        exact ev_par (ev_aCons (ev_d2 (ev_var rfl) (ev_var rfl) d) (ev_aCons (ev_d2 (ev_var rfl) ev_K ad) ev_aNil)) rfl
    · rw [if_neg hz]
      have t : f_eq (.int ((n % p : Nat) : Int)) (.int 0) μ = some (.bl false, μ) := eq_ii (decide_eq_false (by omega))
      exact ⟨wh_done (ev_tB (ev_d2 (ev_d2 (ev_var rfl) (ev_var rfl) m) ev_K t)), wh_done (ev_tB (ev_d2 (ev_d2 (ev_var rfl) (ev_var rfl) m) ev_K t))⟩
theorem app_loc {μ : Sto} {xs : List PV} {y : PV} (h : xs.length < 1000) : f_app (.loc μ.length) [y] (μ ++ [.lst xs]) = some (.non, μ ++ [.lst (xs ++ [y])]) := by
  have e : (μ ++ [Ob.lst xs])[μ.length]? = some (.lst xs) := by rw [List.getElem?_append_right (Nat.le_refl _), Nat.sub_self]; rfl
  unfold f_app
  simp only [e]
  rw [if_pos (Nat.lt_of_lt_of_le h (sz (Nat.le_refl 1000)))]
  congr 2
  rw [List.set_append_right _ _ (Nat.le_refl _), Nat.sub_self]
  rfl
theorem isLs_end {μ : Sto} {xs : List PV} : isLs (μ ++ [.lst xs]) (.loc μ.length) = true := by
  unfold isLs
  have e : (μ ++ [Ob.lst xs])[μ.length]? = some (.lst xs) := by rw [List.getElem?_append_right (Nat.le_refl _), Nat.sub_self]; rfl
  simp only [rdL, e]
  try rfl
/-- the pair is kept where p divides -/
theorem keep_ok {n p e : Nat} {L : List (Nat × Nat)} (hl : L.length < 900) (μ : Sto) :
    sIf (tB1 (d2 f_gt (cVar 3) (cK (.int 0)))) (sEx (dML f_app (cVar 1) (aCons (dTup (aCons (cVar 2) (aCons (cVar 3) aNil))) aNil))) sNil [some (.int n), some (.loc μ.length), some (.int p), some (.int e)] (μ ++ [.lst (L.map pq)])
      = some (.nx [some (.int n), some (.loc μ.length), some (.int p), some (.int e)] (μ ++ [.lst ((if 0 < e then L ++ [(p, e)] else L).map pq)])) := by
  by_cases h : 0 < e
  · rw [if_pos h, List.map_append]
    have a := app_loc (μ := μ) (xs := L.map pq) (y := pq (p, e)) (by rw [List.length_map]; omega)
    exact ev_sIf_t (ev_tB (ev_d2 (ev_var rfl) ev_K (gt_ii (decide_eq_true (by omega))))) (ev_ex (ev_dML (ev_var rfl) isLs_end (ev_aCons (ev_dTup (ev_aCons (ev_var rfl) (ev_aCons (ev_var rfl) ev_aNil)) (len_le (by show 2 ≤ 1000; decide))) ev_aNil) a))
  · rw [if_neg h]
    exact ev_sIf_f (ev_tB (ev_d2 (ev_var rfl) ev_K (gt_ii (decide_eq_false (by omega))))) ev_sNil
noncomputable def poB : DenS := (sSeq (sAsg (cK (.int 0)) (gNm 3))
  (sSeq (sWh (tB1 (d2 f_eq (d2 f_mod (cVar 0) (cVar 2)) (cK (.int 0)))) stA)
  (sSeq (sIf (tB1 (d2 f_gt (cVar 3) (cK (.int 0)))) (sEx (dML f_app (cVar 1) (aCons (dTup (aCons (cVar 2) (aCons (cVar 3) aNil))) aNil))) sNil)
  (sAug 2 g_add (dIf (tB1 (d2 f_eq (cVar 2) (cK (.int 2)))) (cK (.int 1)) (cK (.int 2)))))))
noncomputable def lpB : DenS := (sSeq (sAsg (cK (.int 0)) (gNm 3))
  (sSeq (sWh (tB1 (d2 f_eq (d2 f_mod (cVar 0) (cVar 2)) (cK (.int 0)))) stB)
  (sSeq (sIf (tB1 (d2 f_gt (cVar 3) (cK (.int 0)))) (sEx (dML f_app (cVar 1) (aCons (dTup (aCons (cVar 2) (aCons (cVar 3) aNil))) aNil))) sNil)
  (sAsg (d2 f_add (cVar 2) (cK (.int 1))) (gNm 2)))))
theorem sq_test {p n : Nat} (hp : p < 2 ^ 60) {b : Bool} (h : decide (p * p ≤ n) = b) {F : PV} {o3 : Option PV} (μ : Sto) : tB1 (d2 f_le (d2 f_mul (cVar 2) (cVar 2)) (cVar 0)) [some (.int n), some F, some (.int p), o3] μ = some (b, μ) := by
  have m : f_mul (.int (p : Int)) (.int (p : Int)) μ = some (.int ((p * p : Nat) : Int), μ) := mul_ii (okMul_small (by omega) (by omega))
  refine ev_tB (ev_d2 (ev_d2 (ev_var rfl) (ev_var rfl) m) (ev_var rfl) (le_ii ?_))
  rw [← h]
  apply decide_eq_decide.mpr
  omega
theorem sq_lt {p n : Nat} (h : p * p ≤ n) (hn : n < 2 ^ 60) : p < 2 ^ 30 := by
  by_cases z : p < 2 ^ 30
  · exact z
  · have := Nat.mul_le_mul (show 2 ^ 30 ≤ p by omega) (show 2 ^ 30 ≤ p by omega)
    omega
theorem pof_loop {n0 : Nat} (hn0 : n0 < 2 ^ 60) (μ : Sto) : ∀ (k p n : Nat) (L : List (Nat × Nat)) (o3 : Option PV), TD n0 p n L → n < (p + k) * (p + k) → (p = 2 ∨ p % 2 = 1) → p < 2 ^ 31 →
    ∃ (p' n' : Nat) (L' : List (Nat × Nat)) (o3' : Option PV), TD n0 p' n' L' ∧ n' < p' * p' ∧ sWh (tB1 (d2 f_le (d2 f_mul (cVar 2) (cVar 2)) (cVar 0))) poB [some (.int n), some (.loc μ.length), some (.int p), o3] (μ ++ [.lst (L.map pq)]) = some (.nx [some (.int n'), some (.loc μ.length), some (.int p'), o3'] (μ ++ [.lst (L'.map pq)]))
  | k, p, n, L, o3, I, hk, hp, hp31 => by
    by_cases h : p * p ≤ n
    · match k, hk with
      | 0, hk => rw [Nat.add_zero] at hk; omega
      | k + 1, hk =>
        have p2 := I.p2
        have hle := I.le
        have p30 := sq_lt h (by omega)
        obtain ⟨a, b, c⟩ := stripN_ok p2 n n 0 I.n1 (Nat.le_refl _)
        rw [Nat.pow_zero, Nat.one_mul] at a
        obtain ⟨e1, _⟩ := strip_loop p2 (by omega) (.loc μ.length) (μ ++ [.lst (L.map pq)]) n n 0 I.n1 (Nat.le_refl _)
        have J := I.turn a b
        have hle2 : (stripN p n n 0).2 ≤ n := Nat.le_of_dvd I.n1 ⟨_, by rw [Nat.mul_comm]; exact a⟩
        have kp := keep_ok (n := (stripN p n n 0).2) (p := p) (e := (stripN p n n 0).1) (L := L) (by have := I.len hn0; omega) μ
        generalize (stripN p n n 0).2 = n1 at *
        generalize (stripN p n n 0).1 = e at *
        have go : ∀ p1 : Nat, TD n0 p1 n1 (if 0 < e then L ++ [(p, e)] else L) → p + 1 ≤ p1 → p1 ≤ p + 2 → (p1 = 2 ∨ p1 % 2 = 1) → sAug 2 g_add (dIf (tB1 (d2 f_eq (cVar 2) (cK (.int 2)))) (cK (.int 1)) (cK (.int 2))) [some (.int n1), some (.loc μ.length), some (.int p), some (.int e)] (μ ++ [.lst ((if 0 < e then L ++ [(p, e)] else L).map pq)]) = some (.nx [some (.int n1), some (.loc μ.length), some (.int p1), some (.int e)] (μ ++ [.lst ((if 0 < e then L ++ [(p, e)] else L).map pq)])) →
            ∃ (p' n' : Nat) (L' : List (Nat × Nat)) (o3' : Option PV), TD n0 p' n' L' ∧ n' < p' * p' ∧ sWh (tB1 (d2 f_le (d2 f_mul (cVar 2) (cVar 2)) (cVar 0))) poB [some (.int n), some (.loc μ.length), some (.int p), o3] (μ ++ [.lst (L.map pq)]) = some (.nx [some (.int n'), some (.loc μ.length), some (.int p'), o3'] (μ ++ [.lst (L'.map pq)])) := fun p1 J1 l1 l2 par au => by
          obtain ⟨p', n', L', o3', i1, i2, i3⟩ := pof_loop hn0 μ k p1 n1 _ (some (.int e)) J1 (by
            have := Nat.mul_le_mul (show p + (k + 1) ≤ p1 + k by omega) (show p + (k + 1) ≤ p1 + k by omega)
            omega) par (by omega)
          refine ⟨p', n', L', o3', i1, i2, wh_step (sq_test (by omega) (decide_eq_true h) _) ?_ i3⟩
          unfold poB
          exact ev_seq (ev_set ev_K rfl) (ev_seq e1 (ev_seq kp au))
        by_cases h2 : p = 2
        · refine go (p + 1) J (Nat.le_refl _) (by omega) (.inr (by omega)) ?_
          have g : g_add (.int (p : Int)) (.int 1) (μ ++ [.lst ((if 0 < e then L ++ [(p, e)] else L).map pq)]) = some (.int ((p + 1 : Nat) : Int), (μ ++ [.lst ((if 0 < e then L ++ [(p, e)] else L).map pq)])) := rfl
          exact ev_aug rfl (ev_if_t (ev_tB (ev_d2 (ev_var rfl) ev_K (eq_ii (decide_eq_true (by omega))))) ev_K) g rfl
        · have par : (p + 1) % 2 = 0 := by omega
          refine go (p + 2) (J.skip par (by omega)) (by omega) (Nat.le_refl _) (.inr (by omega)) ?_
          have g : g_add (.int (p : Int)) (.int 2) (μ ++ [.lst ((if 0 < e then L ++ [(p, e)] else L).map pq)]) = some (.int ((p + 2 : Nat) : Int), (μ ++ [.lst ((if 0 < e then L ++ [(p, e)] else L).map pq)])) := rfl
          exact ev_aug rfl (ev_if_f (ev_tB (ev_d2 (ev_var rfl) ev_K (eq_ii (decide_eq_false (by omega))))) ev_K) g rfl
    · exact ⟨p, n, L, o3, I, by omega, wh_done (sq_test (by omega) (decide_eq_false h) _)⟩
theorem lprs_loop {n0 : Nat} (hn0 : n0 < 2 ^ 60) (μ : Sto) : ∀ (k p n : Nat) (L : List (Nat × Nat)) (o3 : Option PV), TD n0 p n L → n < (p + k) * (p + k) → p < 2 ^ 31 →
    ∃ (p' n' : Nat) (L' : List (Nat × Nat)) (o3' : Option PV), TD n0 p' n' L' ∧ n' < p' * p' ∧ sWh (tB1 (d2 f_le (d2 f_mul (cVar 2) (cVar 2)) (cVar 0))) lpB [some (.int n), some (.loc μ.length), some (.int p), o3] (μ ++ [.lst (L.map pq)]) = some (.nx [some (.int n'), some (.loc μ.length), some (.int p'), o3'] (μ ++ [.lst (L'.map pq)]))
  | k, p, n, L, o3, I, hk, hp31 => by
    by_cases h : p * p ≤ n
    · match k, hk with
      | 0, hk => rw [Nat.add_zero] at hk; omega
      | k + 1, hk =>
        have p2 := I.p2
        have hle := I.le
        have p30 := sq_lt h (by omega)
        obtain ⟨a, b, c⟩ := stripN_ok p2 n n 0 I.n1 (Nat.le_refl _)
        rw [Nat.pow_zero, Nat.one_mul] at a
        obtain ⟨_, e1⟩ := strip_loop p2 (by omega) (.loc μ.length) (μ ++ [.lst (L.map pq)]) n n 0 I.n1 (Nat.le_refl _)
        have J := I.turn a b
        have hle2 : (stripN p n n 0).2 ≤ n := Nat.le_of_dvd I.n1 ⟨_, by rw [Nat.mul_comm]; exact a⟩
        have kp := keep_ok (n := (stripN p n n 0).2) (p := p) (e := (stripN p n n 0).1) (L := L) (by have := I.len hn0; omega) μ
        generalize (stripN p n n 0).2 = n1 at *
        generalize (stripN p n n 0).1 = e at *
        obtain ⟨p', n', L', o3', i1, i2, i3⟩ := lprs_loop hn0 μ k (p + 1) n1 _ (some (.int e)) J (by
            rw [show p + 1 + k = p + (k + 1) by omega]
            omega) (by omega)
        refine ⟨p', n', L', o3', i1, i2, wh_step (sq_test (by omega) (decide_eq_true h) _) ?_ i3⟩
        have g : f_add (.int (p : Int)) (.int 1) (μ ++ [.lst ((if 0 < e then L ++ [(p, e)] else L).map pq)]) = some (.int ((p + 1 : Nat) : Int), (μ ++ [.lst ((if 0 < e then L ++ [(p, e)] else L).map pq)])) := rfl
        unfold lpB
        exact ev_seq (ev_set ev_K rfl) (ev_seq e1 (ev_seq kp (ev_set (ev_d2 (ev_var rfl) ev_K g) rfl)))
    · exact ⟨p, n, L, o3, I, by omega, wh_done (sq_test (by omega) (decide_eq_false h) _)⟩
theorem end_lst {μ : Sto} {xs : List PV} : (μ ++ [Ob.lst xs])[μ.length]? = some (.lst xs) := by rw [List.getElem?_append_right (Nat.le_refl _), Nat.sub_self]; rfl
theorem start_sq (n : Nat) : n < (2 + n) * (2 + n) := by
  have : (2 + n) * (2 + n) = n * n + 4 * n + 4 := by grind
  omega
theorem pof_ok {n : Nat} (h : 0 < n) (hn : n < 2 ^ 60) (μ : Sto) : p_pof [.int n] μ = some (.tup ((pfl n).map pq), μ) := by
  obtain ⟨p', n', L', o3', I, hlt, hw⟩ := pof_loop hn μ n 2 n [] none (TD.start h) (start_sq n) (.inl rfl) (by decide)
  obtain ⟨d1, d2⟩ := I.done hlt
  have e := pfl_of h d1 d2
  rw [← e]
  have ll := I.len hn
  refine runZ_v (ρ := [some (.int n), none, none, none]) (g := [.lst ((if 1 < n' then L' ++ [(n', 1)] else L').map pq)]) rfl ?_ (fun l => by intro h; cases h) (ok_pq _ _)
  unfold dPof
  apply ev_seq (ρ' := [some (.int n), some (.loc μ.length), none, none]) (μ' := μ ++ [.lst []])
  case ha => rfl
  apply ev_seq (ρ' := [some (.int n), some (.loc μ.length), some (.int ((2 : Nat) : Int)), none]) (μ' := μ ++ [.lst []])
  case ha => rfl
  apply ev_seq hw
  have tup : f_tuple [.loc μ.length] (μ ++ [.lst ((if 1 < n' then L' ++ [(n', 1)] else L').map pq)]) = some (.tup ((if 1 < n' then L' ++ [(n', 1)] else L').map pq), μ ++ [.lst ((if 1 < n' then L' ++ [(n', 1)] else L').map pq)]) := by
    show Option.map _ (rdL _ (.loc μ.length)) = _
    simp only [rdL, end_lst]
    rfl
  refine ev_seq (ρ' := [some (.int n'), some (.loc μ.length), some (.int p'), o3']) (μ' := μ ++ [.lst ((if 1 < n' then L' ++ [(n', 1)] else L').map pq)]) ?_ (ev_ret (ev_dN (ev_aCons (ev_var rfl) ev_aNil) tup))
  by_cases h1 : 1 < n'
  · rw [if_pos h1, List.map_append]
    have a := app_loc (μ := μ) (xs := L'.map pq) (y := pq (n', 1)) (by rw [List.length_map]; omega)
    exact ev_sIf_t (ev_tB (ev_d2 (ev_var rfl) ev_K (gt_ii (decide_eq_true (by omega))))) (ev_ex (ev_dML (ev_var rfl) isLs_end (ev_aCons (ev_dTup (ev_aCons (ev_var rfl) (ev_aCons ev_K ev_aNil)) (len_le (by show 2 ≤ 1000; decide))) ev_aNil) a))
  · rw [if_neg h1]
    exact ev_sIf_f (ev_tB (ev_d2 (ev_var rfl) ev_K (gt_ii (decide_eq_false (by omega))))) ev_sNil
theorem lprs_ok {n : Nat} (h : 0 < n) (hn : n < 2 ^ 60) (μ : Sto) : p_lprs [.int n] μ = some (.lst ((pfl n).map pq), μ) := by
  obtain ⟨p', n', L', o3', I, hlt, hw⟩ := lprs_loop hn μ n 2 n [] none (TD.start h) (start_sq n) (by decide)
  obtain ⟨d1, d2⟩ := I.done hlt
  have e := pfl_of h d1 d2
  rw [← e]
  have ll := I.len hn
  refine runZ_v (ρ := [some (.int n), none, none, none]) (g := [.lst (L'.map pq)]) rfl ?_ (fun l => by intro h; cases h) (ok_pq _ _)
  unfold dLprs
  apply ev_seq (ρ' := [some (.int n), some (.loc μ.length), some (.int ((2 : Nat) : Int)), none]) (μ' := μ ++ [.lst []])
  case ha => rfl
  apply ev_seq hw
  have tail : ∀ M : List (Nat × Nat), M.length ≤ 1 → f_add (.loc μ.length) (.lst (M.map pq)) (μ ++ [.lst (L'.map pq)]) = some (.lst ((L' ++ M).map pq), μ ++ [.lst (L'.map pq)]) := fun M hM => by
    unfold f_add
    simp only [rdL, end_lst]
    rw [if_pos (len_le (by rw [List.length_map, List.length_map]; omega)), List.map_append]
  apply ev_ret
  by_cases h1 : 1 < n'
  · rw [if_pos h1]
    exact ev_d2 (ev_var rfl) (ev_if_t (ev_tB (ev_d2 (ev_var rfl) ev_K (gt_ii (decide_eq_true (by omega))))) (ev_dLst (ev_aCons (ev_dTup (ev_aCons (ev_var rfl) (ev_aCons ev_K ev_aNil)) (len_le (by show 2 ≤ 1000; decide))) ev_aNil) (len_le (by show 1 ≤ 1000; decide)))) (tail [(n', 1)] (Nat.le_refl _))
  · rw [if_neg h1]
    have t0 := tail [] (Nat.zero_le _)
    rw [List.append_nil] at t0
    exact ev_d2 (ev_var rfl) (ev_if_f (ev_tB (ev_d2 (ev_var rfl) ev_K (gt_ii (decide_eq_false (by omega))))) (ev_dLst ev_aNil (Nat.zero_le _))) t0
end Fd

/-! FdE: divisors, units, primes: the program's own, shared by many laws. -/
namespace Fd
open PySem PySem.Spec PyProof.Rows L2 Nm
def nI (k : Nat) : PV := .int (k : Int)
theorem ok_nI (m : Nat) : ∀ L : List Nat, okLs m (L.map nI) = true
  | [] => rfl
  | q :: L => by
    show (okL m (nI q) && okLs m (L.map nI)) = true
    rw [ok_nI m L]; rfl
/-! ### a number of units -/
noncomputable def dUof (p_parts_of : Fn) : DenS :=
  (sSeq (sFor (itSeq (dCall 1 p_parts_of (aCons (cVar 0) aNil))) (gTu 2 (gsCons (gNm 1) (gsCons (gNm 2) gsNil))) (sAsg (d2 f_mul (d2 f_fdiv (cVar 0) (cVar 1)) (d2 f_sub (cVar 1) (cK (.int 1)))) (gNm 0)))
  (sRet (cVar 0)))
noncomputable def p_uof : Fn := runF 3 (dUof p_pof)
theorem natB {k n : Nat} (h : k ≤ n) (hn : n < 2 ^ 60) : ((k : Nat) : Int).natAbs < 2 ^ 200 := by
  rw [Int.natAbs_natCast]; exact Nat.lt_trans (Nat.lt_of_le_of_lt h hn) (by decide)
theorem uof_loop (μ : Sto) : ∀ (L : List (Nat × Nat)) (n : Nat) (o1 o2 : Option PV), (∀ q ∈ L, 0 < q.1 ∧ q.1 < 2 ^ 60) → n < 2 ^ 60 → ∃ o1' o2' : Option PV,
    forL (gTu 2 (gsCons (gNm 1) (gsCons (gNm 2) gsNil))) (sAsg (d2 f_mul (d2 f_fdiv (cVar 0) (cVar 1)) (d2 f_sub (cVar 1) (cK (.int 1)))) (gNm 0)) [] (L.map pq) [some (.int n), o1, o2] μ = some (.nx [some (.int (utF L n : Nat)), o1', o2'] μ)
  | [], n, o1, o2, _, _ => ⟨o1, o2, for_nil⟩
  | q :: L, n, o1, o2, h, hn => by
    obtain ⟨h1, h2⟩ := h q List.mem_cons_self
    have hd : n / q.1 * (q.1 - 1) ≤ n := Nat.le_trans (Nat.mul_le_mul_left _ (Nat.sub_le _ _)) (Nat.div_mul_le_self n q.1)
    obtain ⟨o1', o2', ih⟩ := uof_loop μ L (n / q.1 * (q.1 - 1)) (some (.int q.1)) (some (.int q.2)) (fun r hr => h r (List.mem_cons_of_mem _ hr)) (by omega)
    refine ⟨o1', o2', for_step (ρ1 := [some (.int n), some (.int q.1), some (.int q.2)]) (μ1 := μ) rfl ?_ chk_nil ih⟩
    have d := div_nn (n := n) (p := q.1) h1 (by omega) μ
    have s : f_sub (.int (q.1 : Int)) (.int 1) μ = some (.int ((q.1 - 1 : Nat) : Int), μ) := by
      show some (PV.int ((q.1 : Int) - 1), μ) = _
      congr 3; omega
    have hq : n / q.1 ≤ n := Nat.div_le_self _ _
    have m : f_mul (.int ((n / q.1 : Nat) : Int)) (.int ((q.1 - 1 : Nat) : Int)) μ = some (.int ((n / q.1 * (q.1 - 1) : Nat) : Int), μ) := by
      rw [mul_ii (okMul_small (natB hq hn) (natB (Nat.sub_le q.1 1) h2))]
      rw [Int.natCast_mul]
    exact ev_set (ev_d2 (ev_d2 (ev_var rfl) (ev_var rfl) d) (ev_d2 (ev_var rfl) ev_K s) m) rfl
theorem pfl_lt {n : Nat} (h : 0 < n) : ∀ q ∈ pfl n, 2 ≤ q.1 ∧ q.1 ≤ n ∧ IsP q.1 ∧ 0 < q.2 ∧ q.1 ∣ n := fun q hq => by
  obtain ⟨a, b⟩ := pfl_ok h
  have m := a.mem q hq
  have d : q.1 ∣ n := by
    rw [← b]
    exact Nat.dvd_trans (dvd_powk m.2.2) (mem_dvd hq)
  exact ⟨m.1, Nat.le_of_dvd h d, m.2.1, m.2.2, d⟩
theorem uof_ok {n : Nat} (h : 0 < n) (hn : n < 2 ^ 60) (μ : Sto) : p_uof [.int n] μ = some (.int (utF (pfl n) n : Nat), μ) := by
  obtain ⟨o1, o2, e⟩ := uof_loop μ (pfl n) n none none (fun q hq => by have := pfl_lt h q hq; omega) hn
  refine runF_rt (ρ := [some (.int n), none, none]) rfl ?_
  unfold dUof
  exact ev_seq (ev_for (it_tup (ev_dCall (ev_aCons (ev_var rfl) ev_aNil) (pof_ok h hn μ) rfl)) e) (ev_ret (ev_var rfl))
/-! ### divisors -/
noncomputable def dDof (p_parts_of : Fn) : DenS :=
  (sSeq (sAsg (dLoc (aCons (cK (.int 1)) aNil)) (gNm 1))
  (sSeq (sFor (itSeq (dCall 1 p_parts_of (aCons (cVar 0) aNil))) (gTu 2 (gsCons (gNm 2) (gsCons (gNm 3) gsNil))) (sSeq (sAsg (dLoc aNil) (gNm 4))
  (sSeq (sAsg (cK (.int 1)) (gNm 5))
  (sSeq (sFor (itRg1 (aCons (cVar 3) aNil)) (gNm 6) (sSeq (sAsg (d2 f_mul (cVar 5) (cVar 2)) (gNm 5))
  (sEx (dML f_ext (cVar 4) (aCons (dLc [7] (itSeq (cVar 1)) (gNm 7) tAll (d2 f_mul (cVar 7) (cVar 5))) aNil)))))
  (sEx (dML f_ext (cVar 1) (aCons (cVar 4) aNil)))))))
  (sRet (dN f_tuple (aCons (dN f_sorted (aCons (cVar 1) aNil)) aNil)))))
noncomputable def p_dof : Fn := runZ 8 (dDof p_pof)
noncomputable def doB2 : DenS := (sSeq (sAsg (d2 f_mul (cVar 5) (cVar 2)) (gNm 5))
  (sEx (dML f_ext (cVar 4) (aCons (dLc [7] (itSeq (cVar 1)) (gNm 7) tAll (d2 f_mul (cVar 7) (cVar 5))) aNil))))
noncomputable def doB1 : DenS := (sSeq (sAsg (dLoc aNil) (gNm 4))
  (sSeq (sAsg (cK (.int 1)) (gNm 5))
  (sSeq (sFor (itRg1 (aCons (cVar 3) aNil)) (gNm 6) doB2)
  (sEx (dML f_ext (cVar 1) (aCons (cVar 4) aNil))))))
/-- the store along the loop: the divisors, lists of before, the new ones -/
def dSt (μ : Sto) (F : List Nat) (G : List Ob) : Sto := μ ++ (Ob.lst (F.map nI) :: G)
theorem dSt_at (μ : Sto) (F : List Nat) (G : List Ob) : (dSt μ F G)[μ.length]? = some (.lst (F.map nI)) := by
  unfold dSt
  rw [List.getElem?_append_right (Nat.le_refl _), Nat.sub_self]; rfl
theorem dSt_len (μ : Sto) (F : List Nat) (G : List Ob) : (dSt μ F G).length = μ.length + 1 + G.length := by
  unfold dSt
  rw [List.length_append, List.length_cons]; omega
theorem dSt_app (μ : Sto) (F : List Nat) (G : List Ob) (o : Ob) : dSt μ F G ++ [o] = dSt μ F (G ++ [o]) := by
  unfold dSt
  rw [List.append_assoc]; rfl
theorem dSt_more (μ : Sto) (F : List Nat) (G : List Ob) (o : Ob) : (dSt μ F (G ++ [o]))[μ.length + 1 + G.length]? = some o := by
  rw [← dSt_app, List.getElem?_append_right (by rw [dSt_len]; exact Nat.le_refl _), dSt_len, Nat.sub_self]; rfl
theorem dSt_setM (μ : Sto) (F : List Nat) (G : List Ob) (o o' : Ob) : (dSt μ F (G ++ [o])).set (μ.length + 1 + G.length) o' = dSt μ F (G ++ [o']) := by
  rw [← dSt_app, ← dSt_app, List.set_append_right _ _ (by rw [dSt_len]; exact Nat.le_refl _), dSt_len, Nat.sub_self]; rfl
theorem dSt_setF (μ : Sto) (F F' : List Nat) (G : List Ob) : (dSt μ F G).set μ.length (.lst (F'.map nI)) = dSt μ F' G := by
  unfold dSt
  rw [List.set_append_right _ _ (Nat.le_refl _), Nat.sub_self]; rfl
theorem rdL_at {μ : Sto} {l : Nat} {xs : List PV} (h : μ[l]? = some (.lst xs)) : rdL μ (.loc l) = some xs := by
  simp only [rdL, h]
theorem isLs_at {μ : Sto} {l : Nat} {xs : List PV} (h : μ[l]? = some (.lst xs)) : isLs μ (.loc l) = true := by
  unfold isLs
  simp only [rdL, h]
  try rfl
theorem ext_at {μ : Sto} {l : Nat} {xs ys : List PV} {y : PV} (h : μ[l]? = some (.lst xs)) (hy : rdL μ y = some ys) (hl : xs.length + ys.length ≤ sizeLine) : f_ext (.loc l) [y] μ = some (.non, μ.set l (.lst (xs ++ ys))) := by
  unfold f_ext
  simp only [h, hy]
  rw [if_pos hl]
/-- the parts p^(a+1) F, .., p^(a+n) F -/
def moreF (F : List Nat) (p : Nat) : Nat → Nat → List Nat
  | _, 0 => []
  | a, n + 1 => F.map (· * p ^ (a + 1)) ++ moreF F p (a + 1) n
theorem moreF_len (F : List Nat) (p : Nat) : ∀ (n a : Nat), (moreF F p a n).length = n * F.length
  | 0, a => by simp [moreF]
  | n + 1, a => by
    show (F.map _ ++ moreF F p (a + 1) n).length = _
    rw [List.length_append, List.length_map, moreF_len F p n (a + 1), Nat.succ_mul]; omega
theorem moreF_snoc (F : List Nat) (p : Nat) : ∀ (n a : Nat), moreF F p a (n + 1) = moreF F p a n ++ F.map (· * p ^ (a + n + 1))
  | 0, a => by simp [moreF]
  | n + 1, a => by
    show F.map _ ++ moreF F p (a + 1) (n + 1) = F.map _ ++ moreF F p (a + 1) n ++ _
    rw [moreF_snoc F p n (a + 1), List.append_assoc, show a + 1 + n + 1 = a + (n + 1) + 1 by omega]
theorem moreF_all (F : List Nat) (p : Nat) : ∀ e : Nat, F ++ moreF F p 0 e = dvE F p e
  | 0 => by simp [moreF, dvE]
  | e + 1 => by
    rw [moreF_snoc, ← List.append_assoc, moreF_all F p e, Nat.zero_add]; rfl
theorem lt20 {a b : Nat} (h : a ≤ b) (hb : b < 2 ^ 24) : a ≤ sizeLine := Nat.le_of_lt (Nat.lt_of_le_of_lt h hb)
theorem dof_in {μ : Sto} {F : List Nat} {G : List Ob} {p : Nat} {N e : PV} (hF : ∀ f ∈ F, f < 2 ^ 30) (hlF : F.length < 2 ^ 24) (hp : p < 2 ^ 30) : ∀ (n a : Nat) (M : List Nat) (o6 : Option PV), (∀ b, b ≤ a + n → p ^ b < 2 ^ 30) → M.length + n * F.length < 2 ^ 24 →
    ∃ o6' : Option PV, forL (gNm 6) doB2 [] (rgP (a : Int) n) [some N, some (.loc μ.length), some (.int p), some e, some (.loc (μ.length + 1 + G.length)), some (.int ((p ^ a : Nat) : Int)), o6, none] (dSt μ F (G ++ [.lst (M.map nI)]))
      = some (.nx [some N, some (.loc μ.length), some (.int p), some e, some (.loc (μ.length + 1 + G.length)), some (.int ((p ^ (a + n) : Nat) : Int)), o6', none] (dSt μ F (G ++ [.lst ((M ++ moreF F p a n).map nI)])))
  | 0, a, M, o6, _, _ => ⟨o6, by show forL _ _ _ [] _ _ = _; rw [for_nil]; simp [moreF]⟩
  | n + 1, a, M, o6, hb, hl => by
    have h1 : p ^ a < 2 ^ 30 := hb a (by omega)
    have h2 : p ^ (a + 1) < 2 ^ 30 := hb (a + 1) (by omega)
    have hl' : (M ++ F.map (· * p ^ (a + 1))).length + n * F.length < 2 ^ 24 := by
      rw [Nat.succ_mul] at hl
      rw [List.length_append, List.length_map]; omega
    obtain ⟨o6', ih⟩ := dof_in (μ := μ) (G := G) (N := N) (e := e) hF hlF hp n (a + 1) (M ++ F.map (· * p ^ (a + 1))) (some (.int a)) (fun b hb' => hb b (by omega)) hl'
    refine ⟨o6', ?_⟩
    have ec : ((a + 1 : Nat) : Int) = (a : Int) + 1 := by omega
    rw [ec] at ih
    rw [show a + (n + 1) = a + 1 + n by omega]
    show _ = some (Out.nx _ (dSt μ F (G ++ [.lst ((M ++ (F.map (· * p ^ (a + 1)) ++ moreF F p (a + 1) n)).map nI)])))
    rw [← List.append_assoc M]
    refine for_step (ρ1 := [some N, some (.loc μ.length), some (.int p), some e, some (.loc (μ.length + 1 + G.length)), some (.int ((p ^ a : Nat) : Int)), some (.int a), none]) (μ1 := dSt μ F (G ++ [.lst (M.map nI)])) (ρ' := [some N, some (.loc μ.length), some (.int p), some e, some (.loc (μ.length + 1 + G.length)), some (.int ((p ^ (a + 1) : Nat) : Int)), some (.int a), none]) (μ' := dSt μ F (G ++ [.lst ((M ++ F.map (· * p ^ (a + 1))).map nI)])) rfl ?_ chk_nil ih
    have m : f_mul (.int ((p ^ a : Nat) : Int)) (.int (p : Int)) (dSt μ F (G ++ [.lst (M.map nI)])) = some (.int ((p ^ (a + 1) : Nat) : Int), dSt μ F (G ++ [.lst (M.map nI)])) := by
      rw [mul_ii (okMul_small (by omega) (by omega)), Nat.pow_succ, Int.natCast_mul]
    have comp : dLc [7] (itSeq (cVar 1)) (gNm 7) tAll (d2 f_mul (cVar 7) (cVar 5)) [some N, some (.loc μ.length), some (.int p), some e, some (.loc (μ.length + 1 + G.length)), some (.int ((p ^ (a + 1) : Nat) : Int)), some (.int a), none] (dSt μ F (G ++ [.lst (M.map nI)]))
        = some (.lst (F.map fun f => nI (f * p ^ (a + 1))), dSt μ F (G ++ [.lst (M.map nI)])) := by
      refine ev_lc (xs := F.map nI) (ch := [(μ.length, F.map nI)]) (μ1 := dSt μ F (G ++ [.lst (M.map nI)])) (ρ' := [some N, some (.loc μ.length), some (.int p), some e, some (.loc (μ.length + 1 + G.length)), some (.int ((p ^ (a + 1) : Nat) : Int)), some (.int a), none]) (it_loc (ev_var rfl) (dSt_at μ F _)) rfl ?_
      refine lc_map0 nI _ F (fun x hx => by cases List.mem_singleton.mp hx; exact dSt_at μ F _) (lt20 (Nat.le_refl _) hlF) fun f hf => ⟨_, rfl, ev_d2 (ev_var rfl) (ev_var rfl) ?_⟩
      have := hF f hf
      show f_mul (.int (f : Int)) (.int ((p ^ (a + 1) : Nat) : Int)) _ = some (.int ((f * p ^ (a + 1) : Nat) : Int), _)
      rw [mul_ii (okMul_small (by omega) (by omega)), Int.natCast_mul]
    have ex := ext_at (dSt_more μ F G (.lst (M.map nI))) (y := .lst (F.map fun f => nI (f * p ^ (a + 1)))) (ys := F.map fun f => nI (f * p ^ (a + 1))) rfl (lt20 (b := M.length + F.length) (by rw [List.length_map, List.length_map]; exact Nat.le_refl _) (by rw [Nat.succ_mul] at hl; omega))
    rw [dSt_setM] at ex
    have em : (M ++ F.map (· * p ^ (a + 1))).map nI = M.map nI ++ F.map fun f => nI (f * p ^ (a + 1)) := by
      rw [List.map_append, List.map_map]; rfl
    rw [em]
    unfold doB2
    exact ev_seq (ev_set (ev_d2 (ev_var rfl) (ev_var rfl) m) rfl) (ev_ex (ev_dML (ev_var rfl) (isLs_at (dSt_more μ F G _)) (ev_aCons comp ev_aNil) ex))
theorem dof_loop {μ : Sto} {N : PV} : ∀ (L : List (Nat × Nat)) (F : List Nat) (G : List Ob) (m b : Nat) (o2 o3 o4 o5 o6 : Option PV), Asc b L → (∀ q ∈ L, ¬ q.1 ∣ m) → DvI F m → F.length ≤ m → m * prodL L < 2 ^ 24 →
    ∃ (G' : List Ob) (o2' o3' o4' o5' o6' : Option PV), (dvs L F).length ≤ m * prodL L ∧ forL (gTu 2 (gsCons (gNm 2) (gsCons (gNm 3) gsNil))) doB1 [] (L.map pq) [some N, some (.loc μ.length), o2, o3, o4, o5, o6, none] (dSt μ F G)
      = some (.nx [some N, some (.loc μ.length), o2', o3', o4', o5', o6', none] (dSt μ (dvs L F) G'))
  | [], F, G, m, b, o2, o3, o4, o5, o6, _, _, I, hl, hm => ⟨G, o2, o3, o4, o5, o6, by show F.length ≤ m * 1; omega, for_nil⟩
  | q :: L, F, G, m, b, o2, o3, o4, o5, o6, ⟨a1, a2, a3, a4⟩, hnd, I, hl, hm => by
    have hm' : m * (q.1 ^ q.2 * prodL L) < 2 ^ 24 := hm
    have em : q.1 ^ q.2 * m * prodL L = m * (q.1 ^ q.2 * prodL L) := by ac_rfl
    have L0 := prodL_pos a4
    have le1 : q.1 ^ q.2 * m ≤ m * (q.1 ^ q.2 * prodL L) := by rw [← em]; exact Nat.le_mul_of_pos_right _ L0
    have m0 := I.m0
    have q0 : 0 < q.1 := by have := a2.1; omega
    have le2 : q.1 ^ q.2 ≤ q.1 ^ q.2 * m := Nat.le_mul_of_pos_right _ m0
    have le3 : m ≤ q.1 ^ q.2 * m := Nat.le_mul_of_pos_left _ (Nat.pow_pos q0)
    have pb : ∀ t, t ≤ q.2 → q.1 ^ t < 2 ^ 24 := fun t ht => Nat.lt_of_le_of_lt (Nat.pow_le_pow_right q0 ht) (by omega)
    have J := dvE_ok (e := q.2) a2 (hnd q List.mem_cons_self) I
    have lE : (dvE F q.1 q.2).length ≤ q.1 ^ q.2 * m := dvE_len_le a2.1 hl
    have lM : (moreF F q.1 0 q.2).length + F.length ≤ q.1 ^ q.2 * m := by
      have := lE
      rw [← moreF_all, List.length_append] at this
      omega
    have q2l : q.2 < 2 ^ 24 := by
      have := succ_le_two_pow q.2
      have h3 := Nat.pow_le_pow_left a2.1 q.2
      omega
    obtain ⟨o6', hin⟩ := dof_in (μ := μ) (F := F) (G := G) (p := q.1) (N := N) (e := .int q.2) (fun f hf => by
      have := Nat.le_of_dvd m0 ((I.mem f).mp hf); omega) (by omega) (by have := pb 1 (by omega); rw [Nat.pow_one] at this; omega) q.2 0 [] o6 (fun b hb => by have := pb b (by omega); omega) (by
      have := moreF_len F q.1 q.2 0
      show 0 + _ < _
      omega)
    rw [List.nil_append] at hin
    obtain ⟨G', p2, p3, p4, p5, p6, i1, ih⟩ := dof_loop (μ := μ) (N := N) L (dvE F q.1 q.2) (G ++ [.lst ((moreF F q.1 0 q.2).map nI)]) (q.1 ^ q.2 * m) (q.1 + 1) (some (.int q.1)) (some (.int q.2)) (some (.loc (μ.length + 1 + G.length))) (some (.int ((q.1 ^ (0 + q.2) : Nat) : Int))) o6' a4 (fun r hr hd => by
      have hr2 := a4.mem r hr
      rcases hr2.2.1.dvd_mul hd with z | z
      · rcases a2.2 _ (hr2.2.1.dvd_pow z) with e | e
        · have := hr2.2.1.1; omega
        · have := hr2.1; omega
      · exact hnd r (List.mem_cons_of_mem _ hr) z) J lE (by rw [em]; exact hm')
    refine ⟨G', p2, p3, p4, p5, p6, ?_, ?_⟩
    · show (dvs L (dvE F q.1 q.2)).length ≤ m * (q.1 ^ q.2 * prodL L)
      rw [← em]; exact i1
    · refine for_step (ρ1 := [some N, some (.loc μ.length), some (.int q.1), some (.int q.2), o4, o5, o6, none]) (μ1 := dSt μ F G) rfl ?_ chk_nil ih
      have ex := ext_at (dSt_at μ F (G ++ [.lst ((moreF F q.1 0 q.2).map nI)])) (y := .loc (μ.length + 1 + G.length)) (rdL_at (dSt_more μ F G (.lst ((moreF F q.1 0 q.2).map nI)))) (lt20 (b := q.1 ^ q.2 * m) (by rw [List.length_map, List.length_map]; omega) (by omega))
      rw [← List.map_append, dSt_setF, moreF_all] at ex
      unfold doB1
      apply ev_seq (ρ' := [some N, some (.loc μ.length), some (.int q.1), some (.int q.2), some (.loc (μ.length + 1 + G.length)), o5, o6, none]) (μ' := dSt μ F (G ++ [.lst []]))
      case ha =>
        rw [← dSt_app, ← dSt_len μ F G]
        exact ev_set (ev_dLoc ev_aNil (Nat.zero_le _)) rfl
      apply ev_seq (ρ' := [some N, some (.loc μ.length), some (.int q.1), some (.int q.2), some (.loc (μ.length + 1 + G.length)), some (.int ((q.1 ^ 0 : Nat) : Int)), o6, none]) (μ' := dSt μ F (G ++ [.lst []]))
      case ha => rfl
      apply ev_seq (ev_for (it_rg1 (j := q.2) (n := q.2) rfl (rgIn_of (by omega) (by omega)) (by omega)) hin)
      exact ev_ex (ev_dML (ev_var rfl) (isLs_at (dSt_at μ F _)) (ev_aCons (ev_var rfl) ev_aNil) ex)
/-- the divisors, ascending -/
def divL (n : Nat) : List Nat := ((List.range n).map (· + 1)).filter fun d => decide (n % d = 0)
theorem divL_mem {n : Nat} (h : 0 < n) {d : Nat} : d ∈ divL n ↔ d ∣ n := by
  unfold divL
  rw [List.mem_filter, decide_eq_true_eq]
  constructor
  · rintro ⟨_, h2⟩; exact Nat.dvd_of_mod_eq_zero h2
  · intro hd
    have := Nat.le_of_dvd h hd
    have := Nat.pos_of_dvd_of_pos hd h
    exact ⟨List.mem_map.mpr ⟨d - 1, List.mem_range.mpr (by omega), by omega⟩, Nat.mod_eq_zero_of_dvd hd⟩
theorem divL_asc (n : Nat) : (divL n).Pairwise (· < ·) := by
  unfold divL
  apply List.Pairwise.filter
  rw [List.pairwise_map]
  exact List.Pairwise.imp (fun {a b} h => by omega) List.pairwise_lt_range
theorem asc_of_srt {l : List Int} (h : l.Pairwise (· ≤ ·)) (nd : l.Nodup) : l.Pairwise (· < ·) := by
  have := List.Pairwise.and h nd
  exact List.Pairwise.imp (fun {a b} ⟨h1, h2⟩ => by omega) this
theorem asc_uniqI : ∀ {a b : List Int}, a.Pairwise (· < ·) → b.Pairwise (· < ·) → (∀ k, k ∈ a ↔ k ∈ b) → a = b
  | [], [], _, _, _ => rfl
  | [], y :: b, _, _, h => by have := (h y).mpr List.mem_cons_self; cases this
  | x :: a, [], _, _, h => by have := (h x).mp List.mem_cons_self; cases this
  | x :: a, y :: b, ha, hb, h => by
    have a2 := List.pairwise_cons.mp ha
    have b2 := List.pairwise_cons.mp hb
    have e : x = y := by
      rcases List.mem_cons.mp ((h x).mp List.mem_cons_self) with e | hx
      · exact e
      · rcases List.mem_cons.mp ((h y).mpr List.mem_cons_self) with e | hy
        · exact e.symm
        · have := a2.1 y hy; have := b2.1 x hx; omega
    subst e
    congr 1
    refine asc_uniqI a2.2 b2.2 fun k => ⟨fun hk => ?_, fun hk => ?_⟩
    · rcases List.mem_cons.mp ((h k).mp (List.mem_cons_of_mem _ hk)) with e | q
      · have := a2.1 k hk; omega
      · exact q
    · rcases List.mem_cons.mp ((h k).mpr (List.mem_cons_of_mem _ hk)) with e | q
      · have := b2.1 k hk; omega
      · exact q
theorem dvs_srt {n : Nat} (h : 0 < n) : srtI ((dvs (pfl n) [1]).map Int.ofNat) = (divL n).map Int.ofNat := by
  have I := dvs_all h
  refine asc_uniqI (asc_of_srt (srtI_sorted _) ?_) ?_ fun k => ?_
  · refine (srtI_perm _).nodup_iff.mpr ?_
    unfold List.Nodup
    rw [List.pairwise_map]
    exact List.Pairwise.imp (fun {a b} h e => h (Int.ofNat.inj e)) I.nd
  · rw [List.pairwise_map]
    exact List.Pairwise.imp (fun {a b} h => by show (a : Int) < (b : Int); omega) (divL_asc n)
  · rw [(srtI_perm _).mem_iff, List.mem_map, List.mem_map]
    constructor
    · rintro ⟨d, hd, rfl⟩
      exact ⟨d, (divL_mem h).mpr ((I.mem d).mp hd), rfl⟩
    · rintro ⟨d, hd, rfl⟩
      exact ⟨d, (I.mem d).mpr ((divL_mem h).mp hd), rfl⟩
theorem dof_ok {n : Nat} (h : 0 < n) (hn : n < 2 ^ 24) (μ : Sto) : p_dof [.int n] μ = some (.tup ((divL n).map nI), μ) := by
  have a := pfl_ok h
  have I : DvI [1] 1 := ⟨Nat.one_pos, fun d => by
    rw [List.mem_singleton]
    exact ⟨fun e => by rw [e]; exact Nat.dvd_refl 1, fun e => Nat.eq_one_of_dvd_one e⟩, by simp⟩
  obtain ⟨G', o2, o3, o4, o5, o6, i1, hf⟩ := dof_loop (μ := μ) (N := .int n) (pfl n) [1] [] 1 2 none none none none none a.1 (fun q hq hd => by
    have := (a.1.mem q hq).2.1.1
    have := Nat.le_of_dvd (by decide) hd
    omega) I (Nat.le_refl _) (by rw [a.2, Nat.one_mul]; exact hn)
  refine runZ_v (ρ := [some (.int n), none, none, none, none, none, none, none]) (g := .lst ((dvs (pfl n) [1]).map nI) :: G') rfl ?_ (fun l => by intro h; cases h) (ok_nI _ _)
  unfold dDof
  apply ev_seq (ρ' := [some (.int n), some (.loc μ.length), none, none, none, none, none, none]) (μ' := dSt μ [1] [])
  case ha => rfl
  apply ev_seq (ev_for (it_tup (ev_dCall (ev_aCons (ev_var rfl) ev_aNil) (pof_ok h (by omega) _) rfl)) hf)
  have srt : f_sorted [.loc μ.length] (dSt μ (dvs (pfl n) [1]) G') = some (.lst ((divL n).map nI), dSt μ (dvs (pfl n) [1]) G') := by
    show Option.map _ ((rdL _ (.loc μ.length)).bind intsP) = _
    rw [rdL_at (dSt_at μ _ G')]
    show Option.map _ (intsP _) = _
    have e : (dvs (pfl n) [1]).map nI = ((dvs (pfl n) [1]).map Int.ofNat).map PV.int := by rw [List.map_map]; rfl
    rw [e, intsP_map]
    show some (PV.lst ((srtI ((dvs (pfl n) [1]).map Int.ofNat)).map PV.int), _) = _
    rw [dvs_srt h, List.map_map]; rfl
  exact ev_ret (ev_dN (ev_aCons (ev_dN (ev_aCons (ev_var rfl) ev_aNil) srt) ev_aNil) rfl)
/-! ### primes -/
noncomputable def dIsp (p_parts_of : Fn) : DenS :=
  (sRet (dAn (d2 f_gt (cVar 0) (cK (.int 1))) (d2 f_eq (dCall 1 p_parts_of (aCons (cVar 0) aNil)) (dTup (aCons (dTup (aCons (cVar 0) (aCons (cK (.int 1)) aNil))) aNil)))))
noncomputable def dLisp (p__law_primes : Fn) : DenS :=
  (sRet (dAn (d2 f_gt (cVar 0) (cK (.int 1))) (d2 f_eq (dCall 1 p__law_primes (aCons (cVar 0) aNil)) (dLst (aCons (dTup (aCons (cVar 0) (aCons (cK (.int 1)) aNil))) aNil)))))
noncomputable def p_isp : Fn := runF 1 (dIsp p_pof)
noncomputable def p_lisp : Fn := runF 1 (dLisp p_lprs)
def ispB (n : Nat) : Bool := decide (1 < n) && decide (pfl n = [(n, 1)])
theorem pok_pqs : ∀ L : List (Nat × Nat), poks (L.map pq) 63 = true
  | [] => rfl
  | q :: L => by
    show (pok (pq q) 63 && poks (L.map pq) 63) = true
    rw [pok_pqs L]; rfl
theorem peqv_pq (q r : Nat × Nat) : peqv (pq q) (pq r) = decide (q = r) := by
  show (((q.1 : Int) == (r.1 : Int)) && (((q.2 : Int) == (r.2 : Int)) && true)) = _
  rw [Bool.and_true, Bool.eq_iff_iff, Bool.and_eq_true, beq_iff_eq, beq_iff_eq, decide_eq_true_eq]
  constructor
  · rintro ⟨a, b⟩; exact Prod.ext (Int.ofNat.inj a) (Int.ofNat.inj b)
  · rintro rfl; exact ⟨rfl, rfl⟩
theorem peqvs_pq : ∀ L M : List (Nat × Nat), peqvs (L.map pq) (M.map pq) = decide (L = M)
  | [], [] => by rw [decide_eq_true rfl]; rfl
  | [], r :: M => by rw [decide_eq_false (by intro h; cases h)]; rfl
  | q :: L, [] => by rw [decide_eq_false (by intro h; cases h)]; rfl
  | q :: L, r :: M => by
    show (peqv (pq q) (pq r) && peqvs (L.map pq) (M.map pq)) = _
    rw [peqv_pq, peqvs_pq L M, Bool.eq_iff_iff, Bool.and_eq_true, decide_eq_true_eq, decide_eq_true_eq, decide_eq_true_eq]
    constructor
    · rintro ⟨rfl, rfl⟩; rfl
    · intro h; cases h; exact ⟨rfl, rfl⟩
theorem eq_tpq (L M : List (Nat × Nat)) (μ : Sto) : f_eq (.tup (L.map pq)) (.tup (M.map pq)) μ = some (.bl (decide (L = M)), μ) := by
  show (if (pok (.tup (L.map pq)) 64 && pok (.tup (M.map pq)) 64) = true then _ else _) = _
  rw [if_pos (by rw [Bool.and_eq_true]; exact ⟨pok_pqs L, pok_pqs M⟩)]
  show some (PV.bl (peqvs (L.map pq) (M.map pq)), μ) = _
  rw [peqvs_pq]
theorem eq_lpq (L M : List (Nat × Nat)) (μ : Sto) : f_eq (.lst (L.map pq)) (.lst (M.map pq)) μ = some (.bl (decide (L = M)), μ) := by
  show (if (pok (.lst (L.map pq)) 64 && pok (.lst (M.map pq)) 64) = true then _ else _) = _
  rw [if_pos (by rw [Bool.and_eq_true]; exact ⟨pok_pqs L, pok_pqs M⟩)]
  show some (PV.bl (peqvs (L.map pq) (M.map pq)), μ) = _
  rw [peqvs_pq]
theorem ev_anb {ρ : En} {μ : Sto} {da db : Den} {b c : Bool} (h : da ρ μ = some (.bl b, μ)) (h2 : db ρ μ = some (.bl c, μ)) : dAn da db ρ μ = some (.bl (b && c), μ) := by
  cases b with
  | true => exact ev_an_t h rfl h2
  | false => exact ev_an_f h rfl
theorem isp_ok {n : Nat} (h : 0 < n) (hn : n < 2 ^ 60) (μ : Sto) : p_isp [.int n] μ = some (.bl (ispB n), μ) ∧ p_lisp [.int n] μ = some (.bl (ispB n), μ) := by
  have g : f_gt (.int (n : Int)) (.int 1) μ = some (.bl (decide (1 < n)), μ) := gt_ii (decide_eq_decide.mpr (by omega))
  constructor
  · refine runF_rt (ρ := [some (.int n)]) rfl ?_
    unfold dIsp
    exact ev_ret (ev_anb (ev_d2 (ev_var rfl) ev_K g) (ev_d2 (ev_dCall (ev_aCons (ev_var rfl) ev_aNil) (pof_ok h hn μ) rfl) (ev_dTup (ev_aCons (ev_dTup (ev_aCons (ev_var rfl) (ev_aCons ev_K ev_aNil)) (len_le (by show 2 ≤ 1000; decide))) ev_aNil) (len_le (by show 1 ≤ 1000; decide))) (eq_tpq (pfl n) [(n, 1)] μ)))
  · refine runF_rt (ρ := [some (.int n)]) rfl ?_
    unfold dLisp
    exact ev_ret (ev_anb (ev_d2 (ev_var rfl) ev_K g) (ev_d2 (ev_dCall (ev_aCons (ev_var rfl) ev_aNil) (lprs_ok h hn μ) rfl) (ev_dLst (ev_aCons (ev_dTup (ev_aCons (ev_var rfl) (ev_aCons ev_K ev_aNil)) (len_le (by show 2 ≤ 1000; decide))) ev_aNil) (len_le (by show 1 ≤ 1000; decide))) (eq_lpq (pfl n) [(n, 1)] μ)))
end Fd

/-! printed by gen.py: the defs of the law's program, their denotations and rule terms -/
namespace K11
open PySem PySem.Spec PyProof.Rows L2 Fd
def topS (i : Nat) : Stmt := PySem.Challenge.pw_primeworth_k11_papers_of_primes.main.body.getD i (.Pass ⟨0, 0, 0, 0⟩)
/-- the built-ins' names are free -/
structure MG (mg : Str → Option Value) : Prop where
  abs : mg "abs" = none
  all : mg "all" = none
  any : mg "any" = none
  bool : mg "bool" = none
  int : mg "int" = none
  isinstance : mg "isinstance" = none
  len : mg "len" = none
  list : mg "list" = none
  range : mg "range" = none
  set : mg "set" = none
  sorted : mg "sorted" = none
  str : mg "str" = none
  tuple : mg "tuple" = none
  zip : mg "zip" = none
/-! ### is_integer -/
def N_is_integer : List Str := ["value"]
abbrev s_is_integer : Stmt := topS 1
theorem sc_is_integer : FnScope N_is_integer ["value"] (defScope s_is_integer) := ⟨rfl, rfl, rfl, by decide +kernel, rfl, by decide +kernel, by decide +kernel⟩
noncomputable def d_is_integer : DenS :=
  (sRet (dAn (d1 (f_isi .int) (cVar 0)) (dNo (d1 (f_isi .bool) (cVar 0)))))
theorem b_is_integer {P : Program} {w : World} {K : Frg} {mg : Str → Option Value} {base : Heap} {j : Nat} (m : MG mg) {qual : Str} {f : Addr} {cdv : Value} {A : Around} {outer : List Env} {s : Shared} {H : Hp} {E : XK} (hr : Room j (A.deeper (envOfC qual (defScope s_is_integer) s.heap.objs.size f cdv))) :
    PSs (cxOf CX0 P w K mg base N_is_integer qual (defScope s_is_integer) f cdv A outer s H E).nox (defBody s_is_integer) (tS K d_is_integer) :=
    have nd := sc_is_integer.nd
    (ss_one (s_ret (e_an (e_isi .int (e_var 0) m.isinstance m.int) (e_one (e_no (e_isi .bool (e_var 0) m.isinstance m.bool))))))
theorem w_is_integer {P : Program} {w : World} {K : Frg} {mg : Str → Option Value} {base : Heap} {j : Nat} (m : MG mg) {f : Addr} {fd : FuncData} (F : L2.Fun K "is_integer" "is_integer" s_is_integer f fd) (hg : mg "is_integer" = some (.ref f)) {ψ : Fn}
    (hψ : Den.Does N_is_integer.length 1 d_is_integer ψ) : Callee P w K mg base (j + 1) "is_integer" 1 ψ :=
  ⟨⟨f, fd, ["value"], fn_ok F sc_is_integer (fun _ _ _ _ _ _ hr => b_is_integer m hr) hψ, hg, F.kp, F.binds fun _ _ _ _ _ _ us hl => match us, hl with | [_], _ => rfl⟩⟩
/-! ### power -/
def N_power : List Str := ["a", "k", "n", "found", "base"]
abbrev s_power : Stmt := topS 2
theorem sc_power : FnScope N_power ["a", "k", "n"] (defScope s_power) := ⟨rfl, rfl, rfl, by decide +kernel, rfl, by decide +kernel, by decide +kernel⟩
noncomputable def d_power : DenS :=
  (sSeq (sPar 3 4 (aCons (d2 f_mod (cK (.int 1)) (cVar 2)) (aCons (d2 f_mod (cVar 0) (cVar 2)) aNil)))
  (sSeq (sWh (tB1 (d2 f_gt (cVar 1) (cK (.int 0)))) (sSeq (sIf (tB1 (d2 f_eq (d2 f_mod (cVar 1) (cK (.int 2))) (cK (.int 1)))) (sAsg (d2 f_mod (d2 f_mul (cVar 3) (cVar 4)) (cVar 2)) (gNm 3)) sNil)
  (sSeq (sAsg (d2 f_mod (d2 f_mul (cVar 4) (cVar 4)) (cVar 2)) (gNm 4))
  (sAsg (d2 f_fdiv (cVar 1) (cK (.int 2))) (gNm 1)))))
  (sRet (cVar 3))))
theorem b_power {P : Program} {w : World} {K : Frg} {mg : Str → Option Value} {base : Heap} {j : Nat} (m : MG mg) {qual : Str} {f : Addr} {cdv : Value} {A : Around} {outer : List Env} {s : Shared} {H : Hp} {E : XK} (hr : Room j (A.deeper (envOfC qual (defScope s_power) s.heap.objs.size f cdv))) :
    PSs (cxOf CX0 P w K mg base N_power qual (defScope s_power) f cdv A outer s H E).nox (defBody s_power) (tS K d_power) :=
    have nd := sc_power.nd
    (ss_cons (s_par 3 4 rfl nd (a_cons (e_op o_mod s_mod e_int (e_var 2)) (a_cons (e_op o_mod s_mod (e_var 0) (e_var 2)) a_nil)))
      (ss_cons (s_wh (x_cmp op_gt s_gt (e_var 1) e_int (nomark _)) (ss_cons (s_if (x_cmp (o_eq hr.units) s_eq (e_op o_mod s_mod (e_var 1) e_int) e_int (nomark _)) (ss_one (s_set 3 nd (e_op o_mod s_mod (e_op o_mul s_mul (e_var 3) (e_var 4)) (e_var 2)))) ss_nil)
      (ss_cons (s_set 4 nd (e_op o_mod s_mod (e_op o_mul s_mul (e_var 4) (e_var 4)) (e_var 2)))
      (ss_one (s_set 1 nd (e_op o_fdiv s_fdiv (e_var 1) e_int))))))
      (ss_one (s_ret (e_var 3)))))
theorem w_power {P : Program} {w : World} {K : Frg} {mg : Str → Option Value} {base : Heap} {j : Nat} (m : MG mg) {f : Addr} {fd : FuncData} (F : L2.Fun K "power" "power" s_power f fd) (hg : mg "power" = some (.ref f)) {ψ : Fn}
    (hψ : Den.Does N_power.length 3 d_power ψ) : Callee P w K mg base (j + 1) "power" 3 ψ :=
  ⟨⟨f, fd, ["a", "k", "n"], fn_ok F sc_power (fun _ _ _ _ _ _ hr => b_power m hr) hψ, hg, F.kp, F.binds fun _ _ _ _ _ _ us hl => match us, hl with | [_, _, _], _ => rfl⟩⟩
/-! ### is_prime -/
def N_is_prime : List Str := ["n"]
abbrev s_is_prime : Stmt := topS 4
theorem sc_is_prime : FnScope N_is_prime ["n"] (defScope s_is_prime) := ⟨rfl, rfl, rfl, by decide +kernel, rfl, by decide +kernel, by decide +kernel⟩
noncomputable def d_is_prime (p_parts_of : Fn) : DenS :=
  (sRet (dAn (d2 f_gt (cVar 0) (cK (.int 1))) (d2 f_eq (dCall 1 p_parts_of (aCons (cVar 0) aNil)) (dTup (aCons (dTup (aCons (cVar 0) (aCons (cK (.int 1)) aNil))) aNil)))))
theorem b_is_prime {P : Program} {w : World} {K : Frg} {mg : Str → Option Value} {base : Heap} {j : Nat} (m : MG mg) {p_parts_of : Fn} (c_parts_of : Callee P w K mg base j "parts_of" 1 p_parts_of) {qual : Str} {f : Addr} {cdv : Value} {A : Around} {outer : List Env} {s : Shared} {H : Hp} {E : XK} (hr : Room j (A.deeper (envOfC qual (defScope s_is_prime) s.heap.objs.size f cdv))) :
    PSs (cxOf CX0 P w K mg base N_is_prime qual (defScope s_is_prime) f cdv A outer s H E).nox (defBody s_is_prime) (tS K (d_is_prime p_parts_of)) :=
    have nd := sc_is_prime.nd
    (ss_one (s_ret (e_an (e_cmp op_gt s_gt (e_var 0) e_int (nomark _)) (e_one (e_cmp (o_eq hr.units) s_eq (e_call c_parts_of hr (a_cons (e_var 0) a_nil)) (e_tup (a_cons (e_tup (a_cons (e_var 0) (a_cons e_int a_nil))) a_nil)) (nomark _))))))
theorem w_is_prime {P : Program} {w : World} {K : Frg} {mg : Str → Option Value} {base : Heap} {j : Nat} (m : MG mg) {p_parts_of : Fn} (c_parts_of : Callee P w K mg base j "parts_of" 1 p_parts_of) {f : Addr} {fd : FuncData} (F : L2.Fun K "is_prime" "is_prime" s_is_prime f fd) (hg : mg "is_prime" = some (.ref f)) {ψ : Fn}
    (hψ : Den.Does N_is_prime.length 1 (d_is_prime p_parts_of) ψ) : Callee P w K mg base (j + 1) "is_prime" 1 ψ :=
  ⟨⟨f, fd, ["n"], fn_ok F sc_is_prime (fun _ _ _ _ _ _ hr => b_is_prime m c_parts_of hr) hψ, hg, F.kp, F.binds fun _ _ _ _ _ _ us hl => match us, hl with | [_], _ => rfl⟩⟩
/-! ### parts_of -/
def N_parts_of : List Str := ["n", "found", "p", "e"]
abbrev s_parts_of : Stmt := topS 5
theorem sc_parts_of : FnScope N_parts_of ["n"] (defScope s_parts_of) := ⟨rfl, rfl, rfl, by decide +kernel, rfl, by decide +kernel, by decide +kernel⟩
noncomputable def d_parts_of : DenS :=
  (sSeq (sAsg (dLoc aNil) (gNm 1))
  (sSeq (sAsg (cK (.int 2)) (gNm 2))
  (sSeq (sWh (tB1 (d2 f_le (d2 f_mul (cVar 2) (cVar 2)) (cVar 0))) (sSeq (sAsg (cK (.int 0)) (gNm 3))
  (sSeq (sWh (tB1 (d2 f_eq (d2 f_mod (cVar 0) (cVar 2)) (cK (.int 0)))) (sSeq (sAsg (d2 f_fdiv (cVar 0) (cVar 2)) (gNm 0))
  (sAug 3 g_add (cK (.int 1)))))
  (sSeq (sIf (tB1 (d2 f_gt (cVar 3) (cK (.int 0)))) (sEx (dML f_app (cVar 1) (aCons (dTup (aCons (cVar 2) (aCons (cVar 3) aNil))) aNil))) sNil)
  (sAug 2 g_add (dIf (tB1 (d2 f_eq (cVar 2) (cK (.int 2)))) (cK (.int 1)) (cK (.int 2))))))))
  (sSeq (sIf (tB1 (d2 f_gt (cVar 0) (cK (.int 1)))) (sEx (dML f_app (cVar 1) (aCons (dTup (aCons (cVar 0) (aCons (cK (.int 1)) aNil))) aNil))) sNil)
  (sRet (dN f_tuple (aCons (cVar 1) aNil)))))))
theorem b_parts_of {P : Program} {w : World} {K : Frg} {mg : Str → Option Value} {base : Heap} {j : Nat} (m : MG mg) {qual : Str} {f : Addr} {cdv : Value} {A : Around} {outer : List Env} {s : Shared} {H : Hp} {E : XK} (hr : Room j (A.deeper (envOfC qual (defScope s_parts_of) s.heap.objs.size f cdv))) :
    PSs (cxOf CX0 P w K mg base N_parts_of qual (defScope s_parts_of) f cdv A outer s H E).nox (defBody s_parts_of) (tS K d_parts_of) :=
    have nd := sc_parts_of.nd
    (ss_cons (s_set 1 nd (e_loc a_nil))
      (ss_cons (s_set 2 nd e_int)
      (ss_cons (s_wh (x_cmp op_le s_le (e_op o_mul s_mul (e_var 2) (e_var 2)) (e_var 0) (nomark _)) (ss_cons (s_set 3 nd e_int)
      (ss_cons (s_wh (x_cmp (o_eq hr.units) s_eq (e_op o_mod s_mod (e_var 0) (e_var 2)) e_int (nomark _)) (ss_cons (s_set 0 nd (e_op o_fdiv s_fdiv (e_var 0) (e_var 2)))
      (ss_one (s_aug 3 a_add s_iadd nd e_int))))
      (ss_cons (s_if (x_cmp op_gt s_gt (e_var 3) e_int (nomark _)) (ss_one (s_ex (e_bm PySem.F.plainAttrs_list PySem.F.slot_list_append PySem.F.type_list_append mt_append s_app (e_var 1) (a_cons (e_tup (a_cons (e_var 2) (a_cons (e_var 3) a_nil))) a_nil)))) ss_nil)
      (ss_one (s_aug 2 a_add s_iadd nd (e_if (x_cmp (o_eq hr.units) s_eq (e_var 2) e_int (nomark _)) e_int e_int)))))))
      (ss_cons (s_if (x_cmp op_gt s_gt (e_var 0) e_int (nomark _)) (ss_one (s_ex (e_bm PySem.F.plainAttrs_list PySem.F.slot_list_append PySem.F.type_list_append mt_append s_app (e_var 1) (a_cons (e_tup (a_cons (e_var 0) (a_cons e_int a_nil))) a_nil)))) ss_nil)
      (ss_one (s_ret (e_callTy call_tuple_of s_tuple m.tuple (a_cons (e_var 1) a_nil))))))))
theorem w_parts_of {P : Program} {w : World} {K : Frg} {mg : Str → Option Value} {base : Heap} {j : Nat} (m : MG mg) {f : Addr} {fd : FuncData} (F : L2.Fun K "parts_of" "parts_of" s_parts_of f fd) (hg : mg "parts_of" = some (.ref f)) {ψ : Fn}
    (hψ : Den.Does N_parts_of.length 1 d_parts_of ψ) : Callee P w K mg base (j + 1) "parts_of" 1 ψ :=
  ⟨⟨f, fd, ["n"], fn_ok F sc_parts_of (fun _ _ _ _ _ _ hr => b_parts_of m hr) hψ, hg, F.kp, F.binds fun _ _ _ _ _ _ us hl => match us, hl with | [_], _ => rfl⟩⟩
/-! ### divisors_of -/
def N_divisors_of : List Str := ["n", "found", "p", "e", "more", "step", "turn", "one"]
abbrev s_divisors_of : Stmt := topS 6
theorem sc_divisors_of : FnScope N_divisors_of ["n"] (defScope s_divisors_of) := ⟨rfl, rfl, rfl, by decide +kernel, rfl, by decide +kernel, by decide +kernel⟩
noncomputable def d_divisors_of (p_parts_of : Fn) : DenS :=
  (sSeq (sAsg (dLoc (aCons (cK (.int 1)) aNil)) (gNm 1))
  (sSeq (sFor (itSeq (dCall 1 p_parts_of (aCons (cVar 0) aNil))) (gTu 2 (gsCons (gNm 2) (gsCons (gNm 3) gsNil))) (sSeq (sAsg (dLoc aNil) (gNm 4))
  (sSeq (sAsg (cK (.int 1)) (gNm 5))
  (sSeq (sFor (itRg1 (aCons (cVar 3) aNil)) (gNm 6) (sSeq (sAsg (d2 f_mul (cVar 5) (cVar 2)) (gNm 5))
  (sEx (dML f_ext (cVar 4) (aCons (dLc [7] (itSeq (cVar 1)) (gNm 7) tAll (d2 f_mul (cVar 7) (cVar 5))) aNil)))))
  (sEx (dML f_ext (cVar 1) (aCons (cVar 4) aNil)))))))
  (sRet (dN f_tuple (aCons (dN f_sorted (aCons (cVar 1) aNil)) aNil)))))
theorem b_divisors_of {P : Program} {w : World} {K : Frg} {mg : Str → Option Value} {base : Heap} {j : Nat} (m : MG mg) {p_parts_of : Fn} (c_parts_of : Callee P w K mg base j "parts_of" 1 p_parts_of) {qual : Str} {f : Addr} {cdv : Value} {A : Around} {outer : List Env} {s : Shared} {H : Hp} {E : XK} (hr : Room j (A.deeper (envOfC qual (defScope s_divisors_of) s.heap.objs.size f cdv))) :
    PSs (cxOf CX0 P w K mg base N_divisors_of qual (defScope s_divisors_of) f cdv A outer s H E).nox (defBody s_divisors_of) (tS K (d_divisors_of p_parts_of)) :=
    have nd := sc_divisors_of.nd
    (ss_cons (s_set 1 nd (e_loc (a_cons e_int a_nil)))
      (ss_cons (s_for (i_seq (e_call c_parts_of hr (a_cons (e_var 0) a_nil))) (g_tu rfl (gs_cons (g_nm 2 nd) (gs_cons (g_nm 3 nd) gs_nil))) (ss_cons (s_set 4 nd (e_loc a_nil))
      (ss_cons (s_set 5 nd e_int)
      (ss_cons (s_for (i_rg1 m.range (a_cons (e_var 3) a_nil)) (g_nm 6 nd) (ss_cons (s_set 5 nd (e_op o_mul s_mul (e_var 5) (e_var 2)))
      (ss_one (s_ex (e_bm PySem.F.plainAttrs_list PySem.F.slot_list_extend PySem.F.type_list_extend mt_extend s_ext (e_var 4) (a_cons (e_lc (own := [("one", 7)]) nd (i_seq (e_var 1)) ci_seq (blkOk_by (own := [("one", 7)]) (N := N_divisors_of) (sc := defScope s_divisors_of) (by decide +kernel)) (gin_nmV 7) (fun _ _ _ _ _ => (pg_name (i := 7) nd rfl (by first | exact Or.inl rfl | exact Or.inr rfl))) (fun _ _ _ _ _ => x_nil) (fun _ _ _ _ _ => (e_op o_mul s_mul (e_var 7) (e_var 5)))) a_nil))))) ci_rg1)
      (ss_one (s_ex (e_bm PySem.F.plainAttrs_list PySem.F.slot_list_extend PySem.F.type_list_extend mt_extend s_ext (e_var 1) (a_cons (e_var 4) a_nil))))))) ci_seq)
      (ss_one (s_ret (e_callTy call_tuple_of s_tuple m.tuple (a_cons (e_callB cr_sortedI s_sorted m.sorted (a_cons (e_var 1) a_nil)) a_nil))))))
theorem w_divisors_of {P : Program} {w : World} {K : Frg} {mg : Str → Option Value} {base : Heap} {j : Nat} (m : MG mg) {p_parts_of : Fn} (c_parts_of : Callee P w K mg base j "parts_of" 1 p_parts_of) {f : Addr} {fd : FuncData} (F : L2.Fun K "divisors_of" "divisors_of" s_divisors_of f fd) (hg : mg "divisors_of" = some (.ref f)) {ψ : Fn}
    (hψ : Den.Does N_divisors_of.length 1 (d_divisors_of p_parts_of) ψ) : Callee P w K mg base (j + 1) "divisors_of" 1 ψ :=
  ⟨⟨f, fd, ["n"], fn_ok F sc_divisors_of (fun _ _ _ _ _ _ hr => b_divisors_of m c_parts_of hr) hψ, hg, F.kp, F.binds fun _ _ _ _ _ _ us hl => match us, hl with | [_], _ => rfl⟩⟩
/-! ### units_of -/
def N_units_of : List Str := ["n", "p", "e"]
abbrev s_units_of : Stmt := topS 7
theorem sc_units_of : FnScope N_units_of ["n"] (defScope s_units_of) := ⟨rfl, rfl, rfl, by decide +kernel, rfl, by decide +kernel, by decide +kernel⟩
noncomputable def d_units_of (p_parts_of : Fn) : DenS :=
  (sSeq (sFor (itSeq (dCall 1 p_parts_of (aCons (cVar 0) aNil))) (gTu 2 (gsCons (gNm 1) (gsCons (gNm 2) gsNil))) (sAsg (d2 f_mul (d2 f_fdiv (cVar 0) (cVar 1)) (d2 f_sub (cVar 1) (cK (.int 1)))) (gNm 0)))
  (sRet (cVar 0)))
theorem b_units_of {P : Program} {w : World} {K : Frg} {mg : Str → Option Value} {base : Heap} {j : Nat} (m : MG mg) {p_parts_of : Fn} (c_parts_of : Callee P w K mg base j "parts_of" 1 p_parts_of) {qual : Str} {f : Addr} {cdv : Value} {A : Around} {outer : List Env} {s : Shared} {H : Hp} {E : XK} (hr : Room j (A.deeper (envOfC qual (defScope s_units_of) s.heap.objs.size f cdv))) :
    PSs (cxOf CX0 P w K mg base N_units_of qual (defScope s_units_of) f cdv A outer s H E).nox (defBody s_units_of) (tS K (d_units_of p_parts_of)) :=
    have nd := sc_units_of.nd
    (ss_cons (s_for (i_seq (e_call c_parts_of hr (a_cons (e_var 0) a_nil))) (g_tu rfl (gs_cons (g_nm 1 nd) (gs_cons (g_nm 2 nd) gs_nil))) (ss_one (s_set 0 nd (e_op o_mul s_mul (e_op o_fdiv s_fdiv (e_var 0) (e_var 1)) (e_op o_sub s_sub (e_var 1) e_int)))) ci_seq)
      (ss_one (s_ret (e_var 0))))
theorem w_units_of {P : Program} {w : World} {K : Frg} {mg : Str → Option Value} {base : Heap} {j : Nat} (m : MG mg) {p_parts_of : Fn} (c_parts_of : Callee P w K mg base j "parts_of" 1 p_parts_of) {f : Addr} {fd : FuncData} (F : L2.Fun K "units_of" "units_of" s_units_of f fd) (hg : mg "units_of" = some (.ref f)) {ψ : Fn}
    (hψ : Den.Does N_units_of.length 1 (d_units_of p_parts_of) ψ) : Callee P w K mg base (j + 1) "units_of" 1 ψ :=
  ⟨⟨f, fd, ["n"], fn_ok F sc_units_of (fun _ _ _ _ _ _ hr => b_units_of m c_parts_of hr) hψ, hg, F.kp, F.binds fun _ _ _ _ _ _ us hl => match us, hl with | [_], _ => rfl⟩⟩
/-! ### is_root -/
def N_is_root : List Str := ["a", "n", "parts", "p"]
abbrev s_is_root : Stmt := topS 8
theorem sc_is_root : FnScope N_is_root ["a", "n", "parts"] (defScope s_is_root) := ⟨rfl, rfl, rfl, by decide +kernel, rfl, by decide +kernel, by decide +kernel⟩
noncomputable def d_is_root (p_power : Fn) : DenS :=
  (sRet (dAn (d2 f_eq (dCall 3 p_power (aCons (cVar 0) (aCons (d2 f_sub (cVar 1) (cK (.int 1))) (aCons (cVar 1) aNil)))) (d2 f_mod (cK (.int 1)) (cVar 1))) (dN f_all (aCons (dLc [3] (itSeq (cVar 2)) (gNm 3) tAll (d2 f_ne (dCall 3 p_power (aCons (cVar 0) (aCons (d2 f_fdiv (d2 f_sub (cVar 1) (cK (.int 1))) (cVar 3)) (aCons (cVar 1) aNil)))) (d2 f_mod (cK (.int 1)) (cVar 1)))) aNil))))
theorem b_is_root {P : Program} {w : World} {K : Frg} {mg : Str → Option Value} {base : Heap} {j : Nat} (m : MG mg) {p_power : Fn} (c_power : Callee P w K mg base j "power" 3 p_power) {qual : Str} {f : Addr} {cdv : Value} {A : Around} {outer : List Env} {s : Shared} {H : Hp} {E : XK} (hr : Room j (A.deeper (envOfC qual (defScope s_is_root) s.heap.objs.size f cdv))) :
    PSs (cxOf CX0 P w K mg base N_is_root qual (defScope s_is_root) f cdv A outer s H E).nox (defBody s_is_root) (tS K (d_is_root p_power)) :=
    have nd := sc_is_root.nd
    (ss_one (s_ret (e_an (e_cmp (o_eq hr.units) s_eq (e_call c_power hr (a_cons (e_var 0) (a_cons (e_op o_sub s_sub (e_var 1) e_int) (a_cons (e_var 1) a_nil)))) (e_op o_mod s_mod e_int (e_var 1)) (nomark _)) (e_one (e_callB (cr_all (by rfl)) s_all m.all (a_cons (e_lc (own := [("p", 3)]) nd (i_seq (e_var 2)) ci_seq (blkOk_by (own := [("p", 3)]) (N := N_is_root) (sc := defScope s_is_root) (by decide +kernel)) (gin_nmV 3) (fun _ _ _ _ _ => (pg_name (i := 3) nd rfl (by first | exact Or.inl rfl | exact Or.inr rfl))) (fun _ _ _ _ _ => x_nil) (fun _ _ _ _ _ => (e_cmp (o_ne hr.units) s_ne (e_call c_power hr (a_cons (e_var 0) (a_cons (e_op o_fdiv s_fdiv (e_op o_sub s_sub (e_var 1) e_int) (e_var 3)) (a_cons (e_var 1) a_nil)))) (e_op o_mod s_mod e_int (e_var 1)) (nomark _)))) a_nil))))))
theorem w_is_root {P : Program} {w : World} {K : Frg} {mg : Str → Option Value} {base : Heap} {j : Nat} (m : MG mg) {p_power : Fn} (c_power : Callee P w K mg base j "power" 3 p_power) {f : Addr} {fd : FuncData} (F : L2.Fun K "is_root" "is_root" s_is_root f fd) (hg : mg "is_root" = some (.ref f)) {ψ : Fn}
    (hψ : Den.Does N_is_root.length 3 (d_is_root p_power) ψ) : Callee P w K mg base (j + 1) "is_root" 3 ψ :=
  ⟨⟨f, fd, ["a", "n", "parts"], fn_ok F sc_is_root (fun _ _ _ _ _ _ hr => b_is_root m c_power hr) hψ, hg, F.kp, F.binds fun _ _ _ _ _ _ us hl => match us, hl with | [_, _, _], _ => rfl⟩⟩
/-! ### prime_paper -/
def N_prime_paper : List Str := ["n", "parts", "p", "a", "q", "e"]
abbrev s_prime_paper : Stmt := topS 9
theorem sc_prime_paper : FnScope N_prime_paper ["n"] (defScope s_prime_paper) := ⟨rfl, rfl, rfl, by decide +kernel, rfl, by decide +kernel, by decide +kernel⟩
noncomputable def d_prime_paper (p_parts_of : Fn) (p_is_root : Fn) (p_prime_paper : Fn) : DenS :=
  (sSeq (sAsg (dCall 1 p_parts_of (aCons (cVar 0) aNil)) (gNm 1))
  (sSeq (sAsg (d2 f_ix (d2 f_ix (cVar 1) (cK (.int 0))) (cK (.int 0))) (gNm 2))
  (sSeq (sIf (tB1 (d2 f_lt (cVar 2) (cVar 0))) (sRet (dTup (aCons (cK (.str (Str.ofString "factors"))) (aCons (cVar 2) (aCons (d2 f_fdiv (cVar 0) (cVar 2)) aNil))))) sNil)
  (sSeq (sAsg (dLc [4, 5] (itSeq (dCall 1 p_parts_of (aCons (d2 f_sub (cVar 0) (cK (.int 1))) aNil))) (gTu 2 (gsCons (gNm 4) (gsCons (gNm 5) gsNil))) tAll (cVar 4)) (gNm 1))
  (sSeq (sAsg (cK (.int 1)) (gNm 3))
  (sSeq (sWh (tNo (tTru (dCall 3 p_is_root (aCons (cVar 3) (aCons (cVar 0) (aCons (cVar 1) aNil)))))) (sAug 3 g_add (cK (.int 1))))
  (sRet (dTup (aCons (cK (.str (Str.ofString "prime"))) (aCons (cVar 3) (aCons (dN f_tuple (aCons (dLc [4] (itSeq (cVar 1)) (gNm 4) tAll (dTup (aCons (cVar 4) (aCons (dCall 1 p_prime_paper (aCons (cVar 4) aNil)) aNil)))) aNil)) aNil)))))))))))
theorem b_prime_paper {P : Program} {w : World} {K : Frg} {mg : Str → Option Value} {base : Heap} {j : Nat} (m : MG mg) {p_parts_of : Fn} (c_parts_of : Callee P w K mg base j "parts_of" 1 p_parts_of) {p_is_root : Fn} (c_is_root : Callee P w K mg base j "is_root" 3 p_is_root) {p_prime_paper : Fn} (c_prime_paper : Callee P w K mg base j "prime_paper" 1 p_prime_paper) {qual : Str} {f : Addr} {cdv : Value} {A : Around} {outer : List Env} {s : Shared} {H : Hp} {E : XK} (hr : Room j (A.deeper (envOfC qual (defScope s_prime_paper) s.heap.objs.size f cdv))) :
    PSs (cxOf CX0 P w K mg base N_prime_paper qual (defScope s_prime_paper) f cdv A outer s H E).nox (defBody s_prime_paper) (tS K (d_prime_paper p_parts_of p_is_root p_prime_paper)) :=
    have nd := sc_prime_paper.nd
    (ss_cons (s_set 1 nd (e_call c_parts_of hr (a_cons (e_var 0) a_nil)))
      (ss_cons (s_set 2 nd (e_ix (e_ix (e_var 1) e_int) e_int))
      (ss_cons (s_if (x_cmp (o_lt hr.units0) s_lt (e_var 2) (e_var 0) (nomark _)) (ss_one (s_ret (e_tup (a_cons e_str (a_cons (e_var 2) (a_cons (e_op o_fdiv s_fdiv (e_var 0) (e_var 2)) a_nil)))))) ss_nil)
      (ss_cons (s_setLc 1 (own := [("q", 4), ("e", 5)]) nd (sw_true rfl rfl rfl (by decide +kernel)) (i_seq (e_call c_parts_of hr (a_cons (e_op o_sub s_sub (e_var 0) e_int) a_nil))) ci_seq (blkOk_by (own := [("q", 4), ("e", 5)]) (N := N_prime_paper) (sc := defScope s_prime_paper) (by decide +kernel)) (gin_tu2V 4 5) (fun _ _ _ _ _ => (pg_tup rfl (pgs_cons (pg_name (i := 4) nd rfl (by first | exact Or.inl rfl | exact Or.inr rfl)) (pgs_cons (pg_name (i := 5) nd rfl (by first | exact Or.inl rfl | exact Or.inr rfl)) pgs_nil)))) (fun _ _ _ _ _ => x_nil) (fun _ _ _ _ _ => (e_var 4)))
      (ss_cons (s_set 3 nd e_int)
      (ss_cons (s_wh (x_no (x_tru (e_call c_is_root hr (a_cons (e_var 3) (a_cons (e_var 0) (a_cons (e_var 1) a_nil)))))) (ss_one (s_aug 3 a_add s_iadd nd e_int)))
      (ss_one (s_ret (e_tup (a_cons e_str (a_cons (e_var 3) (a_cons (e_callTy call_tuple_of s_tuple m.tuple (a_cons (e_lc (own := [("q", 4)]) nd (i_seq (e_var 1)) ci_seq (blkOk_by (own := [("q", 4)]) (N := N_prime_paper) (sc := defScope s_prime_paper) (by decide +kernel)) (gin_nmV 4) (fun _ _ _ _ _ => (pg_name (i := 4) nd rfl (by first | exact Or.inl rfl | exact Or.inr rfl))) (fun _ _ _ _ _ => x_nil) (fun _ _ _ _ _ => (e_tup (a_cons (e_var 4) (a_cons (e_call c_prime_paper hr (a_cons (e_var 4) a_nil)) a_nil))))) a_nil)) a_nil))))))))))))
theorem w_prime_paper {P : Program} {w : World} {K : Frg} {mg : Str → Option Value} {base : Heap} {j : Nat} (m : MG mg) {p_parts_of : Fn} (c_parts_of : Callee P w K mg base j "parts_of" 1 p_parts_of) {p_is_root : Fn} (c_is_root : Callee P w K mg base j "is_root" 3 p_is_root) {p_prime_paper : Fn} (c_prime_paper : Callee P w K mg base j "prime_paper" 1 p_prime_paper) {f : Addr} {fd : FuncData} (F : L2.Fun K "prime_paper" "prime_paper" s_prime_paper f fd) (hg : mg "prime_paper" = some (.ref f)) {ψ : Fn}
    (hψ : Den.Does N_prime_paper.length 1 (d_prime_paper p_parts_of p_is_root p_prime_paper) ψ) : Callee P w K mg base (j + 1) "prime_paper" 1 ψ :=
  ⟨⟨f, fd, ["n"], fn_ok F sc_prime_paper (fun _ _ _ _ _ _ hr => b_prime_paper m c_parts_of c_is_root c_prime_paper hr) hψ, hg, F.kp, F.binds fun _ _ _ _ _ _ us hl => match us, hl with | [_], _ => rfl⟩⟩
/-! ### judge_prime -/
def N_judge_prime : List Str := ["n", "value", "waiting", "is_inner", "row"]
abbrev s_judge_prime : Stmt := topS 10
theorem sc_judge_prime : FnScope N_judge_prime ["n", "value"] (defScope s_judge_prime) := ⟨rfl, rfl, rfl, by decide +kernel, rfl, by decide +kernel, by decide +kernel⟩
noncomputable def d_judge_prime (p_is_integer : Fn) (p_are_parts : Fn) (p_is_root : Fn) : DenS :=
  (sSeq (sAsg (dLoc (aCons (dTup (aCons (cVar 0) (aCons (cVar 1) (aCons (cK (.bl false)) aNil)))) aNil)) (gNm 2))
  (sSeq (sWh (tTru (cVar 2)) (sSeq (sAsg (dML f_pop (cVar 2) aNil) (gTu 3 (gsCons (gNm 0) (gsCons (gNm 1) (gsCons (gNm 3) gsNil)))))
  (sSeq (sIf (tOr' (tNo (tTru (d1 (f_isi .tuple) (cVar 1)))) (tOr' (tB1 (d2 f_ne (dN f_len (aCons (cVar 1) aNil)) (cK (.int 3)))) (tOr' (tNo (tTru (d1 (f_isi .str) (d2 f_ix (cVar 1) (cK (.int 0)))))) (tNo (tTru (dCall 1 p_is_integer (aCons (d2 f_ix (cVar 1) (cK (.int 1))) aNil))))))) (sRet (cK (.bl false))) sNil)
  (sSeq (sIf (tB1 (d2 f_eq (d2 f_ix (cVar 1) (cK (.int 0))) (cK (.str (Str.ofString "factors"))))) (sSeq (sIf (tOr' (tTru (cVar 3)) (tOr' (tNo (tTru (dCall 1 p_is_integer (aCons (d2 f_ix (cVar 1) (cK (.int 2))) aNil)))) (tOr' (tB1 (d2 f_lt (d2 f_ix (cVar 1) (cK (.int 1))) (cK (.int 2)))) (tOr' (tB1 (d2 f_lt (d2 f_ix (cVar 1) (cK (.int 2))) (cK (.int 2)))) (tB1 (d2 f_ne (d2 f_mul (d2 f_ix (cVar 1) (cK (.int 1))) (d2 f_ix (cVar 1) (cK (.int 2)))) (cVar 0))))))) (sRet (cK (.bl false))) sNil)
  sCt) sNil)
  (sSeq (sIf (tOr' (tB1 (d2 f_ne (d2 f_ix (cVar 1) (cK (.int 0))) (cK (.str (Str.ofString "prime"))))) (tOr' (tNo (tB1 (dCh2 f_lt f_lt (cK (.int 0)) (d2 f_ix (cVar 1) (cK (.int 1))) (cVar 0)))) (tNo (tTru (dCall 2 p_are_parts (aCons (d2 f_sub (cVar 0) (cK (.int 1))) (aCons (d2 f_ix (cVar 1) (cK (.int 2))) aNil))))))) (sRet (cK (.bl false))) sNil)
  (sSeq (sIf (tNo (tTru (dCall 3 p_is_root (aCons (d2 f_ix (cVar 1) (cK (.int 1))) (aCons (cVar 0) (aCons (dLc [4] (itSeq (d2 f_ix (cVar 1) (cK (.int 2)))) (gNm 4) tAll (d2 f_ix (cVar 4) (cK (.int 0)))) aNil)))))) (sRet (cK (.bl false))) sNil)
  (sEx (dML f_ext (cVar 2) (aCons (dLc [4] (itSeq (d2 f_ix (cVar 1) (cK (.int 2)))) (gNm 4) tAll (dTup (aCons (d2 f_ix (cVar 4) (cK (.int 0))) (aCons (d2 f_ix (cVar 4) (cK (.int 1))) (aCons (cK (.bl true)) aNil))))) aNil)))))))))
  (sRet (cK (.bl true)))))
theorem b_judge_prime {P : Program} {w : World} {K : Frg} {mg : Str → Option Value} {base : Heap} {j : Nat} (m : MG mg) {p_is_integer : Fn} (c_is_integer : Callee P w K mg base j "is_integer" 1 p_is_integer) {p_are_parts : Fn} (c_are_parts : Callee P w K mg base j "are_parts" 2 p_are_parts) {p_is_root : Fn} (c_is_root : Callee P w K mg base j "is_root" 3 p_is_root) {qual : Str} {f : Addr} {cdv : Value} {A : Around} {outer : List Env} {s : Shared} {H : Hp} {E : XK} (hr : Room j (A.deeper (envOfC qual (defScope s_judge_prime) s.heap.objs.size f cdv))) :
    PSs (cxOf CX0 P w K mg base N_judge_prime qual (defScope s_judge_prime) f cdv A outer s H E).nox (defBody s_judge_prime) (tS K (d_judge_prime p_is_integer p_are_parts p_is_root)) :=
    have nd := sc_judge_prime.nd
    (ss_cons (s_set 2 nd (e_loc (a_cons (e_tup (a_cons (e_var 0) (a_cons (e_var 1) (a_cons e_bl a_nil)))) a_nil)))
      (ss_cons (s_wh (x_tru (e_var 2)) (ss_cons (s_asg (e_bm0 PySem.F.plainAttrs_list PySem.F.slot_list_pop PySem.F.type_list_pop mt_pop s_pop (e_var 2)) (g_tu rfl (gs_cons (g_nm 0 nd) (gs_cons (g_nm 1 nd) (gs_cons (g_nm 3 nd) gs_nil)))))
      (ss_cons (s_if (x_or (x_no (x_tru (e_isi .tuple (e_var 1) m.isinstance m.tuple))) (x_or (x_cmp (o_ne hr.units) s_ne (e_callB call_len s_len m.len (a_cons (e_var 1) a_nil)) e_int (nomark _)) (x_or (x_no (x_tru (e_isi .str (e_ix (e_var 1) e_int) m.isinstance m.str))) (x_or1 (x_no (x_tru (e_call c_is_integer hr (a_cons (e_ix (e_var 1) e_int) a_nil)))))))).pt (ss_one (s_ret e_bl)) ss_nil)
      (ss_cons (s_if (x_cmp (o_eq hr.units) s_eq (e_ix (e_var 1) e_int) e_str (nomark _)) (ss_cons (s_if (x_or (x_tru (e_var 3)) (x_or (x_no (x_tru (e_call c_is_integer hr (a_cons (e_ix (e_var 1) e_int) a_nil)))) (x_or (x_cmp (o_lt hr.units0) s_lt (e_ix (e_var 1) e_int) e_int (nomark _)) (x_or (x_cmp (o_lt hr.units0) s_lt (e_ix (e_var 1) e_int) e_int (nomark _)) (x_or1 (x_cmp (o_ne hr.units) s_ne (e_op o_mul s_mul (e_ix (e_var 1) e_int) (e_ix (e_var 1) e_int)) (e_var 0) (nomark _))))))).pt (ss_one (s_ret e_bl)) ss_nil)
      (ss_one (s_ct))) ss_nil)
      (ss_cons (s_if (x_or (x_cmp (o_ne hr.units) s_ne (e_ix (e_var 1) e_int) e_str (nomark _)) (x_or (x_no (x_ch2 (o_lt hr.units0) s_lt (o_lt hr.units0) s_lt e_int (e_ix (e_var 1) e_int) (e_var 0))) (x_or1 (x_no (x_tru (e_call c_are_parts hr (a_cons (e_op o_sub s_sub (e_var 0) e_int) (a_cons (e_ix (e_var 1) e_int) a_nil)))))))).pt (ss_one (s_ret e_bl)) ss_nil)
      (ss_cons (s_if (x_no (x_tru (e_call c_is_root hr (a_cons (e_ix (e_var 1) e_int) (a_cons (e_var 0) (a_cons (e_lc (own := [("row", 4)]) nd (i_seq (e_ix (e_var 1) e_int)) ci_seq (blkOk_by (own := [("row", 4)]) (N := N_judge_prime) (sc := defScope s_judge_prime) (by decide +kernel)) (gin_nmV 4) (fun _ _ _ _ _ => (pg_name (i := 4) nd rfl (by first | exact Or.inl rfl | exact Or.inr rfl))) (fun _ _ _ _ _ => x_nil) (fun _ _ _ _ _ => (e_ix (e_var 4) e_int))) a_nil)))))) (ss_one (s_ret e_bl)) ss_nil)
      (ss_one (s_ex (e_bm PySem.F.plainAttrs_list PySem.F.slot_list_extend PySem.F.type_list_extend mt_extend s_ext (e_var 2) (a_cons (e_lc (own := [("row", 4)]) nd (i_seq (e_ix (e_var 1) e_int)) ci_seq (blkOk_by (own := [("row", 4)]) (N := N_judge_prime) (sc := defScope s_judge_prime) (by decide +kernel)) (gin_nmV 4) (fun _ _ _ _ _ => (pg_name (i := 4) nd rfl (by first | exact Or.inl rfl | exact Or.inr rfl))) (fun _ _ _ _ _ => x_nil) (fun _ _ _ _ _ => (e_tup (a_cons (e_ix (e_var 4) e_int) (a_cons (e_ix (e_var 4) e_int) (a_cons e_bl a_nil)))))) a_nil))))))))))
      (ss_one (s_ret e_bl))))
theorem w_judge_prime {P : Program} {w : World} {K : Frg} {mg : Str → Option Value} {base : Heap} {j : Nat} (m : MG mg) {p_is_integer : Fn} (c_is_integer : Callee P w K mg base j "is_integer" 1 p_is_integer) {p_are_parts : Fn} (c_are_parts : Callee P w K mg base j "are_parts" 2 p_are_parts) {p_is_root : Fn} (c_is_root : Callee P w K mg base j "is_root" 3 p_is_root) {f : Addr} {fd : FuncData} (F : L2.Fun K "judge_prime" "judge_prime" s_judge_prime f fd) (hg : mg "judge_prime" = some (.ref f)) {ψ : Fn}
    (hψ : Den.Does N_judge_prime.length 2 (d_judge_prime p_is_integer p_are_parts p_is_root) ψ) : Callee P w K mg base (j + 1) "judge_prime" 2 ψ :=
  ⟨⟨f, fd, ["n", "value"], fn_ok F sc_judge_prime (fun _ _ _ _ _ _ hr => b_judge_prime m c_is_integer c_are_parts c_is_root hr) hψ, hg, F.kp, F.binds fun _ _ _ _ _ _ us hl => match us, hl with | [_, _], _ => rfl⟩⟩
/-! ### are_parts -/
def N_are_parts : List Str := ["n", "rows", "firsts", "one", "row", "two"]
abbrev s_are_parts : Stmt := topS 11
theorem sc_are_parts : FnScope N_are_parts ["n", "rows"] (defScope s_are_parts) := ⟨rfl, rfl, rfl, by decide +kernel, rfl, by decide +kernel, by decide +kernel⟩
noncomputable def d_are_parts (p_is_integer : Fn) : DenS :=
  (sSeq (sIf (tOr' (tNo (tTru (d1 (f_isi .tuple) (cVar 1)))) (tNo (tTru (dN f_all (aCons (dLc [4] (itSeq (cVar 1)) (gNm 4) tAll (dAn (d1 (f_isi .tuple) (cVar 4)) (d2 f_eq (dN f_len (aCons (cVar 4) aNil)) (cK (.int 2))))) aNil))))) (sRet (cK (.bl false))) sNil)
  (sSeq (sAsg (dLc [4] (itSeq (cVar 1)) (gNm 4) tAll (d2 f_ix (cVar 4) (cK (.int 0)))) (gNm 2))
  (sSeq (sIf (tNo (tTru (dN f_all (aCons (dLc [3] (itSeq (cVar 2)) (gNm 3) tAll (dAn (dCall 1 p_is_integer (aCons (cVar 3) aNil)) (dCh2 f_lt f_le (cK (.int 1)) (cVar 3) (cVar 0)))) aNil)))) (sRet (cK (.bl false))) sNil)
  (sSeq (sIf (tNo (tTru (dN f_all (aCons (dLc [3, 5] (itZip (aCons (cVar 2) (aCons (dSl (cVar 2) (oSo (cK (.int 1))) oNo) aNil))) (gTu 2 (gsCons (gNm 3) (gsCons (gNm 5) gsNil))) tAll (d2 f_lt (cVar 3) (cVar 5))) aNil)))) (sRet (cK (.bl false))) sNil)
  (sSeq (sFor (itSeq (cVar 2)) (gNm 3) (sSeq (sIf (tB1 (d2 f_ne (d2 f_mod (cVar 0) (cVar 3)) (cK (.int 0)))) (sRet (cK (.bl false))) sNil)
  (sWh (tB1 (d2 f_eq (d2 f_mod (cVar 0) (cVar 3)) (cK (.int 0)))) (sAsg (d2 f_fdiv (cVar 0) (cVar 3)) (gNm 0)))))
  (sRet (d2 f_eq (cVar 0) (cK (.int 1)))))))))
theorem b_are_parts {P : Program} {w : World} {K : Frg} {mg : Str → Option Value} {base : Heap} {j : Nat} (m : MG mg) {p_is_integer : Fn} (c_is_integer : Callee P w K mg base j "is_integer" 1 p_is_integer) {qual : Str} {f : Addr} {cdv : Value} {A : Around} {outer : List Env} {s : Shared} {H : Hp} {E : XK} (hr : Room j (A.deeper (envOfC qual (defScope s_are_parts) s.heap.objs.size f cdv))) :
    PSs (cxOf CX0 P w K mg base N_are_parts qual (defScope s_are_parts) f cdv A outer s H E).nox (defBody s_are_parts) (tS K (d_are_parts p_is_integer)) :=
    have nd := sc_are_parts.nd
    (ss_cons (s_if (x_or (x_no (x_tru (e_isi .tuple (e_var 1) m.isinstance m.tuple))) (x_or1 (x_no (x_tru (e_callB (cr_all (by rfl)) s_all m.all (a_cons (e_lc (own := [("row", 4)]) nd (i_seq (e_var 1)) ci_seq (blkOk_by (own := [("row", 4)]) (N := N_are_parts) (sc := defScope s_are_parts) (by decide +kernel)) (gin_nmV 4) (fun _ _ _ _ _ => (pg_name (i := 4) nd rfl (by first | exact Or.inl rfl | exact Or.inr rfl))) (fun _ _ _ _ _ => x_nil) (fun _ _ _ _ _ => (e_an (e_isi .tuple (e_var 4) m.isinstance m.tuple) (e_one (e_cmp (o_eq hr.units) s_eq (e_callB call_len s_len m.len (a_cons (e_var 4) a_nil)) e_int (nomark _)))))) a_nil)))))).pt (ss_one (s_ret e_bl)) ss_nil)
      (ss_cons (s_setLc 2 (own := [("row", 4)]) nd (sw_true rfl rfl rfl (by decide +kernel)) (i_seq (e_var 1)) ci_seq (blkOk_by (own := [("row", 4)]) (N := N_are_parts) (sc := defScope s_are_parts) (by decide +kernel)) (gin_nmV 4) (fun _ _ _ _ _ => (pg_name (i := 4) nd rfl (by first | exact Or.inl rfl | exact Or.inr rfl))) (fun _ _ _ _ _ => x_nil) (fun _ _ _ _ _ => (e_ix (e_var 4) e_int)))
      (ss_cons (s_if (x_no (x_tru (e_callB (cr_all (by rfl)) s_all m.all (a_cons (e_lc (own := [("one", 3)]) nd (i_seq (e_var 2)) ci_seq (blkOk_by (own := [("one", 3)]) (N := N_are_parts) (sc := defScope s_are_parts) (by decide +kernel)) (gin_nmV 3) (fun _ _ _ _ _ => (pg_name (i := 3) nd rfl (by first | exact Or.inl rfl | exact Or.inr rfl))) (fun _ _ _ _ _ => x_nil) (fun _ _ _ _ _ => (e_an (e_call c_is_integer hr (a_cons (e_var 3) a_nil)) (e_one (e_ch2 (o_lt hr.units0) s_lt op_le s_le e_int (e_var 3) (e_var 0)))))) a_nil)))) (ss_one (s_ret e_bl)) ss_nil)
      (ss_cons (s_if (x_no (x_tru (e_callB (cr_all (by rfl)) s_all m.all (a_cons (e_lc (own := [("one", 3), ("two", 5)]) nd (i_zip m.zip (a_cons (e_var 2) (a_cons (e_sl (e_var 2) (o_so e_int) o_no) a_nil))) ci_zip (blkOk_by (own := [("one", 3), ("two", 5)]) (N := N_are_parts) (sc := defScope s_are_parts) (by decide +kernel)) (gin_tu2V 3 5) (fun _ _ _ _ _ => (pg_tup rfl (pgs_cons (pg_name (i := 3) nd rfl (by first | exact Or.inl rfl | exact Or.inr rfl)) (pgs_cons (pg_name (i := 5) nd rfl (by first | exact Or.inl rfl | exact Or.inr rfl)) pgs_nil)))) (fun _ _ _ _ _ => x_nil) (fun _ _ _ _ _ => (e_cmp (o_lt hr.units0) s_lt (e_var 3) (e_var 5) (nomark _)))) a_nil)))) (ss_one (s_ret e_bl)) ss_nil)
      (ss_cons (s_for (i_seq (e_var 2)) (g_nm 3 nd) (ss_cons (s_if (x_cmp (o_ne hr.units) s_ne (e_op o_mod s_mod (e_var 0) (e_var 3)) e_int (nomark _)) (ss_one (s_ret e_bl)) ss_nil)
      (ss_one (s_wh (x_cmp (o_eq hr.units) s_eq (e_op o_mod s_mod (e_var 0) (e_var 3)) e_int (nomark _)) (ss_one (s_set 0 nd (e_op o_fdiv s_fdiv (e_var 0) (e_var 3))))))) ci_seq)
      (ss_one (s_ret (e_cmp (o_eq hr.units) s_eq (e_var 0) e_int (nomark _)))))))))
theorem w_are_parts {P : Program} {w : World} {K : Frg} {mg : Str → Option Value} {base : Heap} {j : Nat} (m : MG mg) {p_is_integer : Fn} (c_is_integer : Callee P w K mg base j "is_integer" 1 p_is_integer) {f : Addr} {fd : FuncData} (F : L2.Fun K "are_parts" "are_parts" s_are_parts f fd) (hg : mg "are_parts" = some (.ref f)) {ψ : Fn}
    (hψ : Den.Does N_are_parts.length 2 (d_are_parts p_is_integer) ψ) : Callee P w K mg base (j + 1) "are_parts" 2 ψ :=
  ⟨⟨f, fd, ["n", "rows"], fn_ok F sc_are_parts (fun _ _ _ _ _ _ hr => b_are_parts m c_is_integer hr) hψ, hg, F.kp, F.binds fun _ _ _ _ _ _ us hl => match us, hl with | [_, _], _ => rfl⟩⟩
/-! ### _law_start -/
def N__law_start : List Str := ["script", "cell"]
abbrev s__law_start : Stmt := topS 13
theorem sc__law_start : FnScope N__law_start ["script"] (defScope s__law_start) := ⟨rfl, rfl, rfl, by decide +kernel, rfl, by decide +kernel, by decide +kernel⟩
noncomputable def d__law_start : DenS :=
  (sRet (dLoc (aCons (dLc [1] (itSeq (dSl (cVar 0) oNo (oSo (cK (.int 63))))) (gNm 1) tAll (dN f_int (aCons (cVar 1) aNil))) (aCons (cK (.int 0)) (aCons (cK (.int 0)) (aCons (cK (.int 0)) (aCons (cK (.int 20)) aNil)))))))
theorem b__law_start {P : Program} {w : World} {K : Frg} {mg : Str → Option Value} {base : Heap} {j : Nat} (m : MG mg) {qual : Str} {f : Addr} {cdv : Value} {A : Around} {outer : List Env} {s : Shared} {H : Hp} {E : XK} (hr : Room j (A.deeper (envOfC qual (defScope s__law_start) s.heap.objs.size f cdv))) :
    PSs (cxOf CX0 P w K mg base N__law_start qual (defScope s__law_start) f cdv A outer s H E).nox (defBody s__law_start) (tS K d__law_start) :=
    have nd := sc__law_start.nd
    (ss_one (s_ret (e_loc (a_cons (e_lc (own := [("cell", 1)]) nd (i_seq (e_sl (e_var 0) o_no (o_so e_int))) ci_seq (blkOk_by (own := [("cell", 1)]) (N := N__law_start) (sc := defScope s__law_start) (by decide +kernel)) (gin_nmV 1) (fun _ _ _ _ _ => (pg_name (i := 1) nd rfl (by first | exact Or.inl rfl | exact Or.inr rfl))) (fun _ _ _ _ _ => x_nil) (fun _ _ _ _ _ => (e_callTy call_int1 s_int m.int (a_cons (e_var 1) a_nil)))) (a_cons e_int (a_cons e_int (a_cons e_int (a_cons e_int a_nil))))))))
theorem w__law_start {P : Program} {w : World} {K : Frg} {mg : Str → Option Value} {base : Heap} {j : Nat} (m : MG mg) {f : Addr} {fd : FuncData} (F : L2.Fun K "_law_start" "_law_start" s__law_start f fd) (hg : mg "_law_start" = some (.ref f)) {ψ : Fn}
    (hψ : Den.Does N__law_start.length 1 d__law_start ψ) : Callee P w K mg base (j + 1) "_law_start" 1 ψ :=
  ⟨⟨f, fd, ["script"], fn_ok F sc__law_start (fun _ _ _ _ _ _ hr => b__law_start m hr) hψ, hg, F.kp, F.binds fun _ _ _ _ _ _ us hl => match us, hl with | [_], _ => rfl⟩⟩
/-! ### _law_fill -/
def N__law_fill : List Str := ["c", "number"]
abbrev s__law_fill : Stmt := topS 14
theorem sc__law_fill : FnScope N__law_fill ["c"] (defScope s__law_fill) := ⟨rfl, rfl, rfl, by decide +kernel, rfl, by decide +kernel, by decide +kernel⟩
noncomputable def d__law_fill : DenS :=
  (sSeq (sAsg (d2 f_add (d2 f_ix (cVar 0) (cK (.int 3))) (cK (.int 1))) (gSb (cVar 0) (cK (.int 3))))
  (sSeq (sAsg (d2 f_add (d2 f_mul (d2 f_ix (cVar 0) (cK (.int 3))) (cK (.int 69621))) (cK (.int 12345))) (gNm 1))
  (sSeq (sIf (tB1 (d2 f_lt (d2 f_ix (cVar 0) (cK (.int 1))) (dN f_len (aCons (d2 f_ix (cVar 0) (cK (.int 0))) aNil)))) (sSeq (sAsg (d2 f_ix (d2 f_ix (cVar 0) (cK (.int 0))) (d2 f_ix (cVar 0) (cK (.int 1)))) (gNm 1))
  (sSeq (sAsg (d2 f_add (d2 f_ix (cVar 0) (cK (.int 1))) (cK (.int 1))) (gSb (cVar 0) (cK (.int 1))))
  (sSeq (sIf (tB1 (d2 f_lt (cVar 1) (cK (.int 0)))) (sAsg (d2 f_sub (d2 f_sub (cK (.int 0)) (cK (.int 1))) (cVar 1)) (gNm 1)) sNil)
  (sIf (tB1 (d2 f_ge (cVar 1) (d2 f_pow (cK (.int 10)) (cK (.int 18))))) (sRet (cVar 1)) sNil)))) sNil)
  (sSeq (sIf (tAn (tTru (d2 f_ix (cVar 0) (cK (.int 0)))) (tB1 (d2 f_ge (d2 f_ix (cVar 0) (cK (.int 1))) (dN f_len (aCons (d2 f_ix (cVar 0) (cK (.int 0))) aNil))))) (sAsg (d2 f_add (cVar 1) (d2 f_mod (dN f_int (aCons (d2 f_ix (d2 f_ix (cVar 0) (cK (.int 0))) (d1 f_neg (cK (.int 1)))) aNil)) (cK (.int 1000003)))) (gNm 1)) sNil)
  (sSeq (sAsg (d2 f_mod (dN f_int (aCons (d2 f_add (d2 f_mul (cVar 1) (cK (.int 48271))) (d2 f_mul (d2 f_ix (cVar 0) (cK (.int 3))) (cK (.int 69621)))) aNil)) (cK (.int 2147483647))) (gNm 1))
  (sRet (d2 f_add (d2 f_fdiv (dN f_int (aCons (d2 f_add (d2 f_add (d2 f_mul (cVar 1) (cVar 1)) (d2 f_mul (d2 f_ix (cVar 0) (cK (.int 3))) (cK (.int 7919)))) (cK (.int 11))) aNil)) (cK (.int 64))) (cK (.int 36028797018963968)))))))))
theorem b__law_fill {P : Program} {w : World} {K : Frg} {mg : Str → Option Value} {base : Heap} {j : Nat} (m : MG mg) {qual : Str} {f : Addr} {cdv : Value} {A : Around} {outer : List Env} {s : Shared} {H : Hp} {E : XK} (hr : Room j (A.deeper (envOfC qual (defScope s__law_fill) s.heap.objs.size f cdv))) :
    PSs (cxOf CX0 P w K mg base N__law_fill qual (defScope s__law_fill) f cdv A outer s H E).nox (defBody s__law_fill) (tS K d__law_fill) :=
    have nd := sc__law_fill.nd
    (ss_cons (s_asg (e_op o_add s_add (e_ix (e_var 0) e_int) e_int) (g_sb (e_var 0) e_int))
      (ss_cons (s_set 1 nd (e_op o_add s_add (e_op o_mul s_mul (e_ix (e_var 0) e_int) e_int) e_int))
      (ss_cons (s_if (x_cmp (o_lt hr.units0) s_lt (e_ix (e_var 0) e_int) (e_callB call_len s_len m.len (a_cons (e_ix (e_var 0) e_int) a_nil)) (nomark _)) (ss_cons (s_set 1 nd (e_ix (e_ix (e_var 0) e_int) (e_ix (e_var 0) e_int)))
      (ss_cons (s_asg (e_op o_add s_add (e_ix (e_var 0) e_int) e_int) (g_sb (e_var 0) e_int))
      (ss_cons (s_if (x_cmp (o_lt hr.units0) s_lt (e_var 1) e_int (nomark _)) (ss_one (s_set 1 nd (e_op o_sub s_sub (e_op o_sub s_sub e_int e_int) (e_var 1)))) ss_nil)
      (ss_one (s_if (x_cmp op_ge s_ge (e_var 1) (e_op op_pow s_pow e_int e_int) (nomark _)) (ss_one (s_ret (e_var 1))) ss_nil))))) ss_nil)
      (ss_cons (s_if (x_an (x_tru (e_ix (e_var 0) e_int)) (x_an1 (x_cmp op_ge s_ge (e_ix (e_var 0) e_int) (e_callB call_len s_len m.len (a_cons (e_ix (e_var 0) e_int) a_nil)) (nomark _)))).pt (ss_one (s_set 1 nd (e_op o_add s_add (e_var 1) (e_op o_mod s_mod (e_callTy call_int1 s_int m.int (a_cons (e_ix (e_ix (e_var 0) e_int) (e_un un_neg s_neg e_int)) a_nil)) e_int)))) ss_nil)
      (ss_cons (s_set 1 nd (e_op o_mod s_mod (e_callTy call_int1 s_int m.int (a_cons (e_op o_add s_add (e_op o_mul s_mul (e_var 1) e_int) (e_op o_mul s_mul (e_ix (e_var 0) e_int) e_int)) a_nil)) e_int))
      (ss_one (s_ret (e_op o_add s_add (e_op o_fdiv s_fdiv (e_callTy call_int1 s_int m.int (a_cons (e_op o_add s_add (e_op o_add s_add (e_op o_mul s_mul (e_var 1) (e_var 1)) (e_op o_mul s_mul (e_ix (e_var 0) e_int) e_int)) e_int) a_nil)) e_int) e_int))))))))
theorem w__law_fill {P : Program} {w : World} {K : Frg} {mg : Str → Option Value} {base : Heap} {j : Nat} (m : MG mg) {f : Addr} {fd : FuncData} (F : L2.Fun K "_law_fill" "_law_fill" s__law_fill f fd) (hg : mg "_law_fill" = some (.ref f)) {ψ : Fn}
    (hψ : Den.Does N__law_fill.length 1 d__law_fill ψ) : Callee P w K mg base (j + 1) "_law_fill" 1 ψ :=
  ⟨⟨f, fd, ["c"], fn_ok F sc__law_fill (fun _ _ _ _ _ _ hr => b__law_fill m hr) hψ, hg, F.kp, F.binds fun _ _ _ _ _ _ us hl => match us, hl with | [_], _ => rfl⟩⟩
/-! ### _law_take -/
def N__law_take : List Str := ["c", "many", "digit"]
abbrev s__law_take : Stmt := topS 15
theorem sc__law_take : FnScope N__law_take ["c", "many"] (defScope s__law_take) := ⟨rfl, rfl, rfl, by decide +kernel, rfl, by decide +kernel, by decide +kernel⟩
noncomputable def d__law_take (p__law_fill : Fn) : DenS :=
  (sSeq (sIf (tB1 (d2 f_lt (d2 f_ix (cVar 0) (cK (.int 2))) (cVar 1))) (sAsg (dCall 1 p__law_fill (aCons (cVar 0) aNil)) (gSb (cVar 0) (cK (.int 2)))) sNil)
  (sSeq (sAsg (d2 f_mod (dN f_int (aCons (d2 f_ix (cVar 0) (cK (.int 2))) aNil)) (cVar 1)) (gNm 2))
  (sSeq (sAsg (d2 f_fdiv (d2 f_ix (cVar 0) (cK (.int 2))) (cVar 1)) (gSb (cVar 0) (cK (.int 2))))
  (sRet (cVar 2)))))
theorem b__law_take {P : Program} {w : World} {K : Frg} {mg : Str → Option Value} {base : Heap} {j : Nat} (m : MG mg) {p__law_fill : Fn} (c__law_fill : Callee P w K mg base j "_law_fill" 1 p__law_fill) {qual : Str} {f : Addr} {cdv : Value} {A : Around} {outer : List Env} {s : Shared} {H : Hp} {E : XK} (hr : Room j (A.deeper (envOfC qual (defScope s__law_take) s.heap.objs.size f cdv))) :
    PSs (cxOf CX0 P w K mg base N__law_take qual (defScope s__law_take) f cdv A outer s H E).nox (defBody s__law_take) (tS K (d__law_take p__law_fill)) :=
    have nd := sc__law_take.nd
    (ss_cons (s_if (x_cmp (o_lt hr.units0) s_lt (e_ix (e_var 0) e_int) (e_var 1) (nomark _)) (ss_one (s_asg (e_call c__law_fill hr (a_cons (e_var 0) a_nil)) (g_sb (e_var 0) e_int))) ss_nil)
      (ss_cons (s_set 2 nd (e_op o_mod s_mod (e_callTy call_int1 s_int m.int (a_cons (e_ix (e_var 0) e_int) a_nil)) (e_var 1)))
      (ss_cons (s_asg (e_op o_fdiv s_fdiv (e_ix (e_var 0) e_int) (e_var 1)) (g_sb (e_var 0) e_int))
      (ss_one (s_ret (e_var 2))))))
theorem w__law_take {P : Program} {w : World} {K : Frg} {mg : Str → Option Value} {base : Heap} {j : Nat} (m : MG mg) {p__law_fill : Fn} (c__law_fill : Callee P w K mg base j "_law_fill" 1 p__law_fill) {f : Addr} {fd : FuncData} (F : L2.Fun K "_law_take" "_law_take" s__law_take f fd) (hg : mg "_law_take" = some (.ref f)) {ψ : Fn}
    (hψ : Den.Does N__law_take.length 2 (d__law_take p__law_fill) ψ) : Callee P w K mg base (j + 1) "_law_take" 2 ψ :=
  ⟨⟨f, fd, ["c", "many"], fn_ok F sc__law_take (fun _ _ _ _ _ _ hr => b__law_take m c__law_fill hr) hψ, hg, F.kp, F.binds fun _ _ _ _ _ _ us hl => match us, hl with | [_, _], _ => rfl⟩⟩
/-! ### _law_is_int -/
def N__law_is_int : List Str := ["value"]
abbrev s__law_is_int : Stmt := topS 16
theorem sc__law_is_int : FnScope N__law_is_int ["value"] (defScope s__law_is_int) := ⟨rfl, rfl, rfl, by decide +kernel, rfl, by decide +kernel, by decide +kernel⟩
noncomputable def d__law_is_int : DenS :=
  (sRet (dAn (d1 (f_isi .int) (cVar 0)) (dNo (d1 (f_isi .bool) (cVar 0)))))
theorem b__law_is_int {P : Program} {w : World} {K : Frg} {mg : Str → Option Value} {base : Heap} {j : Nat} (m : MG mg) {qual : Str} {f : Addr} {cdv : Value} {A : Around} {outer : List Env} {s : Shared} {H : Hp} {E : XK} (hr : Room j (A.deeper (envOfC qual (defScope s__law_is_int) s.heap.objs.size f cdv))) :
    PSs (cxOf CX0 P w K mg base N__law_is_int qual (defScope s__law_is_int) f cdv A outer s H E).nox (defBody s__law_is_int) (tS K d__law_is_int) :=
    have nd := sc__law_is_int.nd
    (ss_one (s_ret (e_an (e_isi .int (e_var 0) m.isinstance m.int) (e_one (e_no (e_isi .bool (e_var 0) m.isinstance m.bool))))))
theorem w__law_is_int {P : Program} {w : World} {K : Frg} {mg : Str → Option Value} {base : Heap} {j : Nat} (m : MG mg) {f : Addr} {fd : FuncData} (F : L2.Fun K "_law_is_int" "_law_is_int" s__law_is_int f fd) (hg : mg "_law_is_int" = some (.ref f)) {ψ : Fn}
    (hψ : Den.Does N__law_is_int.length 1 d__law_is_int ψ) : Callee P w K mg base (j + 1) "_law_is_int" 1 ψ :=
  ⟨⟨f, fd, ["value"], fn_ok F sc__law_is_int (fun _ _ _ _ _ _ hr => b__law_is_int m hr) hψ, hg, F.kp, F.binds fun _ _ _ _ _ _ us hl => match us, hl with | [_], _ => rfl⟩⟩
/-! ### _law_alike -/
def N__law_alike : List Str := ["value", "due", "k"]
abbrev s__law_alike : Stmt := topS 17
theorem sc__law_alike : FnScope N__law_alike ["value", "due"] (defScope s__law_alike) := ⟨rfl, rfl, rfl, by decide +kernel, rfl, by decide +kernel, by decide +kernel⟩
noncomputable def d__law_alike (p__law_alike : Fn) : DenS :=
  (sSeq (sIf (tTru (d1 (f_isi .tuple) (cVar 1))) (sRet (dAn (d1 (f_isi .tuple) (cVar 0)) (dAn (d2 f_eq (dN f_len (aCons (cVar 0) aNil)) (dN f_len (aCons (cVar 1) aNil))) (dN f_all (aCons (dLc [2] (itRg1 (aCons (dN f_len (aCons (cVar 1) aNil)) aNil)) (gNm 2) tAll (dCall 2 p__law_alike (aCons (d2 f_ix (cVar 0) (cVar 2)) (aCons (d2 f_ix (cVar 1) (cVar 2)) aNil)))) aNil))))) sNil)
  (sSeq (sIf (tB1 (d2 f_is (cVar 1) (cK .non))) (sRet (d2 f_is (cVar 0) (cK .non))) sNil)
  (sSeq (sIf (tOr' (tTru (d1 (f_isi .bool) (cVar 0))) (tB1 (d2 f_ne (d1 (f_isi .str) (cVar 0)) (d1 (f_isi .str) (cVar 1))))) (sRet (cK (.bl false))) sNil)
  (sRet (dAn (d1 (f_isi2 .int .str) (cVar 0)) (d2 f_eq (cVar 0) (cVar 1)))))))
theorem b__law_alike {P : Program} {w : World} {K : Frg} {mg : Str → Option Value} {base : Heap} {j : Nat} (m : MG mg) {p__law_alike : Fn} (c__law_alike : Callee P w K mg base j "_law_alike" 2 p__law_alike) {qual : Str} {f : Addr} {cdv : Value} {A : Around} {outer : List Env} {s : Shared} {H : Hp} {E : XK} (hr : Room j (A.deeper (envOfC qual (defScope s__law_alike) s.heap.objs.size f cdv))) :
    PSs (cxOf CX0 P w K mg base N__law_alike qual (defScope s__law_alike) f cdv A outer s H E).nox (defBody s__law_alike) (tS K (d__law_alike p__law_alike)) :=
    have nd := sc__law_alike.nd
    (ss_cons (s_if (x_tru (e_isi .tuple (e_var 1) m.isinstance m.tuple)) (ss_one (s_ret (e_an (e_isi .tuple (e_var 0) m.isinstance m.tuple) (e_an (e_cmp (o_eq hr.units) s_eq (e_callB call_len s_len m.len (a_cons (e_var 0) a_nil)) (e_callB call_len s_len m.len (a_cons (e_var 1) a_nil)) (nomark _)) (e_one (e_callB (cr_all (by rfl)) s_all m.all (a_cons (e_lc (own := [("k", 2)]) nd (i_rg1 m.range (a_cons (e_callB call_len s_len m.len (a_cons (e_var 1) a_nil)) a_nil)) ci_rg1 (blkOk_by (own := [("k", 2)]) (N := N__law_alike) (sc := defScope s__law_alike) (by decide +kernel)) (gin_nmV 2) (fun _ _ _ _ _ => (pg_name (i := 2) nd rfl (by first | exact Or.inl rfl | exact Or.inr rfl))) (fun _ _ _ _ _ => x_nil) (fun _ _ _ _ _ => (e_call c__law_alike hr (a_cons (e_ix (e_var 0) (e_var 2)) (a_cons (e_ix (e_var 1) (e_var 2)) a_nil))))) a_nil))))))) ss_nil)
      (ss_cons (s_if (x_cmp o_is s_is (e_var 1) e_non (nomark _)) (ss_one (s_ret (e_cmp o_is s_is (e_var 0) e_non (nomark _)))) ss_nil)
      (ss_cons (s_if (x_or (x_tru (e_isi .bool (e_var 0) m.isinstance m.bool)) (x_or1 (x_cmp (o_ne hr.units) s_ne (e_isi .str (e_var 0) m.isinstance m.str) (e_isi .str (e_var 1) m.isinstance m.str) (nomark _)))).pt (ss_one (s_ret e_bl)) ss_nil)
      (ss_one (s_ret (e_an (e_isi2 .int .str (e_var 0) m.isinstance m.int m.str) (e_one (e_cmp (o_eq hr.units) s_eq (e_var 0) (e_var 1) (nomark _)))))))))
theorem w__law_alike {P : Program} {w : World} {K : Frg} {mg : Str → Option Value} {base : Heap} {j : Nat} (m : MG mg) {p__law_alike : Fn} (c__law_alike : Callee P w K mg base j "_law_alike" 2 p__law_alike) {f : Addr} {fd : FuncData} (F : L2.Fun K "_law_alike" "_law_alike" s__law_alike f fd) (hg : mg "_law_alike" = some (.ref f)) {ψ : Fn}
    (hψ : Den.Does N__law_alike.length 2 (d__law_alike p__law_alike) ψ) : Callee P w K mg base (j + 1) "_law_alike" 2 ψ :=
  ⟨⟨f, fd, ["value", "due"], fn_ok F sc__law_alike (fun _ _ _ _ _ _ hr => b__law_alike m c__law_alike hr) hψ, hg, F.kp, F.binds fun _ _ _ _ _ _ us hl => match us, hl with | [_, _], _ => rfl⟩⟩
/-! ### _law_spoilt -/
def N__law_spoilt : List Str := ["c", "value", "k"]
abbrev s__law_spoilt : Stmt := topS 18
theorem sc__law_spoilt : FnScope N__law_spoilt ["c", "value"] (defScope s__law_spoilt) := ⟨rfl, rfl, rfl, by decide +kernel, rfl, by decide +kernel, by decide +kernel⟩
noncomputable def d__law_spoilt (p__law_take : Fn) (p__law_spoilt : Fn) : DenS :=
  (sSeq (sIf (tTru (d1 (f_isi .str) (cVar 1))) (sRet (d2 f_ix (dLst (aCons (cK (.str (Str.ofString ""))) (aCons (cK (.str (Str.ofString "joined"))) (aCons (cK (.str (Str.ofString "apart"))) (aCons (cK (.str (Str.ofString "prime"))) (aCons (cK (.str (Str.ofString "factors"))) (aCons (cK (.str (Str.ofString "order"))) (aCons (cK (.str (Str.ofString "none"))) (aCons (cK (.str (Str.ofString "square"))) (aCons (cK (.str (Str.ofString "parts"))) (aCons (cK (.str (Str.ofString "same"))) (aCons (cK (.str (Str.ofString "norm"))) aNil)))))))))))) (dCall 2 p__law_take (aCons (cVar 0) (aCons (cK (.int 11)) aNil))))) sNil)
  (sSeq (sIf (tNo (tTru (d1 (f_isi .tuple) (cVar 1)))) (sRet (d2 f_ix (dLst (aCons (cK (.int 0)) (aCons (cK (.int 1)) (aCons (cK (.int 2)) (aCons (d1 f_neg (cK (.int 1))) (aCons (cK (.bl true)) (aCons (cK .non) (aCons (cK (.int 3)) aNil)))))))) (dCall 2 p__law_take (aCons (cVar 0) (aCons (cK (.int 7)) aNil))))) sNil)
  (sSeq (sIf (tOr' (tNo (tTru (cVar 1))) (tB1 (d2 f_eq (dCall 2 p__law_take (aCons (cVar 0) (aCons (cK (.int 5)) aNil))) (cK (.int 0))))) (sRet (d2 f_ix (dLst (aCons (dSl (cVar 1) (oSo (cK (.int 1))) oNo) (aCons (dSl (cVar 1) oNo (oSo (d1 f_neg (cK (.int 1))))) (aCons (d2 f_add (cVar 1) (dSl (cVar 1) (oSo (d1 f_neg (cK (.int 1)))) oNo)) (aCons (d2 f_rev (cVar 1) (d1 f_neg (cK (.int 1)))) (aCons (dN f_list (aCons (cVar 1) aNil)) (aCons (d2 f_add (cVar 1) (dTup (aCons (cK (.int 0)) aNil))) (aCons (dTup aNil) (aCons (dTup (aCons (cK (.int 1)) (aCons (cK (.int 0)) aNil))) aNil))))))))) (dCall 2 p__law_take (aCons (cVar 0) (aCons (cK (.int 8)) aNil))))) sNil)
  (sSeq (sAsg (dCall 2 p__law_take (aCons (cVar 0) (aCons (dN f_len (aCons (cVar 1) aNil)) aNil))) (gNm 2))
  (sRet (d2 f_add (d2 f_add (dSl (cVar 1) oNo (oSo (cVar 2))) (dTup (aCons (dCall 2 p__law_spoilt (aCons (cVar 0) (aCons (d2 f_ix (cVar 1) (cVar 2)) aNil))) aNil))) (dSl (cVar 1) (oSo (d2 f_add (cVar 2) (cK (.int 1)))) oNo)))))))
theorem b__law_spoilt {P : Program} {w : World} {K : Frg} {mg : Str → Option Value} {base : Heap} {j : Nat} (m : MG mg) {p__law_take : Fn} (c__law_take : Callee P w K mg base j "_law_take" 2 p__law_take) {p__law_spoilt : Fn} (c__law_spoilt : Callee P w K mg base j "_law_spoilt" 2 p__law_spoilt) {qual : Str} {f : Addr} {cdv : Value} {A : Around} {outer : List Env} {s : Shared} {H : Hp} {E : XK} (hr : Room j (A.deeper (envOfC qual (defScope s__law_spoilt) s.heap.objs.size f cdv))) :
    PSs (cxOf CX0 P w K mg base N__law_spoilt qual (defScope s__law_spoilt) f cdv A outer s H E).nox (defBody s__law_spoilt) (tS K (d__law_spoilt p__law_take p__law_spoilt)) :=
    have nd := sc__law_spoilt.nd
    (ss_cons (s_if (x_tru (e_isi .str (e_var 1) m.isinstance m.str)) (ss_one (s_ret (e_ix (e_lst (a_cons e_str (a_cons e_str (a_cons e_str (a_cons e_str (a_cons e_str (a_cons e_str (a_cons e_str (a_cons e_str (a_cons e_str (a_cons e_str (a_cons e_str a_nil)))))))))))) (e_call c__law_take hr (a_cons (e_var 0) (a_cons e_int a_nil)))))) ss_nil)
      (ss_cons (s_if (x_no (x_tru (e_isi .tuple (e_var 1) m.isinstance m.tuple))) (ss_one (s_ret (e_ix (e_lst (a_cons e_int (a_cons e_int (a_cons e_int (a_cons (e_un un_neg s_neg e_int) (a_cons e_bl (a_cons e_non (a_cons e_int a_nil)))))))) (e_call c__law_take hr (a_cons (e_var 0) (a_cons e_int a_nil)))))) ss_nil)
      (ss_cons (s_if (x_or (x_no (x_tru (e_var 1))) (x_or1 (x_cmp (o_eq hr.units) s_eq (e_call c__law_take hr (a_cons (e_var 0) (a_cons e_int a_nil))) e_int (nomark _)))).pt (ss_one (s_ret (e_ix (e_lst (a_cons (e_sl (e_var 1) (o_so e_int) o_no) (a_cons (e_sl (e_var 1) o_no (o_so (e_un un_neg s_neg e_int))) (a_cons (e_op o_add s_add (e_var 1) (e_sl (e_var 1) (o_so (e_un un_neg s_neg e_int)) o_no)) (a_cons (e_rev (e_var 1) (e_un un_neg s_neg e_int)) (a_cons (e_callTy call_list_of s_list m.list (a_cons (e_var 1) a_nil)) (a_cons (e_op o_add s_add (e_var 1) (e_tup (a_cons e_int a_nil))) (a_cons (e_tup a_nil) (a_cons (e_tup (a_cons e_int (a_cons e_int a_nil))) a_nil))))))))) (e_call c__law_take hr (a_cons (e_var 0) (a_cons e_int a_nil)))))) ss_nil)
      (ss_cons (s_set 2 nd (e_call c__law_take hr (a_cons (e_var 0) (a_cons (e_callB call_len s_len m.len (a_cons (e_var 1) a_nil)) a_nil))))
      (ss_one (s_ret (e_op o_add s_add (e_op o_add s_add (e_sl (e_var 1) o_no (o_so (e_var 2))) (e_tup (a_cons (e_call c__law_spoilt hr (a_cons (e_var 0) (a_cons (e_ix (e_var 1) (e_var 2)) a_nil))) a_nil))) (e_sl (e_var 1) (o_so (e_op o_add s_add (e_var 2) e_int)) o_no))))))))
theorem w__law_spoilt {P : Program} {w : World} {K : Frg} {mg : Str → Option Value} {base : Heap} {j : Nat} (m : MG mg) {p__law_take : Fn} (c__law_take : Callee P w K mg base j "_law_take" 2 p__law_take) {p__law_spoilt : Fn} (c__law_spoilt : Callee P w K mg base j "_law_spoilt" 2 p__law_spoilt) {f : Addr} {fd : FuncData} (F : L2.Fun K "_law_spoilt" "_law_spoilt" s__law_spoilt f fd) (hg : mg "_law_spoilt" = some (.ref f)) {ψ : Fn}
    (hψ : Den.Does N__law_spoilt.length 2 (d__law_spoilt p__law_take p__law_spoilt) ψ) : Callee P w K mg base (j + 1) "_law_spoilt" 2 ψ :=
  ⟨⟨f, fd, ["c", "value"], fn_ok F sc__law_spoilt (fun _ _ _ _ _ _ hr => b__law_spoilt m c__law_take c__law_spoilt hr) hψ, hg, F.kp, F.binds fun _ _ _ _ _ _ us hl => match us, hl with | [_, _], _ => rfl⟩⟩
/-! ### _law_bent -/
def N__law_bent : List Str := ["c", "value", "turn", "k"]
abbrev s__law_bent : Stmt := topS 19
theorem sc__law_bent : FnScope N__law_bent ["c", "value", "turn"] (defScope s__law_bent) := ⟨rfl, rfl, rfl, by decide +kernel, rfl, by decide +kernel, by decide +kernel⟩
noncomputable def d__law_bent (p__law_take : Fn) (p__law_spoilt : Fn) : DenS :=
  (sSeq (sFor (itRg1 (aCons (d2 f_mul (dN f_int (aCons (d2 f_gt (cVar 2) (cK (.int 0))) aNil)) (d2 f_add (cK (.int 1)) (dCall 2 p__law_take (aCons (cVar 0) (aCons (cK (.int 2)) aNil))))) aNil)) (gNm 3) (sAsg (dCall 2 p__law_spoilt (aCons (cVar 0) (aCons (cVar 1) aNil))) (gNm 1)))
  (sRet (cVar 1)))
theorem b__law_bent {P : Program} {w : World} {K : Frg} {mg : Str → Option Value} {base : Heap} {j : Nat} (m : MG mg) {p__law_take : Fn} (c__law_take : Callee P w K mg base j "_law_take" 2 p__law_take) {p__law_spoilt : Fn} (c__law_spoilt : Callee P w K mg base j "_law_spoilt" 2 p__law_spoilt) {qual : Str} {f : Addr} {cdv : Value} {A : Around} {outer : List Env} {s : Shared} {H : Hp} {E : XK} (hr : Room j (A.deeper (envOfC qual (defScope s__law_bent) s.heap.objs.size f cdv))) :
    PSs (cxOf CX0 P w K mg base N__law_bent qual (defScope s__law_bent) f cdv A outer s H E).nox (defBody s__law_bent) (tS K (d__law_bent p__law_take p__law_spoilt)) :=
    have nd := sc__law_bent.nd
    (ss_cons (s_for (i_rg1 m.range (a_cons (e_op o_mul s_mul (e_callTy call_int1 s_int m.int (a_cons (e_cmp op_gt s_gt (e_var 2) e_int (nomark _)) a_nil)) (e_op o_add s_add e_int (e_call c__law_take hr (a_cons (e_var 0) (a_cons e_int a_nil))))) a_nil)) (g_nm 3 nd) (ss_one (s_set 1 nd (e_call c__law_spoilt hr (a_cons (e_var 0) (a_cons (e_var 1) a_nil))))) ci_rg1)
      (ss_one (s_ret (e_var 1))))
theorem w__law_bent {P : Program} {w : World} {K : Frg} {mg : Str → Option Value} {base : Heap} {j : Nat} (m : MG mg) {p__law_take : Fn} (c__law_take : Callee P w K mg base j "_law_take" 2 p__law_take) {p__law_spoilt : Fn} (c__law_spoilt : Callee P w K mg base j "_law_spoilt" 2 p__law_spoilt) {f : Addr} {fd : FuncData} (F : L2.Fun K "_law_bent" "_law_bent" s__law_bent f fd) (hg : mg "_law_bent" = some (.ref f)) {ψ : Fn}
    (hψ : Den.Does N__law_bent.length 3 (d__law_bent p__law_take p__law_spoilt) ψ) : Callee P w K mg base (j + 1) "_law_bent" 3 ψ :=
  ⟨⟨f, fd, ["c", "value", "turn"], fn_ok F sc__law_bent (fun _ _ _ _ _ _ hr => b__law_bent m c__law_take c__law_spoilt hr) hψ, hg, F.kp, F.binds fun _ _ _ _ _ _ us hl => match us, hl with | [_, _, _], _ => rfl⟩⟩
/-! ### _law_gcd -/
def N__law_gcd : List Str := ["a", "b"]
abbrev s__law_gcd : Stmt := topS 20
theorem sc__law_gcd : FnScope N__law_gcd ["a", "b"] (defScope s__law_gcd) := ⟨rfl, rfl, rfl, by decide +kernel, rfl, by decide +kernel, by decide +kernel⟩
noncomputable def d__law_gcd : DenS :=
  (sSeq (sPar 0 1 (aCons (dN f_abs (aCons (cVar 0) aNil)) (aCons (dN f_abs (aCons (cVar 1) aNil)) aNil)))
  (sSeq (sWh (tB1 (d2 f_ne (cVar 1) (cK (.int 0)))) (sPar 0 1 (aCons (cVar 1) (aCons (d2 f_mod (cVar 0) (cVar 1)) aNil))))
  (sRet (cVar 0))))
theorem b__law_gcd {P : Program} {w : World} {K : Frg} {mg : Str → Option Value} {base : Heap} {j : Nat} (m : MG mg) {qual : Str} {f : Addr} {cdv : Value} {A : Around} {outer : List Env} {s : Shared} {H : Hp} {E : XK} (hr : Room j (A.deeper (envOfC qual (defScope s__law_gcd) s.heap.objs.size f cdv))) :
    PSs (cxOf CX0 P w K mg base N__law_gcd qual (defScope s__law_gcd) f cdv A outer s H E).nox (defBody s__law_gcd) (tS K d__law_gcd) :=
    have nd := sc__law_gcd.nd
    (ss_cons (s_par 0 1 rfl nd (a_cons (e_callB call_abs s_abs m.abs (a_cons (e_var 0) a_nil)) (a_cons (e_callB call_abs s_abs m.abs (a_cons (e_var 1) a_nil)) a_nil)))
      (ss_cons (s_wh (x_cmp (o_ne hr.units) s_ne (e_var 1) e_int (nomark _)) (ss_one (s_par 0 1 rfl nd (a_cons (e_var 1) (a_cons (e_op o_mod s_mod (e_var 0) (e_var 1)) a_nil)))))
      (ss_one (s_ret (e_var 0)))))
theorem w__law_gcd {P : Program} {w : World} {K : Frg} {mg : Str → Option Value} {base : Heap} {j : Nat} (m : MG mg) {f : Addr} {fd : FuncData} (F : L2.Fun K "_law_gcd" "_law_gcd" s__law_gcd f fd) (hg : mg "_law_gcd" = some (.ref f)) {ψ : Fn}
    (hψ : Den.Does N__law_gcd.length 2 d__law_gcd ψ) : Callee P w K mg base (j + 1) "_law_gcd" 2 ψ :=
  ⟨⟨f, fd, ["a", "b"], fn_ok F sc__law_gcd (fun _ _ _ _ _ _ hr => b__law_gcd m hr) hψ, hg, F.kp, F.binds fun _ _ _ _ _ _ us hl => match us, hl with | [_, _], _ => rfl⟩⟩
/-! ### _law_power -/
def N__law_power : List Str := ["a", "k", "n", "found", "base"]
abbrev s__law_power : Stmt := topS 21
theorem sc__law_power : FnScope N__law_power ["a", "k", "n"] (defScope s__law_power) := ⟨rfl, rfl, rfl, by decide +kernel, rfl, by decide +kernel, by decide +kernel⟩
noncomputable def d__law_power : DenS :=
  (sSeq (sPar 3 4 (aCons (d2 f_mod (cK (.int 1)) (cVar 2)) (aCons (d2 f_mod (cVar 0) (cVar 2)) aNil)))
  (sSeq (sWh (tB1 (d2 f_gt (cVar 1) (cK (.int 0)))) (sSeq (sIf (tB1 (d2 f_eq (d2 f_mod (cVar 1) (cK (.int 2))) (cK (.int 1)))) (sAsg (d2 f_mod (d2 f_mul (cVar 3) (cVar 4)) (cVar 2)) (gNm 3)) sNil)
  (sPar 4 1 (aCons (d2 f_mod (d2 f_mul (cVar 4) (cVar 4)) (cVar 2)) (aCons (d2 f_fdiv (cVar 1) (cK (.int 2))) aNil)))))
  (sRet (cVar 3))))
theorem b__law_power {P : Program} {w : World} {K : Frg} {mg : Str → Option Value} {base : Heap} {j : Nat} (m : MG mg) {qual : Str} {f : Addr} {cdv : Value} {A : Around} {outer : List Env} {s : Shared} {H : Hp} {E : XK} (hr : Room j (A.deeper (envOfC qual (defScope s__law_power) s.heap.objs.size f cdv))) :
    PSs (cxOf CX0 P w K mg base N__law_power qual (defScope s__law_power) f cdv A outer s H E).nox (defBody s__law_power) (tS K d__law_power) :=
    have nd := sc__law_power.nd
    (ss_cons (s_par 3 4 rfl nd (a_cons (e_op o_mod s_mod e_int (e_var 2)) (a_cons (e_op o_mod s_mod (e_var 0) (e_var 2)) a_nil)))
      (ss_cons (s_wh (x_cmp op_gt s_gt (e_var 1) e_int (nomark _)) (ss_cons (s_if (x_cmp (o_eq hr.units) s_eq (e_op o_mod s_mod (e_var 1) e_int) e_int (nomark _)) (ss_one (s_set 3 nd (e_op o_mod s_mod (e_op o_mul s_mul (e_var 3) (e_var 4)) (e_var 2)))) ss_nil)
      (ss_one (s_par 4 1 rfl nd (a_cons (e_op o_mod s_mod (e_op o_mul s_mul (e_var 4) (e_var 4)) (e_var 2)) (a_cons (e_op o_fdiv s_fdiv (e_var 1) e_int) a_nil))))))
      (ss_one (s_ret (e_var 3)))))
theorem w__law_power {P : Program} {w : World} {K : Frg} {mg : Str → Option Value} {base : Heap} {j : Nat} (m : MG mg) {f : Addr} {fd : FuncData} (F : L2.Fun K "_law_power" "_law_power" s__law_power f fd) (hg : mg "_law_power" = some (.ref f)) {ψ : Fn}
    (hψ : Den.Does N__law_power.length 3 d__law_power ψ) : Callee P w K mg base (j + 1) "_law_power" 3 ψ :=
  ⟨⟨f, fd, ["a", "k", "n"], fn_ok F sc__law_power (fun _ _ _ _ _ _ hr => b__law_power m hr) hψ, hg, F.kp, F.binds fun _ _ _ _ _ _ us hl => match us, hl with | [_, _, _], _ => rfl⟩⟩
/-! ### _law_primes -/
def N__law_primes : List Str := ["n", "found", "p", "e"]
abbrev s__law_primes : Stmt := topS 22
theorem sc__law_primes : FnScope N__law_primes ["n"] (defScope s__law_primes) := ⟨rfl, rfl, rfl, by decide +kernel, rfl, by decide +kernel, by decide +kernel⟩
noncomputable def d__law_primes : DenS :=
  (sSeq (sPar 1 2 (aCons (dLoc aNil) (aCons (cK (.int 2)) aNil)))
  (sSeq (sWh (tB1 (d2 f_le (d2 f_mul (cVar 2) (cVar 2)) (cVar 0))) (sSeq (sAsg (cK (.int 0)) (gNm 3))
  (sSeq (sWh (tB1 (d2 f_eq (d2 f_mod (cVar 0) (cVar 2)) (cK (.int 0)))) (sPar 0 3 (aCons (d2 f_fdiv (cVar 0) (cVar 2)) (aCons (d2 f_add (cVar 3) (cK (.int 1))) aNil))))
  (sSeq (sIf (tB1 (d2 f_gt (cVar 3) (cK (.int 0)))) (sEx (dML f_app (cVar 1) (aCons (dTup (aCons (cVar 2) (aCons (cVar 3) aNil))) aNil))) sNil)
  (sAsg (d2 f_add (cVar 2) (cK (.int 1))) (gNm 2))))))
  (sRet (d2 f_add (cVar 1) (dIf (tB1 (d2 f_gt (cVar 0) (cK (.int 1)))) (dLst (aCons (dTup (aCons (cVar 0) (aCons (cK (.int 1)) aNil))) aNil)) (dLst aNil))))))
theorem b__law_primes {P : Program} {w : World} {K : Frg} {mg : Str → Option Value} {base : Heap} {j : Nat} (m : MG mg) {qual : Str} {f : Addr} {cdv : Value} {A : Around} {outer : List Env} {s : Shared} {H : Hp} {E : XK} (hr : Room j (A.deeper (envOfC qual (defScope s__law_primes) s.heap.objs.size f cdv))) :
    PSs (cxOf CX0 P w K mg base N__law_primes qual (defScope s__law_primes) f cdv A outer s H E).nox (defBody s__law_primes) (tS K d__law_primes) :=
    have nd := sc__law_primes.nd
    (ss_cons (s_par 1 2 rfl nd (a_cons (e_loc a_nil) (a_cons e_int a_nil)))
      (ss_cons (s_wh (x_cmp op_le s_le (e_op o_mul s_mul (e_var 2) (e_var 2)) (e_var 0) (nomark _)) (ss_cons (s_set 3 nd e_int)
      (ss_cons (s_wh (x_cmp (o_eq hr.units) s_eq (e_op o_mod s_mod (e_var 0) (e_var 2)) e_int (nomark _)) (ss_one (s_par 0 3 rfl nd (a_cons (e_op o_fdiv s_fdiv (e_var 0) (e_var 2)) (a_cons (e_op o_add s_add (e_var 3) e_int) a_nil)))))
      (ss_cons (s_if (x_cmp op_gt s_gt (e_var 3) e_int (nomark _)) (ss_one (s_ex (e_bm PySem.F.plainAttrs_list PySem.F.slot_list_append PySem.F.type_list_append mt_append s_app (e_var 1) (a_cons (e_tup (a_cons (e_var 2) (a_cons (e_var 3) a_nil))) a_nil)))) ss_nil)
      (ss_one (s_set 2 nd (e_op o_add s_add (e_var 2) e_int)))))))
      (ss_one (s_ret (e_op o_add s_add (e_var 1) (e_if (x_cmp op_gt s_gt (e_var 0) e_int (nomark _)) (e_lst (a_cons (e_tup (a_cons (e_var 0) (a_cons e_int a_nil))) a_nil)) (e_lst a_nil)))))))
theorem w__law_primes {P : Program} {w : World} {K : Frg} {mg : Str → Option Value} {base : Heap} {j : Nat} (m : MG mg) {f : Addr} {fd : FuncData} (F : L2.Fun K "_law_primes" "_law_primes" s__law_primes f fd) (hg : mg "_law_primes" = some (.ref f)) {ψ : Fn}
    (hψ : Den.Does N__law_primes.length 1 d__law_primes ψ) : Callee P w K mg base (j + 1) "_law_primes" 1 ψ :=
  ⟨⟨f, fd, ["n"], fn_ok F sc__law_primes (fun _ _ _ _ _ _ hr => b__law_primes m hr) hψ, hg, F.kp, F.binds fun _ _ _ _ _ _ us hl => match us, hl with | [_], _ => rfl⟩⟩
/-! ### _law_is_prime -/
def N__law_is_prime : List Str := ["n"]
abbrev s__law_is_prime : Stmt := topS 23
theorem sc__law_is_prime : FnScope N__law_is_prime ["n"] (defScope s__law_is_prime) := ⟨rfl, rfl, rfl, by decide +kernel, rfl, by decide +kernel, by decide +kernel⟩
noncomputable def d__law_is_prime (p__law_primes : Fn) : DenS :=
  (sRet (dAn (d2 f_gt (cVar 0) (cK (.int 1))) (d2 f_eq (dCall 1 p__law_primes (aCons (cVar 0) aNil)) (dLst (aCons (dTup (aCons (cVar 0) (aCons (cK (.int 1)) aNil))) aNil)))))
theorem b__law_is_prime {P : Program} {w : World} {K : Frg} {mg : Str → Option Value} {base : Heap} {j : Nat} (m : MG mg) {p__law_primes : Fn} (c__law_primes : Callee P w K mg base j "_law_primes" 1 p__law_primes) {qual : Str} {f : Addr} {cdv : Value} {A : Around} {outer : List Env} {s : Shared} {H : Hp} {E : XK} (hr : Room j (A.deeper (envOfC qual (defScope s__law_is_prime) s.heap.objs.size f cdv))) :
    PSs (cxOf CX0 P w K mg base N__law_is_prime qual (defScope s__law_is_prime) f cdv A outer s H E).nox (defBody s__law_is_prime) (tS K (d__law_is_prime p__law_primes)) :=
    have nd := sc__law_is_prime.nd
    (ss_one (s_ret (e_an (e_cmp op_gt s_gt (e_var 0) e_int (nomark _)) (e_one (e_cmp (o_eq hr.units) s_eq (e_call c__law_primes hr (a_cons (e_var 0) a_nil)) (e_lst (a_cons (e_tup (a_cons (e_var 0) (a_cons e_int a_nil))) a_nil)) (nomark _))))))
theorem w__law_is_prime {P : Program} {w : World} {K : Frg} {mg : Str → Option Value} {base : Heap} {j : Nat} (m : MG mg) {p__law_primes : Fn} (c__law_primes : Callee P w K mg base j "_law_primes" 1 p__law_primes) {f : Addr} {fd : FuncData} (F : L2.Fun K "_law_is_prime" "_law_is_prime" s__law_is_prime f fd) (hg : mg "_law_is_prime" = some (.ref f)) {ψ : Fn}
    (hψ : Den.Does N__law_is_prime.length 1 (d__law_is_prime p__law_primes) ψ) : Callee P w K mg base (j + 1) "_law_is_prime" 1 ψ :=
  ⟨⟨f, fd, ["n"], fn_ok F sc__law_is_prime (fun _ _ _ _ _ _ hr => b__law_is_prime m c__law_primes hr) hψ, hg, F.kp, F.binds fun _ _ _ _ _ _ us hl => match us, hl with | [_], _ => rfl⟩⟩
/-! ### _law_fits -/
def N__law_fits : List Str := ["a", "n", "q", "e"]
abbrev s__law_fits : Stmt := topS 24
theorem sc__law_fits : FnScope N__law_fits ["a", "n"] (defScope s__law_fits) := ⟨rfl, rfl, rfl, by decide +kernel, rfl, by decide +kernel, by decide +kernel⟩
noncomputable def d__law_fits (p__law_power : Fn) (p__law_primes : Fn) : DenS :=
  (sRet (dAn (d2 f_eq (dCall 3 p__law_power (aCons (cVar 0) (aCons (d2 f_sub (cVar 1) (cK (.int 1))) (aCons (cVar 1) aNil)))) (d2 f_mod (cK (.int 1)) (cVar 1))) (dNo (dN f_any (aCons (dLc [2, 3] (itSeq (dCall 1 p__law_primes (aCons (d2 f_sub (cVar 1) (cK (.int 1))) aNil))) (gTu 2 (gsCons (gNm 2) (gsCons (gNm 3) gsNil))) tAll (d2 f_eq (dCall 3 p__law_power (aCons (cVar 0) (aCons (d2 f_fdiv (d2 f_sub (cVar 1) (cK (.int 1))) (cVar 2)) (aCons (cVar 1) aNil)))) (d2 f_mod (cK (.int 1)) (cVar 1)))) aNil)))))
theorem b__law_fits {P : Program} {w : World} {K : Frg} {mg : Str → Option Value} {base : Heap} {j : Nat} (m : MG mg) {p__law_power : Fn} (c__law_power : Callee P w K mg base j "_law_power" 3 p__law_power) {p__law_primes : Fn} (c__law_primes : Callee P w K mg base j "_law_primes" 1 p__law_primes) {qual : Str} {f : Addr} {cdv : Value} {A : Around} {outer : List Env} {s : Shared} {H : Hp} {E : XK} (hr : Room j (A.deeper (envOfC qual (defScope s__law_fits) s.heap.objs.size f cdv))) :
    PSs (cxOf CX0 P w K mg base N__law_fits qual (defScope s__law_fits) f cdv A outer s H E).nox (defBody s__law_fits) (tS K (d__law_fits p__law_power p__law_primes)) :=
    have nd := sc__law_fits.nd
    (ss_one (s_ret (e_an (e_cmp (o_eq hr.units) s_eq (e_call c__law_power hr (a_cons (e_var 0) (a_cons (e_op o_sub s_sub (e_var 1) e_int) (a_cons (e_var 1) a_nil)))) (e_op o_mod s_mod e_int (e_var 1)) (nomark _)) (e_one (e_no (e_callB (cr_any (by rfl)) s_any m.any (a_cons (e_lc (own := [("q", 2), ("e", 3)]) nd (i_seq (e_call c__law_primes hr (a_cons (e_op o_sub s_sub (e_var 1) e_int) a_nil))) ci_seq (blkOk_by (own := [("q", 2), ("e", 3)]) (N := N__law_fits) (sc := defScope s__law_fits) (by decide +kernel)) (gin_tu2V 2 3) (fun _ _ _ _ _ => (pg_tup rfl (pgs_cons (pg_name (i := 2) nd rfl (by first | exact Or.inl rfl | exact Or.inr rfl)) (pgs_cons (pg_name (i := 3) nd rfl (by first | exact Or.inl rfl | exact Or.inr rfl)) pgs_nil)))) (fun _ _ _ _ _ => x_nil) (fun _ _ _ _ _ => (e_cmp (o_eq hr.units) s_eq (e_call c__law_power hr (a_cons (e_var 0) (a_cons (e_op o_fdiv s_fdiv (e_op o_sub s_sub (e_var 1) e_int) (e_var 2)) (a_cons (e_var 1) a_nil)))) (e_op o_mod s_mod e_int (e_var 1)) (nomark _)))) a_nil)))))))
theorem w__law_fits {P : Program} {w : World} {K : Frg} {mg : Str → Option Value} {base : Heap} {j : Nat} (m : MG mg) {p__law_power : Fn} (c__law_power : Callee P w K mg base j "_law_power" 3 p__law_power) {p__law_primes : Fn} (c__law_primes : Callee P w K mg base j "_law_primes" 1 p__law_primes) {f : Addr} {fd : FuncData} (F : L2.Fun K "_law_fits" "_law_fits" s__law_fits f fd) (hg : mg "_law_fits" = some (.ref f)) {ψ : Fn}
    (hψ : Den.Does N__law_fits.length 2 (d__law_fits p__law_power p__law_primes) ψ) : Callee P w K mg base (j + 1) "_law_fits" 2 ψ :=
  ⟨⟨f, fd, ["a", "n"], fn_ok F sc__law_fits (fun _ _ _ _ _ _ hr => b__law_fits m c__law_power c__law_primes hr) hψ, hg, F.kp, F.binds fun _ _ _ _ _ _ us hl => match us, hl with | [_, _], _ => rfl⟩⟩
/-! ### _law_paper -/
def N__law_paper : List Str := ["n", "least", "left", "order", "p", "table", "a", "d", "q", "e", "x"]
abbrev s__law_paper : Stmt := topS 25
theorem sc__law_paper : FnScope N__law_paper ["n"] (defScope s__law_paper) := ⟨rfl, rfl, rfl, by decide +kernel, rfl, by decide +kernel, by decide +kernel⟩
noncomputable def d__law_paper (p__law_primes : Fn) (p__law_fits : Fn) : DenS :=
  (sSeq (sAsg (d2 f_ix (dLc [7] (itRg2 (aCons (cK (.int 2)) (aCons (d2 f_add (cVar 0) (cK (.int 1))) aNil))) (gNm 7) (tB1 (d2 f_eq (d2 f_mod (cVar 0) (cVar 7)) (cK (.int 0)))) (cVar 7)) (cK (.int 0))) (gNm 1))
  (sSeq (sIf (tB1 (d2 f_lt (cVar 1) (cVar 0))) (sRet (dTup (aCons (cK (.str (Str.ofString "factors"))) (aCons (cVar 1) (aCons (d2 f_fdiv (cVar 0) (cVar 1)) aNil))))) sNil)
  (sSeq (sPar 2 3 (aCons (dLoc (aCons (cVar 0) aNil)) (aCons (dLoc aNil) aNil)))
  (sSeq (sWh (tTru (cVar 2)) (sSeq (sAsg (dML f_pop (cVar 2) aNil) (gNm 4))
  (sIf (tB1 (d2 f_notin (cVar 4) (cVar 3))) (sSeq (sEx (dML f_app (cVar 3) (aCons (cVar 4) aNil)))
  (sAsg (d2 f_addM (cVar 2) (dLc [8, 9] (itSeq (dCall 1 p__law_primes (aCons (d2 f_sub (cVar 4) (cK (.int 1))) aNil))) (gTu 2 (gsCons (gNm 8) (gsCons (gNm 9) gsNil))) tAll (cVar 8))) (gNm 2))) sNil)))
  (sSeq (sAsg dDic (gNm 5))
  (sSeq (sFor (itSeq (dN f_sorted (aCons (cVar 3) aNil))) (gNm 4) (sSeq (sAsg (d2 f_ix (dLc [10] (itRg2 (aCons (cK (.int 1)) (aCons (cVar 4) aNil))) (gNm 10) (tTru (dCall 2 p__law_fits (aCons (cVar 10) (aCons (cVar 4) aNil)))) (cVar 10)) (cK (.int 0))) (gNm 6))
  (sAsg (dTup (aCons (cK (.str (Str.ofString "prime"))) (aCons (cVar 6) (aCons (dN f_tuple (aCons (dLc [8, 9] (itSeq (dCall 1 p__law_primes (aCons (d2 f_sub (cVar 4) (cK (.int 1))) aNil))) (gTu 2 (gsCons (gNm 8) (gsCons (gNm 9) gsNil))) tAll (dTup (aCons (cVar 8) (aCons (d2 f_dix (cVar 5) (cVar 8)) aNil)))) aNil)) aNil)))) (gDp (cVar 5) (cVar 4)))))
  (sRet (d2 f_dix (cVar 5) (cVar 0)))))))))
theorem b__law_paper {P : Program} {w : World} {K : Frg} {mg : Str → Option Value} {base : Heap} {j : Nat} (m : MG mg) {p__law_primes : Fn} (c__law_primes : Callee P w K mg base j "_law_primes" 1 p__law_primes) {p__law_fits : Fn} (c__law_fits : Callee P w K mg base j "_law_fits" 2 p__law_fits) {qual : Str} {f : Addr} {cdv : Value} {A : Around} {outer : List Env} {s : Shared} {H : Hp} {E : XK} (hr : Room j (A.deeper (envOfC qual (defScope s__law_paper) s.heap.objs.size f cdv))) :
    PSs (cxOf CX0 P w K mg base N__law_paper qual (defScope s__law_paper) f cdv A outer s H E).nox (defBody s__law_paper) (tS K (d__law_paper p__law_primes p__law_fits)) :=
    have nd := sc__law_paper.nd
    (ss_cons (s_set 1 nd (e_ix (e_lc (own := [("d", 7)]) nd (i_rg2 m.range (a_cons e_int (a_cons (e_op o_add s_add (e_var 0) e_int) a_nil))) ci_rg2 (blkOk_by (own := [("d", 7)]) (N := N__law_paper) (sc := defScope s__law_paper) (by decide +kernel)) (gin_nmV 7) (fun _ _ _ _ _ => (pg_name (i := 7) nd rfl (by first | exact Or.inl rfl | exact Or.inr rfl))) (fun _ _ _ _ _ => (x_one (x_cmp (o_eq hr.units) s_eq (e_op o_mod s_mod (e_var 0) (e_var 7)) e_int (nomark _)))) (fun _ _ _ _ _ => (e_var 7))) e_int))
      (ss_cons (s_if (x_cmp (o_lt hr.units0) s_lt (e_var 1) (e_var 0) (nomark _)) (ss_one (s_ret (e_tup (a_cons e_str (a_cons (e_var 1) (a_cons (e_op o_fdiv s_fdiv (e_var 0) (e_var 1)) a_nil)))))) ss_nil)
      (ss_cons (s_par 2 3 rfl nd (a_cons (e_loc (a_cons (e_var 0) a_nil)) (a_cons (e_loc a_nil) a_nil)))
      (ss_cons (s_wh (x_tru (e_var 2)) (ss_cons (s_set 4 nd (e_bm0 PySem.F.plainAttrs_list PySem.F.slot_list_pop PySem.F.type_list_pop mt_pop s_pop (e_var 2)))
      (ss_one (s_if (x_cmp (o_notin (hu65 hr)) s_notin (e_var 4) (e_var 3) (by with_unfolding_all rfl)) (ss_cons (s_ex (e_bm PySem.F.plainAttrs_list PySem.F.slot_list_append PySem.F.type_list_append mt_append s_app (e_var 3) (a_cons (e_var 4) a_nil)))
      (ss_one (s_set 2 nd (e_op o_add s_addM (e_var 2) (e_lc (own := [("q", 8), ("e", 9)]) nd (i_seq (e_call c__law_primes hr (a_cons (e_op o_sub s_sub (e_var 4) e_int) a_nil))) ci_seq (blkOk_by (own := [("q", 8), ("e", 9)]) (N := N__law_paper) (sc := defScope s__law_paper) (by decide +kernel)) (gin_tu2V 8 9) (fun _ _ _ _ _ => (pg_tup rfl (pgs_cons (pg_name (i := 8) nd rfl (by first | exact Or.inl rfl | exact Or.inr rfl)) (pgs_cons (pg_name (i := 9) nd rfl (by first | exact Or.inl rfl | exact Or.inr rfl)) pgs_nil)))) (fun _ _ _ _ _ => x_nil) (fun _ _ _ _ _ => (e_var 8))))))) ss_nil))))
      (ss_cons (s_set 5 nd e_dic)
      (ss_cons (s_for (i_seq (e_callB cr_sortedI s_sorted m.sorted (a_cons (e_var 3) a_nil))) (g_nm 4 nd) (ss_cons (s_set 6 nd (e_ix (e_lc (own := [("x", 10)]) nd (i_rg2 m.range (a_cons e_int (a_cons (e_var 4) a_nil))) ci_rg2 (blkOk_by (own := [("x", 10)]) (N := N__law_paper) (sc := defScope s__law_paper) (by decide +kernel)) (gin_nmV 10) (fun _ _ _ _ _ => (pg_name (i := 10) nd rfl (by first | exact Or.inl rfl | exact Or.inr rfl))) (fun _ _ _ _ _ => (x_one (x_tru (e_call c__law_fits hr (a_cons (e_var 10) (a_cons (e_var 4) a_nil)))))) (fun _ _ _ _ _ => (e_var 10))) e_int))
      (ss_one (s_dput (hu65 hr) (e_var 5) (e_var 4) (e_tup (a_cons e_str (a_cons (e_var 6) (a_cons (e_callTy call_tuple_of s_tuple m.tuple (a_cons (e_lc (own := [("q", 8), ("e", 9)]) nd (i_seq (e_call c__law_primes hr (a_cons (e_op o_sub s_sub (e_var 4) e_int) a_nil))) ci_seq (blkOk_by (own := [("q", 8), ("e", 9)]) (N := N__law_paper) (sc := defScope s__law_paper) (by decide +kernel)) (gin_tu2V 8 9) (fun _ _ _ _ _ => (pg_tup rfl (pgs_cons (pg_name (i := 8) nd rfl (by first | exact Or.inl rfl | exact Or.inr rfl)) (pgs_cons (pg_name (i := 9) nd rfl (by first | exact Or.inl rfl | exact Or.inr rfl)) pgs_nil)))) (fun _ _ _ _ _ => x_nil) (fun _ _ _ _ _ => (e_tup (a_cons (e_var 8) (a_cons (e_dix (hu65 hr) (e_var 5) (e_var 8)) a_nil))))) a_nil)) a_nil))))))) ci_seq)
      (ss_one (s_ret (e_dix (hu65 hr) (e_var 5) (e_var 0))))))))))
theorem w__law_paper {P : Program} {w : World} {K : Frg} {mg : Str → Option Value} {base : Heap} {j : Nat} (m : MG mg) {p__law_primes : Fn} (c__law_primes : Callee P w K mg base j "_law_primes" 1 p__law_primes) {p__law_fits : Fn} (c__law_fits : Callee P w K mg base j "_law_fits" 2 p__law_fits) {f : Addr} {fd : FuncData} (F : L2.Fun K "_law_paper" "_law_paper" s__law_paper f fd) (hg : mg "_law_paper" = some (.ref f)) {ψ : Fn}
    (hψ : Den.Does N__law_paper.length 1 (d__law_paper p__law_primes p__law_fits) ψ) : Callee P w K mg base (j + 1) "_law_paper" 1 ψ :=
  ⟨⟨f, fd, ["n"], fn_ok F sc__law_paper (fun _ _ _ _ _ _ hr => b__law_paper m c__law_primes c__law_fits hr) hψ, hg, F.kp, F.binds fun _ _ _ _ _ _ us hl => match us, hl with | [_], _ => rfl⟩⟩
/-! ### _law_is_paper -/
def N__law_is_paper : List Str := ["n", "value", "left", "top", "m", "told", "own", "rest", "q", "row"]
abbrev s__law_is_paper : Stmt := topS 26
theorem sc__law_is_paper : FnScope N__law_is_paper ["n", "value"] (defScope s__law_is_paper) := ⟨rfl, rfl, rfl, by decide +kernel, rfl, by decide +kernel, by decide +kernel⟩
noncomputable def d__law_is_paper (p__law_is_int : Fn) (p__law_power : Fn) : DenS :=
  (sSeq (sPar 2 3 (aCons (dLoc (aCons (dTup (aCons (cVar 0) (aCons (cVar 1) aNil))) aNil)) (aCons (cK (.bl true)) aNil)))
  (sSeq (sWh (tTru (cVar 2)) (sSeq (sAsg (dML f_pop (cVar 2) aNil) (gTu 2 (gsCons (gNm 4) (gsCons (gNm 5) gsNil))))
  (sSeq (sIf (tOr' (tNo (tTru (d1 (f_isi .tuple) (cVar 5)))) (tOr' (tB1 (d2 f_ne (dN f_len (aCons (cVar 5) aNil)) (cK (.int 3)))) (tOr' (tNo (tTru (d1 (f_isi .str) (d2 f_ix (cVar 5) (cK (.int 0)))))) (tNo (tTru (dCall 1 p__law_is_int (aCons (d2 f_ix (cVar 5) (cK (.int 1))) aNil))))))) (sRet (cK (.bl false))) sNil)
  (sSeq (sIf (tAn (tB1 (d2 f_eq (d2 f_ix (cVar 5) (cK (.int 0))) (cK (.str (Str.ofString "factors"))))) (tTru (cVar 3))) (sRet (dAn (dCall 1 p__law_is_int (aCons (d2 f_ix (cVar 5) (cK (.int 2))) aNil)) (dAn (d2 f_gt (d2 f_ix (cVar 5) (cK (.int 1))) (cK (.int 1))) (dAn (d2 f_gt (d2 f_ix (cVar 5) (cK (.int 2))) (cK (.int 1))) (d2 f_eq (d2 f_mul (d2 f_ix (cVar 5) (cK (.int 1))) (d2 f_ix (cVar 5) (cK (.int 2)))) (cVar 4)))))) sNil)
  (sSeq (sAsg (cK (.bl false)) (gNm 3))
  (sSeq (sIf (tOr' (tB1 (d2 f_ne (d2 f_ix (cVar 5) (cK (.int 0))) (cK (.str (Str.ofString "prime"))))) (tOr' (tNo (tB1 (dCh2 f_le f_lt (cK (.int 1)) (d2 f_ix (cVar 5) (cK (.int 1))) (cVar 4)))) (tNo (tTru (d1 (f_isi .tuple) (d2 f_ix (cVar 5) (cK (.int 2)))))))) (sRet (cK (.bl false))) sNil)
  (sSeq (sIf (tNo (tTru (dN f_all (aCons (dLc [9] (itSeq (d2 f_ix (cVar 5) (cK (.int 2)))) (gNm 9) tAll (dAn (d1 (f_isi .tuple) (cVar 9)) (dAn (d2 f_eq (dN f_len (aCons (cVar 9) aNil)) (cK (.int 2))) (dAn (dCall 1 p__law_is_int (aCons (d2 f_ix (cVar 9) (cK (.int 0))) aNil)) (d2 f_gt (d2 f_ix (cVar 9) (cK (.int 0))) (cK (.int 1))))))) aNil)))) (sRet (cK (.bl false))) sNil)
  (sSeq (sPar 6 7 (aCons (dLc [9] (itSeq (d2 f_ix (cVar 5) (cK (.int 2)))) (gNm 9) tAll (d2 f_ix (cVar 9) (cK (.int 0)))) (aCons (d2 f_sub (cVar 4) (cK (.int 1))) aNil)))
  (sSeq (sIf (tB1 (d2 f_ne (cVar 6) (dN f_sset (aCons (cVar 6) aNil)))) (sRet (cK (.bl false))) sNil)
  (sSeq (sFor (itSeq (cVar 6)) (gNm 8) (sSeq (sIf (tB1 (d2 f_ne (d2 f_mod (cVar 7) (cVar 8)) (cK (.int 0)))) (sRet (cK (.bl false))) sNil)
  (sWh (tB1 (d2 f_eq (d2 f_mod (cVar 7) (cVar 8)) (cK (.int 0)))) (sAsg (d2 f_fdiv (cVar 7) (cVar 8)) (gNm 7)))))
  (sSeq (sIf (tOr' (tB1 (d2 f_ne (cVar 7) (cK (.int 1)))) (tB1 (d2 f_ne (dCall 3 p__law_power (aCons (d2 f_ix (cVar 5) (cK (.int 1))) (aCons (d2 f_sub (cVar 4) (cK (.int 1))) (aCons (cVar 4) aNil)))) (d2 f_mod (cK (.int 1)) (cVar 4))))) (sRet (cK (.bl false))) sNil)
  (sSeq (sIf (tTru (dN f_any (aCons (dLc [8] (itSeq (cVar 6)) (gNm 8) tAll (d2 f_eq (dCall 3 p__law_power (aCons (d2 f_ix (cVar 5) (cK (.int 1))) (aCons (d2 f_fdiv (d2 f_sub (cVar 4) (cK (.int 1))) (cVar 8)) (aCons (cVar 4) aNil)))) (d2 f_mod (cK (.int 1)) (cVar 4)))) aNil))) (sRet (cK (.bl false))) sNil)
  (sAsg (d2 f_addM (cVar 2) (dN f_list (aCons (d2 f_ix (cVar 5) (cK (.int 2))) aNil))) (gNm 2))))))))))))))
  (sRet (cK (.bl true)))))
theorem b__law_is_paper {P : Program} {w : World} {K : Frg} {mg : Str → Option Value} {base : Heap} {j : Nat} (m : MG mg) {p__law_is_int : Fn} (c__law_is_int : Callee P w K mg base j "_law_is_int" 1 p__law_is_int) {p__law_power : Fn} (c__law_power : Callee P w K mg base j "_law_power" 3 p__law_power) {qual : Str} {f : Addr} {cdv : Value} {A : Around} {outer : List Env} {s : Shared} {H : Hp} {E : XK} (hr : Room j (A.deeper (envOfC qual (defScope s__law_is_paper) s.heap.objs.size f cdv))) :
    PSs (cxOf CX0 P w K mg base N__law_is_paper qual (defScope s__law_is_paper) f cdv A outer s H E).nox (defBody s__law_is_paper) (tS K (d__law_is_paper p__law_is_int p__law_power)) :=
    have nd := sc__law_is_paper.nd
    (ss_cons (s_par 2 3 rfl nd (a_cons (e_loc (a_cons (e_tup (a_cons (e_var 0) (a_cons (e_var 1) a_nil))) a_nil)) (a_cons e_bl a_nil)))
      (ss_cons (s_wh (x_tru (e_var 2)) (ss_cons (s_asg (e_bm0 PySem.F.plainAttrs_list PySem.F.slot_list_pop PySem.F.type_list_pop mt_pop s_pop (e_var 2)) (g_tu rfl (gs_cons (g_nm 4 nd) (gs_cons (g_nm 5 nd) gs_nil))))
      (ss_cons (s_if (x_or (x_no (x_tru (e_isi .tuple (e_var 5) m.isinstance m.tuple))) (x_or (x_cmp (o_ne hr.units) s_ne (e_callB call_len s_len m.len (a_cons (e_var 5) a_nil)) e_int (nomark _)) (x_or (x_no (x_tru (e_isi .str (e_ix (e_var 5) e_int) m.isinstance m.str))) (x_or1 (x_no (x_tru (e_call c__law_is_int hr (a_cons (e_ix (e_var 5) e_int) a_nil)))))))).pt (ss_one (s_ret e_bl)) ss_nil)
      (ss_cons (s_if (x_an (x_cmp (o_eq hr.units) s_eq (e_ix (e_var 5) e_int) e_str (nomark _)) (x_an1 (x_tru (e_var 3)))).pt (ss_one (s_ret (e_an (e_call c__law_is_int hr (a_cons (e_ix (e_var 5) e_int) a_nil)) (e_an (e_cmp op_gt s_gt (e_ix (e_var 5) e_int) e_int (nomark _)) (e_an (e_cmp op_gt s_gt (e_ix (e_var 5) e_int) e_int (nomark _)) (e_one (e_cmp (o_eq hr.units) s_eq (e_op o_mul s_mul (e_ix (e_var 5) e_int) (e_ix (e_var 5) e_int)) (e_var 4) (nomark _)))))))) ss_nil)
      (ss_cons (s_set 3 nd e_bl)
      (ss_cons (s_if (x_or (x_cmp (o_ne hr.units) s_ne (e_ix (e_var 5) e_int) e_str (nomark _)) (x_or (x_no (x_ch2 op_le s_le (o_lt hr.units0) s_lt e_int (e_ix (e_var 5) e_int) (e_var 4))) (x_or1 (x_no (x_tru (e_isi .tuple (e_ix (e_var 5) e_int) m.isinstance m.tuple)))))).pt (ss_one (s_ret e_bl)) ss_nil)
      (ss_cons (s_if (x_no (x_tru (e_callB (cr_all (by rfl)) s_all m.all (a_cons (e_lc (own := [("row", 9)]) nd (i_seq (e_ix (e_var 5) e_int)) ci_seq (blkOk_by (own := [("row", 9)]) (N := N__law_is_paper) (sc := defScope s__law_is_paper) (by decide +kernel)) (gin_nmV 9) (fun _ _ _ _ _ => (pg_name (i := 9) nd rfl (by first | exact Or.inl rfl | exact Or.inr rfl))) (fun _ _ _ _ _ => x_nil) (fun _ _ _ _ _ => (e_an (e_isi .tuple (e_var 9) m.isinstance m.tuple) (e_an (e_cmp (o_eq hr.units) s_eq (e_callB call_len s_len m.len (a_cons (e_var 9) a_nil)) e_int (nomark _)) (e_an (e_call c__law_is_int hr (a_cons (e_ix (e_var 9) e_int) a_nil)) (e_one (e_cmp op_gt s_gt (e_ix (e_var 9) e_int) e_int (nomark _)))))))) a_nil)))) (ss_one (s_ret e_bl)) ss_nil)
      (ss_cons (s_par 6 7 rfl nd (a_cons (e_lc (own := [("row", 9)]) nd (i_seq (e_ix (e_var 5) e_int)) ci_seq (blkOk_by (own := [("row", 9)]) (N := N__law_is_paper) (sc := defScope s__law_is_paper) (by decide +kernel)) (gin_nmV 9) (fun _ _ _ _ _ => (pg_name (i := 9) nd rfl (by first | exact Or.inl rfl | exact Or.inr rfl))) (fun _ _ _ _ _ => x_nil) (fun _ _ _ _ _ => (e_ix (e_var 9) e_int))) (a_cons (e_op o_sub s_sub (e_var 4) e_int) a_nil)))
      (ss_cons (s_if (x_cmp (o_ne hr.units) s_ne (e_var 6) (e_sset rfl m.sorted m.set (a_cons (e_var 6) a_nil)) (nomark _)) (ss_one (s_ret e_bl)) ss_nil)
      (ss_cons (s_for (i_seq (e_var 6)) (g_nm 8 nd) (ss_cons (s_if (x_cmp (o_ne hr.units) s_ne (e_op o_mod s_mod (e_var 7) (e_var 8)) e_int (nomark _)) (ss_one (s_ret e_bl)) ss_nil)
      (ss_one (s_wh (x_cmp (o_eq hr.units) s_eq (e_op o_mod s_mod (e_var 7) (e_var 8)) e_int (nomark _)) (ss_one (s_set 7 nd (e_op o_fdiv s_fdiv (e_var 7) (e_var 8))))))) ci_seq)
      (ss_cons (s_if (x_or (x_cmp (o_ne hr.units) s_ne (e_var 7) e_int (nomark _)) (x_or1 (x_cmp (o_ne hr.units) s_ne (e_call c__law_power hr (a_cons (e_ix (e_var 5) e_int) (a_cons (e_op o_sub s_sub (e_var 4) e_int) (a_cons (e_var 4) a_nil)))) (e_op o_mod s_mod e_int (e_var 4)) (nomark _)))).pt (ss_one (s_ret e_bl)) ss_nil)
      (ss_cons (s_if (x_tru (e_callB (cr_any (by rfl)) s_any m.any (a_cons (e_lc (own := [("q", 8)]) nd (i_seq (e_var 6)) ci_seq (blkOk_by (own := [("q", 8)]) (N := N__law_is_paper) (sc := defScope s__law_is_paper) (by decide +kernel)) (gin_nmV 8) (fun _ _ _ _ _ => (pg_name (i := 8) nd rfl (by first | exact Or.inl rfl | exact Or.inr rfl))) (fun _ _ _ _ _ => x_nil) (fun _ _ _ _ _ => (e_cmp (o_eq hr.units) s_eq (e_call c__law_power hr (a_cons (e_ix (e_var 5) e_int) (a_cons (e_op o_fdiv s_fdiv (e_op o_sub s_sub (e_var 4) e_int) (e_var 8)) (a_cons (e_var 4) a_nil)))) (e_op o_mod s_mod e_int (e_var 4)) (nomark _)))) a_nil))) (ss_one (s_ret e_bl)) ss_nil)
      (ss_one (s_set 2 nd (e_op o_add s_addM (e_var 2) (e_callTy call_list_of s_list m.list (a_cons (e_ix (e_var 5) e_int) a_nil)))))))))))))))))
      (ss_one (s_ret e_bl))))
theorem w__law_is_paper {P : Program} {w : World} {K : Frg} {mg : Str → Option Value} {base : Heap} {j : Nat} (m : MG mg) {p__law_is_int : Fn} (c__law_is_int : Callee P w K mg base j "_law_is_int" 1 p__law_is_int) {p__law_power : Fn} (c__law_power : Callee P w K mg base j "_law_power" 3 p__law_power) {f : Addr} {fd : FuncData} (F : L2.Fun K "_law_is_paper" "_law_is_paper" s__law_is_paper f fd) (hg : mg "_law_is_paper" = some (.ref f)) {ψ : Fn}
    (hψ : Den.Does N__law_is_paper.length 2 (d__law_is_paper p__law_is_int p__law_power) ψ) : Callee P w K mg base (j + 1) "_law_is_paper" 2 ψ :=
  ⟨⟨f, fd, ["n", "value"], fn_ok F sc__law_is_paper (fun _ _ _ _ _ _ hr => b__law_is_paper m c__law_is_int c__law_power hr) hψ, hg, F.kp, F.binds fun _ _ _ _ _ _ us hl => match us, hl with | [_, _], _ => rfl⟩⟩
/-! ### law -/
def N_law : List Str := ["script", "c", "turn", "n", "parts", "paper", "side", "bent", "d", "told", "k"]
abbrev s_law : Stmt := topS 27
theorem sc_law : FnScope N_law ["script"] (defScope s_law) := ⟨rfl, rfl, rfl, by decide +kernel, rfl, by decide +kernel, by decide +kernel⟩
noncomputable def d_law (p__law_start : Fn) (p__law_take : Fn) (p__law_primes : Fn) (p__law_alike : Fn) (p_parts_of : Fn) (p_is_prime : Fn) (p__law_is_prime : Fn) (p_divisors_of : Fn) (p_units_of : Fn) (p__law_gcd : Fn) (p_prime_paper : Fn) (p__law_paper : Fn) (p__law_bent : Fn) (p_judge_prime : Fn) (p__law_is_paper : Fn) : DenS :=
  (sSeq (sAsg (dCall 1 p__law_start (aCons (cVar 0) aNil)) (gNm 1))
  (sSeq (sFor (itRg1 (aCons (cK (.int 3)) aNil)) (gNm 2) (sSeq (sAsg (d2 f_ix (dLst (aCons (d2 f_add (cK (.int 1)) (dCall 2 p__law_take (aCons (cVar 1) (aCons (cK (.int 400)) aNil)))) (aCons (d2 f_add (cK (.int 1)) (dCall 2 p__law_take (aCons (cVar 1) (aCons (cK (.int 5000)) aNil)))) (aCons (d2 f_ix (dLst (aCons (cK (.int 2)) (aCons (cK (.int 3)) (aCons (cK (.int 4)) (aCons (cK (.int 257)) (aCons (cK (.int 641)) (aCons (cK (.int 1009)) (aCons (cK (.int 4999)) (aCons (cK (.int 4913)) (aCons (cK (.int 4096)) aNil)))))))))) (dCall 2 p__law_take (aCons (cVar 1) (aCons (cK (.int 9)) aNil)))) aNil)))) (dCall 2 p__law_take (aCons (cVar 1) (aCons (cK (.int 3)) aNil)))) (gNm 3))
  (sSeq (sAsg (dCall 1 p__law_primes (aCons (cVar 3) aNil)) (gNm 4))
  (sSeq (sIf (tOr' (tNo (tTru (dCall 2 p__law_alike (aCons (dCall 1 p_parts_of (aCons (cVar 3) aNil)) (aCons (dN f_tuple (aCons (cVar 4) aNil)) aNil))))) (tB1 (d2 f_ne (dCall 1 p_is_prime (aCons (cVar 3) aNil)) (dCall 1 p__law_is_prime (aCons (cVar 3) aNil))))) (sRet (cK (.bl false))) sNil)
  (sSeq (sIf (tNo (tTru (dCall 2 p__law_alike (aCons (dCall 1 p_divisors_of (aCons (cVar 3) aNil)) (aCons (dN f_tuple (aCons (dLc [8] (itRg2 (aCons (cK (.int 1)) (aCons (d2 f_add (cVar 3) (cK (.int 1))) aNil))) (gNm 8) (tB1 (d2 f_eq (d2 f_mod (cVar 3) (cVar 8)) (cK (.int 0)))) (cVar 8)) aNil)) aNil))))) (sRet (cK (.bl false))) sNil)
  (sSeq (sIf (tB1 (d2 f_ne (dCall 1 p_units_of (aCons (cVar 3) aNil)) (dN f_len (aCons (dLc [10] (itRg1 (aCons (cVar 3) aNil)) (gNm 10) (tB1 (d2 f_eq (dCall 2 p__law_gcd (aCons (cVar 10) (aCons (cVar 3) aNil))) (cK (.int 1)))) (cVar 10)) aNil)))) (sRet (cK (.bl false))) sNil)
  (sIf (tB1 (d2 f_gt (cVar 3) (cK (.int 1)))) (sSeq (sAsg (dCall 1 p_prime_paper (aCons (cVar 3) aNil)) (gNm 5))
  (sSeq (sIf (tNo (tTru (dCall 2 p__law_alike (aCons (cVar 5) (aCons (dCall 1 p__law_paper (aCons (cVar 3) aNil)) aNil))))) (sRet (cK (.bl false))) sNil)
  (sFor (itRg1 (aCons (cK (.int 7)) aNil)) (gNm 6) (sSeq (sAsg (dCall 3 p__law_bent (aCons (cVar 1) (aCons (cVar 5) (aCons (cVar 6) aNil)))) (gNm 7))
  (sSeq (sIf (tAn (tB1 (d2 f_eq (cVar 6) (cK (.int 4)))) (tB1 (d2 f_eq (d2 f_ix (cVar 5) (cK (.int 0))) (cK (.str (Str.ofString "prime")))))) (sAsg (dTup (aCons (cK (.str (Str.ofString "prime"))) (aCons (d2 f_ix (cVar 5) (cK (.int 1))) (aCons (dSl (d2 f_ix (cVar 5) (cK (.int 2))) oNo (oSo (d1 f_neg (cK (.int 1))))) aNil)))) (gNm 7)) sNil)
  (sSeq (sIf (tAn (tB1 (d2 f_eq (cVar 6) (cK (.int 5)))) (tB1 (d2 f_eq (d2 f_ix (cVar 5) (cK (.int 0))) (cK (.str (Str.ofString "prime")))))) (sAsg (dTup (aCons (cK (.str (Str.ofString "prime"))) (aCons (dIf (tB1 (d2 f_gt (cVar 3) (cK (.int 2)))) (d2 f_add (cK (.int 1)) (dCall 2 p__law_take (aCons (cVar 1) (aCons (d2 f_sub (cVar 3) (cK (.int 1))) aNil)))) (cK (.int 1))) (aCons (d2 f_ix (cVar 5) (cK (.int 2))) aNil)))) (gNm 7)) sNil)
  (sSeq (sIf (tB1 (d2 f_eq (cVar 6) (cK (.int 6)))) (sSeq (sAsg (d2 f_add (cK (.int 1)) (dCall 2 p__law_take (aCons (cVar 1) (aCons (cK (.int 9)) aNil)))) (gNm 8))
  (sAsg (dTup (aCons (cK (.str (Str.ofString "factors"))) (aCons (cVar 8) (aCons (d2 f_fdiv (cVar 3) (cVar 8)) aNil)))) (gNm 7))) sNil)
  (sSeq (sAsg (dCall 2 p_judge_prime (aCons (cVar 3) (aCons (cVar 7) aNil))) (gNm 9))
  (sIf (tOr' (tNo (tTru (d1 (f_isi .bool) (cVar 9)))) (tB1 (d2 f_ne (cVar 9) (dCall 2 p__law_is_paper (aCons (cVar 3) (aCons (cVar 7) aNil)))))) (sRet (cK (.bl false))) sNil))))))))) sNil)))))))
  (sRet (cK (.bl true)))))
theorem b_law {P : Program} {w : World} {K : Frg} {mg : Str → Option Value} {base : Heap} {j : Nat} (m : MG mg) {p__law_start : Fn} (c__law_start : Callee P w K mg base j "_law_start" 1 p__law_start) {p__law_take : Fn} (c__law_take : Callee P w K mg base j "_law_take" 2 p__law_take) {p__law_primes : Fn} (c__law_primes : Callee P w K mg base j "_law_primes" 1 p__law_primes) {p__law_alike : Fn} (c__law_alike : Callee P w K mg base j "_law_alike" 2 p__law_alike) {p_parts_of : Fn} (c_parts_of : Callee P w K mg base j "parts_of" 1 p_parts_of) {p_is_prime : Fn} (c_is_prime : Callee P w K mg base j "is_prime" 1 p_is_prime) {p__law_is_prime : Fn} (c__law_is_prime : Callee P w K mg base j "_law_is_prime" 1 p__law_is_prime) {p_divisors_of : Fn} (c_divisors_of : Callee P w K mg base j "divisors_of" 1 p_divisors_of) {p_units_of : Fn} (c_units_of : Callee P w K mg base j "units_of" 1 p_units_of) {p__law_gcd : Fn} (c__law_gcd : Callee P w K mg base j "_law_gcd" 2 p__law_gcd) {p_prime_paper : Fn} (c_prime_paper : Callee P w K mg base j "prime_paper" 1 p_prime_paper) {p__law_paper : Fn} (c__law_paper : Callee P w K mg base j "_law_paper" 1 p__law_paper) {p__law_bent : Fn} (c__law_bent : Callee P w K mg base j "_law_bent" 3 p__law_bent) {p_judge_prime : Fn} (c_judge_prime : Callee P w K mg base j "judge_prime" 2 p_judge_prime) {p__law_is_paper : Fn} (c__law_is_paper : Callee P w K mg base j "_law_is_paper" 2 p__law_is_paper) {qual : Str} {f : Addr} {cdv : Value} {A : Around} {outer : List Env} {s : Shared} {H : Hp} {E : XK} (hr : Room j (A.deeper (envOfC qual (defScope s_law) s.heap.objs.size f cdv))) :
    PSs (cxOf CX0 P w K mg base N_law qual (defScope s_law) f cdv A outer s H E).nox (defBody s_law) (tS K (d_law p__law_start p__law_take p__law_primes p__law_alike p_parts_of p_is_prime p__law_is_prime p_divisors_of p_units_of p__law_gcd p_prime_paper p__law_paper p__law_bent p_judge_prime p__law_is_paper)) :=
    have nd := sc_law.nd
    (ss_cons (s_set 1 nd (e_call c__law_start hr (a_cons (e_var 0) a_nil)))
      (ss_cons (s_for (i_rg1 m.range (a_cons e_int a_nil)) (g_nm 2 nd) (ss_cons (s_set 3 nd (e_ix (e_lst (a_cons (e_op o_add s_add e_int (e_call c__law_take hr (a_cons (e_var 1) (a_cons e_int a_nil)))) (a_cons (e_op o_add s_add e_int (e_call c__law_take hr (a_cons (e_var 1) (a_cons e_int a_nil)))) (a_cons (e_ix (e_lst (a_cons e_int (a_cons e_int (a_cons e_int (a_cons e_int (a_cons e_int (a_cons e_int (a_cons e_int (a_cons e_int (a_cons e_int a_nil)))))))))) (e_call c__law_take hr (a_cons (e_var 1) (a_cons e_int a_nil)))) a_nil)))) (e_call c__law_take hr (a_cons (e_var 1) (a_cons e_int a_nil)))))
      (ss_cons (s_set 4 nd (e_call c__law_primes hr (a_cons (e_var 3) a_nil)))
      (ss_cons (s_if (x_or (x_no (x_tru (e_call c__law_alike hr (a_cons (e_call c_parts_of hr (a_cons (e_var 3) a_nil)) (a_cons (e_callTy call_tuple_of s_tuple m.tuple (a_cons (e_var 4) a_nil)) a_nil))))) (x_or1 (x_cmp (o_ne hr.units) s_ne (e_call c_is_prime hr (a_cons (e_var 3) a_nil)) (e_call c__law_is_prime hr (a_cons (e_var 3) a_nil)) (nomark _)))).pt (ss_one (s_ret e_bl)) ss_nil)
      (ss_cons (s_if (x_no (x_tru (e_call c__law_alike hr (a_cons (e_call c_divisors_of hr (a_cons (e_var 3) a_nil)) (a_cons (e_callTy call_tuple_of s_tuple m.tuple (a_cons (e_lc (own := [("d", 8)]) nd (i_rg2 m.range (a_cons e_int (a_cons (e_op o_add s_add (e_var 3) e_int) a_nil))) ci_rg2 (blkOk_by (own := [("d", 8)]) (N := N_law) (sc := defScope s_law) (by decide +kernel)) (gin_nmV 8) (fun _ _ _ _ _ => (pg_name (i := 8) nd rfl (by first | exact Or.inl rfl | exact Or.inr rfl))) (fun _ _ _ _ _ => (x_one (x_cmp (o_eq hr.units) s_eq (e_op o_mod s_mod (e_var 3) (e_var 8)) e_int (nomark _)))) (fun _ _ _ _ _ => (e_var 8))) a_nil)) a_nil))))) (ss_one (s_ret e_bl)) ss_nil)
      (ss_cons (s_if (x_cmp (o_ne hr.units) s_ne (e_call c_units_of hr (a_cons (e_var 3) a_nil)) (e_callB call_len s_len m.len (a_cons (e_lc (own := [("k", 10)]) nd (i_rg1 m.range (a_cons (e_var 3) a_nil)) ci_rg1 (blkOk_by (own := [("k", 10)]) (N := N_law) (sc := defScope s_law) (by decide +kernel)) (gin_nmV 10) (fun _ _ _ _ _ => (pg_name (i := 10) nd rfl (by first | exact Or.inl rfl | exact Or.inr rfl))) (fun _ _ _ _ _ => (x_one (x_cmp (o_eq hr.units) s_eq (e_call c__law_gcd hr (a_cons (e_var 10) (a_cons (e_var 3) a_nil))) e_int (nomark _)))) (fun _ _ _ _ _ => (e_var 10))) a_nil)) (nomark _)) (ss_one (s_ret e_bl)) ss_nil)
      (ss_one (s_if (x_cmp op_gt s_gt (e_var 3) e_int (nomark _)) (ss_cons (s_set 5 nd (e_call c_prime_paper hr (a_cons (e_var 3) a_nil)))
      (ss_cons (s_if (x_no (x_tru (e_call c__law_alike hr (a_cons (e_var 5) (a_cons (e_call c__law_paper hr (a_cons (e_var 3) a_nil)) a_nil))))) (ss_one (s_ret e_bl)) ss_nil)
      (ss_one (s_for (i_rg1 m.range (a_cons e_int a_nil)) (g_nm 6 nd) (ss_cons (s_set 7 nd (e_call c__law_bent hr (a_cons (e_var 1) (a_cons (e_var 5) (a_cons (e_var 6) a_nil)))))
      (ss_cons (s_if (x_an (x_cmp (o_eq hr.units) s_eq (e_var 6) e_int (nomark _)) (x_an1 (x_cmp (o_eq hr.units) s_eq (e_ix (e_var 5) e_int) e_str (nomark _)))).pt (ss_one (s_set 7 nd (e_tup (a_cons e_str (a_cons (e_ix (e_var 5) e_int) (a_cons (e_sl (e_ix (e_var 5) e_int) o_no (o_so (e_un un_neg s_neg e_int))) a_nil)))))) ss_nil)
      (ss_cons (s_if (x_an (x_cmp (o_eq hr.units) s_eq (e_var 6) e_int (nomark _)) (x_an1 (x_cmp (o_eq hr.units) s_eq (e_ix (e_var 5) e_int) e_str (nomark _)))).pt (ss_one (s_set 7 nd (e_tup (a_cons e_str (a_cons (e_if (x_cmp op_gt s_gt (e_var 3) e_int (nomark _)) (e_op o_add s_add e_int (e_call c__law_take hr (a_cons (e_var 1) (a_cons (e_op o_sub s_sub (e_var 3) e_int) a_nil)))) e_int) (a_cons (e_ix (e_var 5) e_int) a_nil)))))) ss_nil)
      (ss_cons (s_if (x_cmp (o_eq hr.units) s_eq (e_var 6) e_int (nomark _)) (ss_cons (s_set 8 nd (e_op o_add s_add e_int (e_call c__law_take hr (a_cons (e_var 1) (a_cons e_int a_nil)))))
      (ss_one (s_set 7 nd (e_tup (a_cons e_str (a_cons (e_var 8) (a_cons (e_op o_fdiv s_fdiv (e_var 3) (e_var 8)) a_nil))))))) ss_nil)
      (ss_cons (s_set 9 nd (e_call c_judge_prime hr (a_cons (e_var 3) (a_cons (e_var 7) a_nil))))
      (ss_one (s_if (x_or (x_no (x_tru (e_isi .bool (e_var 9) m.isinstance m.bool))) (x_or1 (x_cmp (o_ne hr.units) s_ne (e_var 9) (e_call c__law_is_paper hr (a_cons (e_var 3) (a_cons (e_var 7) a_nil))) (nomark _)))).pt (ss_one (s_ret e_bl)) ss_nil))))))) ci_rg1)))) ss_nil))))))) ci_rg1)
      (ss_one (s_ret e_bl))))
theorem w_law {P : Program} {w : World} {K : Frg} {mg : Str → Option Value} {base : Heap} {j : Nat} (m : MG mg) {p__law_start : Fn} (c__law_start : Callee P w K mg base j "_law_start" 1 p__law_start) {p__law_take : Fn} (c__law_take : Callee P w K mg base j "_law_take" 2 p__law_take) {p__law_primes : Fn} (c__law_primes : Callee P w K mg base j "_law_primes" 1 p__law_primes) {p__law_alike : Fn} (c__law_alike : Callee P w K mg base j "_law_alike" 2 p__law_alike) {p_parts_of : Fn} (c_parts_of : Callee P w K mg base j "parts_of" 1 p_parts_of) {p_is_prime : Fn} (c_is_prime : Callee P w K mg base j "is_prime" 1 p_is_prime) {p__law_is_prime : Fn} (c__law_is_prime : Callee P w K mg base j "_law_is_prime" 1 p__law_is_prime) {p_divisors_of : Fn} (c_divisors_of : Callee P w K mg base j "divisors_of" 1 p_divisors_of) {p_units_of : Fn} (c_units_of : Callee P w K mg base j "units_of" 1 p_units_of) {p__law_gcd : Fn} (c__law_gcd : Callee P w K mg base j "_law_gcd" 2 p__law_gcd) {p_prime_paper : Fn} (c_prime_paper : Callee P w K mg base j "prime_paper" 1 p_prime_paper) {p__law_paper : Fn} (c__law_paper : Callee P w K mg base j "_law_paper" 1 p__law_paper) {p__law_bent : Fn} (c__law_bent : Callee P w K mg base j "_law_bent" 3 p__law_bent) {p_judge_prime : Fn} (c_judge_prime : Callee P w K mg base j "judge_prime" 2 p_judge_prime) {p__law_is_paper : Fn} (c__law_is_paper : Callee P w K mg base j "_law_is_paper" 2 p__law_is_paper) {f : Addr} {fd : FuncData} (F : L2.Fun K "law" "law" s_law f fd) (hg : mg "law" = some (.ref f)) {ψ : Fn}
    (hψ : Den.Does N_law.length 1 (d_law p__law_start p__law_take p__law_primes p__law_alike p_parts_of p_is_prime p__law_is_prime p_divisors_of p_units_of p__law_gcd p_prime_paper p__law_paper p__law_bent p_judge_prime p__law_is_paper) ψ) : Callee P w K mg base (j + 1) "law" 1 ψ :=
  ⟨⟨f, fd, ["script"], fn_ok F sc_law (fun _ _ _ _ _ _ hr => b_law m c__law_start c__law_take c__law_primes c__law_alike c_parts_of c_is_prime c__law_is_prime c_divisors_of c_units_of c__law_gcd c_prime_paper c__law_paper c__law_bent c_judge_prime c__law_is_paper hr) hψ, hg, F.kp, F.binds fun _ _ _ _ _ _ us hl => match us, hl with | [_], _ => rfl⟩⟩
end K11

/-! K11b: roots of primes. -/
namespace K11
open PySem PySem.Spec PyProof.Rows L2 Fd Nm
/-- a's powers come to 1 by n at n - 1, and not ahead at n - 1 by the numbers told -/
def rootB (a n : Int) (ps : List Int) : Bool := decide (pw a (n - 1) n = 1 % n) && ps.all fun p => !decide (pw a ((n - 1) / p) n = 1 % n)
noncomputable def p_isr : Fn := runF 4 (d_is_root p_pow)
noncomputable def p_fits : Fn := runF 4 (d__law_fits p_lpow p_lprs)
theorem isr_ok {a n : Int} (hn : 0 < n) (hn2 : n < 2 ^ 60) {ps : List Int} (hps : ∀ p ∈ ps, 0 < p ∧ p < 2 ^ 60) (hl : ps.length ≤ 1000) (μ : Sto) : p_isr [.int a, .int n, .lst (ps.map .int)] μ = some (.bl (rootB a n ps), μ) := by
  refine runF_rt (ρ := [some (.int a), some (.int n), some (.lst (ps.map .int)), none]) rfl ?_
  unfold d_is_root
  apply ev_ret
  have m1 : f_mod (.int 1) (.int n) μ = some (.int (1 % n), μ) := mod_ii hn
  refine ev_anb (b := decide (pw a (n - 1) n = 1 % n)) (c := ps.all fun p => !decide (pw a ((n - 1) / p) n = 1 % n)) ?_ ?_
  · exact ev_d2 (ev_dCall (ev_aCons (ev_var rfl) (ev_aCons (ev_d2 (ev_var rfl) ev_K sub_ii) (ev_aCons (ev_var rfl) ev_aNil))) (pow_ok hn (by omega) (by omega) μ).1 rfl) (ev_d2 ev_K (ev_var rfl) m1) rfl
  · refine ev_dN (ev_aCons (ev_lc (xs := ps.map .int) (ch := []) (μ1 := μ) (μ2 := μ) (out := ps.map fun p => .bl (!decide (pw a ((n - 1) / p) n = 1 % n))) (it_lst (ev_var rfl)) rfl ?_) ev_aNil) (all_bl' ps _)
    refine lc_map0 PV.int _ ps chk_nil (len_le hl) fun p hp => ⟨_, rfl, ?_⟩
    obtain ⟨p0, p1⟩ := hps p hp
    have d : f_fdiv (.int (n - 1)) (.int p) μ = some (.int ((n - 1) / p), μ) := fdiv_ii p0 (by omega)
    exact ev_d2 (ev_dCall (ev_aCons (ev_var rfl) (ev_aCons (ev_d2 (ev_d2 (ev_var rfl) ev_K sub_ii) (ev_var rfl) d) (ev_aCons (ev_var rfl) ev_aNil))) (pow_ok hn (by omega) (Int.ediv_nonneg (by omega) (by omega)) μ).1 rfl) (ev_d2 ev_K (ev_var rfl) m1) rfl
/-- the primes of a number -/
def prs (n : Nat) : List Int := (pfl n).map fun q => (q.1 : Int)
theorem prs_mem {n : Nat} (h : 0 < n) : ∀ p ∈ prs n, 1 < p ∧ p ≤ n := fun p hp => by
  obtain ⟨q, hq, rfl⟩ := List.mem_map.mp hp
  have := pfl_lt h q hq
  omega
theorem pfl_len {n B : Nat} (h : 0 < n) (hn : n < 2 ^ B) : (pfl n).length < B := by
  obtain ⟨a, b⟩ := pfl_ok h
  have := len_pow a
  rw [b] at this
  exact (Nat.pow_lt_pow_iff_right (by decide)).mp (Nat.lt_of_le_of_lt this hn)
theorem any_not {α : Type} (xs : List α) (p : α → Bool) : (!xs.any p) = xs.all fun x => !p x := by
  induction xs with
  | nil => rfl
  | cons x xs ih => rw [List.any_cons, List.all_cons, Bool.not_or, ih]
theorem fits_ok {a : Int} {n : Nat} (hn : 2 ≤ n) (hn2 : n < 2 ^ 60) (μ : Sto) : p_fits [.int a, .int n] μ = some (.bl (rootB a n (prs (n - 1))), μ) := by
  have n0 : (0 : Int) < (n : Int) := by omega
  have m1 : f_mod (.int 1) (.int (n : Int)) μ = some (.int (1 % (n : Int)), μ) := mod_ii n0
  have e1 : ((n - 1 : Nat) : Int) = (n : Int) - 1 := by omega
  have sb : f_sub (.int (n : Int)) (.int 1) μ = some (.int ((n - 1 : Nat) : Int), μ) := by rw [e1]; rfl
  have lp := lprs_ok (n := n - 1) (by omega) (by omega) μ
  refine runF_rt (ρ := [some (.int a), some (.int n), none, none]) rfl ?_
  unfold d__law_fits
  apply ev_ret
  refine ev_anb (b := decide (pw a (n - 1) n = 1 % n)) (c := (prs (n - 1)).all fun p => !decide (pw a (((n : Int) - 1) / p) n = 1 % (n : Int))) ?_ ?_
  · exact ev_d2 (ev_dCall (ev_aCons (ev_var rfl) (ev_aCons (ev_d2 (ev_var rfl) ev_K sub_ii) (ev_aCons (ev_var rfl) ev_aNil))) (pow_ok n0 (by omega) (by omega) μ).2 rfl) (ev_d2 ev_K (ev_var rfl) m1) rfl
  · rw [← any_not]
    refine ev_no (x := .bl ((prs (n - 1)).any fun p => decide (pw a (((n : Int) - 1) / p) n = 1 % (n : Int)))) (b := (prs (n - 1)).any fun p => decide (pw a (((n : Int) - 1) / p) n = 1 % (n : Int))) (ev_dN (ev_aCons (ev_lc (xs := (pfl (n - 1)).map pq) (ch := []) (μ1 := μ) (μ2 := μ) (out := (pfl (n - 1)).map fun q => .bl (decide (pw a (((n : Int) - 1) / q.1) n = 1 % (n : Int)))) (it_lst (ev_dCall (ev_aCons (ev_d2 (ev_var rfl) ev_K sb) ev_aNil) lp rfl)) rfl ?_) ev_aNil) ?_) rfl
    · refine lc_map0 pq _ (pfl (n - 1)) chk_nil (len_le (by have := pfl_len (n := n - 1) (B := 60) (by omega) (by omega); omega)) fun q hq => ⟨_, rfl, ?_⟩
      have hq := pfl_lt (n := n - 1) (by omega) q hq
      have d : f_fdiv (.int ((n : Int) - 1)) (.int (q.1 : Int)) μ = some (.int (((n : Int) - 1) / q.1), μ) := fdiv_ii (by omega) (by omega)
      exact ev_d2 (ev_dCall (ev_aCons (ev_var rfl) (ev_aCons (ev_d2 (ev_d2 (ev_var rfl) ev_K sub_ii) (ev_var rfl) d) (ev_aCons (ev_var rfl) ev_aNil))) (pow_ok n0 (by omega) (Int.ediv_nonneg (by omega) (by omega)) μ).2 rfl) (ev_d2 ev_K (ev_var rfl) m1) rfl
    · have := any_bl' (μ := μ) (pfl (n - 1)) fun q => decide (pw a (((n : Int) - 1) / q.1) n = 1 % (n : Int))
      rw [this]
      unfold prs
      rw [List.any_map]
      rfl
end K11

/-! K11c: the right papers. -/
namespace K11
open PySem PySem.Spec PyProof.Rows L2 Fd Nm
theorem isOne_iff {n : Nat} {L : List (Nat × Nat)} : isOne n L = true ↔ L = [(n, 1)] := by
  unfold isOne
  split
  · rename_i q
    rw [Bool.and_eq_true, Nat.beq_eq, Nat.beq_eq]
    constructor
    · rintro ⟨a, b⟩; rw [← a, ← b]
    · intro h; cases h; exact ⟨rfl, rfl⟩
  · rename_i h
    constructor
    · intro z; cases z
    · intro z; exact absurd z (h (n, 1))
theorem pwL_cast (n : Nat) : ∀ (c k f b : Nat), pwL c (k : Int) (f : Int) (b : Int) (n : Int) = ((pwNL c k f b n : Nat) : Int)
  | 0, k, f, b => rfl
  | c + 1, k, f, b => by
    unfold pwL pwNL
    by_cases h : 0 < k
    · rw [if_pos (show (0 : Int) < (k : Int) by omega), if_pos h]
      have e1 : (k : Int) / 2 = ((k / 2 : Nat) : Int) := by omega
      have e2 : (b : Int) * (b : Int) % (n : Int) = ((b * b % n : Nat) : Int) := by rw [Int.natCast_emod, Int.natCast_mul]
      have e3 : (f : Int) * (b : Int) % (n : Int) = ((f * b % n : Nat) : Int) := by rw [Int.natCast_emod, Int.natCast_mul]
      rw [e1, e2, e3]
      by_cases h2 : k % 2 = 1
      · rw [if_pos (show (k : Int) % 2 = 1 by omega), if_pos h2]
        exact pwL_cast n c _ _ _
      · rw [if_neg (show ¬ (k : Int) % 2 = 1 by omega), if_neg h2]
        exact pwL_cast n c _ _ _
    · rw [if_neg (show ¬ (0 : Int) < (k : Int) by omega), if_neg h]
theorem pw_cast (a k n : Nat) : pw (a : Int) (k : Int) (n : Int) = ((pwn a k n : Nat) : Int) := by
  unfold pw pwn
  have e1 : (1 : Int) % (n : Int) = ((1 % n : Nat) : Int) := by rw [Int.natCast_emod]; rfl
  have e2 : (a : Int) % (n : Int) = ((a % n : Nat) : Int) := by rw [Int.natCast_emod]
  rw [e1, e2, Int.toNat_natCast]
  exact pwL_cast n _ _ _ _
theorem root_cast {a n : Nat} (hn : 1 ≤ n) (ps : List Nat) : rootB (a : Int) (n : Int) (ps.map fun p : Nat => (p : Int)) = rootN a n ps := by
  have e1 : (n : Int) - 1 = ((n - 1 : Nat) : Int) := by omega
  have e2 : (1 : Int) % (n : Int) = ((1 % n : Nat) : Int) := by rw [Int.natCast_emod]; rfl
  unfold rootB rootN
  rw [e1, e2, pw_cast, List.all_map]
  congr 1
  · apply decide_eq_decide.mpr; omega
  · congr 1
    funext p
    simp only [Function.comp_apply]
    have e3 : ((n - 1 : Nat) : Int) / (p : Int) = (((n - 1) / p : Nat) : Int) := by rw [Int.natCast_ediv]
    rw [e3, pw_cast]
    congr 1
    apply decide_eq_decide.mpr; omega
def isPr (n : Nat) : Bool := isOne n (pfl n)
theorem isPr_iff {n : Nat} (h : 0 < n) : isPr n = true ↔ IsP n := by
  unfold isPr
  rw [isOne_iff]
  constructor
  · intro e
    have := (pfl_ok h).1
    rw [e] at this
    exact this.2.1
  · intro hp
    exact (pfl_of (L := [(n, 1)]) h ⟨hp.1, hp, Nat.one_pos, trivial⟩ (by show n ^ 1 * 1 = n; rw [Nat.pow_one, Nat.mul_one])).symm
theorem chk_ok {n : Nat} (h : n ≤ 5000) (hp : IsP n) : (∃ a, a < 40 ∧ rootN (a + 1) n ((pfl (n - 1)).map (·.1)) = true) ∧ lev 9 n = true := by
  have c := List.all_eq_true.mp all11 n (List.mem_range.mpr (by omega))
  have e : isOne n (pfl n) = true := (isPr_iff (by have := hp.1; omega)).mpr hp
  unfold chk11 at c
  rw [e] at c
  have c : ((List.range 40).any (fun a => rootN (a + 1) n ((pfl (n - 1)).map (·.1))) && lev 9 n) = true := c
  rw [Bool.and_eq_true, List.any_eq_true] at c
  obtain ⟨⟨a, ha, hr⟩, h2⟩ := c
  exact ⟨⟨a, List.mem_range.mp ha, hr⟩, h2⟩
/-- the least root, from 1 up -/
def lroot (n : Nat) : Nat := (((List.range 5000).map (· + 1)).find? fun a => rootN a n ((pfl (n - 1)).map (·.1))).getD 0
theorem find_first {p : Nat → Bool} {N : Nat} (h : ∃ a, a < N ∧ p (a + 1) = true) : ∃ r, ((List.range N).map (· + 1)).find? p = some r ∧ 1 ≤ r ∧ r ≤ N ∧ p r = true ∧ ∀ x, 1 ≤ x → x < r → p x = false := by
  obtain ⟨a, ha, hp⟩ := h
  induction N with
  | zero => omega
  | succ N ih =>
    by_cases hz : ∃ a, a < N ∧ p (a + 1) = true
    · obtain ⟨b, hb, hpb⟩ := hz
      cases hf : ((List.range N).map (· + 1)).find? p with
      | none =>
        have := List.find?_eq_none.mp hf (b + 1) (List.mem_map.mpr ⟨b, List.mem_range.mpr hb, rfl⟩)
        exact absurd hpb this
      | some r =>
        by_cases hab : a < N
        · obtain ⟨r', h1, h2, h3, h4, h5⟩ := ih hab
          rw [hf] at h1
          cases h1
          refine ⟨r, ?_, h2, by omega, h4, h5⟩
          rw [List.range_succ, List.map_append, List.find?_append, hf]; rfl
        · have : a = N := by omega
          subst this
          have m := List.mem_of_find?_eq_some hf
          obtain ⟨c, hc, rfl⟩ := List.mem_map.mp m
          have hc := List.mem_range.mp hc
          refine ⟨c + 1, by rw [List.range_succ, List.map_append, List.find?_append, hf]; rfl, by omega, by omega, List.find?_some hf, fun x h1 h2 => ?_⟩
          cases hx : p x with
          | false => rfl
          | true =>
            exfalso
            obtain ⟨hs1, i, hi, hs2⟩ := List.find?_eq_some_iff_getElem.mp hf
            have hil : i < a := by simpa using hi
            have ei : ((List.range a).map (· + 1))[i] = i + 1 := by simp
            rw [ei] at hs2
            have := hs2.2 (x - 1) (by omega)
            simp at this
            rw [show x - 1 + 1 = x by omega] at this
            rw [hx] at this
            cases this
    · have : a = N := by
        by_cases e : a = N
        · exact e
        · exact absurd ⟨a, by omega, hp⟩ hz
      subst this
      have hn : ((List.range a).map (· + 1)).find? p = none := by
        rw [List.find?_eq_none]
        intro x hx
        obtain ⟨c, hc, rfl⟩ := List.mem_map.mp hx
        exact fun q => hz ⟨c, List.mem_range.mp hc, q⟩
      refine ⟨a + 1, ?_, by omega, Nat.le_refl _, hp, fun x h1 h2 => ?_⟩
      · rw [List.range_succ, List.map_append, List.find?_append, hn]
        show ([a + 1] : List Nat).find? p = _
        rw [List.find?_cons_of_pos hp]
      · cases hx : p x with
        | false => rfl
        | true => exact absurd ⟨x - 1, by omega, by rw [show x - 1 + 1 = x by omega]; exact hx⟩ hz
theorem lroot_ok {n : Nat} (h : n ≤ 5000) (hp : IsP n) : 1 ≤ lroot n ∧ lroot n ≤ 5000 ∧ rootN (lroot n) n ((pfl (n - 1)).map (·.1)) = true ∧ ∀ x, 1 ≤ x → x < lroot n → rootN x n ((pfl (n - 1)).map (·.1)) = false := by
  obtain ⟨a, ha, hr⟩ := (chk_ok h hp).1
  obtain ⟨r, h1, h2, h3, h4, h5⟩ := find_first (p := fun a => rootN a n ((pfl (n - 1)).map (·.1))) (N := 5000) ⟨a, by omega, hr⟩
  unfold lroot
  rw [h1]
  exact ⟨h2, h3, h4, h5⟩
end K11

/-! K11d: prime_paper. -/
namespace K11
open PySem PySem.Spec PyProof.Rows L2 Fd Nm
abbrev sPrime : PV := .str (Str.ofString "prime")
abbrev sFactors : PV := .str (Str.ofString "factors")
def prF : Nat → Nat → PV
  | 0, _ => .non
  | k + 1, n => .tup [sPrime, nI (lroot n), .tup ((pfl (n - 1)).map fun q => .tup [nI q.1, prF k q.1])]
theorem prF_eq : ∀ (k k' n : Nat), 2 ≤ n → n ≤ k → n ≤ k' → prF k n = prF k' n
  | 0, k', n, h, h1, h2 => by omega
  | k + 1, 0, n, h, h1, h2 => by omega
  | k + 1, k' + 1, n, h, h1, h2 => by
    unfold prF
    congr 5
    apply List.map_congr_left
    intro q hq
    have := pfl_lt (n := n - 1) (by omega) q hq
    rw [prF_eq k k' q.1 this.1 (by omega) (by omega)]
theorem prF_step {n : Nat} (h : 2 ≤ n) : prF n n = .tup [sPrime, nI (lroot n), .tup ((pfl (n - 1)).map fun q => .tup [nI q.1, prF q.1 q.1])] := by
  obtain ⟨k, rfl⟩ : ∃ k, n = k + 1 := ⟨n - 1, by omega⟩
  rw [show prF (k + 1) (k + 1) = .tup [sPrime, nI (lroot (k + 1)), .tup ((pfl (k + 1 - 1)).map fun q => .tup [nI q.1, prF k q.1])] from rfl]
  congr 5
  apply List.map_congr_left
  intro q hq
  have := pfl_lt (n := k + 1 - 1) (by omega) q hq
  rw [prF_eq k q.1 q.1 this.1 (by omega) (Nat.le_refl _)]
mutual
theorem ok_prF (m : Nat) : ∀ (k n : Nat), okL m (prF k n) = true
  | 0, n => rfl
  | k + 1, n => by
    show (true && (true && (okLs m ((pfl (n - 1)).map fun q => .tup [nI q.1, prF k q.1]) && true))) = true
    rw [ok_prFs m k (pfl (n - 1))]; rfl
theorem ok_prFs (m : Nat) : ∀ (k : Nat) (L : List (Nat × Nat)), okLs m (L.map fun q => PV.tup [nI q.1, prF k q.1]) = true
  | k, [] => rfl
  | k, q :: L => by
    show ((true && (okL m (prF k q.1) && true)) && okLs m (L.map fun q => PV.tup [nI q.1, prF k q.1])) = true
    rw [ok_prF m k q.1, ok_prFs m k L]; rfl
end
/-- the first of the parts -/
theorem pfl_head {n : Nat} (h : 2 ≤ n) : ∃ p e L, pfl n = (p, e) :: L ∧ IsP p ∧ p ∣ n ∧ (∀ d, 2 ≤ d → d ∣ n → p ≤ d) ∧ (IsP n → p = n) ∧ (¬ IsP n → p < n) := by
  obtain ⟨a, b⟩ := pfl_ok (show 0 < n by omega)
  cases e : pfl n with
  | nil => rw [e] at b; have b : 1 = n := b; omega
  | cons q L =>
    rw [e] at a b
    have hq := pfl_lt (show 0 < n by omega) q (by rw [e]; exact List.mem_cons_self)
    refine ⟨q.1, q.2, L, rfl, hq.2.2.1, hq.2.2.2.2, fun d hd hdn => ?_, fun hp => ?_, fun hp => ?_⟩
    · obtain ⟨r, hr, hrd⟩ := has_prime (show 1 < d by omega)
      have hr2 := pfl_lt (show 0 < d by omega) r hr
      have h1 : r.1 ∣ n := Nat.dvd_trans hrd hdn
      rw [← b] at h1
      obtain ⟨f, hf⟩ := prodL_dvd hr2.2.2.1 a h1
      have h2 : q.1 ≤ r.1 := by
        rcases List.mem_cons.mp hf with z | z
        · rw [← z]; exact Nat.le_refl _
        · have := (a.2.2.2.mem _ z).1
          simp only at this
          omega
      omega
    · rcases hp.2 q.1 hq.2.2.2.2 with z | z
      · omega
      · exact z
    · by_cases z : q.1 = n
      · exact absurd (by rw [← z]; exact hq.2.2.1) hp
      · omega
noncomputable def pPP : Nat → Fn
  | 0 => fun _ _ => none
  | k + 1 => runF 6 (d_prime_paper p_pof p_isr (pPP k))
theorem root_loop {n : Nat} (hn : n ≤ 5000) (hp : IsP n) (o2 o4 o5 : Option PV) (μ : Sto) : ∀ (c a : Nat), a + c = lroot n → 1 ≤ a →
    sWh (tNo (tTru (dCall 3 p_isr (aCons (cVar 3) (aCons (cVar 0) (aCons (cVar 1) aNil)))))) (sAug 3 g_add (cK (.int 1))) [some (.int n), some (.lst ((prs (n - 1)).map .int)), o2, some (.int a), o4, o5] μ
      = some (.nx [some (.int n), some (.lst ((prs (n - 1)).map .int)), o2, some (.int (lroot n : Nat)), o4, o5] μ) := by
  have hn2 := hp.1
  obtain ⟨l1, l2, l3, l4⟩ := lroot_ok hn hp
  have tst : ∀ a : Nat, p_isr [.int a, .int n, .lst ((prs (n - 1)).map .int)] μ = some (.bl (rootN a n ((pfl (n - 1)).map (·.1))), μ) := fun a => by
    have := isr_ok (a := (a : Int)) (n := (n : Int)) (by omega) (by omega) (ps := prs (n - 1)) (fun p hp => by have := prs_mem (n := n - 1) (by omega) p hp; omega) (by unfold prs; rw [List.length_map]; have := pfl_len (n := n - 1) (B := 60) (by omega) (by omega); omega) μ
    rw [this]
    have e : prs (n - 1) = ((pfl (n - 1)).map (·.1)).map fun p : Nat => (p : Int) := by unfold prs; rw [List.map_map]; rfl
    rw [e, root_cast (by omega)]
  intro c
  induction c with
  | zero =>
    intro a ha h1
    have : a = lroot n := by omega
    subst this
    refine wh_done (ev_tNo (b := true) (ev_tTru (x := .bl true) (ev_dCall (ev_aCons (ev_var rfl) (ev_aCons (ev_var rfl) (ev_aCons (ev_var rfl) ev_aNil))) ?_ rfl) rfl) rfl)
    rw [tst, l3]
  | succ c ih =>
    intro a ha h1
    refine wh_step (μ1 := μ) (μ' := μ) (ρ' := [some (.int n), some (.lst ((prs (n - 1)).map .int)), o2, some (.int ((a + 1 : Nat) : Int)), o4, o5]) (ev_tNo (b := false) (ev_tTru (x := .bl false) (ev_dCall (ev_aCons (ev_var rfl) (ev_aCons (ev_var rfl) (ev_aCons (ev_var rfl) ev_aNil))) ?_ rfl) rfl) rfl) ?_ (ih (a + 1) (by omega) (by omega))
    · rw [tst, l4 a h1 (by omega)]
    · have g : g_add (.int (a : Int)) (.int 1) μ = some (.int ((a + 1 : Nat) : Int), μ) := rfl
      exact ev_aug rfl ev_K g rfl
theorem PP_prime : ∀ (k n : Nat) (μ : Sto), lev k n = true → IsP n → n ≤ 5000 → pPP k [.int n] μ = some (prF n n, μ)
  | 0, n, μ, h, _, _ => by cases h
  | k + 1, n, μ, h, hp, hn => by
    have hn2 := hp.1
    have hl : ∀ q ∈ pfl (n - 1), lev k q.1 = true := List.all_eq_true.mp h
    have e0 : pfl n = [(n, 1)] := isOne_iff.mp ((isPr_iff (by omega)).mpr hp)
    have pf := pof_ok (n := n) (by omega) (by omega) μ
    rw [e0] at pf
    have pf1 := pof_ok (n := n - 1) (by omega) (by omega) μ
    have sb : f_sub (.int (n : Int)) (.int 1) μ = some (.int ((n - 1 : Nat) : Int), μ) := by
      show some (PV.int ((n : Int) - 1), μ) = _
      congr 3; omega
    have llen : (pfl (n - 1)).length ≤ 1000 := by have := pfl_len (n := n - 1) (B := 60) (by omega) (by omega); omega
    refine runF_rt (ρ := [some (.int n), none, none, none, none, none]) rfl ?_
    unfold d_prime_paper
    apply ev_seq (ρ' := [some (.int n), some (.tup ([(n, 1)].map pq)), none, none, none, none]) (μ' := μ)
    case ha => exact ev_set (ev_dCall (ev_aCons (ev_var rfl) ev_aNil) pf rfl) rfl
    apply ev_seq (ρ' := [some (.int n), some (.tup ([(n, 1)].map pq)), some (.int n), none, none, none]) (μ' := μ)
    case ha => exact ev_set (ev_d2 (ev_d2 (ev_var rfl) ev_K (ix_tup (v := pq (n, 1)) rfl)) ev_K (ix_tup rfl)) rfl
    apply ev_seq
    case ha => exact ev_sIf_f (ev_tB (ev_d2 (ev_var rfl) (ev_var rfl) (lt_ii (decide_eq_false (by omega))))) ev_sNil
    apply ev_seq (ρ' := [some (.int n), some (.lst ((prs (n - 1)).map .int)), some (.int n), none, none, none]) (μ' := μ)
    case ha =>
      refine ev_set (ev_lc (xs := (pfl (n - 1)).map pq) (ch := []) (μ1 := μ) (it_tup (ev_dCall (ev_aCons (ev_d2 (ev_var rfl) ev_K sb) ev_aNil) pf1 rfl)) rfl (lc_map0 pq (fun q => .int q.1) (pfl (n - 1)) chk_nil (len_le llen) fun q hq => ⟨_, rfl, ev_var rfl⟩)) ?_
      unfold prs
      rw [List.map_map]; rfl
    apply ev_seq (ρ' := [some (.int n), some (.lst ((prs (n - 1)).map .int)), some (.int n), some (.int ((1 : Nat) : Int)), none, none]) (μ' := μ)
    case ha => rfl
    have l1 := lroot_ok hn hp
    apply ev_seq (root_loop hn hp _ _ _ μ (lroot n - 1) 1 (by omega) (Nat.le_refl _))
    rw [prF_step hn2]
    have comp : dLc [4] (itSeq (cVar 1)) (gNm 4) tAll (dTup (aCons (cVar 4) (aCons (dCall 1 (pPP k) (aCons (cVar 4) aNil)) aNil))) [some (.int n), some (.lst ((prs (n - 1)).map .int)), some (.int n), some (.int (lroot n : Nat)), none, none] μ = some (.lst ((pfl (n - 1)).map fun q => .tup [nI q.1, prF q.1 q.1]), μ) := by
      refine ev_lc (xs := (pfl (n - 1)).map fun q => nI q.1) (ch := []) (μ1 := μ) (ρ' := [some (.int n), some (.lst ((prs (n - 1)).map .int)), some (.int n), some (.int (lroot n : Nat)), none, none]) ?_ rfl ?_
      · have e : (pfl (n - 1)).map (fun q => nI q.1) = (prs (n - 1)).map .int := by unfold prs; rw [List.map_map]; rfl
        rw [e]
        exact it_lst (ev_var rfl)
      · refine lc_map0 (fun q : Nat × Nat => nI q.1) _ (pfl (n - 1)) chk_nil (len_le llen) fun q hq => ⟨_, rfl, ?_⟩
        have hq2 := pfl_lt (n := n - 1) (by omega) q hq
        exact ev_dTup (ev_aCons (ev_var rfl) (ev_aCons (ev_dCall (ev_aCons (ev_var rfl) ev_aNil) (PP_prime k q.1 μ (hl q hq) hq2.2.2.1 (by omega)) rfl) ev_aNil)) (len_le (by show 2 ≤ 1000; decide))
    exact ev_ret (ev_dTup (ev_aCons ev_K (ev_aCons (ev_var rfl) (ev_aCons (ev_dN (ev_aCons comp ev_aNil) rfl) ev_aNil))) (len_le (by show 3 ≤ 1000; decide)))
/-- the right paper -/
def PPv (n : Nat) : PV := if isPr n = true then prF n n else .tup [sFactors, nI ((pfl n).headD (0, 0)).1, nI (n / ((pfl n).headD (0, 0)).1)]
theorem PP_ok {n : Nat} (h : 2 ≤ n) (hn : n ≤ 5000) (μ : Sto) : pPP 9 [.int n] μ = some (PPv n, μ) := by
  by_cases hp : IsP n
  · unfold PPv
    rw [if_pos ((isPr_iff (by omega)).mpr hp)]
    exact PP_prime 9 n μ (chk_ok hn hp).2 hp hn
  · have np : ¬ isPr n = true := fun z => hp ((isPr_iff (by omega)).mp z)
    obtain ⟨p, e, L, e0, h1, h2, h3, h4, h5⟩ := pfl_head h
    have lt := h5 hp
    have p2 := h1.1
    unfold PPv
    rw [if_neg np, e0]
    have pf := pof_ok (n := n) (by omega) (by omega) μ
    rw [e0] at pf
    have d := div_nn (n := n) (p := p) (by omega) (by omega) μ
    refine runF_rt (ρ := [some (.int n), none, none, none, none, none]) rfl ?_
    unfold d_prime_paper
    apply ev_seq (ρ' := [some (.int n), some (.tup (((p, e) :: L).map pq)), none, none, none, none]) (μ' := μ)
    case ha => exact ev_set (ev_dCall (ev_aCons (ev_var rfl) ev_aNil) pf rfl) rfl
    apply ev_seq (ρ' := [some (.int n), some (.tup (((p, e) :: L).map pq)), some (.int p), none, none, none]) (μ' := μ)
    case ha => exact ev_set (ev_d2 (ev_d2 (ev_var rfl) ev_K (ix_tup (v := pq (p, e)) (Fd.atI_nat (k := 0) rfl))) ev_K (ix_tup rfl)) rfl
    apply ev_seq_rt
    refine ev_sIf_t (ev_tB (ev_d2 (ev_var rfl) (ev_var rfl) (lt_ii (decide_eq_true (by omega))))) (ev_ret ?_)
    exact ev_dTup (ev_aCons ev_K (ev_aCons (ev_var rfl) (ev_aCons (ev_d2 (ev_var rfl) (ev_var rfl) d) ev_aNil))) (len_le (by show 3 ≤ 1000; decide))
end K11

/-! K11e: _law_paper. -/
namespace K11
open PySem PySem.Spec PyProof.Rows L2 Fd Nm
theorem filter_first {P : Nat → Bool} {m : Nat} (hm : P m = true) (hx : ∀ x, x < m → P x = false) : ∀ N : Nat, m < N → ∃ t, (List.range N).filter P = m :: t
  | 0, h => by omega
  | N + 1, h => by
    rw [List.range_succ, List.filter_append]
    by_cases e : m = N
    · subst e
      rw [List.filter_eq_nil_iff.mpr (fun x q => by rw [hx x (List.mem_range.mp q)]; exact Bool.false_ne_true), List.nil_append, List.filter_cons_of_pos hm]
      exact ⟨_, rfl⟩
    · obtain ⟨t, ht⟩ := filter_first hm hx N (by omega)
      rw [ht]
      exact ⟨t ++ _, rfl⟩
theorem small_roots : (List.range 42).all (fun n => !isPr n || decide (lroot n < n)) = true := by decide +kernel
theorem lroot_lt {n : Nat} (h : n ≤ 5000) (hp : IsP n) : lroot n < n := by
  have h2 := hp.1
  by_cases hs : n < 42
  · have := List.all_eq_true.mp small_roots n (List.mem_range.mpr hs)
    rw [(isPr_iff (by omega)).mpr hp] at this
    exact of_decide_eq_true this
  · obtain ⟨a, ha, hr⟩ := (chk_ok h hp).1
    obtain ⟨_, _, _, l4⟩ := lroot_ok h hp
    by_cases z : lroot n ≤ 40
    · omega
    · have := l4 (a + 1) (by omega) (by omega)
      rw [hr] at this; cases this
/-! ### stores that grow -/
def Ex (μ σ : Sto) : Prop := ∃ g, σ = μ ++ g
theorem Ex.refl (μ : Sto) : Ex μ μ := ⟨[], by rw [List.append_nil]⟩
theorem Ex.set {μ σ : Sto} (h : Ex μ σ) {l : Nat} (hl : μ.length ≤ l) (o : Ob) : Ex μ (σ.set l o) := by
  obtain ⟨g, rfl⟩ := h
  exact ⟨g.set (l - μ.length) o, by rw [List.set_append_right _ _ hl]⟩
theorem Ex.app {μ σ : Sto} (h : Ex μ σ) (o : Ob) : Ex μ (σ ++ [o]) := by
  obtain ⟨g, rfl⟩ := h
  exact ⟨g ++ [o], by rw [List.append_assoc]⟩
theorem get_app {σ : Sto} {l : Nat} {o o' : Ob} (h : σ[l]? = some o) : (σ ++ [o'])[l]? = some o := by
  rw [List.getElem?_append_left ((List.getElem?_eq_some_iff.mp h).1)]; exact h
theorem get_end {σ : Sto} {o : Ob} : (σ ++ [o])[σ.length]? = some o := by rw [List.getElem?_append_right (Nat.le_refl _), Nat.sub_self]; rfl
theorem get_lt {σ : Sto} {l : Nat} {o : Ob} (h : σ[l]? = some o) : l < σ.length := (List.getElem?_eq_some_iff.mp h).1
theorem pop_at {σ : Sto} {l : Nat} {xs : List PV} {y : PV} (h : σ[l]? = some (.lst (xs ++ [y]))) : f_pop (.loc l) [] σ = some (y, σ.set l (.lst xs)) := by
  unfold f_pop
  simp only [h]
  rw [show (xs ++ [y]).length - 1 = xs.length by simp, List.getElem?_append_right (Nat.le_refl _), Nat.sub_self]
  show some (y, σ.set l (.lst (xs ++ [y]).dropLast)) = _
  rw [List.dropLast_concat]
theorem app_at {σ : Sto} {l : Nat} {xs : List PV} {y : PV} (h : σ[l]? = some (.lst xs)) (hl : xs.length < 10000) : f_app (.loc l) [y] σ = some (.non, σ.set l (.lst (xs ++ [y]))) := by
  unfold f_app
  simp only [h]
  rw [if_pos (Nat.lt_trans hl (by decide))]
theorem addM_at {σ : Sto} {l : Nat} {xs ys : List PV} (h : σ[l]? = some (.lst xs)) (hl : xs.length + ys.length ≤ 20000) : f_addM (.loc l) (.lst ys) σ = some (.loc σ.length, σ ++ [.lst (xs ++ ys)]) := by
  unfold f_addM
  simp only [rdL, h]
  rw [if_pos (Nat.le_trans hl (by decide))]
theorem tru_at {σ : Sto} {l : Nat} {xs : List PV} (h : σ[l]? = some (.lst xs)) : truP (.loc l) σ = some !xs.isEmpty := by
  unfold truP
  simp only [h]
theorem peqv_nI (a b : Nat) : peqv (nI a) (nI b) = decide (a = b) := by
  show ((a : Int) == (b : Int)) = _
  rw [Bool.eq_iff_iff, beq_iff_eq, decide_eq_true_eq]
  omega
theorem notin_at {σ : Sto} {l : Nat} {xs : List Nat} (p : Nat) (h : σ[l]? = some (.lst (xs.map nI))) : f_notin (nI p) (.loc l) σ = some (.bl (!decide (p ∈ xs)), σ) := by
  have e : rdS σ (.loc l) = some (xs.map nI) := by
    unfold rdS
    simp only [rdL, h]
  have fl : (flatP (nI p) && (xs.map nI).all flatP) = true := by
    rw [Bool.and_eq_true]
    refine ⟨rfl, List.all_eq_true.mpr fun x hx => ?_⟩
    obtain ⟨q, _, rfl⟩ := List.mem_map.mp hx
    rfl
  unfold f_notin f_inB
  rw [e]
  show Option.map _ (if (flatP (nI p) && (xs.map nI).all flatP) = true then some ((xs.map nI).any fun z => peqv z (nI p)) else _) = _
  rw [if_pos fl]
  show some (PV.bl !((xs.map nI).any fun z => peqv z (nI p)), σ) = _
  congr 4
  rw [List.any_map, Bool.eq_iff_iff, List.any_eq_true, decide_eq_true_eq]
  constructor
  · rintro ⟨x, hx, hh⟩
    have : decide (x = p) = true := by rw [← peqv_nI]; exact hh
    rw [← of_decide_eq_true this]; exact hx
  · intro hx
    exact ⟨p, hx, by show peqv (nI p) (nI p) = true; rw [peqv_nI]; exact decide_eq_true rfl⟩
/-! ### the primes that are needed -/
theorem sum_pr : ∀ {b : Nat} {L : List (Nat × Nat)}, Asc b L → 1 ≤ b → (L.map (·.1)).sum ≤ prodL L
  | _, [], _, _ => Nat.zero_le _
  | b, q :: L, ⟨h1, h2, h3, h4⟩, hb => by
    have ih := sum_pr h4 (by omega)
    have hq : q.1 ≤ q.1 ^ q.2 := Nat.le_of_dvd (Nat.pow_pos (by have := h2.1; omega)) (dvd_powk h3)
    have q2 := h2.1
    rw [List.map_cons, List.sum_cons]
    show q.1 + (L.map (·.1)).sum ≤ q.1 ^ q.2 * prodL L
    by_cases z : L = []
    · subst z
      show q.1 + 0 ≤ q.1 ^ q.2 * 1
      omega
    · have hL : 2 ≤ prodL L := by
        have h0 := prodL_pos h4
        cases e : L with
        | nil => exact absurd e z
        | cons r M =>
          rw [e] at h4 h0
          have := prodL_one h4
          omega
      generalize prodL L = Y at *
      generalize q.1 ^ q.2 = X at *
      obtain ⟨x, rfl⟩ : ∃ x, X = x + 2 := ⟨X - 2, by omega⟩
      obtain ⟨y, rfl⟩ : ∃ y, Y = y + 2 := ⟨Y - 2, by omega⟩
      have : (x + 2) * (y + 2) = x * y + 2 * x + 2 * y + 4 := by grind
      have h0 : 0 ≤ x * y := Nat.zero_le _
      omega
structure WI (n : Nat) (left order : List Nat) : Prop where
  lp : ∀ p ∈ left, IsP p ∧ p ≤ n
  op : ∀ p ∈ order, IsP p ∧ p ≤ n
  cl : ∀ p ∈ order, ∀ q ∈ pfl (p - 1), q.1 ∈ order ∨ q.1 ∈ left
  nn : n ∈ order ∨ n ∈ left
  sz : order.length + left.sum ≤ n
theorem len_sum {l : List Nat} (h : ∀ p ∈ l, 1 ≤ p) : l.length ≤ l.sum := by
  induction l with
  | nil => exact Nat.le_refl _
  | cons x l ih =>
    have := ih (fun p hp => h p (List.mem_cons_of_mem _ hp))
    have := h x List.mem_cons_self
    rw [List.length_cons, List.sum_cons]; omega
theorem WI.drop {n p : Nat} {left order : List Nat} (I : WI n (left ++ [p]) order) (h : p ∈ order) : WI n left order := by
  refine ⟨fun q hq => I.lp q (List.mem_append_left _ hq), I.op, fun r hr q hq => ?_, ?_, ?_⟩
  · rcases I.cl r hr q hq with z | z
    · exact .inl z
    · rcases List.mem_append.mp z with z | z
      · exact .inr z
      · rw [List.mem_singleton.mp z]; exact .inl h
  · rcases I.nn with z | z
    · exact .inl z
    · rcases List.mem_append.mp z with z | z
      · exact .inr z
      · rw [List.mem_singleton.mp z]; exact .inl h
  · have := I.sz
    rw [List.sum_append, List.sum_cons, List.sum_nil] at this
    omega
theorem WI.take {n p : Nat} {left order : List Nat} (I : WI n (left ++ [p]) order) : WI n (left ++ (pfl (p - 1)).map (·.1)) (order ++ [p]) ∧ (left ++ (pfl (p - 1)).map (·.1)).sum < (left ++ [p]).sum := by
  have hp := I.lp p (List.mem_append_right _ (List.mem_singleton.mpr rfl))
  have p2 := hp.1.1
  obtain ⟨a, b⟩ := pfl_ok (show 0 < p - 1 by omega)
  have sm := sum_pr a (by decide)
  rw [b] at sm
  refine ⟨⟨fun q hq => ?_, fun q hq => ?_, fun r hr q hq => ?_, ?_, ?_⟩, ?_⟩
  · rcases List.mem_append.mp hq with z | z
    · exact I.lp q (List.mem_append_left _ z)
    · obtain ⟨r, hr, rfl⟩ := List.mem_map.mp z
      have := pfl_lt (show 0 < p - 1 by omega) r hr
      exact ⟨this.2.2.1, by omega⟩
  · rcases List.mem_append.mp hq with z | z
    · exact I.op q z
    · rw [List.mem_singleton.mp z]; exact hp
  · rcases List.mem_append.mp hr with z | z
    · rcases I.cl r z q hq with y | y
      · exact .inl (List.mem_append_left _ y)
      · rcases List.mem_append.mp y with y | y
        · exact .inr (List.mem_append_left _ y)
        · exact .inl (List.mem_append_right _ y)
    · rw [List.mem_singleton.mp z] at hq
      exact .inr (List.mem_append_right _ (List.mem_map.mpr ⟨q, hq, rfl⟩))
  · rcases I.nn with z | z
    · exact .inl (List.mem_append_left _ z)
    · rcases List.mem_append.mp z with z | z
      · exact .inr (List.mem_append_left _ z)
      · exact .inl (List.mem_append_right _ z)
  · have := I.sz
    rw [List.sum_append, List.sum_cons, List.sum_nil] at this
    rw [List.length_append, List.sum_append, List.length_cons, List.length_nil]
    omega
  · rw [List.sum_append, List.sum_append, List.sum_cons, List.sum_nil]; omega
noncomputable def wlB : DenS := (sSeq (sAsg (dML f_pop (cVar 2) aNil) (gNm 4))
  (sIf (tB1 (d2 f_notin (cVar 4) (cVar 3))) (sSeq (sEx (dML f_app (cVar 3) (aCons (cVar 4) aNil)))
  (sAsg (d2 f_addM (cVar 2) (dLc [8, 9] (itSeq (dCall 1 p_lprs (aCons (d2 f_sub (cVar 4) (cK (.int 1))) aNil))) (gTu 2 (gsCons (gNm 8) (gsCons (gNm 9) gsNil))) tAll (cVar 8))) (gNm 2))) sNil))
abbrev wE (n : Nat) (o1 : Option PV) (l1 l2 : Nat) (o4 o5 o6 o7 : Option PV) (o8 o9 o10 : Option PV) : En := [some (.int n), o1, some (.loc l1), some (.loc l2), o4, o5, o6, o7, o8, o9, o10]
theorem wl_loop {n : Nat} (hn : n ≤ 5000) {μ : Sto} {l2 : Nat} (o1 : Option PV) (hl2 : μ.length ≤ l2) : ∀ (T : Nat) (left order : List Nat) (σ : Sto) (l1 : Nat) (o4 : Option PV), left.sum ≤ T → WI n left order → Ex μ σ → μ.length ≤ l1 → l1 ≠ l2 → σ[l1]? = some (.lst (left.map nI)) → σ[l2]? = some (.lst (order.map nI)) →
    ∃ (order' : List Nat) (σ' : Sto) (l1' : Nat) (o4' : Option PV), WI n [] order' ∧ Ex μ σ' ∧ σ'[l2]? = some (.lst (order'.map nI)) ∧ sWh (tTru (cVar 2)) wlB (wE n o1 l1 l2 o4 none none none none none none) σ = some (.nx (wE n o1 l1' l2 o4' none none none none none none) σ') := by
  intro T
  induction T using Nat.strongRecOn with
  | ind T ih =>
    intro left order σ l1 o4 hT I E h1 hne g1 g2
    rcases List.eq_nil_or_concat left with rfl | ⟨left, p, rfl⟩
    · exact ⟨order, σ, l1, o4, I, E, g2, wh_done (ev_tTru (ev_var rfl) (tru_at g1))⟩
    · rw [List.concat_eq_append] at *
      have hp := I.lp p (List.mem_append_right _ (List.mem_singleton.mpr rfl))
      have p2 := hp.1.1
      rw [List.map_append] at g1
      have tst : tTru (cVar 2) (wE n o1 l1 l2 o4 none none none none none none) σ = some (true, σ) := ev_tTru (ev_var rfl) (by rw [tru_at g1]; simp)
      have pp := pop_at g1
      have g2' : (σ.set l1 (.lst (left.map nI)))[l2]? = some (.lst (order.map nI)) := by rw [List.getElem?_set_ne hne]; exact g2
      have g1' : (σ.set l1 (.lst (left.map nI)))[l1]? = some (.lst (left.map nI)) := List.getElem?_set_self (get_lt g1)
      have E' := E.set h1 (.lst (left.map nI))
      generalize hσ : σ.set l1 (.lst (left.map nI)) = σ1 at *
      have ni := notin_at p g2'
      by_cases hin : p ∈ order
      · have I' := I.drop hin
        have hs : left.sum < T := by
          rw [List.sum_append, List.sum_cons, List.sum_nil] at hT; omega
        obtain ⟨order', σ', l1', o4', a1, a2, a3, a4⟩ := ih left.sum hs left order σ1 l1 (some (nI p)) (Nat.le_refl _) I' E' h1 hne g1' g2'
        refine ⟨order', σ', l1', o4', a1, a2, a3, wh_step tst ?_ a4⟩
        rw [decide_eq_true hin] at ni
        unfold wlB
        exact ev_seq (ev_set (ev_dML (ev_var rfl) (isLs_at g1) ev_aNil pp) rfl) (ev_sIf_f (ev_tB (ev_d2 (ev_var rfl) (ev_var rfl) ni)) ev_sNil)
      · obtain ⟨I', hs⟩ := I.take
        have ol : order.length ≤ n := by have := I.sz; omega
        have ll : left.length ≤ n := by
          have := len_sum (l := left) (fun q hq => by have := (I.lp q (List.mem_append_left _ hq)).1.1; omega)
          have := I.sz
          rw [List.sum_append] at this
          omega
        have ap := app_at (y := nI p) g2' (by rw [List.length_map]; omega)
        have g1a : (σ1.set l2 (.lst (order.map nI ++ [nI p])))[l1]? = some (.lst (left.map nI)) := by rw [List.getElem?_set_ne (Ne.symm hne)]; exact g1'
        have g2a : (σ1.set l2 (.lst (order.map nI ++ [nI p])))[l2]? = some (.lst (order.map nI ++ [nI p])) := List.getElem?_set_self (get_lt g2')
        have E2 := E'.set hl2 (.lst (order.map nI ++ [nI p]))
        generalize hσ2 : σ1.set l2 (.lst (order.map nI ++ [nI p])) = σ2 at *
        have pl := pfl_len (n := p - 1) (B := 60) (by omega) (by omega)
        have am := addM_at (ys := ((pfl (p - 1)).map (·.1)).map nI) g1a (by rw [List.length_map, List.length_map, List.length_map]; omega)
        have lp := lprs_ok (n := p - 1) (by omega) (by omega) σ2
        have sb : f_sub (.int (p : Int)) (.int 1) σ2 = some (.int ((p - 1 : Nat) : Int), σ2) := by
          show some (PV.int ((p : Int) - 1), σ2) = _
          congr 3; omega
        have E3 : Ex μ (σ2 ++ [.lst ((left ++ (pfl (p - 1)).map (·.1)).map nI)]) := E2.app _
        rw [← List.map_append] at am
        have len2 : μ.length ≤ σ2.length := by obtain ⟨g, hg⟩ := E2; rw [hg, List.length_append]; omega
        obtain ⟨order', σ', l1', o4', a1, a2, a3, a4⟩ := ih (left ++ (pfl (p - 1)).map (·.1)).sum (by omega) (left ++ (pfl (p - 1)).map (·.1)) (order ++ [p]) (σ2 ++ [.lst ((left ++ (pfl (p - 1)).map (·.1)).map nI)]) σ2.length (some (nI p)) (Nat.le_refl _) I' E3 len2 (by have := get_lt g2a; omega) get_end (by rw [show (order ++ [p]).map nI = order.map nI ++ [nI p] from List.map_append]; exact get_app g2a)
        refine ⟨order', σ', l1', o4', a1, a2, a3, wh_step tst ?_ a4⟩
        rw [decide_eq_false hin] at ni
        have comp : dLc [8, 9] (itSeq (dCall 1 p_lprs (aCons (d2 f_sub (cVar 4) (cK (.int 1))) aNil))) (gTu 2 (gsCons (gNm 8) (gsCons (gNm 9) gsNil))) tAll (cVar 8) (wE n o1 l1 l2 (some (nI p)) none none none none none none) σ2 = some (.lst (((pfl (p - 1)).map (·.1)).map nI), σ2) := by
          rw [List.map_map]
          exact ev_lc (xs := (pfl (p - 1)).map pq) (ch := []) (μ1 := σ2) (it_lst (ev_dCall (ev_aCons (ev_d2 (ev_var rfl) ev_K sb) ev_aNil) lp rfl)) rfl (lc_map0 pq _ (pfl (p - 1)) chk_nil (len_le (by omega)) fun q hq => ⟨_, rfl, ev_var rfl⟩)
        unfold wlB
        refine ev_seq (ev_set (ev_dML (ev_var rfl) (isLs_at g1) ev_aNil pp) rfl) (ev_sIf_t (ev_tB (ev_d2 (ev_var rfl) (ev_var rfl) ni)) (ev_seq (ev_ex (ev_dML (ev_var rfl) (isLs_at g2') (ev_aCons (ev_var rfl) ev_aNil) ap)) (ev_set (ev_d2 (ev_var rfl) comp am) rfl)))
/-! ### the table -/
theorem kGet_has {k : Key} : ∀ {kvs : List (PV × PV)}, kHas kvs k = false → kGet kvs k = none
  | [], _ => rfl
  | p :: r, h => by
    unfold kHas at h
    rw [List.any_cons, Bool.or_eq_false_iff] at h
    unfold kGet
    rw [if_neg (of_decide_eq_false h.1)]
    exact kGet_has h.2
theorem kGet_sub {k j : Key} {v : PV} : ∀ {kvs : List (PV × PV)}, kGet (kSub kvs k v) j = if j = k then (if kHas kvs k = true then some v else none) else kGet kvs j
  | [] => by
    show none = _
    split
    · rfl
    · rfl
  | p :: r => by
    have ih := kGet_sub (k := k) (j := j) (v := v) (kvs := r)
    unfold kSub at ih ⊢
    rw [List.map_cons]
    by_cases e : keyOf p.1 = some k
    · rw [if_pos e]
      unfold kGet
      simp only [e]
      by_cases hj : j = k
      · subst hj
        rw [if_pos rfl, if_pos rfl, if_pos (by unfold kHas; rw [List.any_cons, decide_eq_true e]; rfl)]
      · rw [if_neg (fun z => hj (Option.some.inj z).symm), if_neg hj, ih, if_neg hj, if_neg (fun z => hj (Option.some.inj z).symm)]
    · rw [if_neg e]
      unfold kGet
      by_cases hj : j = k
      · subst hj
        rw [if_neg e, ih, if_pos rfl, if_pos rfl]
        congr 1
        unfold kHas
        rw [List.any_cons, decide_eq_false e, Bool.false_or]
      · rw [ih, if_neg hj, if_neg hj]
theorem kGet_app {j k : Key} {y v : PV} (hy : keyOf y = some k) : ∀ {kvs : List (PV × PV)}, kGet kvs k = none → kGet (kvs ++ [(y, v)]) j = if j = k then some v else kGet kvs j
  | [], _ => by
    show (if keyOf y = some j then some v else none) = _
    rw [hy]
    by_cases e : j = k
    · subst e; rw [if_pos rfl, if_pos rfl]
    · rw [if_neg (fun z => e (Option.some.inj z).symm), if_neg e]; rfl
  | p :: r, h => by
    unfold kGet at h
    split at h
    · cases h
    · rename_i hne
      have ih := kGet_app (j := j) (v := v) hy h
      show (if keyOf p.1 = some j then some p.2 else kGet (r ++ [(y, v)]) j) = if j = k then some v else (if keyOf p.1 = some j then some p.2 else kGet r j)
      rw [ih]
      by_cases e : j = k
      · subst e
        rw [if_neg hne, if_pos rfl, if_pos rfl]
      · rw [if_neg e, if_neg e]
theorem kGet_put {k j : Key} {y v : PV} (hy : keyOf y = some k) (kvs : List (PV × PV)) : kGet (kPut kvs y k v) j = if j = k then some v else kGet kvs j := by
  unfold kPut
  by_cases h : kHas kvs k = true
  · rw [if_pos h, kGet_sub, if_pos h]
  · rw [if_neg h]
    have h : kHas kvs k = false := by
      cases e : kHas kvs k with
      | true => exact absurd e h
      | false => rfl
    exact kGet_app hy (kGet_has h)
theorem kPut_len {k : Key} {y v : PV} (kvs : List (PV × PV)) : (kPut kvs y k v).length ≤ kvs.length + 1 := by
  unfold kPut
  split
  · unfold kSub; rw [List.length_map]; omega
  · rw [List.length_append]; exact Nat.le_refl _
theorem dix_at {σ : Sto} {l q : Nat} {kvs : List (PV × PV)} {v : PV} (h : σ[l]? = some (.dic false kvs)) (hv : kGet kvs (.inl (q : Int)) = some v) : f_dix (.loc l) (nI q) σ = some (v, σ) := by
  unfold f_dix dicAt
  simp only [h]
  show Option.map _ (kGet kvs (.inl (q : Int))) = _
  rw [hv]; rfl
theorem dput_at {σ : Sto} {l p : Nat} {kvs : List (PV × PV)} {v : PV} (h : σ[l]? = some (.dic false kvs)) (hl : kvs.length < 100000) : f_dput (.loc l) (nI p) v σ = some (σ.set l (.dic false (kPut kvs (nI p) (.inl (p : Int)) v))) := by
  unfold f_dput dicAt
  simp only [h]
  show (if kvs.length < sizeLine then _ else _) = _
  rw [if_pos (Nat.lt_trans hl (by decide))]
theorem ev_gDp {ρ : En} {μ μ1 μ2 μ3 : Sto} {o i : Den} {x y v : PV} (ho : o ρ μ = some (x, μ1)) (hi : i ρ μ1 = some (y, μ2)) (hs : f_dput x y v μ2 = some μ3) : gDp o i v ρ μ = some (ρ, μ3) := by
  unfold gDp; rw [ho]; show Option.bind (i ρ μ1) _ = _; rw [hi]; show Option.map _ (f_dput x y v μ2) = _; rw [hs]; rfl
structure TI (pre : List Nat) (kvs : List (PV × PV)) : Prop where
  get : ∀ q ∈ pre, kGet kvs (.inl (q : Int)) = some (prF q q)
  len : kvs.length ≤ pre.length
noncomputable def tbB : DenS := (sSeq (sAsg (d2 f_ix (dLc [10] (itRg2 (aCons (cK (.int 1)) (aCons (cVar 4) aNil))) (gNm 10) (tTru (dCall 2 p_fits (aCons (cVar 10) (aCons (cVar 4) aNil)))) (cVar 10)) (cK (.int 0))) (gNm 6))
  (sAsg (dTup (aCons (cK (.str (Str.ofString "prime"))) (aCons (cVar 6) (aCons (dN f_tuple (aCons (dLc [8, 9] (itSeq (dCall 1 p_lprs (aCons (d2 f_sub (cVar 4) (cK (.int 1))) aNil))) (gTu 2 (gsCons (gNm 8) (gsCons (gNm 9) gsNil))) tAll (dTup (aCons (cVar 8) (aCons (d2 f_dix (cVar 5) (cVar 8)) aNil)))) aNil)) aNil)))) (gDp (cVar 5) (cVar 4))))
theorem first_root {p : Nat} (hp : IsP p) (hn : p ≤ 5000) : ∃ t, (List.range (p - 1)).filter (fun i => rootN (i + 1) p ((pfl (p - 1)).map (·.1))) = (lroot p - 1) :: t := by
  obtain ⟨l1, l2, l3, l4⟩ := lroot_ok hn hp
  have := lroot_lt hn hp
  refine filter_first (P := fun i => rootN (i + 1) p ((pfl (p - 1)).map (·.1))) (m := lroot p - 1) ?_ (fun x hx => l4 (x + 1) (by omega) (by omega)) (p - 1) (by omega)
  show rootN (lroot p - 1 + 1) p _ = true
  rw [show lroot p - 1 + 1 = lroot p by omega]; exact l3
theorem tb_step {n p : Nat} (hn : p ≤ 5000) (hp : IsP p) {o1 : Option PV} {l1 l2 l5 : Nat} {σ : Sto} {kvs : List (PV × PV)} (g5 : σ[l5]? = some (.dic false kvs)) (hl : kvs.length < 100000) (hq : ∀ q ∈ pfl (p - 1), kGet kvs (.inl (q.1 : Int)) = some (prF q.1 q.1)) (o6 : Option PV) :
    tbB (wE n o1 l1 l2 (some (nI p)) (some (.loc l5)) o6 none none none none) σ = some (.nx (wE n o1 l1 l2 (some (nI p)) (some (.loc l5)) (some (nI (lroot p))) none none none none) (σ.set l5 (.dic false (kPut kvs (nI p) (.inl (p : Int)) (prF p p))))) := by
  have p2 := hp.1
  obtain ⟨t, ht⟩ := first_root hp hn
  obtain ⟨l1', l2', l3', l4'⟩ := lroot_ok hn hp
  have pl := pfl_len (n := p - 1) (B := 60) (by omega) (by omega)
  have lp := lprs_ok (n := p - 1) (by omega) (by omega) σ
  have sb : f_sub (.int (p : Int)) (.int 1) σ = some (.int ((p - 1 : Nat) : Int), σ) := by
    show some (PV.int ((p : Int) - 1), σ) = _
    congr 3; omega
  have comp1 : dLc [10] (itRg2 (aCons (cK (.int 1)) (aCons (cVar 4) aNil))) (gNm 10) (tTru (dCall 2 p_fits (aCons (cVar 10) (aCons (cVar 4) aNil)))) (cVar 10) (wE n o1 l1 l2 (some (nI p)) (some (.loc l5)) o6 none none none none) σ = some (.lst (nI (lroot p) :: t.map fun i => nI (i + 1)), σ) := by
    refine ev_lc (xs := (List.range (p - 1)).map (fun i : Nat => PV.int ((i + 1 : Nat) : Int))) (ch := []) (μ1 := σ) (ρ' := wE n o1 l1 l2 (some (nI p)) (some (.loc l5)) o6 none none none none) ?_ rfl ?_
    · rw [← rgP_range1]
      exact it_rg2 (i := 1) (j := (p : Int)) rfl (by decide) (rgIn_of (by omega) (by omega)) (by omega)
    · rw [lc_map (fun i : Nat => PV.int ((i + 1 : Nat) : Int)) (fun i => rootN (i + 1) p ((pfl (p - 1)).map (·.1))) (fun i => nI (i + 1)) (List.range (p - 1)) [] chk_nil (lt20 (b := p) (by rw [List.length_range]; show 0 + _ ≤ _; omega) (by omega)) ?_]
      · rw [ht, List.nil_append, List.map_cons, show lroot p - 1 + 1 = lroot p by omega]
      · intro i hi
        have ft := fits_ok (a := ((i + 1 : Nat) : Int)) (n := p) p2 (by omega) σ
        have e : prs (p - 1) = ((pfl (p - 1)).map (·.1)).map fun p : Nat => (p : Int) := by unfold prs; rw [List.map_map]; rfl
        rw [e, root_cast (by omega)] at ft
        exact ⟨_, rfl, ev_tTru (ev_dCall (ev_aCons (ev_var rfl) (ev_aCons (ev_var rfl) ev_aNil)) ft rfl) rfl, fun _ => ev_var rfl⟩
  have comp2 : dLc [8, 9] (itSeq (dCall 1 p_lprs (aCons (d2 f_sub (cVar 4) (cK (.int 1))) aNil))) (gTu 2 (gsCons (gNm 8) (gsCons (gNm 9) gsNil))) tAll (dTup (aCons (cVar 8) (aCons (d2 f_dix (cVar 5) (cVar 8)) aNil))) (wE n o1 l1 l2 (some (nI p)) (some (.loc l5)) (some (nI (lroot p))) none none none none) σ = some (.lst ((pfl (p - 1)).map fun q => .tup [nI q.1, prF q.1 q.1]), σ) :=
    ev_lc (xs := (pfl (p - 1)).map pq) (ch := []) (μ1 := σ) (it_lst (ev_dCall (ev_aCons (ev_d2 (ev_var rfl) ev_K sb) ev_aNil) lp rfl)) rfl (lc_map0 pq _ (pfl (p - 1)) chk_nil (len_le (by omega)) fun q hqm => ⟨_, rfl, ev_dTup (ev_aCons (ev_var rfl) (ev_aCons (ev_d2 (ev_var rfl) (ev_var rfl) (dix_at g5 (hq q hqm))) ev_aNil)) (len_le (by show 2 ≤ 1000; decide))⟩)
  unfold tbB
  apply ev_seq (ρ' := wE n o1 l1 l2 (some (nI p)) (some (.loc l5)) (some (nI (lroot p))) none none none none) (μ' := σ)
  case ha => exact ev_set (ev_d2 comp1 ev_K (ix_lst (Fd.atI_nat (k := 0) rfl))) rfl
  rw [prF_step p2]
  have dp := dput_at (p := p) (v := .tup [sPrime, nI (lroot p), .tup ((pfl (p - 1)).map fun q => .tup [nI q.1, prF q.1 q.1])]) g5 hl
  refine ev_asg (ev_dTup (ev_aCons ev_K (ev_aCons (ev_var rfl) (ev_aCons (ev_dN (ev_aCons comp2 ev_aNil) rfl) ev_aNil))) (len_le (by show 3 ≤ 1000; decide))) ?_
  exact ev_gDp (ev_var rfl) (ev_var rfl) dp
theorem tb_loop {n : Nat} (hn : n ≤ 5000) {μ : Sto} {S : List Nat} (hS : ∀ p ∈ S, IsP p ∧ p ≤ n) (hcl : ∀ p ∈ S, ∀ q ∈ pfl (p - 1), q.1 ∈ S) (hs : S.Pairwise (· ≤ ·)) (hlS : S.length ≤ 5000) {o1 : Option PV} {l1 l2 l5 : Nat} (h5 : μ.length ≤ l5) : ∀ (post pre : List Nat) (σ : Sto) (kvs : List (PV × PV)) (o4 o6 : Option PV), S = pre ++ post → TI pre kvs → Ex μ σ → σ[l5]? = some (.dic false kvs) →
    ∃ (σ' : Sto) (kvs' : List (PV × PV)) (o4' o6' : Option PV), TI S kvs' ∧ Ex μ σ' ∧ σ'[l5]? = some (.dic false kvs') ∧ forL (gNm 4) tbB [] (post.map nI) (wE n o1 l1 l2 o4 (some (.loc l5)) o6 none none none none) σ = some (.nx (wE n o1 l1 l2 o4' (some (.loc l5)) o6' none none none none) σ')
  | [], pre, σ, kvs, o4, o6, e, T, E, g => ⟨σ, kvs, o4, o6, by rw [e, List.append_nil]; exact T, E, g, for_nil⟩
  | p :: post, pre, σ, kvs, o4, o6, e, T, E, g => by
    have pS : p ∈ S := by rw [e]; exact List.mem_append_right _ List.mem_cons_self
    obtain ⟨hp, hpn⟩ := hS p pS
    have hpre : ∀ q ∈ pfl (p - 1), q.1 ∈ pre := fun q hq => by
      have h1 := hcl p pS q hq
      have hlt := pfl_lt (n := p - 1) (by have := hp.1; omega) q hq
      rw [e] at h1 hs
      rcases List.mem_append.mp h1 with z | z
      · exact z
      · exfalso
        have hp2 := (List.pairwise_append.mp hs).2.1
        rcases List.mem_cons.mp z with y | y
        · omega
        · have := (List.pairwise_cons.mp hp2).1 _ y
          omega
    have lenp : pre.length ≤ 5000 := by rw [e, List.length_append] at hlS; omega
    have st := tb_step (n := n) (o1 := o1) (l1 := l1) (l2 := l2) (by omega) hp g (by have := T.len; omega) (fun q hq => T.get q.1 (hpre q hq)) o6
    have T' : TI (pre ++ [p]) (kPut kvs (nI p) (.inl (p : Int)) (prF p p)) := by
      refine ⟨fun q hq => ?_, ?_⟩
      · rw [kGet_put (y := nI p) (k := .inl (p : Int)) rfl]
        by_cases z : q = p
        · rw [z, if_pos rfl]
        · rw [if_neg (fun y => z (by have y := Sum.inl.inj y; omega))]
          rcases List.mem_append.mp hq with y | y
          · exact T.get q y
          · exact absurd (List.mem_singleton.mp y) z
      · rw [List.length_append]
        exact Nat.le_trans (kPut_len _) (Nat.add_le_add_right T.len 1)
    obtain ⟨σ', kvs', o4', o6', a1, a2, a3, a4⟩ := tb_loop hn hS hcl hs hlS (o1 := o1) (l1 := l1) (l2 := l2) h5 post (pre ++ [p]) (σ.set l5 (.dic false (kPut kvs (nI p) (.inl (p : Int)) (prF p p)))) _ (some (nI p)) (some (nI (lroot p))) (by rw [e]; simp) T' (E.set h5 _) (List.getElem?_set_self (get_lt g))
    exact ⟨σ', kvs', o4', o6', a1, a2, a3, for_step (ρ1 := wE n o1 l1 l2 (some (nI p)) (some (.loc l5)) o6 none none none none) (μ1 := σ) rfl st chk_nil a4⟩
noncomputable def p_lpp : Fn := runZ 11 (d__law_paper p_lprs p_fits)
theorem rgP_range2 (n : Nat) : rgP 2 n = (List.range n).map (fun i : Nat => PV.int ((i + 2 : Nat) : Int)) := by
  rw [rgP_from]; apply List.map_congr_left; intro i _; congr 1; push_cast; omega
theorem least_ok {n : Nat} (h : 2 ≤ n) (hn : n ≤ 5000) (μ : Sto) : ∃ p e L t, pfl n = (p, e) :: L ∧ IsP p ∧ p ∣ n ∧ (IsP n → p = n) ∧ (¬ IsP n → p < n) ∧
    dLc [7] (itRg2 (aCons (cK (.int 2)) (aCons (d2 f_add (cVar 0) (cK (.int 1))) aNil))) (gNm 7) (tB1 (d2 f_eq (d2 f_mod (cVar 0) (cVar 7)) (cK (.int 0)))) (cVar 7) [some (.int n), none, none, none, none, none, none, none, none, none, none] μ = some (.lst (nI p :: t), μ) := by
  obtain ⟨p, e, L, e0, h1, h2, h3, h4, h5⟩ := pfl_head h
  have p2 := h1.1
  have pn := Nat.le_of_dvd (by omega) h2
  obtain ⟨t, ht⟩ := filter_first (P := fun i => decide (n % (i + 2) = 0)) (m := p - 2) (by
    show decide (n % (p - 2 + 2) = 0) = true
    rw [show p - 2 + 2 = p by omega]
    exact decide_eq_true (Nat.mod_eq_zero_of_dvd h2)) (fun x hx => decide_eq_false (fun z => by
      have := h3 (x + 2) (by omega) (Nat.dvd_of_mod_eq_zero z)
      omega)) (n - 1) (by omega)
  refine ⟨p, e, L, t.map fun i => nI (i + 2), e0, h1, h2, h4, h5, ?_⟩
  refine ev_lc (xs := (List.range (n - 1)).map (fun i : Nat => PV.int ((i + 2 : Nat) : Int))) (ch := []) (μ1 := μ) (ρ' := [some (.int n), none, none, none, none, none, none, none, none, none, none]) ?_ rfl ?_
  · rw [← rgP_range2]
    exact it_rg2 (i := 2) (j := (n : Int) + 1) rfl (by decide) (rgIn_of (by omega) (by omega)) (by omega)
  · rw [lc_map (fun i : Nat => PV.int ((i + 2 : Nat) : Int)) (fun i => decide (n % (i + 2) = 0)) (fun i => nI (i + 2)) (List.range (n - 1)) [] chk_nil (lt20 (b := n) (by rw [List.length_range]; show 0 + _ ≤ _; omega) (by omega)) ?_]
    · rw [ht, List.nil_append, List.map_cons, show p - 2 + 2 = p by omega]
    · intro i hi
      have m := mod_nn (n := n) (p := i + 2) (by omega) μ
      refine ⟨_, rfl, ev_tB (ev_d2 (ev_d2 (ev_var rfl) (ev_var rfl) m) ev_K (eq_ii ?_)), fun _ => ev_var rfl⟩
      apply decide_eq_decide.mpr; omega
theorem sorted_at {σ : Sto} {l : Nat} {xs : List Nat} (h : σ[l]? = some (.lst (xs.map nI))) : ∃ S : List Nat, S.Perm xs ∧ S.Pairwise (· ≤ ·) ∧ f_sorted [.loc l] σ = some (.lst (S.map nI), σ) := by
  let J := srtI (xs.map Int.ofNat)
  have pm : J.Perm (xs.map Int.ofNat) := srtI_perm _
  have hJ : ∀ j ∈ J, 0 ≤ j := fun j hj => by
    obtain ⟨x, _, rfl⟩ := List.mem_map.mp (pm.mem_iff.mp hj)
    exact Int.natCast_nonneg x
  have back : (J.map Int.toNat).map Int.ofNat = J := by
    rw [List.map_map]
    conv => rhs; rw [← List.map_id J]
    apply List.map_congr_left
    intro j hj
    show ((j.toNat : Nat) : Int) = j
    have := hJ j hj
    omega
  refine ⟨J.map Int.toNat, ?_, ?_, ?_⟩
  · have := pm.map Int.toNat
    rw [List.map_map] at this
    have e : xs.map (Int.toNat ∘ Int.ofNat) = xs := by
      conv => rhs; rw [← List.map_id xs]
      apply List.map_congr_left
      intro x _; rfl
    rw [e] at this
    exact this
  · rw [List.pairwise_map]
    refine List.Pairwise.imp_of_mem (fun {a b} ha hb h => ?_) (srtI_sorted (xs.map Int.ofNat))
    have := hJ a ha
    have := hJ b hb
    omega
  · show Option.map _ ((rdL σ (.loc l)).bind intsP) = _
    rw [rdL_at h]
    show Option.map _ (intsP _) = _
    have e : xs.map nI = (xs.map Int.ofNat).map PV.int := by rw [List.map_map]; rfl
    rw [e, intsP_map]
    show some (PV.lst (J.map PV.int), σ) = _
    conv => lhs; rw [← back]
    rw [List.map_map]; rfl
theorem lpp_ok {n : Nat} (h : 2 ≤ n) (hn : n ≤ 5000) (μ : Sto) : p_lpp [.int n] μ = some (PPv n, μ) := by
  obtain ⟨p, e, L, t, e0, h1, h2, h4, h5, comp⟩ := least_ok h hn μ
  have p2 := h1.1
  by_cases hp : IsP n
  · have pn := h4 hp
    subst pn
    unfold PPv
    rw [if_pos ((isPr_iff (by omega)).mpr hp)]
    have I0 : WI p [p] [] := ⟨fun q hq => by rw [List.mem_singleton.mp hq]; exact ⟨hp, Nat.le_refl _⟩, (fun q hq => nomatch hq), (fun q hq => nomatch hq), .inr (List.mem_singleton.mpr rfl), by simp⟩
    have E0 : Ex μ ((μ ++ [.lst ([p].map nI)]) ++ [.lst (([] : List Nat).map nI)]) := ((Ex.refl μ).app _).app _
    have hl1 : (μ ++ [Ob.lst ([p].map nI)]).length = μ.length + 1 := by simp
    obtain ⟨order, σ, l1, o4, J, E, g, hw⟩ := wl_loop hn (μ := μ) (l2 := (μ ++ [Ob.lst ([p].map nI)]).length) (some (nI p)) (by rw [hl1]; omega) p [p] [] ((μ ++ [.lst ([p].map nI)]) ++ [.lst (([] : List Nat).map nI)]) μ.length none (by simp) I0 E0 (Nat.le_refl _) (by rw [hl1]; omega) (get_app get_end) get_end
    obtain ⟨S, pm, sS, srt⟩ := sorted_at (get_app (o' := .dic false []) g)
    have lenσ : μ.length ≤ σ.length := by obtain ⟨x, hx⟩ := E; rw [hx, List.length_append]; omega
    have olen : order.length ≤ p := by have := J.sz; omega
    obtain ⟨σ', kvs, o4', o6, T, E', g5, hf⟩ := tb_loop (n := p) hn (μ := μ) (S := S) (fun q hq => J.op q (pm.mem_iff.mp hq)) (fun q hq r hr => by
      rcases J.cl q (pm.mem_iff.mp hq) r hr with z | z
      · exact pm.mem_iff.mpr z
      · cases z) sS (by rw [pm.length_eq]; omega) (o1 := some (nI p)) (l1 := l1) (l2 := (μ ++ [Ob.lst ([p].map nI)]).length) (l5 := σ.length) lenσ S [] (σ ++ [.dic false []]) [] o4 none rfl ⟨fun q hq => (nomatch hq), Nat.le_refl _⟩ (E.app _) get_end
    have pS : p ∈ S := by
      rcases J.nn with z | z
      · exact pm.mem_iff.mpr z
      · cases z
    obtain ⟨g', hg'⟩ := E'
    refine runZ_v (ρ := [some (.int p), none, none, none, none, none, none, none, none, none, none]) (g := g') rfl ?_ (fun l => by rw [prF_step h]; intro z; cases z) (ok_prF _ _ _)
    rw [← hg']
    unfold d__law_paper
    apply ev_seq (ρ' := [some (.int p), some (nI p), none, none, none, none, none, none, none, none, none]) (μ' := μ)
    case ha => exact ev_set (ev_d2 comp ev_K (ix_lst (Fd.atI_nat (k := 0) rfl))) rfl
    apply ev_seq
    case ha => exact ev_sIf_f (ev_tB (ev_d2 (ev_var rfl) (ev_var rfl) (lt_ii (decide_eq_false (by omega))))) ev_sNil
    apply ev_seq (ρ' := wE p (some (nI p)) μ.length (μ ++ [Ob.lst ([p].map nI)]).length none none none none none none none) (μ' := (μ ++ [.lst ([p].map nI)]) ++ [.lst (([] : List Nat).map nI)])
    case ha => exact ev_par (ev_aCons (ev_dLoc (ev_aCons (ev_var rfl) ev_aNil) (len_le (by show 1 ≤ 1000; decide))) (ev_aCons (ev_dLoc ev_aNil (Nat.zero_le _)) ev_aNil)) rfl
    apply ev_seq hw
    apply ev_seq (ρ' := wE p (some (nI p)) l1 (μ ++ [Ob.lst ([p].map nI)]).length o4 (some (.loc σ.length)) none none none none none) (μ' := σ ++ [.dic false []])
    case ha => rfl
    apply ev_seq (ev_for (it_lst (ev_dN (ev_aCons (ev_var rfl) ev_aNil) srt)) hf)
    exact ev_ret (ev_d2 (ev_var rfl) (ev_var rfl) (dix_at g5 (T.get p pS)))
  · have lt := h5 hp
    have np : ¬ isPr n = true := fun z => hp ((isPr_iff (by omega)).mp z)
    unfold PPv
    rw [if_neg np, e0]
    have d := div_nn (n := n) (p := p) (by omega) (by omega) μ
    refine runZ_v (ρ := [some (.int n), none, none, none, none, none, none, none, none, none, none]) (g := []) rfl ?_ (fun l => by intro z; cases z) rfl
    rw [List.append_nil]
    unfold d__law_paper
    apply ev_seq (ρ' := [some (.int n), some (nI p), none, none, none, none, none, none, none, none, none]) (μ' := μ)
    case ha => exact ev_set (ev_d2 comp ev_K (ix_lst (Fd.atI_nat (k := 0) rfl))) rfl
    apply ev_seq_rt
    refine ev_sIf_t (ev_tB (ev_d2 (ev_var rfl) (ev_var rfl) (lt_ii (decide_eq_true (by omega))))) (ev_ret ?_)
    exact ev_dTup (ev_aCons ev_K (ev_aCons (ev_var rfl) (ev_aCons (ev_d2 (ev_var rfl) (ev_var rfl) d) ev_aNil))) (len_le (by show 3 ≤ 1000; decide))
end K11

/-! K11f: are_parts; dividing by the parts. -/
namespace K11
open PySem PySem.Spec PyProof.Rows L2 Fd Nm
def stp (q : Nat) : Nat → Nat → Nat
  | 0, r => r
  | k + 1, r => if r % q = 0 then stp q k (r / q) else r
theorem stp_ok {q : Nat} (hq : 2 ≤ q) : ∀ (k r : Nat), 0 < r → r ≤ k → ∃ e, r = q ^ e * stp q k r ∧ 0 < stp q k r ∧ stp q k r ≤ r ∧ (r % q = 0 → 0 < e)
  | 0, r, h, h2 => by omega
  | k + 1, r, h, h2 => by
    unfold stp
    by_cases z : r % q = 0
    · rw [if_pos z]
      have hd := Nat.dvd_of_mod_eq_zero z
      have hlt : r / q < r := Nat.div_lt_self h hq
      have h0 : 0 < r / q := Nat.div_pos (Nat.le_of_dvd h hd) (by omega)
      obtain ⟨e, e1, e2, e3, _⟩ := stp_ok hq k (r / q) h0 (by omega)
      refine ⟨e + 1, ?_, e2, by omega, fun _ => Nat.succ_pos e⟩
      rw [Nat.pow_succ, Nat.mul_right_comm, ← e1, Nat.div_mul_cancel hd]
    · rw [if_neg z]
      exact ⟨0, by rw [Nat.pow_zero, Nat.one_mul], h, Nat.le_refl _, fun y => absurd y z⟩
def dvN : List Nat → Nat → Option Nat
  | [], r => some r
  | q :: qs, r => if r % q = 0 then dvN qs (stp q r r) else none
theorem dvN_sum : ∀ {qs : List Nat} {r : Nat}, (∀ q ∈ qs, 2 ≤ q) → 0 < r → dvN qs r = some 1 → qs.sum ≤ r ∧ ∀ q ∈ qs, q ≤ r
  | [], r, _, _, _ => ⟨Nat.zero_le _, fun q hq => nomatch hq⟩
  | q :: qs, r, h, hr, e => by
    unfold dvN at e
    split at e
    · rename_i z
      obtain ⟨k, k1, k2, k3, k4⟩ := stp_ok (h q List.mem_cons_self) r r hr (Nat.le_refl _)
      have q2 := h q List.mem_cons_self
      obtain ⟨s1, s2⟩ := dvN_sum (fun p hp => h p (List.mem_cons_of_mem _ hp)) k2 e
      have hq : q ≤ q ^ k := Nat.le_of_dvd (Nat.pow_pos (by omega)) (dvd_powk (k4 z))
      generalize stp q r r = s at *
      have big : q + (if qs = [] then 0 else s) ≤ q ^ k * s := by
        by_cases hz : qs = []
        · rw [if_pos hz, Nat.add_zero]
          exact Nat.le_trans hq (Nat.le_mul_of_pos_right _ k2)
        · rw [if_neg hz]
          have s3 : 2 ≤ s := by
            cases hqs : qs with
            | nil => exact absurd hqs hz
            | cons p ps =>
              have := s2 p (by rw [hqs]; exact List.mem_cons_self)
              have := h p (List.mem_cons_of_mem _ (by rw [hqs]; exact List.mem_cons_self))
              omega
          generalize q ^ k = X at *
          obtain ⟨x, rfl⟩ : ∃ x, X = x + 2 := ⟨X - 2, by omega⟩
          obtain ⟨y, rfl⟩ : ∃ y, s = y + 2 := ⟨s - 2, by omega⟩
          have : (x + 2) * (y + 2) = x * y + 2 * x + 2 * y + 4 := by grind
          have h0 : 0 ≤ x * y := Nat.zero_le _
          omega
      rw [← k1] at big
      refine ⟨?_, fun p hp => ?_⟩
      · rw [List.sum_cons]
        by_cases hz : qs = []
        · rw [hz, List.sum_nil]; rw [if_pos hz] at big; omega
        · rw [if_neg hz] at big; omega
      · rcases List.mem_cons.mp hp with rfl | hp
        · split at big <;> omega
        · have := s2 p hp; omega
    · cases e
noncomputable def dvW (i j : Nat) : DenS := (sWh (tB1 (d2 f_eq (d2 f_mod (cVar i) (cVar j)) (cK (.int 0)))) (sAsg (d2 f_fdiv (cVar i) (cVar j)) (gNm i)))
noncomputable def dvB (i j : Nat) : DenS := (sSeq (sIf (tB1 (d2 f_ne (d2 f_mod (cVar i) (cVar j)) (cK (.int 0)))) (sRet (cK (.bl false))) sNil) (dvW i j))
theorem dv_wh {i j q : Nat} (hij : i ≠ j) (hq : 2 ≤ q) (hq2 : q < 2 ^ 60) (μ : Sto) : ∀ (k r : Nat) (ρ : En), 0 < r → r ≤ k → ρ[i]? = some (some (nI r)) → ρ[j]? = some (some (nI q)) → dvW i j ρ μ = some (.nx (ρ.set i (some (nI (stp q k r)))) μ)
  | 0, r, ρ, h, h2, _, _ => by omega
  | k + 1, r, ρ, h, h2, gi, gj => by
    have m := mod_nn (n := r) (p := q) (by omega) μ
    have d := div_nn (n := r) (p := q) (by omega) (by omega) μ
    have il : i < ρ.length := (List.getElem?_eq_some_iff.mp gi).1
    unfold stp
    by_cases z : r % q = 0
    · rw [if_pos z]
      have hlt : r / q < r := Nat.div_lt_self h hq
      have h0 : 0 < r / q := Nat.div_pos (Nat.le_of_dvd h (Nat.dvd_of_mod_eq_zero z)) (by omega)
      have ih := dv_wh hij hq hq2 μ k (r / q) (ρ.set i (some (nI (r / q)))) h0 (by omega) (List.getElem?_set_self il) (by rw [List.getElem?_set_ne hij]; exact gj)
      rw [List.set_set] at ih
      unfold dvW at ih ⊢
      refine wh_step (μ1 := μ) (ev_tB (ev_d2 (ev_d2 (ev_var gi) (ev_var gj) m) ev_K (eq_ii (decide_eq_true (by omega))))) (ev_set (ev_d2 (ev_var gi) (ev_var gj) d) rfl) ih
    · rw [if_neg z]
      have e : ρ.set i (some (nI r)) = ρ := by
        have := (List.getElem?_eq_some_iff.mp gi).2
        rw [← this]; exact List.set_getElem_self il
      rw [e]
      exact wh_done (ev_tB (ev_d2 (ev_d2 (ev_var gi) (ev_var gj) m) ev_K (eq_ii (decide_eq_false (by omega)))))
theorem dv_for {i j : Nat} (hij : i ≠ j) (μ : Sto) : ∀ (qs : List Nat) (r : Nat) (ρ : En), (∀ q ∈ qs, 2 ≤ q ∧ q < 2 ^ 60) → 0 < r → ρ[i]? = some (some (nI r)) → j < ρ.length →
    (dvN qs r = none → forL (gNm j) (dvB i j) [] (qs.map nI) ρ μ = some (.rt (.bl false) μ)) ∧ (∀ r', dvN qs r = some r' → 0 < r' ∧ ∃ oj, forL (gNm j) (dvB i j) [] (qs.map nI) ρ μ = some (.nx ((ρ.set i (some (nI r'))).set j oj) μ))
  | [], r, ρ, _, hr, gi, hj => by
    refine ⟨fun e => (by cases e), fun r' e => ?_⟩
    cases e
    refine ⟨hr, ρ[j], ?_⟩
    have il : i < ρ.length := (List.getElem?_eq_some_iff.mp gi).1
    have e : ρ.set i (some (nI r)) = ρ := by
      have := (List.getElem?_eq_some_iff.mp gi).2
      rw [← this]; exact List.set_getElem_self il
    rw [e, List.set_getElem_self]
    exact for_nil
  | q :: qs, r, ρ, h, hr, gi, hj => by
    obtain ⟨q2, q60⟩ := h q List.mem_cons_self
    have m := mod_nn (n := r) (p := q) (by omega) μ
    have gi' : (ρ.set j (some (nI q)))[i]? = some (some (nI r)) := by rw [List.getElem?_set_ne (Ne.symm hij)]; exact gi
    have gj' : (ρ.set j (some (nI q)))[j]? = some (some (nI q)) := List.getElem?_set_self hj
    have il : i < ρ.length := (List.getElem?_eq_some_iff.mp gi).1
    by_cases z : r % q = 0
    · obtain ⟨k, k1, k2, k3, k4⟩ := stp_ok q2 r r hr (Nat.le_refl _)
      have w := dv_wh hij q2 q60 μ r r (ρ.set j (some (nI q))) hr (Nat.le_refl _) gi' gj'
      have st : dvB i j (ρ.set j (some (nI q))) μ = some (.nx ((ρ.set j (some (nI q))).set i (some (nI (stp q r r)))) μ) := by
        unfold dvB
        exact ev_seq (ev_sIf_f (ev_tB (ev_d2 (ev_d2 (ev_var gi') (ev_var gj') m) ev_K (ne_ii (ne_f (by omega))))) ev_sNil) w
      obtain ⟨i1, i2⟩ := dv_for hij μ qs (stp q r r) ((ρ.set j (some (nI q))).set i (some (nI (stp q r r)))) (fun p hp => h p (List.mem_cons_of_mem _ hp)) k2 (List.getElem?_set_self (by rw [List.length_set]; exact il)) (by rw [List.length_set, List.length_set]; exact hj)
      have ed : dvN (q :: qs) r = dvN qs (stp q r r) := by
        show (if r % q = 0 then _ else _) = _
        rw [if_pos z]
      rw [ed]
      refine ⟨fun e => for_step (ev_gNm rfl) st chk_nil (i1 e), fun r' e => ?_⟩
      obtain ⟨p0, oj, e2⟩ := i2 r' e
      refine ⟨p0, oj, for_step (ev_gNm rfl) st chk_nil ?_⟩
      rw [e2, List.set_set, List.set_comm _ _ (Ne.symm hij), List.set_set]
    · have ed : dvN (q :: qs) r = none := by
        show (if r % q = 0 then _ else _) = _
        rw [if_neg z]
      rw [ed]
      refine ⟨fun _ => for_rt (ev_gNm rfl) (ev_seq_rt (ev_sIf_t (ev_tB (ev_d2 (ev_d2 (ev_var gi') (ev_var gj') m) ev_K (ne_ii (ne_t (by omega))))) (ev_ret ev_K))), fun r' e => by cases e⟩
/-! ### rows -/
def isPair : PV → Bool
  | .tup [_, _] => true
  | _ => false
/-- ascending, each below the next -/
def adj : List Int → Bool
  | [] => true
  | [_] => true
  | a :: b :: r => decide (a < b) && adj (b :: r)
theorem adj_iff : ∀ {qs : List Int}, adj qs = true ↔ qs.Pairwise (· < ·)
  | [] => by simp [adj]
  | [a] => by simp [adj]
  | a :: b :: r => by
    show (decide (a < b) && adj (b :: r)) = true ↔ _
    rw [Bool.and_eq_true, decide_eq_true_eq, adj_iff, List.pairwise_cons (a := a)]
    constructor
    · rintro ⟨h1, h2⟩
      refine ⟨fun x hx => ?_, h2⟩
      rcases List.mem_cons.mp hx with rfl | hx
      · exact h1
      · exact Int.lt_trans h1 ((List.pairwise_cons.mp h2).1 x hx)
    · rintro ⟨h1, h2⟩
      exact ⟨h1 b List.mem_cons_self, h2⟩
theorem adj_sort (qs : List Int) : adj qs = decide (qs = sortD qs) := by
  rw [Bool.eq_iff_iff, adj_iff, decide_eq_true_eq]
  constructor
  · intro h
    exact Fd.asc_uniq h sortD_asc fun k => sortD_mem.symm
  · intro h
    rw [h]; exact sortD_asc
theorem zip_adj : ∀ qs : List Int, (List.zipWith (fun a b => PV.tup [a, b]) (qs.map PV.int) ((qs.map PV.int).drop 1)) = (qs.zip (qs.drop 1)).map fun p => PV.tup [.int p.1, .int p.2]
  | [] => rfl
  | [a] => rfl
  | a :: b :: r => by
    have ih := zip_adj (b :: r)
    simp only [List.map_cons, List.drop_succ_cons, List.drop_zero, List.zipWith_cons_cons, List.zip_cons_cons] at ih ⊢
    rw [ih]
theorem adj_all : ∀ qs : List Int, (qs.zip (qs.drop 1)).all (fun p => decide (p.1 < p.2)) = adj qs
  | [] => rfl
  | [a] => rfl
  | a :: b :: r => by
    have ih := adj_all (b :: r)
    simp only [List.drop_succ_cons, List.drop_zero, List.zip_cons_cons, List.all_cons] at ih ⊢
    rw [ih]; rfl
end K11

/-! K11g: are_parts. -/
namespace K11
open PySem PySem.Spec PyProof.Rows L2 Fd Nm
noncomputable def p_ii : Fn := runF 1 d_is_integer
noncomputable def p_lii : Fn := runF 1 d__law_is_int
noncomputable def p_arp : Fn := runF 6 (d_are_parts p_ii)
theorem ii_ok {x : PV} {w d : Nat} (h : tre w x d = true) (μ : Sto) : p_ii [x] μ = some (.bl (isIntP x), μ) ∧ p_lii [x] μ = some (.bl (isIntP x), μ) :=
  ⟨isInt_ok (fun l e => by subst e; cases h) (fun l e => by subst e; cases h), isInt_ok (fun l e => by subst e; cases h) (fun l e => by subst e; cases h)⟩
/-- a row: a number above 1, and what is told of it -/
def rowOf : PV → Option (Nat × PV)
  | .tup [.int q, w] => if 1 < q then some (q.toNat, w) else none
  | _ => none
def rowsL : List PV → Option (List (Nat × PV))
  | [] => some []
  | x :: xs => match rowOf x, rowsL xs with
    | some k, some ks => some (k :: ks)
    | _, _ => none
def rowsOf : PV → Option (List (Nat × PV))
  | .tup xs => rowsL xs
  | _ => none
def mkR (k : Nat × PV) : PV := .tup [nI k.1, k.2]
theorem rowOf_some {x : PV} {k : Nat × PV} (h : rowOf x = some k) : x = mkR k ∧ 2 ≤ k.1 := by
  unfold rowOf at h
  split at h
  · rename_i q w
    split at h
    · rename_i hq
      cases h
      refine ⟨?_, by show 2 ≤ q.toNat; omega⟩
      show PV.tup [.int q, w] = .tup [.int ((q.toNat : Nat) : Int), w]
      rw [show ((q.toNat : Nat) : Int) = q by omega]
    · cases h
  · cases h
theorem rowsL_some : ∀ {xs : List PV} {ks : List (Nat × PV)}, rowsL xs = some ks → xs = ks.map mkR ∧ ∀ k ∈ ks, 2 ≤ k.1
  | [], ks, h => by cases h; exact ⟨rfl, fun k hk => nomatch hk⟩
  | x :: xs, ks, h => by
    unfold rowsL at h
    split at h
    · rename_i k ks' e1 e2
      cases h
      obtain ⟨a, b⟩ := rowOf_some e1
      obtain ⟨c, d⟩ := rowsL_some e2
      refine ⟨by rw [a, c]; rfl, fun j hj => ?_⟩
      rcases List.mem_cons.mp hj with rfl | hj
      · exact b
      · exact d j hj
    · cases h
/-- the first of a row -/
def fstP : PV → PV
  | .tup (x :: _) => x
  | x => x
def big1 : PV → Bool
  | .int q => decide (1 < q)
  | _ => false
theorem rowsL_none : ∀ {xs : List PV}, rowsL xs = none → xs.all isPair = true → xs.all (fun x => big1 (fstP x)) = false
  | [], h, _ => by cases h
  | x :: xs, h, hp => by
    rw [List.all_cons, Bool.and_eq_true] at hp
    rw [List.all_cons]
    unfold rowsL at h
    cases e : rowOf x with
    | none =>
      have : big1 (fstP x) = false := by
        have hx := hp.1
        unfold isPair at hx
        split at hx
        · rename_i a b
          show big1 a = false
          cases a with
          | int q =>
            show decide (1 < q) = false
            apply decide_eq_false
            intro hq
            unfold rowOf at e
            simp [hq] at e
          | _ => rfl
        · cases hx
      rw [this]; rfl
    | some k =>
      rw [e] at h
      cases e2 : rowsL xs with
      | none => rw [rowsL_none e2 hp.2, Bool.and_false]
      | some ks => rw [e2] at h; cases h
/-- what are_parts tells -/
def apB (N : Nat) (r : PV) : Bool := match rowsOf r with
  | none => false
  | some ks => (ks.map (·.1)).all (fun q => decide (q ≤ N)) && (adj (ks.map fun k => (k.1 : Int)) && decide (dvN (ks.map (·.1)) N = some 1))
theorem apB_none {N : Nat} {xs : List PV} (h : rowsL xs = none) : apB N (.tup xs) = false := by
  unfold apB; rw [show rowsOf (.tup xs) = rowsL xs from rfl, h]
theorem apB_some {N : Nat} {xs : List PV} {ks : List (Nat × PV)} (h : rowsL xs = some ks) : apB N (.tup xs) = ((ks.map (·.1)).all (fun q => decide (q ≤ N)) && (adj (ks.map fun k => (k.1 : Int)) && decide (dvN (ks.map (·.1)) N = some 1))) := by
  unfold apB; rw [show rowsOf (.tup xs) = rowsL xs from rfl, h]
theorem pair_ev {ρ : En} {μ : Sto} {i : Nat} {x : PV} {w d : Nat} (hx : tre w x d = true) (h : ρ[i]? = some (some x)) : dAn (d1 (f_isi .tuple) (cVar i)) (d2 f_eq (dN f_len (aCons (cVar i) aNil)) (cK (.int 2))) ρ μ = some (.bl (isPair x), μ) := by
  by_cases ht : ∃ xs, x = .tup xs
  · obtain ⟨xs, rfl⟩ := ht
    refine ev_an_t (x := .bl true) (ev_d1 (ev_var h) rfl) rfl ?_
    have e : isPair (.tup xs) = decide (xs.length = 2) := by
      match xs with
      | [] => rfl
      | [a] => rfl
      | [a, b] => rfl
      | a :: b :: c :: r =>
        show false = decide _
        rw [decide_eq_false (by simp only [List.length_cons]; omega)]
    rw [e]
    exact ev_d2 (ev_dN (ev_aCons (ev_var h) ev_aNil) lenT) ev_K (eq_ii (decide_eq_decide.mpr (by omega)))
  · have e : isPair x = false := by
      unfold isPair
      split
      · exact absurd ⟨_, rfl⟩ ht
      · rfl
    rw [e]
    refine ev_an_f (x := .bl false) (ev_d1 (ev_var h) ?_) rfl
    cases x with
    | tup xs => exact absurd ⟨xs, rfl⟩ ht
    | loc l => cases hx
    | scr l => cases hx
    | bl b => cases b <;> rfl
    | _ => rfl
theorem tup_ev {ρ : En} {μ : Sto} {D : Den} {x : PV} {w d : Nat} (hx : tre w x d = true) (h : D ρ μ = some (x, μ)) : tNo (tTru (d1 (f_isi .tuple) D)) ρ μ = some (!(match x with | .tup _ => true | _ => false), μ) := by
  refine ev_tNo (b := match x with | .tup _ => true | _ => false) (ev_tTru (x := .bl (match x with | .tup _ => true | _ => false)) (ev_d1 h ?_) ?_) rfl
  · cases x with
    | loc l => cases hx
    | scr l => cases hx
    | bl b => cases b <;> rfl
    | _ => rfl
  · cases x <;> rfl
theorem ap_ok {N : Nat} (hN : 0 < N) (hN2 : N < 2 ^ 58) {r : PV} {w d : Nat} (hr : tre w r d = true) (hw : w ≤ 900) (μ : Sto) : p_arp [.int N, r] μ = some (.bl (apB N r), μ) := by
  refine runF_rt (ρ := [some (.int N), some r, none, none, none, none]) rfl ?_
  unfold d_are_parts
  have t1 := tup_ev (ρ := [some (.int N), some r, none, none, none, none]) (μ := μ) (D := cVar 1) hr (ev_var rfl)
  by_cases ht : ∃ xs, r = .tup xs
  · obtain ⟨xs, rfl⟩ := ht
    have t1 : tNo (tTru (d1 (f_isi .tuple) (cVar 1))) [some (.int N), some (.tup xs), none, none, none, none] μ = some (false, μ) := t1
    have hl : xs.length ≤ w := tre_len hr
    have hx : ∀ x ∈ xs, ∃ e, tre w x e = true ∧ ∀ y, fstP x = y → isPair x = true → tre w y (e - 1) = true := fun x hx => by
      cases d with
      | zero => cases hr
      | succ e =>
        have h1 := (tre_tup.mp hr).2 x hx
        refine ⟨e, h1, fun y hy hp => ?_⟩
        unfold isPair at hp
        split at hp
        · rename_i a b
          cases e with
          | zero => cases h1
          | succ e =>
            have h2 := (tre_tup.mp h1).2 a List.mem_cons_self
            rw [← hy]; exact h2
        · cases hp
    have comp1 : dLc [4] (itSeq (cVar 1)) (gNm 4) tAll (dAn (d1 (f_isi .tuple) (cVar 4)) (d2 f_eq (dN f_len (aCons (cVar 4) aNil)) (cK (.int 2)))) [some (.int N), some (.tup xs), none, none, none, none] μ = some (.lst (xs.map fun x => .bl (isPair x)), μ) := by
      have q := lc_map0 (ρ := [some (.int N), some (.tup xs), none, none, none, none]) (μ := μ) (g := gNm 4) (e := dAn (d1 (f_isi .tuple) (cVar 4)) (d2 f_eq (dN f_len (aCons (cVar 4) aNil)) (cK (.int 2)))) (ch := []) id (fun x => PV.bl (isPair x)) xs chk_nil (len_le (by omega)) fun x hxm => by
        obtain ⟨e, he, _⟩ := hx x hxm
        exact ⟨_, rfl, pair_ev he rfl⟩
      rw [List.map_id] at q
      exact ev_lc (it_tup (ev_var rfl)) rfl q
    have t2 : tNo (tTru (dN f_all (aCons (dLc [4] (itSeq (cVar 1)) (gNm 4) tAll (dAn (d1 (f_isi .tuple) (cVar 4)) (d2 f_eq (dN f_len (aCons (cVar 4) aNil)) (cK (.int 2))))) aNil))) [some (.int N), some (.tup xs), none, none, none, none] μ = some (!xs.all isPair, μ) :=
      ev_tNo (ev_tTru (ev_dN (ev_aCons comp1 ev_aNil) (all_bl' xs isPair)) rfl) rfl
    cases hp : xs.all isPair with
    | false =>
      rw [hp] at t2
      have e : apB N (.tup xs) = false := by
        cases e : rowsL xs with
        | none => exact apB_none e
        | some ks =>
          exfalso
          obtain ⟨a, _⟩ := rowsL_some e
          rw [a, List.all_map] at hp
          have : ks.all (isPair ∘ mkR) = true := List.all_eq_true.mpr fun _ _ => rfl
          rw [this] at hp; cases hp
      rw [e]
      exact ev_seq_rt (ev_sIf_t (ev_tOr_f t1 t2) (ev_ret ev_K))
    | true =>
      rw [hp] at t2
      apply ev_seq
      case ha => exact ev_sIf_f (ev_tOr_f t1 t2) ev_sNil
      have comp2 : dLc [4] (itSeq (cVar 1)) (gNm 4) tAll (d2 f_ix (cVar 4) (cK (.int 0))) [some (.int N), some (.tup xs), none, none, none, none] μ = some (.lst (xs.map fstP), μ) := by
        have q := lc_map0 (ρ := [some (.int N), some (.tup xs), none, none, none, none]) (μ := μ) (g := gNm 4) (e := d2 f_ix (cVar 4) (cK (.int 0))) (ch := []) id fstP xs chk_nil (len_le (by omega)) fun x hxm => by
          have := List.all_eq_true.mp hp x hxm
          unfold isPair at this
          split at this
          · exact ⟨_, rfl, ev_d2 (ev_var rfl) ev_K rfl⟩
          · cases this
        rw [List.map_id] at q
        exact ev_lc (it_tup (ev_var rfl)) rfl q
      apply ev_seq (ρ' := [some (.int N), some (.tup xs), some (.lst (xs.map fstP)), none, none, none]) (μ' := μ)
      case ha => exact ev_set comp2 rfl
      have comp3 : dLc [3] (itSeq (cVar 2)) (gNm 3) tAll (dAn (dCall 1 p_ii (aCons (cVar 3) aNil)) (dCh2 f_lt f_le (cK (.int 1)) (cVar 3) (cVar 0))) [some (.int N), some (.tup xs), some (.lst (xs.map fstP)), none, none, none] μ = some (.lst (xs.map fun x => .bl (big1 (fstP x) && (match fstP x with | .int q => decide (q ≤ (N : Int)) | _ => false))), μ) := by
        refine ev_lc (xs := xs.map fstP) (ch := []) (μ1 := μ) (ρ' := [some (.int N), some (.tup xs), some (.lst (xs.map fstP)), none, none, none]) (it_lst (ev_var rfl)) rfl ?_
        refine lc_map0 fstP _ xs chk_nil (len_le (by omega)) fun x hxm => ⟨_, rfl, ?_⟩
        obtain ⟨e, he, hf⟩ := hx x hxm
        have hy := hf (fstP x) rfl (List.all_eq_true.mp hp x hxm)
        generalize fstP x = y at hy
        have i1 := (ii_ok hy μ).1
        cases y with
        | int q => exact ev_an_t (x := .bl true) (ev_dCall (ev_aCons (ev_var rfl) ev_aNil) i1 rfl) rfl (ev_ch2b (f := f_lt) (g := f_le) (b := decide (1 < q)) (c := decide (q ≤ (N : Int))) ev_K (ev_var rfl) rfl (ev_var rfl) rfl)
        | _ => exact ev_an_f (x := .bl false) (ev_dCall (ev_aCons (ev_var rfl) ev_aNil) i1 rfl) rfl
      have t3 : tNo (tTru (dN f_all (aCons (dLc [3] (itSeq (cVar 2)) (gNm 3) tAll (dAn (dCall 1 p_ii (aCons (cVar 3) aNil)) (dCh2 f_lt f_le (cK (.int 1)) (cVar 3) (cVar 0)))) aNil))) [some (.int N), some (.tup xs), some (.lst (xs.map fstP)), none, none, none] μ = some (!xs.all (fun x => big1 (fstP x) && (match fstP x with | .int q => decide (q ≤ (N : Int)) | _ => false)), μ) :=
        ev_tNo (ev_tTru (ev_dN (ev_aCons comp3 ev_aNil) (all_bl' xs _)) rfl) rfl
      cases e : rowsL xs with
      | none =>
        have e2 : apB N (.tup xs) = false := apB_none e
        have e3 : xs.all (fun x => big1 (fstP x) && (match fstP x with | .int q => decide (q ≤ (N : Int)) | _ => false)) = false := by
          have h1 := rowsL_none e hp
          rw [List.all_eq_false] at h1 ⊢
          obtain ⟨x, hx1, hx2⟩ := h1
          exact ⟨x, hx1, fun z => hx2 (by rw [Bool.and_eq_true] at z; exact z.1)⟩
        rw [e2]
        rw [e3] at t3
        exact ev_seq_rt (ev_sIf_t t3 (ev_ret ev_K))
      | some ks =>
        obtain ⟨rfl, k2⟩ := rowsL_some e
        have e2 : apB N (.tup (ks.map mkR)) = ((ks.map (·.1)).all (fun q => decide (q ≤ N)) && (adj (ks.map fun k => (k.1 : Int)) && decide (dvN (ks.map (·.1)) N = some 1))) := apB_some e
        have e3 : (ks.map mkR).all (fun x => big1 (fstP x) && (match fstP x with | .int q => decide (q ≤ (N : Int)) | _ => false)) = (ks.map (·.1)).all (fun q => decide (q ≤ N)) := by
          rw [List.all_map, List.all_map, Bool.eq_iff_iff, List.all_eq_true, List.all_eq_true]
          constructor
          · intro h k hk
            have := h k hk
            have this : (decide (1 < (k.1 : Int)) && decide ((k.1 : Int) ≤ (N : Int))) = true := this
            rw [Bool.and_eq_true, decide_eq_true_eq, decide_eq_true_eq] at this
            exact decide_eq_true (show k.1 ≤ N by omega)
          · intro h k hk
            have h1 : k.1 ≤ N := of_decide_eq_true (h k hk)
            have h2 := k2 k hk
            show (decide (1 < (k.1 : Int)) && decide ((k.1 : Int) ≤ (N : Int))) = true
            rw [Bool.and_eq_true, decide_eq_true_eq, decide_eq_true_eq]
            omega
        rw [e2]
        rw [e3] at t3
        have ef : (ks.map mkR).map fstP = (ks.map (·.1)).map nI := by rw [List.map_map, List.map_map]; rfl
        rw [ef] at t3 ⊢
        cases hle : (ks.map (·.1)).all (fun q => decide (q ≤ N)) with
        | false =>
          rw [hle] at t3
          exact ev_seq_rt (ev_sIf_t t3 (ev_ret ev_K))
        | true =>
          rw [hle] at t3
          apply ev_seq
          case ha => exact ev_sIf_f t3 ev_sNil
          have ei : (ks.map (·.1)).map nI = (ks.map fun k => (k.1 : Int)).map PV.int := by rw [List.map_map, List.map_map]; rfl
          have lk : ks.length ≤ w := by rw [List.length_map] at hl; exact hl
          have comp4 : dLc [3, 5] (itZip (aCons (cVar 2) (aCons (dSl (cVar 2) (oSo (cK (.int 1))) oNo) aNil))) (gTu 2 (gsCons (gNm 3) (gsCons (gNm 5) gsNil))) tAll (d2 f_lt (cVar 3) (cVar 5)) [some (.int N), some (.tup (ks.map mkR)), some (.lst ((ks.map (·.1)).map nI)), none, none, none] μ = some (.lst (((ks.map fun k => (k.1 : Int)).zip ((ks.map fun k => (k.1 : Int)).drop 1)).map fun p => .bl (decide (p.1 < p.2))), μ) := by
            have sl : dSl (cVar 2) (oSo (cK (.int 1))) oNo [some (.int N), some (.tup (ks.map mkR)), some (.lst ((ks.map (·.1)).map nI)), none, none, none] μ = some (.lst (cutP ((ks.map (·.1)).map nI) (some 1) none), μ) := ev_sl (ev_var rfl) (ev_oSo ev_K) ev_oNo rfl
            have cut : cutP ((ks.map (·.1)).map nI) (some 1) none = ((ks.map fun k => (k.1 : Int)).map PV.int).drop 1 := by
              rw [ei]
              generalize (ks.map fun k => (k.1 : Int)).map PV.int = l
              unfold cutP
              have a : HT.sIx l.length 0 (some 1) = min 1 l.length := by
                unfold HT.sIx
                simp only
                first | rfl | (split <;> split <;> omega) | (split <;> omega) | omega
              have b : HT.sIx l.length l.length none = l.length := rfl
              rw [a, b]
              match l with
              | [] => rfl
              | x :: l =>
                rw [show min 1 (x :: l).length = 1 by simp only [List.length_cons]; omega]
                show (l.take (l.length + 1 - 1)) = l
                rw [Nat.add_sub_cancel, List.take_length]
            have z := zip_adj (ks.map fun k => (k.1 : Int))
            refine ev_lc (xs := ((ks.map fun k => (k.1 : Int)).zip ((ks.map fun k => (k.1 : Int)).drop 1)).map fun p => PV.tup [.int p.1, .int p.2]) (ch := []) (μ1 := μ) (ρ' := [some (.int N), some (.tup (ks.map mkR)), some (.lst ((ks.map (·.1)).map nI)), none, none, none]) ?_ rfl ?_
            · have av : (aCons (cVar 2) (aCons (dSl (cVar 2) (oSo (cK (.int 1))) oNo) aNil)) [some (.int N), some (.tup (ks.map mkR)), some (.lst ((ks.map (·.1)).map nI)), none, none, none] μ = some ([.lst ((ks.map fun k => (k.1 : Int)).map PV.int), .lst (((ks.map fun k => (k.1 : Int)).map PV.int).drop 1)], μ) := by
                rw [cut] at sl
                rw [← ei]
                rw [← ei] at sl
                exact ev_aCons (ev_var rfl) (ev_aCons sl ev_aNil)
              unfold itZip
              rw [av]
              show some ((List.zipWith _ _ _, _), μ) = _
              rw [z]; rfl
            · refine lc_map0 (fun p : Int × Int => PV.tup [.int p.1, .int p.2]) _ _ chk_nil (len_le ?_) fun p hp => ⟨_, rfl, ev_d2 (ev_var rfl) (ev_var rfl) rfl⟩
              rw [List.length_zip, List.length_map]; omega
          have t4 : tNo (tTru (dN f_all (aCons (dLc [3, 5] (itZip (aCons (cVar 2) (aCons (dSl (cVar 2) (oSo (cK (.int 1))) oNo) aNil))) (gTu 2 (gsCons (gNm 3) (gsCons (gNm 5) gsNil))) tAll (d2 f_lt (cVar 3) (cVar 5))) aNil))) [some (.int N), some (.tup (ks.map mkR)), some (.lst ((ks.map (·.1)).map nI)), none, none, none] μ = some (!adj (ks.map fun k => (k.1 : Int)), μ) := by
            have h := all_bl' (μ := μ) ((ks.map fun k => (k.1 : Int)).zip ((ks.map fun k => (k.1 : Int)).drop 1)) (fun p => decide (p.1 < p.2))
            rw [adj_all] at h
            exact ev_tNo (ev_tTru (ev_dN (ev_aCons comp4 ev_aNil) h) rfl) rfl
          cases ha : adj (ks.map fun k => (k.1 : Int)) with
          | false =>
            rw [ha] at t4
            exact ev_seq_rt (ev_sIf_t t4 (ev_ret ev_K))
          | true =>
            rw [ha] at t4
            apply ev_seq
            case ha => exact ev_sIf_f t4 ev_sNil
            obtain ⟨v1, v2⟩ := dv_for (i := 0) (j := 3) (by decide) μ (ks.map (·.1)) N [some (.int N), some (.tup (ks.map mkR)), some (.lst ((ks.map (·.1)).map nI)), none, none, none] (fun q hq => by
              have := of_decide_eq_true (List.all_eq_true.mp hle q hq)
              obtain ⟨k, hk, rfl⟩ := List.mem_map.mp hq
              exact ⟨k2 k hk, by omega⟩) hN rfl (by show 3 < 6; decide)
            cases hd : dvN (ks.map (·.1)) N with
            | none =>
              rw [decide_eq_false (by intro z; cases z)]
              exact ev_seq_rt (ev_for (it_lst (ev_var rfl)) (v1 hd))
            | some r' =>
              obtain ⟨p0, oj, hf⟩ := v2 r' hd
              refine ev_seq (ev_for (it_lst (ev_var rfl)) hf) (ev_ret (ev_d2 (ev_var (i := 0) (v := nI r') rfl) ev_K ?_))
              refine eq_ii ?_
              show decide ((r' : Int) = 1) = (true && (true && decide (some r' = some 1)))
              rw [Bool.true_and, Bool.true_and]
              apply decide_eq_decide.mpr
              constructor
              · intro z; rw [show r' = 1 by omega]
              · intro z; cases z; rfl
  · have e : apB N r = false := by
      have : rowsOf r = none := by
        unfold rowsOf
        split
        · exact absurd ⟨_, rfl⟩ ht
        · rfl
      unfold apB
      rw [this]
    rw [e]
    have t1 : tNo (tTru (d1 (f_isi .tuple) (cVar 1))) [some (.int N), some r, none, none, none, none] μ = some (true, μ) := by
      rw [t1]
      cases r with
      | tup xs => exact absurd ⟨xs, rfl⟩ ht
      | _ => rfl
    exact ev_seq_rt (ev_sIf_t (ev_tOr_t t1) (ev_ret ev_K))
end K11

/-! K11h: the judges, in step. -/
namespace K11
open PySem PySem.Spec PyProof.Rows L2 Fd Nm
noncomputable def p_jp : Fn := runZ 5 (d_judge_prime p_ii p_arp p_isr)
noncomputable def p_lip : Fn := runZ 10 (d__law_is_paper p_lii p_lpow)
noncomputable def cA (i : Nat) (pii : Fn) : DenT := (tOr' (tNo (tTru (d1 (f_isi .tuple) (cVar i)))) (tOr' (tB1 (d2 f_ne (dN f_len (aCons (cVar i) aNil)) (cK (.int 3)))) (tOr' (tNo (tTru (d1 (f_isi .str) (d2 f_ix (cVar i) (cK (.int 0)))))) (tNo (tTru (dCall 1 pii (aCons (d2 f_ix (cVar i) (cK (.int 1))) aNil)))))))
noncomputable def jB : DenS := (sSeq (sAsg (dML f_pop (cVar 2) aNil) (gTu 3 (gsCons (gNm 0) (gsCons (gNm 1) (gsCons (gNm 3) gsNil)))))
  (sSeq (sIf (cA 1 p_ii) (sRet (cK (.bl false))) sNil)
  (sSeq (sIf (tB1 (d2 f_eq (d2 f_ix (cVar 1) (cK (.int 0))) (cK (.str (Str.ofString "factors"))))) (sSeq (sIf (tOr' (tTru (cVar 3)) (tOr' (tNo (tTru (dCall 1 p_ii (aCons (d2 f_ix (cVar 1) (cK (.int 2))) aNil)))) (tOr' (tB1 (d2 f_lt (d2 f_ix (cVar 1) (cK (.int 1))) (cK (.int 2)))) (tOr' (tB1 (d2 f_lt (d2 f_ix (cVar 1) (cK (.int 2))) (cK (.int 2)))) (tB1 (d2 f_ne (d2 f_mul (d2 f_ix (cVar 1) (cK (.int 1))) (d2 f_ix (cVar 1) (cK (.int 2)))) (cVar 0))))))) (sRet (cK (.bl false))) sNil)
  sCt) sNil)
  (sSeq (sIf (tOr' (tB1 (d2 f_ne (d2 f_ix (cVar 1) (cK (.int 0))) (cK (.str (Str.ofString "prime"))))) (tOr' (tNo (tB1 (dCh2 f_lt f_lt (cK (.int 0)) (d2 f_ix (cVar 1) (cK (.int 1))) (cVar 0)))) (tNo (tTru (dCall 2 p_arp (aCons (d2 f_sub (cVar 0) (cK (.int 1))) (aCons (d2 f_ix (cVar 1) (cK (.int 2))) aNil))))))) (sRet (cK (.bl false))) sNil)
  (sSeq (sIf (tNo (tTru (dCall 3 p_isr (aCons (d2 f_ix (cVar 1) (cK (.int 1))) (aCons (cVar 0) (aCons (dLc [4] (itSeq (d2 f_ix (cVar 1) (cK (.int 2)))) (gNm 4) tAll (d2 f_ix (cVar 4) (cK (.int 0)))) aNil)))))) (sRet (cK (.bl false))) sNil)
  (sEx (dML f_ext (cVar 2) (aCons (dLc [4] (itSeq (d2 f_ix (cVar 1) (cK (.int 2)))) (gNm 4) tAll (dTup (aCons (d2 f_ix (cVar 4) (cK (.int 0))) (aCons (d2 f_ix (cVar 4) (cK (.int 1))) (aCons (cK (.bl true)) aNil))))) aNil))))))))
noncomputable def lB : DenS := (sSeq (sAsg (dML f_pop (cVar 2) aNil) (gTu 2 (gsCons (gNm 4) (gsCons (gNm 5) gsNil))))
  (sSeq (sIf (cA 5 p_lii) (sRet (cK (.bl false))) sNil)
  (sSeq (sIf (tAn (tB1 (d2 f_eq (d2 f_ix (cVar 5) (cK (.int 0))) (cK (.str (Str.ofString "factors"))))) (tTru (cVar 3))) (sRet (dAn (dCall 1 p_lii (aCons (d2 f_ix (cVar 5) (cK (.int 2))) aNil)) (dAn (d2 f_gt (d2 f_ix (cVar 5) (cK (.int 1))) (cK (.int 1))) (dAn (d2 f_gt (d2 f_ix (cVar 5) (cK (.int 2))) (cK (.int 1))) (d2 f_eq (d2 f_mul (d2 f_ix (cVar 5) (cK (.int 1))) (d2 f_ix (cVar 5) (cK (.int 2)))) (cVar 4)))))) sNil)
  (sSeq (sAsg (cK (.bl false)) (gNm 3))
  (sSeq (sIf (tOr' (tB1 (d2 f_ne (d2 f_ix (cVar 5) (cK (.int 0))) (cK (.str (Str.ofString "prime"))))) (tOr' (tNo (tB1 (dCh2 f_le f_lt (cK (.int 1)) (d2 f_ix (cVar 5) (cK (.int 1))) (cVar 4)))) (tNo (tTru (d1 (f_isi .tuple) (d2 f_ix (cVar 5) (cK (.int 2)))))))) (sRet (cK (.bl false))) sNil)
  (sSeq (sIf (tNo (tTru (dN f_all (aCons (dLc [9] (itSeq (d2 f_ix (cVar 5) (cK (.int 2)))) (gNm 9) tAll (dAn (d1 (f_isi .tuple) (cVar 9)) (dAn (d2 f_eq (dN f_len (aCons (cVar 9) aNil)) (cK (.int 2))) (dAn (dCall 1 p_lii (aCons (d2 f_ix (cVar 9) (cK (.int 0))) aNil)) (d2 f_gt (d2 f_ix (cVar 9) (cK (.int 0))) (cK (.int 1))))))) aNil)))) (sRet (cK (.bl false))) sNil)
  (sSeq (sPar 6 7 (aCons (dLc [9] (itSeq (d2 f_ix (cVar 5) (cK (.int 2)))) (gNm 9) tAll (d2 f_ix (cVar 9) (cK (.int 0)))) (aCons (d2 f_sub (cVar 4) (cK (.int 1))) aNil)))
  (sSeq (sIf (tB1 (d2 f_ne (cVar 6) (dN f_sset (aCons (cVar 6) aNil)))) (sRet (cK (.bl false))) sNil)
  (sSeq (sFor (itSeq (cVar 6)) (gNm 8) (dvB 7 8))
  (sSeq (sIf (tOr' (tB1 (d2 f_ne (cVar 7) (cK (.int 1)))) (tB1 (d2 f_ne (dCall 3 p_lpow (aCons (d2 f_ix (cVar 5) (cK (.int 1))) (aCons (d2 f_sub (cVar 4) (cK (.int 1))) (aCons (cVar 4) aNil)))) (d2 f_mod (cK (.int 1)) (cVar 4))))) (sRet (cK (.bl false))) sNil)
  (sSeq (sIf (tTru (dN f_any (aCons (dLc [8] (itSeq (cVar 6)) (gNm 8) tAll (d2 f_eq (dCall 3 p_lpow (aCons (d2 f_ix (cVar 5) (cK (.int 1))) (aCons (d2 f_fdiv (d2 f_sub (cVar 4) (cK (.int 1))) (cVar 8)) (aCons (cVar 4) aNil)))) (d2 f_mod (cK (.int 1)) (cVar 4)))) aNil))) (sRet (cK (.bl false))) sNil)
  (sAsg (d2 f_addM (cVar 2) (dN f_list (aCons (d2 f_ix (cVar 5) (cK (.int 2))) aNil))) (gNm 2)))))))))))))
theorem jB_eq : d_judge_prime p_ii p_arp p_isr = (sSeq (sAsg (dLoc (aCons (dTup (aCons (cVar 0) (aCons (cVar 1) (aCons (cK (.bl false)) aNil)))) aNil)) (gNm 2)) (sSeq (sWh (tTru (cVar 2)) jB) (sRet (cK (.bl true))))) := rfl
theorem lB_eq : d__law_is_paper p_lii p_lpow = (sSeq (sPar 2 3 (aCons (dLoc (aCons (dTup (aCons (cVar 0) (aCons (cVar 1) aNil))) aNil)) (aCons (cK (.bl true)) aNil))) (sSeq (sWh (tTru (cVar 2)) lB) (sRet (cK (.bl true))))) := rfl
/-! ### one paper's head -/
theorem cA_ok {i : Nat} {pii : Fn} (hpi : ∀ (x : PV) (w d : Nat) (μ : Sto), tre w x d = true → pii [x] μ = some (.bl (isIntP x), μ)) {ρ : En} {μ : Sto} {v : PV} {w d : Nat} (hv : tre w v d = true) (h : ρ[i]? = some (some v)) :
    (∃ (s : Str) (x : Int) (r : PV) (e : Nat), v = .tup [.str s, .int x, r] ∧ x.natAbs < 2 ^ 58 ∧ tre w r e = true ∧ cA i pii ρ μ = some (false, μ)) ∨ ((∀ (s : Str) (x : Int) (r : PV), v ≠ .tup [.str s, .int x, r]) ∧ cA i pii ρ μ = some (true, μ)) := by
  have t1 := tup_ev (ρ := ρ) (μ := μ) (D := cVar i) hv (ev_var h)
  by_cases ht : ∃ xs, v = .tup xs
  · obtain ⟨xs, rfl⟩ := ht
    have t1 : tNo (tTru (d1 (f_isi .tuple) (cVar i))) ρ μ = some (false, μ) := t1
    have t2 : tB1 (d2 f_ne (dN f_len (aCons (cVar i) aNil)) (cK (.int 3))) ρ μ = some (!decide (xs.length = 3), μ) :=
      ev_tB (ev_d2 (ev_dN (ev_aCons (ev_var h) ev_aNil) lenT) ev_K (ne_ii (by rw [show decide ((xs.length : Int) = 3) = decide (xs.length = 3) from decide_eq_decide.mpr (by omega)])))
    by_cases hl : xs.length = 3
    · rw [decide_eq_true hl] at t2
      match xs, hl with
      | [a, b, r], _ =>
        cases d with
        | zero => cases hv
        | succ d =>
          have hm := (tre_tup.mp hv).2
          have ha := hm a (by simp)
          have hb := hm b (by simp)
          have hr := hm r (by simp)
          have i0 : d2 f_ix (cVar i) (cK (.int 0)) ρ μ = some (a, μ) := ev_d2 (ev_var h) ev_K rfl
          have i1 : d2 f_ix (cVar i) (cK (.int 1)) ρ μ = some (b, μ) := ev_d2 (ev_var h) ev_K rfl
          have t4 : tNo (tTru (dCall 1 pii (aCons (d2 f_ix (cVar i) (cK (.int 1))) aNil))) ρ μ = some (!isIntP b, μ) := ev_tNo (ev_tTru (ev_dCall (ev_aCons i1 ev_aNil) (hpi b w d μ hb) rfl) rfl) rfl
          by_cases hs : ∃ s, a = .str s
          · obtain ⟨s, rfl⟩ := hs
            have t3 : tNo (tTru (d1 (f_isi .str) (d2 f_ix (cVar i) (cK (.int 0))))) ρ μ = some (false, μ) := ev_tNo (b := true) (ev_tTru (x := .bl true) (ev_d1 i0 rfl) rfl) rfl
            cases b with
            | int x => exact .inl ⟨s, x, r, d, rfl, of_decide_eq_true hb, hr, ev_tOr_f t1 (ev_tOr_f t2 (ev_tOr_f t3 t4))⟩
            | _ => exact .inr ⟨fun s x r e => by simp at e, ev_tOr_f t1 (ev_tOr_f t2 (ev_tOr_f t3 t4))⟩
          · have t3 : tNo (tTru (d1 (f_isi .str) (d2 f_ix (cVar i) (cK (.int 0))))) ρ μ = some (true, μ) := by
              refine ev_tNo (b := false) (ev_tTru (x := .bl false) (ev_d1 i0 ?_) rfl) rfl
              cases a with
              | str s => exact absurd ⟨s, rfl⟩ hs
              | loc l => cases ha
              | scr l => cases ha
              | bl b => cases b <;> rfl
              | _ => rfl
            refine .inr ⟨fun s x r e => ?_, ev_tOr_f t1 (ev_tOr_f t2 (ev_tOr_t t3))⟩
            simp only [PV.tup.injEq, List.cons.injEq] at e
            exact hs ⟨s, e.1⟩
    · rw [decide_eq_false hl] at t2
      exact .inr ⟨fun s x r e => hl (by simp only [PV.tup.injEq] at e; rw [e]; rfl), ev_tOr_f t1 (ev_tOr_t t2)⟩
  · refine .inr ⟨fun s x r e => ht ⟨_, e⟩, ev_tOr_t ?_⟩
    rw [t1]
    cases v with
    | tup xs => exact absurd ⟨xs, rfl⟩ ht
    | _ => rfl
theorem str_eq {a b : Str} {μ : Sto} : f_eq (.str a) (.str b) μ = some (.bl (decide (a = b)), μ) := rfl
theorem str_ne {a b : Str} {μ : Sto} : f_ne (.str a) (.str b) μ = some (.bl (!decide (a = b)), μ) := rfl
/-- the factors are right -/
def facB (m x : Int) (r : PV) : Bool := match r with
  | .int y => decide (1 < x) && (decide (1 < y) && decide (x * y = m))
  | _ => false
/-- the rows are right -/
def rowB (m : Nat) (x : Int) (ks : List (Nat × PV)) : Bool := adj (ks.map fun k => (k.1 : Int)) && (decide (dvN (ks.map (·.1)) (m - 1) = some 1) && rootB x m (ks.map fun k => (k.1 : Int)))
def prB (m : Nat) (x : Int) (r : PV) : Bool := match rowsOf r with
  | none => false
  | some ks => rowB m x ks
theorem apB_of {N : Nat} (hN : 0 < N) {xs : List PV} {ks : List (Nat × PV)} (h : rowsL xs = some ks) : apB N (.tup xs) = (adj (ks.map fun k => (k.1 : Int)) && decide (dvN (ks.map (·.1)) N = some 1)) := by
  rw [apB_some h]
  cases e : (adj (ks.map fun k => (k.1 : Int)) && decide (dvN (ks.map (·.1)) N = some 1)) with
  | false => rw [Bool.and_false]
  | true =>
    rw [Bool.and_eq_true] at e
    have d := of_decide_eq_true e.2
    have := (dvN_sum (fun q hq => by
      obtain ⟨k, hk, rfl⟩ := List.mem_map.mp hq
      exact (rowsL_some h).2 k hk) hN d).2
    rw [List.all_eq_true.mpr (fun q hq => decide_eq_true (this q hq))]; rfl
end K11

/-! K11i: one turn of each judge. -/
namespace K11
open PySem PySem.Spec PyProof.Rows L2 Fd Nm
abbrev SF : Str := Str.ofString "factors"
abbrev SP : Str := Str.ofString "prime"
theorem SF_SP : ¬ (SF = SP) := by decide +kernel
/-- none: wrong; some none: two factors, right; some (some ks): a prime, its rows are next -/
def ver (top : Bool) (m : Nat) : PV → Option (Option (List (Nat × PV)))
  | .tup [.str s, .int x, r] => if s = SF then (if (top && facB m x r) = true then some none else none) else if s = SP then (if (decide (0 < x) && (decide (x < m) && prB m x r)) = true then (rowsOf r).map some else none) else none
  | _ => none
theorem ver_not {top : Bool} {m : Nat} {v : PV} (h : ∀ (s : Str) (x : Int) (r : PV), v ≠ .tup [.str s, .int x, r]) : ver top m v = none := by
  unfold ver
  split
  · rename_i s x r
    exact absurd rfl (h s x r)
  · rfl
theorem ver_eq (top : Bool) (m : Nat) (s : Str) (x : Int) (r : PV) : ver top m (.tup [.str s, .int x, r]) = if s = SF then (if (top && facB m x r) = true then some none else none) else if s = SP then (if (decide (0 < x) && (decide (x < m) && prB m x r)) = true then (rowsOf r).map some else none) else none := rfl
def mkW (i : Bool) (k : Nat × PV) : PV := .tup [nI k.1, k.2, .bl i]
theorem rootI (x : Int) (m : Nat) (ks : List (Nat × PV)) (h2 : ∀ k ∈ ks, 2 ≤ k.1) (hm : 2 ≤ m) (hm2 : m ≤ 5000) (hl : ks.length ≤ 900) (hk : ∀ k ∈ ks, k.1 < 2 ^ 60) (μ : Sto) : p_isr [.int x, nI m, .lst ((ks.map fun k => (k.1 : Int)).map .int)] μ = some (.bl (rootB x m (ks.map fun k => (k.1 : Int))), μ) :=
  isr_ok (by omega) (by omega) (fun p hp => by
    obtain ⟨k, hk', rfl⟩ := List.mem_map.mp hp
    have := h2 k hk'
    have := hk k hk'
    omega) (by rw [List.length_map]; omega) μ
theorem dvN_big {ks : List (Nat × PV)} {N : Nat} (h2 : ∀ k ∈ ks, 2 ≤ k.1) (hN : 0 < N) (h : dvN (ks.map (·.1)) N = some 1) : (ks.map (·.1)).sum ≤ N ∧ ∀ k ∈ ks, k.1 ≤ N := by
  obtain ⟨a, b⟩ := dvN_sum (fun q hq => by
    obtain ⟨k, hk, rfl⟩ := List.mem_map.mp hq
    exact h2 k hk) hN h
  exact ⟨a, fun k hk => b k.1 (List.mem_map.mpr ⟨k, hk, rfl⟩)⟩
/-- the program's turn -/
theorem j_step {w d m : Nat} {v : PV} (hv : tre w v d = true) (hw : w ≤ 60) (hm : 2 ≤ m) (hm2 : m ≤ 5000) {rest : List (Nat × PV)} (hrest : rest.length ≤ 5000) (inner : Bool) {σ : Sto} {lw : Nat} (g : σ[lw]? = some (.lst ((rest ++ [(m, v)]).map (mkW inner)))) (o0 o1 o3 o4 : Option PV) :
    (ver (!inner) m v = none → ∃ σ', (∀ μ : Sto, μ.length ≤ lw → Ex μ σ → Ex μ σ') ∧ jB [o0, o1, some (.loc lw), o3, o4] σ = some (.rt (.bl false) σ')) ∧
    (ver (!inner) m v = some none → ∃ ρ', (∃ p0 p1 p3 p4, ρ' = [p0, p1, some (.loc lw), p3, p4]) ∧ jB [o0, o1, some (.loc lw), o3, o4] σ = some (.ct ρ' (σ.set lw (.lst (rest.map (mkW inner)))))) ∧
    (∀ ks, ver (!inner) m v = some (some ks) → (∀ k ∈ ks, 2 ≤ k.1 ∧ ∃ e, tre w k.2 e = true) ∧ (ks.map (·.1)).sum < m ∧ ∃ ρ', (∃ p0 p1 p3 p4, ρ' = [p0, p1, some (.loc lw), p3, p4]) ∧ jB [o0, o1, some (.loc lw), o3, o4] σ = some (.nx ρ' (σ.set lw (.lst (rest.map (mkW inner) ++ ks.map (mkW true)))))) := by
  have hlw : lw < σ.length := get_lt g
  rw [List.map_append] at g
  have pp := pop_at (y := mkW inner (m, v)) g
  have g1 : (σ.set lw (.lst (rest.map (mkW inner))))[lw]? = some (.lst (rest.map (mkW inner))) := List.getElem?_set_self hlw
  have ex1 : ∀ μ : Sto, μ.length ≤ lw → Ex μ σ → Ex μ (σ.set lw (.lst (rest.map (mkW inner)))) := fun μ h E => E.set h _
  have sets : ∀ o, (σ.set lw (.lst (rest.map (mkW inner)))).set lw o = σ.set lw o := fun o => List.set_set _
  generalize σ.set lw (.lst (rest.map (mkW inner))) = σ1 at *
  have first : sAsg (dML f_pop (cVar 2) aNil) (gTu 3 (gsCons (gNm 0) (gsCons (gNm 1) (gsCons (gNm 3) gsNil)))) [o0, o1, some (.loc lw), o3, o4] σ = some (.nx [some (nI m), some v, some (.loc lw), some (.bl inner), o4] σ1) :=
    ev_asg (ev_dML (ev_var rfl) (isLs_at g) ev_aNil pp) rfl
  rcases cA_ok (i := 1) (pii := p_ii) (fun x w d μ h => (ii_ok h μ).1) (ρ := [some (nI m), some v, some (.loc lw), some (.bl inner), o4]) (μ := σ1) hv rfl with ⟨s, x, r, e, rfl, hx, hr, hA⟩ | ⟨hn, hA⟩
  · have i0 : ∀ p4, d2 f_ix (cVar 1) (cK (.int 0)) [some (nI m), some (.tup [.str s, .int x, r]), some (.loc lw), some (.bl inner), p4] σ1 = some (.str s, σ1) := fun p4 => ev_d2 (ev_var rfl) ev_K rfl
    have i1 : ∀ p4, d2 f_ix (cVar 1) (cK (.int 1)) [some (nI m), some (.tup [.str s, .int x, r]), some (.loc lw), some (.bl inner), p4] σ1 = some (.int x, σ1) := fun p4 => ev_d2 (ev_var rfl) ev_K rfl
    have i2 : ∀ p4, d2 f_ix (cVar 1) (cK (.int 2)) [some (nI m), some (.tup [.str s, .int x, r]), some (.loc lw), some (.bl inner), p4] σ1 = some (r, σ1) := fun p4 => ev_d2 (ev_var rfl) ev_K rfl
    rw [ver_eq]
    unfold jB
    by_cases hF : s = SF
    · rw [if_pos hF]
      subst hF
      -- the four tests
      have tst : tOr' (tTru (cVar 3)) (tOr' (tNo (tTru (dCall 1 p_ii (aCons (d2 f_ix (cVar 1) (cK (.int 2))) aNil)))) (tOr' (tB1 (d2 f_lt (d2 f_ix (cVar 1) (cK (.int 1))) (cK (.int 2)))) (tOr' (tB1 (d2 f_lt (d2 f_ix (cVar 1) (cK (.int 2))) (cK (.int 2)))) (tB1 (d2 f_ne (d2 f_mul (d2 f_ix (cVar 1) (cK (.int 1))) (d2 f_ix (cVar 1) (cK (.int 2)))) (cVar 0)))))) [some (nI m), some (.tup [.str SF, .int x, r]), some (.loc lw), some (.bl inner), o4] σ1 = some (!((!inner) && facB m x r), σ1) := by
        cases inner with
        | true => exact ev_tOr_t (ev_tTru (ev_var rfl) rfl)
        | false =>
          refine ev_tOr_f (ev_tTru (ev_var rfl) rfl) ?_
          have t2 : tNo (tTru (dCall 1 p_ii (aCons (d2 f_ix (cVar 1) (cK (.int 2))) aNil))) [some (nI m), some (.tup [.str SF, .int x, r]), some (.loc lw), some (.bl false), o4] σ1 = some (!isIntP r, σ1) := ev_tNo (ev_tTru (ev_dCall (ev_aCons (i2 o4) ev_aNil) (ii_ok hr σ1).1 rfl) rfl) rfl
          cases r with
          | int y =>
            have hy : y.natAbs < 2 ^ 58 := of_decide_eq_true hr
            have mm : f_mul (.int x) (.int y) σ1 = some (.int (x * y), σ1) := mul_ii (okMul_small (by omega) (by omega))
            have t3 : tB1 (d2 f_lt (d2 f_ix (cVar 1) (cK (.int 1))) (cK (.int 2))) [some (nI m), some (.tup [.str SF, .int x, .int y]), some (.loc lw), some (.bl false), o4] σ1 = some (!decide (1 < x), σ1) :=
              ev_tB (ev_d2 (i1 o4) ev_K (lt_ii (by rw [← decide_not]; exact decide_eq_decide.mpr (by omega))))
            have t4 : tB1 (d2 f_lt (d2 f_ix (cVar 1) (cK (.int 2))) (cK (.int 2))) [some (nI m), some (.tup [.str SF, .int x, .int y]), some (.loc lw), some (.bl false), o4] σ1 = some (!decide (1 < y), σ1) :=
              ev_tB (ev_d2 (i2 o4) ev_K (lt_ii (by rw [← decide_not]; exact decide_eq_decide.mpr (by omega))))
            have t5 : tB1 (d2 f_ne (d2 f_mul (d2 f_ix (cVar 1) (cK (.int 1))) (d2 f_ix (cVar 1) (cK (.int 2)))) (cVar 0)) [some (nI m), some (.tup [.str SF, .int x, .int y]), some (.loc lw), some (.bl false), o4] σ1 = some (!decide (x * y = m), σ1) :=
              ev_tB (ev_d2 (ev_d2 (i1 o4) (i2 o4) mm) (ev_var rfl) rfl)
            have := ev_tOr_f t2 (ev_tOrb t3 (ev_tOrb t4 t5))
            rw [this]
            show some ((!decide (1 < x)) || ((!decide (1 < y)) || !decide (x * y = m)), σ1) = some (!(true && (decide (1 < x) && (decide (1 < y) && decide (x * y = m)))), σ1)
            congr 2
            cases decide (1 < x) <;> cases decide (1 < y) <;> cases decide (x * y = m) <;> rfl
          | _ => exact ev_tOr_t t2
      have eqF : tB1 (d2 f_eq (d2 f_ix (cVar 1) (cK (.int 0))) (cK (.str (Str.ofString "factors")))) [some (nI m), some (.tup [.str SF, .int x, r]), some (.loc lw), some (.bl inner), o4] σ1 = some (true, σ1) := ev_tB (ev_d2 (i0 o4) ev_K (by rw [str_eq, decide_eq_true rfl]))
      cases hb : ((!inner) && facB m x r) with
      | true =>
        rw [hb] at tst
        rw [if_pos rfl]
        refine ⟨fun h => (by cases h), fun _ => ⟨[some (nI m), some (.tup [.str SF, .int x, r]), some (.loc lw), some (.bl inner), o4], ⟨_, _, _, _, rfl⟩, ?_⟩, fun ks h => (by cases h)⟩
        exact ev_seq first (ev_seq (ev_sIf_f hA ev_sNil) (ev_seq_ct (ev_sIf_t eqF (ev_seq (ev_sIf_f tst ev_sNil) rfl))))
      | false =>
        rw [hb] at tst
        rw [if_neg Bool.false_ne_true]
        refine ⟨fun _ => ⟨σ1, ex1, ?_⟩, fun h => (by cases h), fun ks h => (by cases h)⟩
        exact ev_seq first (ev_seq (ev_sIf_f hA ev_sNil) (ev_seq_rt (ev_sIf_t eqF (ev_seq_rt (ev_sIf_t tst (ev_ret ev_K))))))
    · rw [if_neg hF]
      have eqF : tB1 (d2 f_eq (d2 f_ix (cVar 1) (cK (.int 0))) (cK (.str (Str.ofString "factors")))) [some (nI m), some (.tup [.str s, .int x, r]), some (.loc lw), some (.bl inner), o4] σ1 = some (false, σ1) := ev_tB (ev_d2 (i0 o4) ev_K (by rw [str_eq, decide_eq_false hF]))
      have t1 : tB1 (d2 f_ne (d2 f_ix (cVar 1) (cK (.int 0))) (cK (.str (Str.ofString "prime")))) [some (nI m), some (.tup [.str s, .int x, r]), some (.loc lw), some (.bl inner), o4] σ1 = some (!decide (s = SP), σ1) := ev_tB (ev_d2 (i0 o4) ev_K str_ne)
      have t2 : tNo (tB1 (dCh2 f_lt f_lt (cK (.int 0)) (d2 f_ix (cVar 1) (cK (.int 1))) (cVar 0))) [some (nI m), some (.tup [.str s, .int x, r]), some (.loc lw), some (.bl inner), o4] σ1 = some (!(decide (0 < x) && decide (x < (m : Int))), σ1) :=
        ev_tNo (ev_tB (ev_ch2b (f := f_lt) (g := f_lt) (b := decide (0 < x)) (c := decide (x < (m : Int))) ev_K (i1 o4) rfl (ev_var rfl) rfl)) rfl
      have sb : f_sub (nI m) (.int 1) σ1 = some (.int ((m - 1 : Nat) : Int), σ1) := by
        show some (PV.int ((m : Int) - 1), σ1) = _
        congr 3; omega
      have t3 : tNo (tTru (dCall 2 p_arp (aCons (d2 f_sub (cVar 0) (cK (.int 1))) (aCons (d2 f_ix (cVar 1) (cK (.int 2))) aNil)))) [some (nI m), some (.tup [.str s, .int x, r]), some (.loc lw), some (.bl inner), o4] σ1 = some (!apB (m - 1) r, σ1) :=
        ev_tNo (ev_tTru (ev_dCall (ev_aCons (ev_d2 (ev_var rfl) ev_K sb) (ev_aCons (i2 o4) ev_aNil)) (ap_ok (by omega) (by omega) hr (by omega) σ1) rfl) rfl) rfl
      have all3 := ev_tOrb t1 (ev_tOrb t2 t3)
      by_cases hP : s = SP
      · rw [if_pos hP]
        rw [decide_eq_true hP] at all3
        by_cases hap : apB (m - 1) r = true
        · -- rows are there
          obtain ⟨xs, ks, rfl, hks⟩ : ∃ xs ks, r = .tup xs ∧ rowsL xs = some ks := by
            unfold apB at hap
            cases e : rowsOf r with
            | none => rw [e] at hap; cases hap
            | some ks =>
              unfold rowsOf at e
              split at e
              · exact ⟨_, ks, rfl, e⟩
              · cases e
          obtain ⟨hxs, k2⟩ := rowsL_some hks
          have apd := hap
          rw [apB_of (by omega) hks, Bool.and_eq_true] at apd
          have dvd := of_decide_eq_true apd.2
          obtain ⟨sm, kle⟩ := dvN_big k2 (by omega) dvd
          have lx : xs.length ≤ w := tre_len hr
          have lk : ks.length ≤ 60 := by rw [hxs, List.length_map] at lx; omega
          have sub : ∀ k ∈ ks, ∃ e, tre w k.2 e = true := fun k hk => by
            cases e with
            | zero => cases hr
            | succ e =>
              have h1 := (tre_tup.mp hr).2 (mkR k) (by rw [hxs]; exact List.mem_map.mpr ⟨k, hk, rfl⟩)
              cases e with
              | zero => cases h1
              | succ e => exact ⟨e, (tre_tup.mp h1).2 k.2 (by simp)⟩
          have comp : ∀ p4, dLc [4] (itSeq (d2 f_ix (cVar 1) (cK (.int 2)))) (gNm 4) tAll (d2 f_ix (cVar 4) (cK (.int 0))) [some (nI m), some (.tup [.str s, .int x, .tup xs]), some (.loc lw), some (.bl inner), p4] σ1 = some (.lst ((ks.map fun k => (k.1 : Int)).map .int), σ1) := fun p4 => by
            rw [List.map_map]
            refine ev_lc (xs := ks.map mkR) (ch := []) (μ1 := σ1) (by rw [← hxs]; exact it_tup (i2 p4)) rfl (lc_map0 mkR _ ks chk_nil (len_le (by omega)) fun k hk => ⟨_, rfl, ev_d2 (ev_var rfl) ev_K rfl⟩)
          have comp2 : ∀ p4, dLc [4] (itSeq (d2 f_ix (cVar 1) (cK (.int 2)))) (gNm 4) tAll (dTup (aCons (d2 f_ix (cVar 4) (cK (.int 0))) (aCons (d2 f_ix (cVar 4) (cK (.int 1))) (aCons (cK (.bl true)) aNil)))) [some (nI m), some (.tup [.str s, .int x, .tup xs]), some (.loc lw), some (.bl inner), p4] σ1 = some (.lst (ks.map (mkW true)), σ1) := fun p4 =>
            ev_lc (xs := ks.map mkR) (ch := []) (μ1 := σ1) (by rw [← hxs]; exact it_tup (i2 p4)) rfl (lc_map0 mkR _ ks chk_nil (len_le (by omega)) fun k hk => ⟨_, rfl, ev_dTup (ev_aCons (ev_d2 (ev_var rfl) ev_K rfl) (ev_aCons (ev_d2 (ev_var rfl) ev_K rfl) (ev_aCons ev_K ev_aNil))) (len_le (by show 3 ≤ 1000; decide))⟩)
          have rt := rootI x m ks k2 hm hm2 (by omega) (fun k hk => by have := kle k hk; omega) σ1
          have t4 : tNo (tTru (dCall 3 p_isr (aCons (d2 f_ix (cVar 1) (cK (.int 1))) (aCons (cVar 0) (aCons (dLc [4] (itSeq (d2 f_ix (cVar 1) (cK (.int 2)))) (gNm 4) tAll (d2 f_ix (cVar 4) (cK (.int 0)))) aNil))))) [some (nI m), some (.tup [.str s, .int x, .tup xs]), some (.loc lw), some (.bl inner), o4] σ1 = some (!rootB x m (ks.map fun k => (k.1 : Int)), σ1) :=
            ev_tNo (ev_tTru (ev_dCall (ev_aCons (i1 o4) (ev_aCons (ev_var rfl) (ev_aCons (comp o4) ev_aNil))) rt rfl) rfl) rfl
          have ep : prB m x (.tup xs) = rootB x m (ks.map fun k => (k.1 : Int)) := by
            unfold prB
            rw [show rowsOf (.tup xs) = rowsL xs from rfl, hks]
            show rowB m x ks = _
            unfold rowB
            rw [apd.1, apd.2]; rfl
          rw [hap] at all3
          rw [ep, show rowsOf (.tup xs) = rowsL xs from rfl, hks]
          cases hlt : (decide (0 < x) && decide (x < (m : Int))) with
          | false =>
            rw [hlt] at all3
            have e0 : (decide (0 < x) && (decide (x < (m : Int)) && rootB x m (ks.map fun k => (k.1 : Int)))) = false := by rw [← Bool.and_assoc, hlt]; rfl
            rw [e0, if_neg Bool.false_ne_true]
            refine ⟨fun _ => ⟨σ1, ex1, ?_⟩, fun h => (by cases h), fun ks h => (by cases h)⟩
            exact ev_seq first (ev_seq (ev_sIf_f hA ev_sNil) (ev_seq (ev_sIf_f eqF ev_sNil) (ev_seq_rt (ev_sIf_t all3 (ev_ret ev_K)))))
          | true =>
            rw [hlt] at all3
            have e0 : (decide (0 < x) && (decide (x < (m : Int)) && rootB x m (ks.map fun k => (k.1 : Int)))) = rootB x m (ks.map fun k => (k.1 : Int)) := by rw [← Bool.and_assoc, hlt]; rfl
            rw [e0]
            cases hro : rootB x m (ks.map fun k => (k.1 : Int)) with
            | false =>
              rw [hro] at t4
              rw [if_neg Bool.false_ne_true]
              refine ⟨fun _ => ⟨σ1, ex1, ?_⟩, fun h => (by cases h), fun ks h => (by cases h)⟩
              exact ev_seq first (ev_seq (ev_sIf_f hA ev_sNil) (ev_seq (ev_sIf_f eqF ev_sNil) (ev_seq (ev_sIf_f all3 ev_sNil) (ev_seq_rt (ev_sIf_t t4 (ev_ret ev_K))))))
            | true =>
              rw [hro] at t4
              rw [if_pos rfl]
              refine ⟨fun h => (by cases h), fun h => (by cases h), fun ks' h => ?_⟩
              cases h
              refine ⟨fun k hk => ⟨k2 k hk, sub k hk⟩, by omega, [some (nI m), some (.tup [.str s, .int x, .tup xs]), some (.loc lw), some (.bl inner), o4], ⟨_, _, _, _, rfl⟩, ?_⟩
              have ex := ext_at g1 (y := .lst (ks.map (mkW true))) (ys := ks.map (mkW true)) rfl (lt20 (b := 10000) (by rw [List.length_map, List.length_map]; omega) (by decide))
              rw [sets] at ex
              exact ev_seq first (ev_seq (ev_sIf_f hA ev_sNil) (ev_seq (ev_sIf_f eqF ev_sNil) (ev_seq (ev_sIf_f all3 ev_sNil) (ev_seq (ev_sIf_f t4 ev_sNil) (ev_ex (ev_dML (ev_var rfl) (isLs_at g1) (ev_aCons (comp2 o4) ev_aNil) ex))))))
        · have hap : apB (m - 1) r = false := by
            cases h : apB (m - 1) r with
            | true => exact absurd h hap
            | false => rfl
          rw [hap] at all3
          have ep : prB m x r = false := by
            unfold prB
            cases e : rowsOf r with
            | none => rfl
            | some ks =>
              obtain ⟨xs, rfl⟩ : ∃ xs, r = .tup xs := by
                unfold rowsOf at e
                split at e
                · exact ⟨_, rfl⟩
                · cases e
              have e : rowsL xs = some ks := e
              rw [apB_of (by omega) e] at hap
              show rowB m x ks = false
              unfold rowB
              rw [← Bool.and_assoc, hap]; rfl
          rw [ep]
          have e0 : (decide (0 < x) && (decide (x < (m : Int)) && false)) = false := by rw [Bool.and_false, Bool.and_false]
          rw [e0, if_neg Bool.false_ne_true]
          rw [show ((!true) || ((!(decide (0 < x) && decide (x < (m : Int)))) || !false)) = true by cases (decide (0 < x) && decide (x < (m : Int))) <;> rfl] at all3
          refine ⟨fun _ => ⟨σ1, ex1, ?_⟩, fun h => (by cases h), fun ks h => (by cases h)⟩
          exact ev_seq first (ev_seq (ev_sIf_f hA ev_sNil) (ev_seq (ev_sIf_f eqF ev_sNil) (ev_seq_rt (ev_sIf_t all3 (ev_ret ev_K)))))
      · rw [if_neg hP]
        rw [decide_eq_false hP] at t1
        refine ⟨fun _ => ⟨σ1, ex1, ?_⟩, fun h => (by cases h), fun ks h => (by cases h)⟩
        exact ev_seq first (ev_seq (ev_sIf_f hA ev_sNil) (ev_seq (ev_sIf_f eqF ev_sNil) (ev_seq_rt (ev_sIf_t (ev_tOr_t t1) (ev_ret ev_K)))))
  · rw [ver_not hn]
    refine ⟨fun _ => ⟨σ1, ex1, ?_⟩, fun h => (by cases h), fun ks h => (by cases h)⟩
    unfold jB
    exact ev_seq first (ev_seq_rt (ev_sIf_t hA (ev_ret ev_K)))
end K11

/-! K11j: the law's turn. -/
namespace K11
open PySem PySem.Spec PyProof.Rows L2 Fd Nm
theorem peqvs_int : ∀ a b : List Int, peqvs (a.map PV.int) (b.map PV.int) = decide (a = b)
  | [], [] => by rw [decide_eq_true rfl]; rfl
  | [], r :: M => by rw [decide_eq_false (by intro h; cases h)]; rfl
  | q :: L, [] => by rw [decide_eq_false (by intro h; cases h)]; rfl
  | q :: L, r :: M => by
    show ((q == r) && peqvs (L.map PV.int) (M.map PV.int)) = _
    rw [peqvs_int L M, Bool.eq_iff_iff, Bool.and_eq_true, beq_iff_eq, decide_eq_true_eq, decide_eq_true_eq]
    constructor
    · rintro ⟨rfl, rfl⟩; rfl
    · intro h; cases h; exact ⟨rfl, rfl⟩
theorem pok_ints : ∀ L : List Int, poks (L.map PV.int) 63 = true
  | [] => rfl
  | q :: L => by
    show (true && poks (L.map PV.int) 63) = true
    rw [pok_ints L]; rfl
theorem ne_ints (a b : List Int) (μ : Sto) : f_ne (.lst (a.map PV.int)) (.lst (b.map PV.int)) μ = some (.bl (!decide (a = b)), μ) := by
  show (if (pok (.lst (a.map PV.int)) 64 && pok (.lst (b.map PV.int)) 64) = true then _ else _) = _
  rw [if_pos (by rw [Bool.and_eq_true]; exact ⟨pok_ints a, pok_ints b⟩)]
  show some (PV.bl (!peqvs (a.map PV.int) (b.map PV.int)), μ) = _
  rw [peqvs_int]
theorem sset_ints {a : List Int} (h : a.length < 64) (μ : Sto) : f_sset [.lst (a.map PV.int)] μ = some (.lst ((sortD a).map PV.int), μ) := by
  unfold f_sset
  simp only [rdL, Option.bind_some, intsP_map, if_pos h]
/-- one row is looked at -/
theorem row_ev {ρ : En} {μ : Sto} {i : Nat} {x : PV} {w d : Nat} (hx : tre w x d = true) (h : ρ[i]? = some (some x)) : dAn (d1 (f_isi .tuple) (cVar i)) (dAn (d2 f_eq (dN f_len (aCons (cVar i) aNil)) (cK (.int 2))) (dAn (dCall 1 p_lii (aCons (d2 f_ix (cVar i) (cK (.int 0))) aNil)) (d2 f_gt (d2 f_ix (cVar i) (cK (.int 0))) (cK (.int 1))))) ρ μ = some (.bl (rowOf x).isSome, μ) := by
  by_cases ht : ∃ xs, x = .tup xs
  · obtain ⟨xs, rfl⟩ := ht
    refine ev_an_t (x := .bl true) (ev_d1 (ev_var h) rfl) rfl ?_
    have t2 : d2 f_eq (dN f_len (aCons (cVar i) aNil)) (cK (.int 2)) ρ μ = some (.bl (decide (xs.length = 2)), μ) := ev_d2 (ev_dN (ev_aCons (ev_var h) ev_aNil) lenT) ev_K (eq_ii (decide_eq_decide.mpr (by omega)))
    by_cases hl : xs.length = 2
    · rw [decide_eq_true hl] at t2
      match xs, hl with
      | [a, b], _ =>
        refine ev_an_t (x := .bl true) t2 rfl ?_
        cases d with
        | zero => cases hx
        | succ d =>
          have ha := (tre_tup.mp hx).2 a (by simp)
          have i0 : d2 f_ix (cVar i) (cK (.int 0)) ρ μ = some (a, μ) := ev_d2 (ev_var h) ev_K rfl
          have i1 := (ii_ok ha μ).2
          cases a with
          | int q =>
            refine ev_an_t (x := .bl true) (ev_dCall (ev_aCons i0 ev_aNil) i1 rfl) rfl ?_
            have e : (rowOf (.tup [.int q, b])).isSome = decide (1 < q) := by
              show (if 1 < q then some (q.toNat, b) else none).isSome = _
              by_cases hq : 1 < q
              · rw [if_pos hq, decide_eq_true hq]; rfl
              · rw [if_neg hq, decide_eq_false hq]; rfl
            rw [e]
            exact ev_d2 i0 ev_K rfl
          | _ => exact ev_an_f (x := .bl false) (ev_dCall (ev_aCons i0 ev_aNil) i1 rfl) rfl
    · rw [decide_eq_false hl] at t2
      have e : (rowOf (.tup xs)).isSome = false := by
        unfold rowOf
        split
        · rename_i h2
          cases h2
          exact absurd rfl hl
        · rfl
      rw [e]
      exact ev_an_f (x := .bl false) t2 rfl
  · have e : (rowOf x).isSome = false := by
      unfold rowOf
      split
      · exact absurd ⟨_, rfl⟩ ht
      · rfl
    rw [e]
    refine ev_an_f (x := .bl false) (ev_d1 (ev_var h) ?_) rfl
    cases x with
    | tup xs => exact absurd ⟨xs, rfl⟩ ht
    | loc l => cases hx
    | scr l => cases hx
    | bl b => cases b <;> rfl
    | _ => rfl
theorem rowsL_all : ∀ xs : List PV, xs.all (fun x => (rowOf x).isSome) = (rowsL xs).isSome
  | [] => rfl
  | x :: xs => by
    rw [List.all_cons, rowsL_all xs]
    cases h1 : rowOf x <;> cases h2 : rowsL xs <;> simp [rowsL, h1, h2]
abbrev lE (o0 o1 : Option PV) (l : Nat) (top : Bool) (o4 o5 o6 o7 o8 o9 : Option PV) : En := [o0, o1, some (.loc l), some (.bl top), o4, o5, o6, o7, o8, o9]
theorem l_step {w d m : Nat} {v : PV} (hv : tre w v d = true) (hw : w ≤ 60) (hm : 2 ≤ m) (hm2 : m ≤ 5000) {rest : List (Nat × PV)} (hrest : rest.length ≤ 5000) (top : Bool) {σ : Sto} {l : Nat} (g : σ[l]? = some (.lst ((rest ++ [(m, v)]).map mkR))) (o0 o1 o4 o5 o6 o7 o8 o9 : Option PV) :
    (ver top m v = none → ∃ σ', (∀ μ : Sto, μ.length ≤ l → Ex μ σ → Ex μ σ') ∧ lB (lE o0 o1 l top o4 o5 o6 o7 o8 o9) σ = some (.rt (.bl false) σ')) ∧
    (ver top m v = some none → ∃ σ', (∀ μ : Sto, μ.length ≤ l → Ex μ σ → Ex μ σ') ∧ lB (lE o0 o1 l top o4 o5 o6 o7 o8 o9) σ = some (.rt (.bl true) σ')) ∧
    (∀ ks, ver top m v = some (some ks) → ∃ (σ' : Sto) (l' : Nat) (p4 p5 p6 p7 p8 p9 : Option PV), (∀ μ : Sto, μ.length ≤ l → Ex μ σ → Ex μ σ' ∧ μ.length ≤ l') ∧ σ'[l']? = some (.lst ((rest ++ ks).map mkR)) ∧ lB (lE o0 o1 l top o4 o5 o6 o7 o8 o9) σ = some (.nx (lE o0 o1 l' false p4 p5 p6 p7 p8 p9) σ')) := by
  have hlw : l < σ.length := get_lt g
  rw [List.map_append] at g
  have pp := pop_at (y := mkR (m, v)) g
  have g1 : (σ.set l (.lst (rest.map mkR)))[l]? = some (.lst (rest.map mkR)) := List.getElem?_set_self hlw
  have ex1 : ∀ μ : Sto, μ.length ≤ l → Ex μ σ → Ex μ (σ.set l (.lst (rest.map mkR))) := fun μ h E => E.set h _
  generalize σ.set l (.lst (rest.map mkR)) = σ1 at *
  have first : sAsg (dML f_pop (cVar 2) aNil) (gTu 2 (gsCons (gNm 4) (gsCons (gNm 5) gsNil))) (lE o0 o1 l top o4 o5 o6 o7 o8 o9) σ = some (.nx (lE o0 o1 l top (some (nI m)) (some v) o6 o7 o8 o9) σ1) :=
    ev_asg (ev_dML (ev_var rfl) (isLs_at g) ev_aNil pp) rfl
  rcases cA_ok (i := 5) (pii := p_lii) (fun x w d μ h => (ii_ok h μ).2) (ρ := lE o0 o1 l top (some (nI m)) (some v) o6 o7 o8 o9) (μ := σ1) hv rfl with ⟨s, x, r, e, rfl, hx, hr, hA⟩ | ⟨hn, hA⟩
  · have i0 : ∀ tp p6 p7 p8 p9, d2 f_ix (cVar 5) (cK (.int 0)) (lE o0 o1 l tp (some (nI m)) (some (.tup [.str s, .int x, r])) p6 p7 p8 p9) σ1 = some (.str s, σ1) := fun _ _ _ _ _ => ev_d2 (ev_var rfl) ev_K rfl
    have i1 : ∀ tp p6 p7 p8 p9, d2 f_ix (cVar 5) (cK (.int 1)) (lE o0 o1 l tp (some (nI m)) (some (.tup [.str s, .int x, r])) p6 p7 p8 p9) σ1 = some (.int x, σ1) := fun _ _ _ _ _ => ev_d2 (ev_var rfl) ev_K rfl
    have i2 : ∀ tp p6 p7 p8 p9, d2 f_ix (cVar 5) (cK (.int 2)) (lE o0 o1 l tp (some (nI m)) (some (.tup [.str s, .int x, r])) p6 p7 p8 p9) σ1 = some (r, σ1) := fun _ _ _ _ _ => ev_d2 (ev_var rfl) ev_K rfl
    rw [ver_eq]
    unfold lB
    have tF : tAn (tB1 (d2 f_eq (d2 f_ix (cVar 5) (cK (.int 0))) (cK (.str (Str.ofString "factors"))))) (tTru (cVar 3)) (lE o0 o1 l top (some (nI m)) (some (.tup [.str s, .int x, r])) o6 o7 o8 o9) σ1 = some (decide (s = SF) && top, σ1) :=
      ev_tAnb (ev_tB (ev_d2 (i0 top o6 o7 o8 o9) ev_K str_eq)) (ev_tTru (ev_var rfl) rfl)
    by_cases hFT : (decide (s = SF) && top) = true
    · rw [hFT] at tF
      rw [Bool.and_eq_true] at hFT
      have hF := of_decide_eq_true hFT.1
      have hT := hFT.2
      subst hF
      subst hT
      rw [if_pos rfl, Bool.true_and]
      have fc : dAn (dCall 1 p_lii (aCons (d2 f_ix (cVar 5) (cK (.int 2))) aNil)) (dAn (d2 f_gt (d2 f_ix (cVar 5) (cK (.int 1))) (cK (.int 1))) (dAn (d2 f_gt (d2 f_ix (cVar 5) (cK (.int 2))) (cK (.int 1))) (d2 f_eq (d2 f_mul (d2 f_ix (cVar 5) (cK (.int 1))) (d2 f_ix (cVar 5) (cK (.int 2)))) (cVar 4)))) (lE o0 o1 l true (some (nI m)) (some (.tup [.str SF, .int x, r])) o6 o7 o8 o9) σ1 = some (.bl (facB m x r), σ1) := by
        have c1 : dCall 1 p_lii (aCons (d2 f_ix (cVar 5) (cK (.int 2))) aNil) (lE o0 o1 l true (some (nI m)) (some (.tup [.str SF, .int x, r])) o6 o7 o8 o9) σ1 = some (.bl (isIntP r), σ1) := ev_dCall (ev_aCons (i2 true o6 o7 o8 o9) ev_aNil) (ii_ok hr σ1).2 rfl
        cases r with
        | int y =>
          have hy : y.natAbs < 2 ^ 58 := of_decide_eq_true hr
          have mm : f_mul (.int x) (.int y) σ1 = some (.int (x * y), σ1) := mul_ii (okMul_small (by omega) (by omega))
          exact ev_an_t c1 rfl (ev_anb (ev_d2 (i1 true o6 o7 o8 o9) ev_K rfl) (ev_anb (ev_d2 (i2 true o6 o7 o8 o9) ev_K rfl) (ev_d2 (ev_d2 (i1 true o6 o7 o8 o9) (i2 true o6 o7 o8 o9) mm) (ev_var rfl) rfl)))
        | _ => exact ev_an_f c1 rfl
      have run : lB (lE o0 o1 l true o4 o5 o6 o7 o8 o9) σ = some (.rt (.bl (facB m x r)) σ1) := by
        unfold lB
        exact ev_seq first (ev_seq (ev_sIf_f hA ev_sNil) (ev_seq_rt (ev_sIf_t tF (ev_ret fc))))
      unfold lB at run
      cases hb : facB m x r with
      | true =>
        rw [hb] at run
        exact ⟨fun h => (by cases h), fun _ => ⟨σ1, ex1, run⟩, fun ks h => (by cases h)⟩
      | false =>
        rw [hb] at run
        exact ⟨fun _ => ⟨σ1, ex1, run⟩, fun h => (by cases h), fun ks h => (by cases h)⟩
    · have hFT : (decide (s = SF) && top) = false := by
        cases h : (decide (s = SF) && top) with
        | true => exact absurd h hFT
        | false => rfl
      rw [hFT] at tF
      have t1 : tB1 (d2 f_ne (d2 f_ix (cVar 5) (cK (.int 0))) (cK (.str (Str.ofString "prime")))) (lE o0 o1 l false (some (nI m)) (some (.tup [.str s, .int x, r])) o6 o7 o8 o9) σ1 = some (!decide (s = SP), σ1) := ev_tB (ev_d2 (i0 false o6 o7 o8 o9) ev_K str_ne)
      have t2 : tNo (tB1 (dCh2 f_le f_lt (cK (.int 1)) (d2 f_ix (cVar 5) (cK (.int 1))) (cVar 4))) (lE o0 o1 l false (some (nI m)) (some (.tup [.str s, .int x, r])) o6 o7 o8 o9) σ1 = some (!(decide (0 < x) && decide (x < (m : Int))), σ1) := by
        have e : decide (0 < x) = decide (1 ≤ x) := decide_eq_decide.mpr (by omega)
        rw [e]
        exact ev_tNo (ev_tB (ev_ch2b (f := f_le) (g := f_lt) (b := decide (1 ≤ x)) (c := decide (x < (m : Int))) ev_K (i1 false o6 o7 o8 o9) rfl (ev_var rfl) rfl)) rfl
      have t3 := tup_ev (ρ := lE o0 o1 l false (some (nI m)) (some (.tup [.str s, .int x, r])) o6 o7 o8 o9) (μ := σ1) hr (i2 false o6 o7 o8 o9)
      have all3 := ev_tOrb t1 (ev_tOrb t2 t3)
      have st3 : sAsg (cK (.bl false)) (gNm 3) (lE o0 o1 l top (some (nI m)) (some (.tup [.str s, .int x, r])) o6 o7 o8 o9) σ1 = some (.nx (lE o0 o1 l false (some (nI m)) (some (.tup [.str s, .int x, r])) o6 o7 o8 o9) σ1) := ev_set ev_K rfl
      by_cases hP : s = SP
      · have hF : ¬ s = SF := fun z => SF_SP (by rw [← z, hP])
        rw [if_neg hF, if_pos hP]
        rw [decide_eq_true hP] at all3
        have wrong : ∀ (Z : Prop), tOr' (tB1 (d2 f_ne (d2 f_ix (cVar 5) (cK (.int 0))) (cK (.str (Str.ofString "prime"))))) (tOr' (tNo (tB1 (dCh2 f_le f_lt (cK (.int 1)) (d2 f_ix (cVar 5) (cK (.int 1))) (cVar 4)))) (tNo (tTru (d1 (f_isi .tuple) (d2 f_ix (cVar 5) (cK (.int 2))))))) (lE o0 o1 l false (some (nI m)) (some (.tup [.str s, .int x, r])) o6 o7 o8 o9) σ1 = some (true, σ1) → lB (lE o0 o1 l top o4 o5 o6 o7 o8 o9) σ = some (.rt (.bl false) σ1) := fun _ h => by
          unfold lB
          exact ev_seq first (ev_seq (ev_sIf_f hA ev_sNil) (ev_seq (ev_sIf_f tF ev_sNil) (ev_seq st3 (ev_seq_rt (ev_sIf_t h (ev_ret ev_K))))))
        unfold lB at wrong
        by_cases ht : ∃ xs, r = .tup xs
        · obtain ⟨xs, rfl⟩ := ht
          have all3 : tOr' _ _ _ σ1 = some ((!true) || ((!(decide (0 < x) && decide (x < (m : Int)))) || !true), σ1) := all3
          cases hlt : (decide (0 < x) && decide (x < (m : Int))) with
          | false =>
            rw [hlt] at all3
            have e0 : (decide (0 < x) && (decide (x < (m : Int)) && prB m x (.tup xs))) = false := by rw [← Bool.and_assoc, hlt]; rfl
            rw [e0, if_neg Bool.false_ne_true]
            exact ⟨fun _ => ⟨σ1, ex1, wrong True all3⟩, fun h => (by cases h), fun ks h => (by cases h)⟩
          | true =>
            rw [hlt] at all3
            have e0 : (decide (0 < x) && (decide (x < (m : Int)) && prB m x (.tup xs))) = prB m x (.tup xs) := by rw [← Bool.and_assoc, hlt]; rfl
            rw [e0]
            have lx : xs.length ≤ w := tre_len hr
            have sub : ∀ y ∈ xs, ∃ e', tre w y e' = true := fun y hy => by
              cases e with
              | zero => cases hr
              | succ e => exact ⟨e, (tre_tup.mp hr).2 y hy⟩
            have comp1 : dLc [9] (itSeq (d2 f_ix (cVar 5) (cK (.int 2)))) (gNm 9) tAll (dAn (d1 (f_isi .tuple) (cVar 9)) (dAn (d2 f_eq (dN f_len (aCons (cVar 9) aNil)) (cK (.int 2))) (dAn (dCall 1 p_lii (aCons (d2 f_ix (cVar 9) (cK (.int 0))) aNil)) (d2 f_gt (d2 f_ix (cVar 9) (cK (.int 0))) (cK (.int 1)))))) (lE o0 o1 l false (some (nI m)) (some (.tup [.str s, .int x, .tup xs])) o6 o7 o8 o9) σ1 = some (.lst (xs.map fun y => .bl (rowOf y).isSome), σ1) := by
              have q := lc_map0 (ρ := lE o0 o1 l false (some (nI m)) (some (.tup [.str s, .int x, .tup xs])) o6 o7 o8 none) (μ := σ1) (g := gNm 9) (e := (dAn (d1 (f_isi .tuple) (cVar 9)) (dAn (d2 f_eq (dN f_len (aCons (cVar 9) aNil)) (cK (.int 2))) (dAn (dCall 1 p_lii (aCons (d2 f_ix (cVar 9) (cK (.int 0))) aNil)) (d2 f_gt (d2 f_ix (cVar 9) (cK (.int 0))) (cK (.int 1))))))) (ch := []) id (fun y => PV.bl (rowOf y).isSome) xs chk_nil (len_le (by omega)) fun y hy => by
                obtain ⟨e', he⟩ := sub y hy
                exact ⟨_, rfl, row_ev he rfl⟩
              rw [List.map_id] at q
              exact ev_lc (it_tup (i2 false o6 o7 o8 o9)) rfl q
            have t4 : tNo (tTru (dN f_all (aCons (dLc [9] (itSeq (d2 f_ix (cVar 5) (cK (.int 2)))) (gNm 9) tAll (dAn (d1 (f_isi .tuple) (cVar 9)) (dAn (d2 f_eq (dN f_len (aCons (cVar 9) aNil)) (cK (.int 2))) (dAn (dCall 1 p_lii (aCons (d2 f_ix (cVar 9) (cK (.int 0))) aNil)) (d2 f_gt (d2 f_ix (cVar 9) (cK (.int 0))) (cK (.int 1))))))) aNil))) (lE o0 o1 l false (some (nI m)) (some (.tup [.str s, .int x, .tup xs])) o6 o7 o8 o9) σ1 = some (!(rowsL xs).isSome, σ1) := by
              have h := all_bl' (μ := σ1) xs (fun y => (rowOf y).isSome)
              rw [rowsL_all] at h
              exact ev_tNo (ev_tTru (ev_dN (ev_aCons comp1 ev_aNil) h) rfl) rfl
            cases hks : rowsL xs with
            | none =>
              rw [hks] at t4
              have ep : prB m x (.tup xs) = false := by
                unfold prB
                rw [show rowsOf (.tup xs) = rowsL xs from rfl, hks]
              rw [ep, if_neg Bool.false_ne_true]
              refine ⟨fun _ => ⟨σ1, ex1, ?_⟩, fun h => (by cases h), fun ks h => (by cases h)⟩
              exact ev_seq first (ev_seq (ev_sIf_f hA ev_sNil) (ev_seq (ev_sIf_f tF ev_sNil) (ev_seq st3 (ev_seq (ev_sIf_f all3 ev_sNil) (ev_seq_rt (ev_sIf_t t4 (ev_ret ev_K)))))))
            | some ks =>
              rw [hks] at t4
              obtain ⟨rfl, k2⟩ := rowsL_some hks
              have lk : ks.length ≤ 60 := by rw [List.length_map] at lx; omega
              have ep : prB m x (.tup (ks.map mkR)) = rowB m x ks := by
                unfold prB
                rw [show rowsOf (.tup (ks.map mkR)) = rowsL (ks.map mkR) from rfl, hks]
              rw [ep, show rowsOf (.tup (ks.map mkR)) = rowsL (ks.map mkR) from rfl, hks]
              have qI : (ks.map (·.1)).map nI = (ks.map fun k => (k.1 : Int)).map PV.int := by rw [List.map_map, List.map_map]; rfl
              -- own, rest
              have comp2 : dLc [9] (itSeq (d2 f_ix (cVar 5) (cK (.int 2)))) (gNm 9) tAll (d2 f_ix (cVar 9) (cK (.int 0))) (lE o0 o1 l false (some (nI m)) (some (.tup [.str s, .int x, .tup (ks.map mkR)])) o6 o7 o8 o9) σ1 = some (.lst ((ks.map fun k => (k.1 : Int)).map PV.int), σ1) := by
                rw [List.map_map]
                exact ev_lc (xs := ks.map mkR) (ch := []) (μ1 := σ1) (it_tup (i2 false o6 o7 o8 o9)) rfl (lc_map0 mkR _ ks chk_nil (len_le (by omega)) fun k hk => ⟨_, rfl, ev_d2 (ev_var rfl) ev_K rfl⟩)
              have sb : f_sub (nI m) (.int 1) σ1 = some (nI (m - 1), σ1) := by
                show some (PV.int ((m : Int) - 1), σ1) = some (PV.int ((m - 1 : Nat) : Int), σ1)
                congr 3; omega
              have st6 : sPar 6 7 (aCons (dLc [9] (itSeq (d2 f_ix (cVar 5) (cK (.int 2)))) (gNm 9) tAll (d2 f_ix (cVar 9) (cK (.int 0)))) (aCons (d2 f_sub (cVar 4) (cK (.int 1))) aNil)) (lE o0 o1 l false (some (nI m)) (some (.tup [.str s, .int x, .tup (ks.map mkR)])) o6 o7 o8 o9) σ1 = some (.nx (lE o0 o1 l false (some (nI m)) (some (.tup [.str s, .int x, .tup (ks.map mkR)])) (some (.lst ((ks.map fun k => (k.1 : Int)).map PV.int))) (some (nI (m - 1))) o8 o9) σ1) :=
                ev_par (ev_aCons comp2 (ev_aCons (ev_d2 (ev_var rfl) ev_K sb) ev_aNil)) rfl
              have t5 : tB1 (d2 f_ne (cVar 6) (dN f_sset (aCons (cVar 6) aNil))) (lE o0 o1 l false (some (nI m)) (some (.tup [.str s, .int x, .tup (ks.map mkR)])) (some (.lst ((ks.map fun k => (k.1 : Int)).map PV.int))) (some (nI (m - 1))) o8 o9) σ1 = some (!adj (ks.map fun k => (k.1 : Int)), σ1) := by
                rw [adj_sort]
                exact ev_tB (ev_d2 (ev_var rfl) (ev_dN (ev_aCons (ev_var rfl) ev_aNil) (sset_ints (by rw [List.length_map]; omega) σ1)) (ne_ints _ _ σ1))
              unfold rowB
              cases hadj : adj (ks.map fun k => (k.1 : Int)) with
              | false =>
                rw [hadj] at t5
                rw [Bool.false_and, if_neg Bool.false_ne_true]
                refine ⟨fun _ => ⟨σ1, ex1, ?_⟩, fun h => (by cases h), fun ks h => (by cases h)⟩
                exact ev_seq first (ev_seq (ev_sIf_f hA ev_sNil) (ev_seq (ev_sIf_f tF ev_sNil) (ev_seq st3 (ev_seq (ev_sIf_f all3 ev_sNil) (ev_seq (ev_sIf_f t4 ev_sNil) (ev_seq st6 (ev_seq_rt (ev_sIf_t t5 (ev_ret ev_K)))))))))
              | true =>
                rw [hadj] at t5
                rw [Bool.true_and]
                obtain ⟨v1, v2⟩ := dv_for (i := 7) (j := 8) (by decide) σ1 (ks.map (·.1)) (m - 1) (lE o0 o1 l false (some (nI m)) (some (.tup [.str s, .int x, .tup (ks.map mkR)])) (some (.lst ((ks.map fun k => (k.1 : Int)).map PV.int))) (some (nI (m - 1))) o8 o9) (fun q hq => by
                  obtain ⟨k, hk, rfl⟩ := List.mem_map.mp hq
                  refine ⟨k2 k hk, ?_⟩
                  obtain ⟨e', he⟩ := sub (mkR k) (List.mem_map.mpr ⟨k, hk, rfl⟩)
                  cases e' with
                  | zero => cases he
                  | succ e' =>
                    have h1 := (tre_tup.mp he).2 (nI k.1) (by simp)
                    have h1 : ((k.1 : Nat) : Int).natAbs < 2 ^ 58 := of_decide_eq_true h1
                    omega) (by omega) rfl (by show 8 < 10; decide)
                rw [qI] at v1 v2
                cases hd : dvN (ks.map (·.1)) (m - 1) with
                | none =>
                  rw [decide_eq_false (by intro z; cases z), Bool.false_and, if_neg Bool.false_ne_true]
                  refine ⟨fun _ => ⟨σ1, ex1, ?_⟩, fun h => (by cases h), fun ks h => (by cases h)⟩
                  exact ev_seq first (ev_seq (ev_sIf_f hA ev_sNil) (ev_seq (ev_sIf_f tF ev_sNil) (ev_seq st3 (ev_seq (ev_sIf_f all3 ev_sNil) (ev_seq (ev_sIf_f t4 ev_sNil) (ev_seq st6 (ev_seq (ev_sIf_f t5 ev_sNil) (ev_seq_rt (ev_for (it_lst (ev_var rfl)) (v1 hd))))))))))
                | some r' =>
                  obtain ⟨p0, oj, hf⟩ := v2 r' hd
                  have n0 : (0 : Int) < (m : Int) := by omega
                  have m1 : f_mod (.int 1) (nI m) σ1 = some (.int (1 % (m : Int)), σ1) := mod_ii n0
                  have sb2 : f_sub (nI m) (.int 1) σ1 = some (.int ((m : Int) - 1), σ1) := rfl
                  let E7 : En := lE o0 o1 l false (some (nI m)) (some (.tup [.str s, .int x, .tup (ks.map mkR)])) (some (.lst ((ks.map fun k => (k.1 : Int)).map PV.int))) (some (nI r')) oj o9
                  have hf : forL (gNm 8) (dvB 7 8) [] ((ks.map fun k => (k.1 : Int)).map PV.int) (lE o0 o1 l false (some (nI m)) (some (.tup [.str s, .int x, .tup (ks.map mkR)])) (some (.lst ((ks.map fun k => (k.1 : Int)).map PV.int))) (some (nI (m - 1))) o8 o9) σ1 = some (.nx E7 σ1) := hf
                  have t6 : tOr' (tB1 (d2 f_ne (cVar 7) (cK (.int 1)))) (tB1 (d2 f_ne (dCall 3 p_lpow (aCons (d2 f_ix (cVar 5) (cK (.int 1))) (aCons (d2 f_sub (cVar 4) (cK (.int 1))) (aCons (cVar 4) aNil)))) (d2 f_mod (cK (.int 1)) (cVar 4)))) E7 σ1 = some ((!decide (some r' = some 1)) || (!decide (pw x ((m : Int) - 1) m = 1 % (m : Int))), σ1) := by
                    refine ev_tOrb (ev_tB (ev_d2 (ev_var (i := 7) (v := nI r') rfl) ev_K (ne_ii ?_))) (ev_tB (ev_d2 (ev_dCall (ev_aCons (ev_d2 (ev_var rfl) ev_K rfl) (ev_aCons (ev_d2 (ev_var rfl) ev_K sb2) (ev_aCons (ev_var rfl) ev_aNil))) (pow_ok n0 (by omega) (by omega) σ1).2 rfl) (ev_d2 ev_K (ev_var rfl) m1) rfl))
                    congr 1
                    apply decide_eq_decide.mpr
                    constructor
                    · intro z; rw [show r' = 1 by omega]
                    · intro z; cases z; rfl
                  by_cases hr1 : some r' = some 1
                  · rw [decide_eq_true hr1] at t6 ⊢
                    rw [Bool.true_and]
                    have dvd : dvN (ks.map (·.1)) (m - 1) = some 1 := by rw [hd]; exact hr1
                    obtain ⟨sm, kle⟩ := dvN_big k2 (by omega) dvd
                    have comp3 : dLc [8] (itSeq (cVar 6)) (gNm 8) tAll (d2 f_eq (dCall 3 p_lpow (aCons (d2 f_ix (cVar 5) (cK (.int 1))) (aCons (d2 f_fdiv (d2 f_sub (cVar 4) (cK (.int 1))) (cVar 8)) (aCons (cVar 4) aNil)))) (d2 f_mod (cK (.int 1)) (cVar 4))) E7 σ1 = some (.lst ((ks.map fun k => (k.1 : Int)).map fun p => .bl (decide (pw x (((m : Int) - 1) / p) m = 1 % (m : Int)))), σ1) := by
                      refine ev_lc (xs := (ks.map fun k => (k.1 : Int)).map PV.int) (ch := []) (μ1 := σ1) (it_lst (ev_var rfl)) rfl (lc_map0 PV.int _ _ chk_nil (len_le (by rw [List.length_map]; omega)) fun p hp => ⟨_, rfl, ?_⟩)
                      obtain ⟨k, hk, rfl⟩ := List.mem_map.mp hp
                      have h2 := k2 k hk
                      have h3 := kle k hk
                      have dd : f_fdiv (.int ((m : Int) - 1)) (.int (k.1 : Int)) σ1 = some (.int (((m : Int) - 1) / (k.1 : Int)), σ1) := fdiv_ii (by omega) (by omega)
                      exact ev_d2 (ev_dCall (ev_aCons (ev_d2 (ev_var rfl) ev_K rfl) (ev_aCons (ev_d2 (ev_d2 (ev_var rfl) ev_K sb2) (ev_var rfl) dd) (ev_aCons (ev_var rfl) ev_aNil))) (pow_ok n0 (by omega) (Int.ediv_nonneg (by omega) (by omega)) σ1).2 rfl) (ev_d2 ev_K (ev_var rfl) m1) rfl
                    have t7 : tTru (dN f_any (aCons (dLc [8] (itSeq (cVar 6)) (gNm 8) tAll (d2 f_eq (dCall 3 p_lpow (aCons (d2 f_ix (cVar 5) (cK (.int 1))) (aCons (d2 f_fdiv (d2 f_sub (cVar 4) (cK (.int 1))) (cVar 8)) (aCons (cVar 4) aNil)))) (d2 f_mod (cK (.int 1)) (cVar 4)))) aNil)) E7 σ1 = some ((ks.map fun k => (k.1 : Int)).any (fun p => decide (pw x (((m : Int) - 1) / p) m = 1 % (m : Int))), σ1) :=
                      ev_tTru (ev_dN (ev_aCons comp3 ev_aNil) (any_bl' _ _)) rfl
                    unfold rootB
                    rw [← any_not]
                    cases hpw : decide (pw x ((m : Int) - 1) m = 1 % (m : Int)) with
                    | false =>
                      rw [hpw] at t6
                      rw [Bool.false_and, if_neg Bool.false_ne_true]
                      refine ⟨fun _ => ⟨σ1, ex1, ?_⟩, fun h => (by cases h), fun ks h => (by cases h)⟩
                      exact ev_seq first (ev_seq (ev_sIf_f hA ev_sNil) (ev_seq (ev_sIf_f tF ev_sNil) (ev_seq st3 (ev_seq (ev_sIf_f all3 ev_sNil) (ev_seq (ev_sIf_f t4 ev_sNil) (ev_seq st6 (ev_seq (ev_sIf_f t5 ev_sNil) (ev_seq (ev_for (it_lst (ev_var rfl)) hf) (ev_seq_rt (ev_sIf_t t6 (ev_ret ev_K)))))))))))
                    | true =>
                      rw [hpw] at t6
                      rw [Bool.true_and]
                      cases hany : (ks.map fun k => (k.1 : Int)).any (fun p => decide (pw x (((m : Int) - 1) / p) m = 1 % (m : Int))) with
                      | true =>
                        rw [hany] at t7
                        refine ⟨fun _ => ⟨σ1, ex1, ?_⟩, fun h => (by cases h), fun ks h => (by cases h)⟩
                        exact ev_seq first (ev_seq (ev_sIf_f hA ev_sNil) (ev_seq (ev_sIf_f tF ev_sNil) (ev_seq st3 (ev_seq (ev_sIf_f all3 ev_sNil) (ev_seq (ev_sIf_f t4 ev_sNil) (ev_seq st6 (ev_seq (ev_sIf_f t5 ev_sNil) (ev_seq (ev_for (it_lst (ev_var rfl)) hf) (ev_seq (ev_sIf_f t6 ev_sNil) (ev_seq_rt (ev_sIf_t t7 (ev_ret ev_K))))))))))))
                      | false =>
                        rw [hany] at t7
                        refine ⟨fun h => (by cases h), fun h => (by cases h), fun ks' h => ?_⟩
                        cases h
                        have am := addM_at (ys := ks.map mkR) g1 (by rw [List.length_map, List.length_map]; omega)
                        rw [← List.map_append] at am
                        refine ⟨σ1 ++ [.lst ((rest ++ ks).map mkR)], σ1.length, some (nI m), some (.tup [.str s, .int x, .tup (ks.map mkR)]), some (.lst ((ks.map fun k => (k.1 : Int)).map PV.int)), some (nI r'), oj, o9, fun μ h E => ⟨(ex1 μ h E).app _, ?_⟩, get_end, ?_⟩
                        · obtain ⟨z, hz⟩ := ex1 μ h E
                          rw [hz, List.length_append]; omega
                        · exact ev_seq first (ev_seq (ev_sIf_f hA ev_sNil) (ev_seq (ev_sIf_f tF ev_sNil) (ev_seq st3 (ev_seq (ev_sIf_f all3 ev_sNil) (ev_seq (ev_sIf_f t4 ev_sNil) (ev_seq st6 (ev_seq (ev_sIf_f t5 ev_sNil) (ev_seq (ev_for (it_lst (ev_var rfl)) hf) (ev_seq (ev_sIf_f t6 ev_sNil) (ev_seq (ev_sIf_f t7 ev_sNil) (ev_set (ev_d2 (ev_var rfl) (ev_dN (ev_aCons (ev_d2 (ev_var rfl) ev_K rfl) ev_aNil) rfl) am) rfl)))))))))))
                  · rw [decide_eq_false hr1] at t6 ⊢
                    rw [Bool.false_and, if_neg Bool.false_ne_true]
                    refine ⟨fun _ => ⟨σ1, ex1, ?_⟩, fun h => (by cases h), fun ks h => (by cases h)⟩
                    exact ev_seq first (ev_seq (ev_sIf_f hA ev_sNil) (ev_seq (ev_sIf_f tF ev_sNil) (ev_seq st3 (ev_seq (ev_sIf_f all3 ev_sNil) (ev_seq (ev_sIf_f t4 ev_sNil) (ev_seq st6 (ev_seq (ev_sIf_f t5 ev_sNil) (ev_seq (ev_for (it_lst (ev_var rfl)) hf) (ev_seq_rt (ev_sIf_t t6 (ev_ret ev_K)))))))))))
        · have ep : prB m x r = false := by
            have : rowsOf r = none := by
              unfold rowsOf
              split
              · exact absurd ⟨_, rfl⟩ ht
              · rfl
            unfold prB
            rw [this]
          rw [ep]
          have e0 : (decide (0 < x) && (decide (x < (m : Int)) && false)) = false := by rw [Bool.and_false, Bool.and_false]
          rw [e0, if_neg Bool.false_ne_true]
          have et : tNo (tTru (d1 (f_isi .tuple) (d2 f_ix (cVar 5) (cK (.int 2))))) (lE o0 o1 l false (some (nI m)) (some (.tup [.str s, .int x, r])) o6 o7 o8 o9) σ1 = some (true, σ1) := by
            rw [t3]
            cases r with
            | tup xs => exact absurd ⟨xs, rfl⟩ ht
            | _ => rfl
          have all4 := ev_tOrb t1 (ev_tOrb t2 et)
          rw [decide_eq_true hP, Bool.or_true, Bool.or_true] at all4
          exact ⟨fun _ => ⟨σ1, ex1, wrong True all4⟩, fun h => (by cases h), fun ks h => (by cases h)⟩
      · rw [decide_eq_false hP] at t1
        have run : lB (lE o0 o1 l top o4 o5 o6 o7 o8 o9) σ = some (.rt (.bl false) σ1) := by
          unfold lB
          exact ev_seq first (ev_seq (ev_sIf_f hA ev_sNil) (ev_seq (ev_sIf_f tF ev_sNil) (ev_seq st3 (ev_seq_rt (ev_sIf_t (ev_tOr_t t1) (ev_ret ev_K))))))
        unfold lB at run
        rw [if_neg hP]
        by_cases hF : s = SF
        · rw [if_pos hF]
          have : top = false := by
            rw [decide_eq_true hF, Bool.true_and] at hFT; exact hFT
          subst this
          rw [Bool.false_and, if_neg Bool.false_ne_true]
          exact ⟨fun _ => ⟨σ1, ex1, run⟩, fun h => (by cases h), fun ks h => (by cases h)⟩
        · rw [if_neg hF]
          exact ⟨fun _ => ⟨σ1, ex1, run⟩, fun h => (by cases h), fun ks h => (by cases h)⟩
  · rw [ver_not hn]
    refine ⟨fun _ => ⟨σ1, ex1, ?_⟩, fun h => (by cases h), fun ks h => (by cases h)⟩
    unfold lB
    exact ev_seq first (ev_seq_rt (ev_sIf_t hA (ev_ret ev_K)))
end K11

/-! K11k: the judges say the same. -/
namespace K11
open PySem PySem.Spec PyProof.Rows L2 Fd Nm
theorem wh_ct {c : DenT} {b : DenS} {ρ ρ' : En} {μ μ1 μ' : Sto} {o : Out} (hc : c ρ μ = some (true, μ1)) (hb : b ρ μ1 = some (.ct ρ' μ')) (h : sWh c b ρ' μ' = some o) : sWh c b ρ μ = some o := by
  obtain ⟨n, hn⟩ := sWh_get h
  refine sWh_of (n + 1) ?_
  unfold whN
  simp only [hc, hb, Option.bind_some, if_true]
  exact hn
theorem seq_wh {c : DenT} {b d : DenS} {ρ ρ' : En} {μ μ1 μ' : Sto} {o : Out} (hc : c ρ μ = some (true, μ1)) (hb : b ρ μ1 = some (.nx ρ' μ')) (h : sSeq (sWh c b) d ρ' μ' = some o) : sSeq (sWh c b) d ρ μ = some o := by
  unfold sSeq at h ⊢
  obtain ⟨o1, e1, e2⟩ := Option.bind_eq_some_iff.mp h
  rw [wh_step hc hb e1]
  exact e2
theorem seq_ct {c : DenT} {b d : DenS} {ρ ρ' : En} {μ μ1 μ' : Sto} {o : Out} (hc : c ρ μ = some (true, μ1)) (hb : b ρ μ1 = some (.ct ρ' μ')) (h : sSeq (sWh c b) d ρ' μ' = some o) : sSeq (sWh c b) d ρ μ = some o := by
  unfold sSeq at h ⊢
  obtain ⟨o1, e1, e2⟩ := Option.bind_eq_some_iff.mp h
  rw [wh_ct hc hb e1]
  exact e2
theorem seq_done {c : DenT} {b : DenS} {v : PV} {ρ : En} {μ μ1 : Sto} (hc : c ρ μ = some (false, μ1)) : sSeq (sWh c b) (sRet (cK v)) ρ μ = some (.rt v μ1) := ev_seq (wh_done hc) (ev_ret ev_K)
theorem seq_rt {c : DenT} {b d : DenS} {v : PV} {ρ : En} {μ μ1 μ' : Sto} (hc : c ρ μ = some (true, μ1)) (hb : b ρ μ1 = some (.rt v μ')) : sSeq (sWh c b) d ρ μ = some (.rt v μ') := ev_seq_rt (wh_rt hc hb)
theorem ver_none {top : Bool} {m : Nat} {v : PV} (h : ver top m v = some none) : top = true := by
  unfold ver at h
  split at h
  · split at h
    · split at h
      · rename_i hb
        rw [Bool.and_eq_true] at hb
        exact hb.1
      · cases h
    · split at h
      · split at h
        · rename_i r _ _ _
          cases e : rowsOf r with
          | none => rw [e] at h; cases h
          | some ks => rw [e] at h; cases h
        · cases h
      · cases h
  · cases h
theorem mem_le_sum {x : Nat} : ∀ {l : List Nat}, x ∈ l → x ≤ l.sum
  | y :: l, h => by
    rw [List.sum_cons]
    rcases List.mem_cons.mp h with rfl | h
    · omega
    · have := mem_le_sum h; omega
def okS (w : Nat) (k : Nat × PV) : Prop := 2 ≤ k.1 ∧ k.1 ≤ 5000 ∧ ∃ d, tre w k.2 d = true
noncomputable def jL : DenS := sSeq (sWh (tTru (cVar 2)) jB) (sRet (cK (.bl true)))
noncomputable def lL : DenS := sSeq (sWh (tTru (cVar 2)) lB) (sRet (cK (.bl true)))
theorem judges {w : Nat} (hw : w ≤ 60) : ∀ (T : Nat) (stack : List (Nat × PV)) (top : Bool), (stack.map (·.1)).sum ≤ T → T ≤ 5000 → (∀ k ∈ stack, okS w k) → (top = true → stack.length = 1) → ∃ b : Bool,
    (∀ (μ σ : Sto) (lw : Nat) (o0 o1 o3 o4 : Option PV), μ.length ≤ lw → Ex μ σ → σ[lw]? = some (.lst (stack.map (mkW (!top)))) → ∃ σ', Ex μ σ' ∧ jL [o0, o1, some (.loc lw), o3, o4] σ = some (.rt (.bl b) σ')) ∧
    (∀ (μ σ : Sto) (l : Nat) (o0 o1 o4 o5 o6 o7 o8 o9 : Option PV), μ.length ≤ l → Ex μ σ → σ[l]? = some (.lst (stack.map mkR)) → ∃ σ', Ex μ σ' ∧ lL (lE o0 o1 l top o4 o5 o6 o7 o8 o9) σ = some (.rt (.bl b) σ')) := by
  intro T
  induction T using Nat.strongRecOn with
  | ind T ih =>
    intro stack top hT hT5 hok htop
    rcases List.eq_nil_or_concat stack with rfl | ⟨rest, k, rfl⟩
    · refine ⟨true, fun μ σ lw o0 o1 o3 o4 hl E g => ⟨σ, E, ?_⟩, fun μ σ l o0 o1 o4 o5 o6 o7 o8 o9 hl E g => ⟨σ, E, ?_⟩⟩
      · exact seq_done (ev_tTru (ev_var rfl) (tru_at g))
      · exact seq_done (ev_tTru (ev_var rfl) (tru_at g))
    · rw [List.concat_eq_append] at *
      obtain ⟨m, v⟩ := k
      obtain ⟨hm, hm2, d, hv⟩ := hok (m, v) (List.mem_append_right _ (List.mem_singleton.mpr rfl))
      have hm : 2 ≤ m := hm
      have hm2 : m ≤ 5000 := hm2
      have hokr : ∀ k ∈ rest, okS w k := fun k hk => hok k (List.mem_append_left _ hk)
      have hsum : (rest.map (·.1)).sum + m ≤ T := by
        rw [List.map_append, List.sum_append, List.map_cons, List.map_nil, List.sum_cons, List.sum_nil] at hT
        omega
      have hrl : rest.length ≤ 5000 := by
        have := len_sum (l := rest.map (·.1)) (fun p hp => by
          obtain ⟨k, hk, rfl⟩ := List.mem_map.mp hp
          have := (hokr k hk).1; omega)
        rw [List.length_map] at this
        omega
      have hrest : top = true → rest = [] := fun h => by
        have := htop h
        rw [List.length_append] at this
        exact List.length_eq_zero_iff.mp (by simp only [List.length_cons, List.length_nil] at this; omega)
      have tj : ∀ (σ : Sto) (lw : Nat) (o0 o1 o3 o4 : Option PV), σ[lw]? = some (.lst ((rest ++ [(m, v)]).map (mkW (!top)))) → tTru (cVar 2) [o0, o1, some (.loc lw), o3, o4] σ = some (true, σ) := fun σ lw o0 o1 o3 o4 g => ev_tTru (ev_var rfl) (by rw [tru_at g]; simp)
      have tl : ∀ (σ : Sto) (l : Nat) (o0 o1 o4 o5 o6 o7 o8 o9 : Option PV), σ[l]? = some (.lst ((rest ++ [(m, v)]).map mkR)) → tTru (cVar 2) (lE o0 o1 l top o4 o5 o6 o7 o8 o9) σ = some (true, σ) := fun σ l o0 o1 o4 o5 o6 o7 o8 o9 g => ev_tTru (ev_var rfl) (by rw [tru_at g]; simp)
      cases hver : ver top m v with
      | none =>
        refine ⟨false, fun μ σ lw o0 o1 o3 o4 hl E g => ?_, fun μ σ l o0 o1 o4 o5 o6 o7 o8 o9 hl E g => ?_⟩
        · obtain ⟨j1, _, _⟩ := j_step hv hw hm hm2 hrl (!top) g o0 o1 o3 o4
          rw [Bool.not_not] at j1
          obtain ⟨σ', e1, e2⟩ := j1 hver
          exact ⟨σ', e1 μ hl E, seq_rt (tj σ lw o0 o1 o3 o4 g) e2⟩
        · obtain ⟨j1, _, _⟩ := l_step hv hw hm hm2 hrl top g o0 o1 o4 o5 o6 o7 o8 o9
          obtain ⟨σ', e1, e2⟩ := j1 hver
          exact ⟨σ', e1 μ hl E, seq_rt (tl σ l o0 o1 o4 o5 o6 o7 o8 o9 g) e2⟩
      | some ok =>
        cases ok with
        | none =>
          have ht := ver_none hver
          have hr := hrest ht
          refine ⟨true, fun μ σ lw o0 o1 o3 o4 hl E g => ?_, fun μ σ l o0 o1 o4 o5 o6 o7 o8 o9 hl E g => ?_⟩
          · obtain ⟨_, j2, _⟩ := j_step hv hw hm hm2 hrl (!top) g o0 o1 o3 o4
            rw [Bool.not_not] at j2
            obtain ⟨ρ', ⟨p0, p1, p3, p4, rfl⟩, e2⟩ := j2 hver
            refine ⟨_, E.set hl (.lst (rest.map (mkW (!top)))), seq_ct (tj σ lw o0 o1 o3 o4 g) e2 (seq_done (ev_tTru (ev_var rfl) ?_))⟩
            rw [tru_at (List.getElem?_set_self (get_lt g)), hr]; rfl
          · obtain ⟨_, j2, _⟩ := l_step hv hw hm hm2 hrl top g o0 o1 o4 o5 o6 o7 o8 o9
            obtain ⟨σ', e1, e2⟩ := j2 hver
            exact ⟨σ', e1 μ hl E, seq_rt (tl σ l o0 o1 o4 o5 o6 o7 o8 o9 g) e2⟩
        | some ks =>
          -- facts of the rows do not hang on the store
          have facts : (∀ k ∈ ks, 2 ≤ k.1 ∧ ∃ e, tre w k.2 e = true) ∧ (ks.map (·.1)).sum < m := by
            obtain ⟨_, _, j3⟩ := j_step hv hw hm hm2 hrl (!top) (σ := [.lst ((rest ++ [(m, v)]).map (mkW (!top)))]) (lw := 0) rfl none none none none
            rw [Bool.not_not] at j3
            obtain ⟨a, b, _⟩ := j3 ks hver
            exact ⟨a, b⟩
          have kle : ∀ k ∈ ks, k.1 ≤ 5000 := fun k hk => by
            have : k.1 ≤ (ks.map (·.1)).sum := mem_le_sum (List.mem_map.mpr ⟨k, hk, rfl⟩)
            omega
          obtain ⟨b, hb1, hb2⟩ := ih ((rest ++ ks).map (·.1)).sum (by rw [List.map_append, List.sum_append]; omega) (rest ++ ks) false (Nat.le_refl _) (by rw [List.map_append, List.sum_append]; omega) (fun k hk => by
            rcases List.mem_append.mp hk with z | z
            · exact hokr k z
            · exact ⟨(facts.1 k z).1, kle k z, (facts.1 k z).2⟩) (fun h => by cases h)
          refine ⟨b, fun μ σ lw o0 o1 o3 o4 hl E g => ?_, fun μ σ l o0 o1 o4 o5 o6 o7 o8 o9 hl E g => ?_⟩
          · obtain ⟨_, _, j3⟩ := j_step hv hw hm hm2 hrl (!top) g o0 o1 o3 o4
            rw [Bool.not_not] at j3
            obtain ⟨_, _, ρ', ⟨p0, p1, p3, p4, rfl⟩, e2⟩ := j3 ks hver
            have el : rest.map (mkW (!top)) ++ ks.map (mkW true) = (rest ++ ks).map (mkW (!false)) := by
              cases top with
              | true => rw [hrest rfl]; rfl
              | false => rw [List.map_append]; rfl
            rw [el] at e2
            obtain ⟨σ', e3, e4⟩ := hb1 μ (σ.set lw (.lst ((rest ++ ks).map (mkW (!false))))) lw p0 p1 p3 p4 hl (E.set hl _) (List.getElem?_set_self (get_lt g))
            exact ⟨σ', e3, seq_wh (tj σ lw o0 o1 o3 o4 g) e2 e4⟩
          · obtain ⟨_, _, j3⟩ := l_step hv hw hm hm2 hrl top g o0 o1 o4 o5 o6 o7 o8 o9
            obtain ⟨σ2, l', p4, p5, p6, p7, p8, p9, e1, e2, e3⟩ := j3 ks hver
            obtain ⟨E2, l2⟩ := e1 μ hl E
            obtain ⟨σ', e4, e5⟩ := hb2 μ σ2 l' o0 o1 p4 p5 p6 p7 p8 p9 l2 E2 e2
            exact ⟨σ', e4, seq_wh (tl σ l o0 o1 o4 o5 o6 o7 o8 o9 g) e3 e5⟩
theorem judge_ok {n : Nat} (h : 2 ≤ n) (hn : n ≤ 5000) {v : PV} {w d : Nat} (hv : tre w v d = true) (hw : w ≤ 60) : ∃ b : Bool, ∀ μ : Sto, p_jp [.int n, v] μ = some (.bl b, μ) ∧ p_lip [.int n, v] μ = some (.bl b, μ) := by
  obtain ⟨b, hb1, hb2⟩ := judges hw n [(n, v)] true (by simp) hn (fun k hk => by rw [List.mem_singleton.mp hk]; exact ⟨h, hn, d, hv⟩) (fun _ => rfl)
  refine ⟨b, fun μ => ⟨?_, ?_⟩⟩
  · obtain ⟨σ', ⟨g, rfl⟩, e⟩ := hb1 μ (μ ++ [.lst ([(n, v)].map (mkW (!true)))]) μ.length (some (.int n)) (some v) none none (Nat.le_refl _) ((Ex.refl μ).app _) get_end
    refine runZ_v (ρ := [some (.int n), some v, none, none, none]) (g := g) rfl ?_ (fun l => by intro z; cases z) rfl
    rw [jB_eq]
    exact ev_seq (ev_set (ev_dLoc (ev_aCons (ev_dTup (ev_aCons (ev_var rfl) (ev_aCons (ev_var rfl) (ev_aCons ev_K ev_aNil))) (len_le (by show 3 ≤ 1000; decide))) ev_aNil) (len_le (by show 1 ≤ 1000; decide))) rfl) e
  · obtain ⟨σ', ⟨g, rfl⟩, e⟩ := hb2 μ (μ ++ [.lst ([(n, v)].map mkR)]) μ.length (some (.int n)) (some v) none none none none none none (Nat.le_refl _) ((Ex.refl μ).app _) get_end
    refine runZ_v (ρ := [some (.int n), some v, none, none, none, none, none, none, none, none]) (g := g) rfl ?_ (fun l => by intro z; cases z) rfl
    rw [lB_eq]
    exact ev_seq (ev_par (ev_aCons (ev_dLoc (ev_aCons (ev_dTup (ev_aCons (ev_var rfl) (ev_aCons (ev_var rfl) ev_aNil)) (len_le (by show 2 ≤ 1000; decide))) ev_aNil) (len_le (by show 1 ≤ 1000; decide))) (ev_aCons ev_K ev_aNil)) rfl) e
end K11

/-! K11l: the law. -/
namespace K11
open PySem PySem.Spec PyProof.Rows L2 Fd Nm
noncomputable def p_st : Fn := runF 2 d__law_start
noncomputable def p_al40 : Fn := pAlike 40
noncomputable def p_bt (pt : Fn) : Fn := runF 4 (dBent pt (pSpoilt pt 28))
noncomputable def La0 (pt : Fn) : DenS := (sAsg (dCall 1 p_st (aCons (cVar 0) aNil)) (gNm 1))
noncomputable def La1_0 (pt : Fn) : DenS := (sAsg (d2 f_ix (dLst (aCons (d2 f_add (cK (.int 1)) (dCall 2 pt (aCons (cVar 1) (aCons (cK (.int 400)) aNil)))) (aCons (d2 f_add (cK (.int 1)) (dCall 2 pt (aCons (cVar 1) (aCons (cK (.int 5000)) aNil)))) (aCons (d2 f_ix (dLst (aCons (cK (.int 2)) (aCons (cK (.int 3)) (aCons (cK (.int 4)) (aCons (cK (.int 257)) (aCons (cK (.int 641)) (aCons (cK (.int 1009)) (aCons (cK (.int 4999)) (aCons (cK (.int 4913)) (aCons (cK (.int 4096)) aNil)))))))))) (dCall 2 pt (aCons (cVar 1) (aCons (cK (.int 9)) aNil)))) aNil)))) (dCall 2 pt (aCons (cVar 1) (aCons (cK (.int 3)) aNil)))) (gNm 3))
noncomputable def La1_1 (pt : Fn) : DenS := (sAsg (dCall 1 p_lprs (aCons (cVar 3) aNil)) (gNm 4))
noncomputable def La1_2 (pt : Fn) : DenS := (sIf (tOr' (tNo (tTru (dCall 2 p_al40 (aCons (dCall 1 p_pof (aCons (cVar 3) aNil)) (aCons (dN f_tuple (aCons (cVar 4) aNil)) aNil))))) (tB1 (d2 f_ne (dCall 1 p_isp (aCons (cVar 3) aNil)) (dCall 1 p_lisp (aCons (cVar 3) aNil))))) (sRet (cK (.bl false))) sNil)
noncomputable def La1_3 (pt : Fn) : DenS := (sIf (tNo (tTru (dCall 2 p_al40 (aCons (dCall 1 p_dof (aCons (cVar 3) aNil)) (aCons (dN f_tuple (aCons (dLc [8] (itRg2 (aCons (cK (.int 1)) (aCons (d2 f_add (cVar 3) (cK (.int 1))) aNil))) (gNm 8) (tB1 (d2 f_eq (d2 f_mod (cVar 3) (cVar 8)) (cK (.int 0)))) (cVar 8)) aNil)) aNil))))) (sRet (cK (.bl false))) sNil)
noncomputable def La1_4 (pt : Fn) : DenS := (sIf (tB1 (d2 f_ne (dCall 1 p_uof (aCons (cVar 3) aNil)) (dN f_len (aCons (dLc [10] (itRg1 (aCons (cVar 3) aNil)) (gNm 10) (tB1 (d2 f_eq (dCall 2 p_gcd (aCons (cVar 10) (aCons (cVar 3) aNil))) (cK (.int 1)))) (cVar 10)) aNil)))) (sRet (cK (.bl false))) sNil)
noncomputable def Sd0 (pt : Fn) : DenS := (sAsg (dCall 3 (p_bt pt) (aCons (cVar 1) (aCons (cVar 5) (aCons (cVar 6) aNil)))) (gNm 7))
noncomputable def Sd1 (pt : Fn) : DenS := (sIf (tAn (tB1 (d2 f_eq (cVar 6) (cK (.int 4)))) (tB1 (d2 f_eq (d2 f_ix (cVar 5) (cK (.int 0))) (cK (.str (Str.ofString "prime")))))) (sAsg (dTup (aCons (cK (.str (Str.ofString "prime"))) (aCons (d2 f_ix (cVar 5) (cK (.int 1))) (aCons (dSl (d2 f_ix (cVar 5) (cK (.int 2))) oNo (oSo (d1 f_neg (cK (.int 1))))) aNil)))) (gNm 7)) sNil)
noncomputable def Sd2 (pt : Fn) : DenS := (sIf (tAn (tB1 (d2 f_eq (cVar 6) (cK (.int 5)))) (tB1 (d2 f_eq (d2 f_ix (cVar 5) (cK (.int 0))) (cK (.str (Str.ofString "prime")))))) (sAsg (dTup (aCons (cK (.str (Str.ofString "prime"))) (aCons (dIf (tB1 (d2 f_gt (cVar 3) (cK (.int 2)))) (d2 f_add (cK (.int 1)) (dCall 2 pt (aCons (cVar 1) (aCons (d2 f_sub (cVar 3) (cK (.int 1))) aNil)))) (cK (.int 1))) (aCons (d2 f_ix (cVar 5) (cK (.int 2))) aNil)))) (gNm 7)) sNil)
noncomputable def Sd3 (pt : Fn) : DenS := (sIf (tB1 (d2 f_eq (cVar 6) (cK (.int 6)))) (sSeq (sAsg (d2 f_add (cK (.int 1)) (dCall 2 pt (aCons (cVar 1) (aCons (cK (.int 9)) aNil)))) (gNm 8)) (sAsg (dTup (aCons (cK (.str (Str.ofString "factors"))) (aCons (cVar 8) (aCons (d2 f_fdiv (cVar 3) (cVar 8)) aNil)))) (gNm 7))) sNil)
noncomputable def Sd4 (pt : Fn) : DenS := (sAsg (dCall 2 p_jp (aCons (cVar 3) (aCons (cVar 7) aNil))) (gNm 9))
noncomputable def Sd5 (pt : Fn) : DenS := (sIf (tOr' (tNo (tTru (d1 (f_isi .bool) (cVar 9)))) (tB1 (d2 f_ne (cVar 9) (dCall 2 p_lip (aCons (cVar 3) (aCons (cVar 7) aNil)))))) (sRet (cK (.bl false))) sNil)
noncomputable def SdB (pt : Fn) : DenS := (sSeq (Sd0 pt) (sSeq (Sd1 pt) (sSeq (Sd2 pt) (sSeq (Sd3 pt) (sSeq (Sd4 pt) (Sd5 pt))))))
noncomputable def La1_5 (pt : Fn) : DenS := (sIf (tB1 (d2 f_gt (cVar 3) (cK (.int 1)))) (sSeq (sAsg (dCall 1 (pPP 9) (aCons (cVar 3) aNil)) (gNm 5)) (sSeq (sIf (tNo (tTru (dCall 2 p_al40 (aCons (cVar 5) (aCons (dCall 1 p_lpp (aCons (cVar 3) aNil)) aNil))))) (sRet (cK (.bl false))) sNil) (sFor (itRg1 (aCons (cK (.int 7)) aNil)) (gNm 6) (SdB pt)))) sNil)
noncomputable def Bla1 (pt : Fn) : DenS := (sSeq (La1_0 pt) (sSeq (La1_1 pt) (sSeq (La1_2 pt) (sSeq (La1_3 pt) (sSeq (La1_4 pt) (La1_5 pt))))))
noncomputable def La1 (pt : Fn) : DenS := sFor (itRg1 (aCons (cK (.int 3)) aNil)) (gNm 2) (Bla1 pt)
noncomputable def La2 (pt : Fn) : DenS := (sRet (cK (.bl true)))
noncomputable def LL (pt : Fn) : DenS := (sSeq (La0 pt) (sSeq (La1 pt) (La2 pt)))
theorem LL_eq (pt : Fn) : d_law p_st pt p_lprs p_al40 p_pof p_isp p_lisp p_dof p_uof p_gcd (pPP 9) p_lpp (p_bt pt) p_jp p_lip = LL pt := rfl

theorem al40 {x : PV} {μ : Sto} (h : plain x 39 = true) : p_al40 [x, x] μ = some (.bl true, μ) := alike_refl 39 x μ h
/-! ### what the papers are like -/
theorem plain_tup {d : Nat} {xs : List PV} (hl : xs.length ≤ 900) (h : ∀ x ∈ xs, plain x d = true) : plain (.tup xs) (d + 1) = true := by
  show (decide (xs.length ≤ 900) && plains xs d) = true
  rw [Bool.and_eq_true, decide_eq_true_eq]
  exact ⟨hl, plains_iff.mpr h⟩
mutual
theorem plain_deep : ∀ (x : PV) (d e : Nat), d ≤ e → plain x d = true → plain x e = true
  | .non, _, _, _, _ => rfl
  | .int _, _, _, _, _ => rfl
  | .str _, _, _, _, _ => rfl
  | .tup xs, 0, _, _, q => nomatch q
  | .tup xs, d + 1, 0, h, _ => absurd h (by omega)
  | .tup xs, d + 1, e + 1, h, q => by
    have q : (decide (xs.length ≤ 900) && plains xs d) = true := q
    show (decide (xs.length ≤ 900) && plains xs e) = true
    rw [Bool.and_eq_true] at q ⊢
    exact ⟨q.1, plains_deep xs d e (by omega) q.2⟩
  | .bl _, _, _, _, q => nomatch q
  | .lst _, _, _, _, q => nomatch q
  | .loc _, _, _, _, q => nomatch q
  | .scr _, _, _, _, q => nomatch q
theorem plains_deep : ∀ (xs : List PV) (d e : Nat), d ≤ e → plains xs d = true → plains xs e = true
  | [], _, _, _, _ => rfl
  | x :: xs, d, e, h, q => by
    have q : (plain x d && plains xs d) = true := q
    show (plain x e && plains xs e) = true
    rw [Bool.and_eq_true] at q ⊢
    exact ⟨plain_deep x d e h q.1, plains_deep xs d e h q.2⟩
end
theorem small_int {k : Nat} (h : k < 2 ^ 58) (w d : Nat) : tre w (nI k) d = true := decide_eq_true (by omega)
theorem str_tre (s : Str) (h : PyData.strOk s = true) (w d : Nat) : tre w (.str s) d = true := h
theorem okP : PyData.strOk (Str.ofString "prime") = true := by decide +kernel
theorem okF : PyData.strOk (Str.ofString "factors") = true := by decide +kernel
theorem prF_like : ∀ (k n : Nat), lev k n = true → IsP n → n ≤ 5000 → plain (prF n n) (3 * k) = true ∧ tre 12 (prF n n) (3 * k) = true
  | 0, n, h, _, _ => by cases h
  | k + 1, n, h, hp, hn => by
    have n2 := hp.1
    have hl : ∀ q ∈ pfl (n - 1), lev k q.1 = true := List.all_eq_true.mp h
    have ll : (pfl (n - 1)).length ≤ 12 := by
      have := pfl_len (n := n - 1) (B := 13) (by omega) (by omega)
      omega
    obtain ⟨l1, l2, _, _⟩ := lroot_ok hn hp
    have sub : ∀ q ∈ pfl (n - 1), plain (prF q.1 q.1) (3 * k) = true ∧ tre 12 (prF q.1 q.1) (3 * k) = true := fun q hq => by
      have := pfl_lt (n := n - 1) (by omega) q hq
      exact prF_like k q.1 (hl q hq) this.2.2.1 (by omega)
    have q5 : ∀ q ∈ pfl (n - 1), q.1 < 2 ^ 58 := fun q hq => by
      have := pfl_lt (n := n - 1) (by omega) q hq; omega
    rw [prF_step n2, show 3 * (k + 1) = 3 * k + 2 + 1 by omega]
    constructor
    · refine plain_tup (by show 3 ≤ 900; decide) fun x hx => ?_
      simp only [List.mem_cons, List.not_mem_nil, or_false] at hx
      rcases hx with rfl | rfl | rfl
      · rfl
      · rfl
      · refine plain_tup (by rw [List.length_map]; omega) fun y hy => ?_
        obtain ⟨q, hq, rfl⟩ := List.mem_map.mp hy
        refine plain_tup (by show 2 ≤ 900; decide) fun z hz => ?_
        simp only [List.mem_cons, List.not_mem_nil, or_false] at hz
        rcases hz with rfl | rfl
        · rfl
        · exact (sub q hq).1
    · refine tre_tup.mpr ⟨by show 3 ≤ 12; decide, fun x hx => ?_⟩
      simp only [List.mem_cons, List.not_mem_nil, or_false] at hx
      rcases hx with rfl | rfl | rfl
      · exact okP
      · exact small_int (by omega) _ _
      · refine tre_tup.mpr ⟨by rw [List.length_map]; exact ll, fun y hy => ?_⟩
        obtain ⟨q, hq, rfl⟩ := List.mem_map.mp hy
        refine tre_tup.mpr ⟨by show 2 ≤ 12; decide, fun z hz => ?_⟩
        simp only [List.mem_cons, List.not_mem_nil, or_false] at hz
        rcases hz with rfl | rfl
        · exact small_int (q5 q hq) _ _
        · exact (sub q hq).2
/-- the shape of the right paper -/
theorem PPv_like {n : Nat} (h : 2 ≤ n) (hn : n ≤ 5000) : plain (PPv n) 39 = true ∧ tre 12 (PPv n) 27 = true ∧ ((∃ (a : Nat) (rows : List PV), a < 2 ^ 58 ∧ PPv n = .tup [sPrime, nI a, .tup rows]) ∨ (∃ p q : Nat, PPv n = .tup [sFactors, nI p, nI q])) := by
  by_cases hp : IsP n
  · have e : PPv n = prF n n := by
      unfold PPv
      rw [if_pos ((isPr_iff (by omega)).mpr hp)]
    obtain ⟨a, b⟩ := prF_like 9 n (chk_ok hn hp).2 hp hn
    obtain ⟨l1, l2, _, _⟩ := lroot_ok hn hp
    rw [e]
    exact ⟨plain_deep _ _ _ (by decide) a, b, .inl ⟨lroot n, _, by omega, prF_step h⟩⟩
  · have np : ¬ isPr n = true := fun z => hp ((isPr_iff (by omega)).mp z)
    obtain ⟨p, e, L, e0, h1, h2, h3, h4, h5⟩ := pfl_head h
    have lt := h5 hp
    have eq : PPv n = .tup [sFactors, nI p, nI (n / p)] := by
      unfold PPv
      rw [if_neg np, e0]; rfl
    have hq : n / p ≤ n := Nat.div_le_self _ _
    rw [eq]
    refine ⟨rfl, tre_tup.mpr ⟨by show 3 ≤ 12; decide, fun x hx => ?_⟩, .inr ⟨p, n / p, rfl⟩⟩
    simp only [List.mem_cons, List.not_mem_nil, or_false] at hx
    rcases hx with rfl | rfl | rfl
    · exact okF
    · exact small_int (by omega) _ _
    · exact small_int (by generalize n / p = z at *; omega) _ _
theorem pqs_plain (L : List (Nat × Nat)) (h : L.length ≤ 900) : plain (.tup (L.map pq)) 39 = true :=
  plain_tup (by rw [List.length_map]; exact h) fun x hx => by
    obtain ⟨q, _, rfl⟩ := List.mem_map.mp hx
    exact plain_tup (by show 2 ≤ 900; decide) fun y hy => by
      simp only [List.mem_cons, List.not_mem_nil, or_false] at hy
      rcases hy with rfl | rfl <;> rfl
theorem divL_len {n : Nat} (h : 0 < n) (hn : n ≤ 5000) : (divL n).length ≤ 900 := by
  have e := congrArg List.length (dvs_srt h)
  rw [(srtI_perm _).length_eq, List.length_map, List.length_map] at e
  rw [← e]
  exact few hn
theorem nIs_plain (L : List Nat) (h : L.length ≤ 900) : plain (.tup (L.map nI)) 39 = true :=
  plain_tup (by rw [List.length_map]; exact h) fun x hx => by
    obtain ⟨q, _, rfl⟩ := List.mem_map.mp hx
    rfl
end K11

/-! K11m: the law's turns. -/
namespace K11
open PySem PySem.Spec PyProof.Rows L2 Fd Nm
abbrev gE (sc : PV) (o2 o3 o4 o5 o6 o7 o8 o9 o10 : Option PV) : En := [some sc, some (.loc 0), o2, o3, o4, o5, o6, o7, o8, o9, o10]
theorem n_ok {pt : Fn} (ht : TakeOk pt) (sc : PV) (s : Dr) (m : Nat) (hs : s.Ok (m + 4)) (o2 o3 o4 o5 o6 o7 o8 o9 o10 : Option PV) : ∃ (n : Nat) (s' : Dr), 1 ≤ n ∧ n ≤ 5000 ∧ s'.Ok m ∧
    La1_0 pt (gE sc o2 o3 o4 o5 o6 o7 o8 o9 o10) [s.ob] = some (.nx (gE sc o2 (some (nI n)) o4 o5 o6 o7 o8 o9 o10) [s'.ob]) := by
  obtain ⟨k1, s1, a1, b1, c1, e1⟩ := take0 ht (r := []) 400 (hs.le (show m + 3 + 1 ≤ m + 4 by omega)) (by decide) (by decide)
  obtain ⟨k2, s2, a2, b2, c2, e2⟩ := take0 ht (r := []) 5000 c1 (by decide) (by decide)
  obtain ⟨k3, s3, a3, b3, c3, e3⟩ := take0 ht (r := []) 9 c2 (by decide) (by decide)
  obtain ⟨k4, s4, a4, b4, c4, e4⟩ := take0 ht (r := []) 3 c3 (by decide) (by decide)
  obtain ⟨y, hy, ey⟩ := atI_some (xs := [PV.int 2, .int 3, .int 4, .int 257, .int 641, .int 1009, .int 4999, .int 4913, .int 4096]) a3 b3
  obtain ⟨j, rfl, j1, j2⟩ : ∃ j : Int, y = .int j ∧ 1 ≤ j ∧ j ≤ 5000 := by
    simp only [List.mem_cons, List.not_mem_nil, or_false] at hy
    rcases hy with rfl | rfl | rfl | rfl | rfl | rfl | rfl | rfl | rfl <;> exact ⟨_, rfl, by decide, by decide⟩
  obtain ⟨z, hz, ez⟩ := atI_some (xs := [PV.int (1 + k1), .int (1 + k2), .int j]) a4 b4
  obtain ⟨i, rfl, i1, i2⟩ : ∃ i : Int, z = .int i ∧ 1 ≤ i ∧ i ≤ 5000 := by
    simp only [List.mem_cons, List.not_mem_nil, or_false] at hz
    rcases hz with rfl | rfl | rfl
    · exact ⟨_, rfl, by omega, by omega⟩
    · exact ⟨_, rfl, by omega, by omega⟩
    · exact ⟨_, rfl, j1, j2⟩
  obtain ⟨n, rfl⟩ := Int.eq_ofNat_of_zero_le (show 0 ≤ i by omega)
  refine ⟨n, s4, by omega, by omega, c4, ?_⟩
  unfold La1_0
  refine ev_set (ev_d2 (x := .lst [PV.int (1 + k1), .int (1 + k2), .int j]) (μ1 := [s3.ob]) (ev_dLst (ev_aCons (ev_d2 ev_K (ev_dCall (ev_aCons (ev_var rfl) (ev_aCons ev_K ev_aNil)) e1 rfl) add_ii) (ev_aCons (ev_d2 ev_K (ev_dCall (ev_aCons (ev_var rfl) (ev_aCons ev_K ev_aNil)) e2 rfl) add_ii) (ev_aCons (ev_d2 (x := .lst [PV.int 2, .int 3, .int 4, .int 257, .int 641, .int 1009, .int 4999, .int 4913, .int 4096]) (μ1 := [s2.ob]) rfl (ev_dCall (ev_aCons (ev_var rfl) (ev_aCons ev_K ev_aNil)) e3 rfl) (ix_lst ey)) ev_aNil))) (len_le (by show 3 ≤ 1000; decide))) (ev_dCall (ev_aCons (ev_var rfl) (ev_aCons ev_K ev_aNil)) e4 rfl) (ix_lst ez)) rfl
/-- one bent paper -/
theorem side_ok {pt : Fn} (ht : TakeOk pt) (sc : PV) {n : Nat} (h : 2 ≤ n) (hn : n ≤ 5000) (t : Int) (s : Dr) (m : Nat) (hs : s.Ok (m + 200)) (o2 o4 o7 o8 o9 o10 : Option PV) : ∃ (o7' o8' o9' : Option PV) (s' : Dr), s'.Ok m ∧
    SdB pt (gE sc o2 (some (nI n)) o4 (some (PPv n)) (some (.int t)) o7 o8 o9 o10) [s.ob] = some (.nx (gE sc o2 (some (nI n)) o4 (some (PPv n)) (some (.int t)) o7' o8' o9' o10) [s'.ob]) := by
  obtain ⟨_, tP, sh⟩ := PPv_like h hn
  obtain ⟨v0, s1, tv0, ok1, e0⟩ := bent_ok ht 27 12 (m + 50) (PPv n) s [s.ob] 0 t tP (by decide) (hs.le (by omega)) rfl
  have tv0 : tre 54 v0 27 = true := tv0
  have st0 : Sd0 pt (gE sc o2 (some (nI n)) o4 (some (PPv n)) (some (.int t)) o7 o8 o9 o10) [s.ob] = some (.nx (gE sc o2 (some (nI n)) o4 (some (PPv n)) (some (.int t)) (some v0) o8 o9 o10) [s1.ob]) := by
    unfold Sd0
    exact ev_set (ev_dCall (ev_aCons (ev_var rfl) (ev_aCons (ev_var rfl) (ev_aCons (ev_var rfl) ev_aNil))) e0 rfl) rfl
  -- the right paper's word
  have word : ∀ (μ : Sto) (p7 p8 p9 : Option PV), tB1 (d2 f_eq (d2 f_ix (cVar 5) (cK (.int 0))) (cK (.str (Str.ofString "prime")))) (gE sc o2 (some (nI n)) o4 (some (PPv n)) (some (.int t)) p7 p8 p9 o10) μ = some ((match PPv n with | .tup [.str x, _, .tup _] => decide (x = SP) | _ => false), μ) := fun μ p7 p8 p9 => by
    rcases sh with ⟨a, rows, ha, e⟩ | ⟨p, q, e⟩
    · rw [e]
      exact ev_tB (ev_d2 (ev_d2 (ev_var rfl) ev_K rfl) ev_K str_eq)
    · rw [e]
      refine ev_tB (ev_d2 (ev_d2 (ev_var rfl) ev_K rfl) ev_K ?_)
      rw [str_eq]
      show some (PV.bl (decide (SF = SP)), μ) = some (PV.bl false, μ)
      rw [decide_eq_false SF_SP]
  -- behind the fifth
  obtain ⟨v1, tv1, st1⟩ : ∃ v1 : PV, tre 54 v1 28 = true ∧ Sd1 pt (gE sc o2 (some (nI n)) o4 (some (PPv n)) (some (.int t)) (some v0) o8 o9 o10) [s1.ob] = some (.nx (gE sc o2 (some (nI n)) o4 (some (PPv n)) (some (.int t)) (some v1) o8 o9 o10) [s1.ob]) := by
    have keep : tAn (tB1 (d2 f_eq (cVar 6) (cK (.int 4)))) (tB1 (d2 f_eq (d2 f_ix (cVar 5) (cK (.int 0))) (cK (.str (Str.ofString "prime"))))) (gE sc o2 (some (nI n)) o4 (some (PPv n)) (some (.int t)) (some v0) o8 o9 o10) [s1.ob] = some (false, [s1.ob]) → ∃ v1 : PV, tre 54 v1 28 = true ∧ Sd1 pt (gE sc o2 (some (nI n)) o4 (some (PPv n)) (some (.int t)) (some v0) o8 o9 o10) [s1.ob] = some (.nx (gE sc o2 (some (nI n)) o4 (some (PPv n)) (some (.int t)) (some v1) o8 o9 o10) [s1.ob]) := fun hc => by
      refine ⟨v0, tre_deep _ _ _ (by decide) tv0, ?_⟩
      unfold Sd1
      exact ev_sIf_f hc ev_sNil
    have w := word [s1.ob] (some v0) o8 o9
    rcases sh with ⟨a, rows, ha, e⟩ | ⟨p, q, e⟩
    · by_cases h4 : t = 4
      · rw [e] at w tP
        have hr : tre 12 (.tup rows) 26 = true := (tre_tup.mp tP).2 _ (by simp)
        refine ⟨.tup [sPrime, nI a, .tup (cutP rows none (some (-1)))], ?_, ?_⟩
        · refine tre_tup.mpr ⟨by show 3 ≤ 54; decide, fun x hx => ?_⟩
          simp only [List.mem_cons, List.not_mem_nil, or_false] at hx
          rcases hx with rfl | rfl | rfl
          · exact okP
          · exact small_int ha _ _
          · exact tre_mono (by decide) _ _ (tre_deep _ _ _ (by decide) (tre_cut hr))
        · rw [e]
          unfold Sd1
          refine ev_sIf_t (ev_tAn_t (ev_tB (ev_d2 (ev_var rfl) ev_K (eq_ii (decide_eq_true h4)))) (by rw [w]; show some (decide (SP = SP), _) = _; rw [decide_eq_true rfl])) ?_
          exact ev_set (ev_dTup (ev_aCons ev_K (ev_aCons (ev_d2 (ev_var rfl) ev_K rfl) (ev_aCons (ev_sl (ev_d2 (x := .tup [sPrime, nI a, .tup rows]) (ev_var rfl) ev_K rfl) ev_oNo (ev_oSo (ev_d1 ev_K rfl)) sl_t) ev_aNil))) (len_le (by show 3 ≤ 1000; decide))) rfl
      · exact keep (ev_tAn_f (ev_tB (ev_d2 (ev_var rfl) ev_K (eq_ii (decide_eq_false h4)))))
    · by_cases h4 : t = 4
      · refine keep (ev_tAn_t (ev_tB (ev_d2 (ev_var rfl) ev_K (eq_ii (decide_eq_true h4)))) ?_)
        rw [w, e]
        rfl
      · exact keep (ev_tAn_f (ev_tB (ev_d2 (ev_var rfl) ev_K (eq_ii (decide_eq_false h4)))))
  -- behind the sixth
  obtain ⟨v2, s2, tv2, ok2, st2⟩ : ∃ (v2 : PV) (s2 : Dr), tre 54 v2 28 = true ∧ s2.Ok (m + 49) ∧ Sd2 pt (gE sc o2 (some (nI n)) o4 (some (PPv n)) (some (.int t)) (some v1) o8 o9 o10) [s1.ob] = some (.nx (gE sc o2 (some (nI n)) o4 (some (PPv n)) (some (.int t)) (some v2) o8 o9 o10) [s2.ob]) := by
    have keep : tAn (tB1 (d2 f_eq (cVar 6) (cK (.int 5)))) (tB1 (d2 f_eq (d2 f_ix (cVar 5) (cK (.int 0))) (cK (.str (Str.ofString "prime"))))) (gE sc o2 (some (nI n)) o4 (some (PPv n)) (some (.int t)) (some v1) o8 o9 o10) [s1.ob] = some (false, [s1.ob]) → ∃ (v2 : PV) (s2 : Dr), tre 54 v2 28 = true ∧ s2.Ok (m + 49) ∧ Sd2 pt (gE sc o2 (some (nI n)) o4 (some (PPv n)) (some (.int t)) (some v1) o8 o9 o10) [s1.ob] = some (.nx (gE sc o2 (some (nI n)) o4 (some (PPv n)) (some (.int t)) (some v2) o8 o9 o10) [s2.ob]) := fun hc => by
      refine ⟨v1, s1, tv1, ok1.le (by omega), ?_⟩
      unfold Sd2
      exact ev_sIf_f hc ev_sNil
    have w := word [s1.ob] (some v1) o8 o9
    rcases sh with ⟨a, rows, ha, e⟩ | ⟨p, q, e⟩
    · by_cases h5 : t = 5
      · rw [e] at w tP
        have hr : tre 12 (.tup rows) 26 = true := (tre_tup.mp tP).2 _ (by simp)
        have hr' : tre 54 (.tup rows) 27 = true := tre_mono (by decide) _ _ (tre_deep _ _ _ (by decide) hr)
        obtain ⟨x, s2, hx0, hx1, ok2, dx⟩ : ∃ (x : Int) (s2 : Dr), 1 ≤ x ∧ x ≤ 5000 ∧ s2.Ok (m + 49) ∧ dIf (tB1 (d2 f_gt (cVar 3) (cK (.int 2)))) (d2 f_add (cK (.int 1)) (dCall 2 pt (aCons (cVar 1) (aCons (d2 f_sub (cVar 3) (cK (.int 1))) aNil)))) (cK (.int 1)) (gE sc o2 (some (nI n)) o4 (some (.tup [sPrime, nI a, .tup rows])) (some (.int t)) (some v1) o8 o9 o10) [s1.ob] = some (.int x, [s2.ob]) := by
          by_cases h2 : 2 < n
          · obtain ⟨k, s2, k0, k1, c2, e2⟩ := take0 ht (r := []) ((n : Int) - 1) (ok1.le (show m + 49 + 1 ≤ m + 50 by omega)) (by omega) (by omega)
            exact ⟨1 + k, s2, by omega, by omega, c2, ev_if_t (ev_tB (ev_d2 (ev_var rfl) ev_K (gt_ii (decide_eq_true (by omega))))) (ev_d2 ev_K (ev_dCall (ev_aCons (ev_var rfl) (ev_aCons (ev_d2 (ev_var rfl) ev_K sub_ii) ev_aNil)) e2 rfl) add_ii)⟩
          · exact ⟨1, s1, by decide, by decide, ok1.le (by omega), ev_if_f (ev_tB (ev_d2 (ev_var rfl) ev_K (gt_ii (decide_eq_false (by omega))))) ev_K⟩
        refine ⟨.tup [sPrime, .int x, .tup rows], s2, ?_, ok2, ?_⟩
        · refine tre_tup.mpr ⟨by show 3 ≤ 54; decide, fun y hy => ?_⟩
          simp only [List.mem_cons, List.not_mem_nil, or_false] at hy
          rcases hy with rfl | rfl | rfl
          · exact okP
          · exact decide_eq_true (by omega)
          · exact hr'
        · rw [e]
          unfold Sd2
          refine ev_sIf_t (ev_tAn_t (ev_tB (ev_d2 (ev_var rfl) ev_K (eq_ii (decide_eq_true h5)))) (by rw [w]; show some (decide (SP = SP), _) = _; rw [decide_eq_true rfl])) ?_
          exact ev_set (ev_dTup (ev_aCons ev_K (ev_aCons dx (ev_aCons (ev_d2 (x := .tup [sPrime, nI a, .tup rows]) (ev_var rfl) ev_K rfl) ev_aNil))) (len_le (by show 3 ≤ 1000; decide))) rfl
      · exact keep (ev_tAn_f (ev_tB (ev_d2 (ev_var rfl) ev_K (eq_ii (decide_eq_false h5)))))
    · by_cases h5 : t = 5
      · refine keep (ev_tAn_t (ev_tB (ev_d2 (ev_var rfl) ev_K (eq_ii (decide_eq_true h5)))) ?_)
        rw [w, e]
        rfl
      · exact keep (ev_tAn_f (ev_tB (ev_d2 (ev_var rfl) ev_K (eq_ii (decide_eq_false h5)))))
  -- behind the seventh
  obtain ⟨v3, o8', s3, tv3, ok3, st3⟩ : ∃ (v3 : PV) (o8' : Option PV) (s3 : Dr), tre 54 v3 28 = true ∧ s3.Ok m ∧ Sd3 pt (gE sc o2 (some (nI n)) o4 (some (PPv n)) (some (.int t)) (some v2) o8 o9 o10) [s2.ob] = some (.nx (gE sc o2 (some (nI n)) o4 (some (PPv n)) (some (.int t)) (some v3) o8' o9 o10) [s3.ob]) := by
    by_cases h6 : t = 6
    · obtain ⟨k, s3, k0, k1, c3, e3⟩ := take0 ht (r := []) 9 (ok2.le (show m + 48 + 1 ≤ m + 49 by omega)) (by decide) (by decide)
      have d : f_fdiv (nI n) (.int (1 + k)) [s3.ob] = some (.int ((n : Int) / (1 + k)), [s3.ob]) := fdiv_ii (by omega) (by omega)
      have q0 : 0 ≤ (n : Int) / (1 + k) := Int.ediv_nonneg (by omega) (by omega)
      have q1 : (n : Int) / (1 + k) ≤ n := Int.ediv_le_self _ (by omega)
      refine ⟨.tup [sFactors, .int (1 + k), .int ((n : Int) / (1 + k))], some (.int (1 + k)), s3, ?_, c3.le (by omega), ?_⟩
      · refine tre_tup.mpr ⟨by show 3 ≤ 54; decide, fun y hy => ?_⟩
        generalize (n : Int) / (1 + k) = z at *
        simp only [List.mem_cons, List.not_mem_nil, or_false] at hy
        rcases hy with rfl | rfl | rfl
        · exact okF
        · exact decide_eq_true (by omega)
        · exact decide_eq_true (by omega)
      · unfold Sd3
        refine ev_sIf_t (ev_tB (ev_d2 (ev_var rfl) ev_K (eq_ii (decide_eq_true h6)))) ?_
        exact ev_seq (ev_set (ev_d2 ev_K (ev_dCall (ev_aCons (ev_var rfl) (ev_aCons ev_K ev_aNil)) e3 rfl) add_ii) rfl) (ev_set (ev_dTup (ev_aCons ev_K (ev_aCons (ev_var rfl) (ev_aCons (ev_d2 (ev_var rfl) (ev_var rfl) d) ev_aNil))) (len_le (by show 3 ≤ 1000; decide))) rfl)
    · refine ⟨v2, o8, s2, tv2, ok2.le (by omega), ?_⟩
      unfold Sd3
      exact ev_sIf_f (ev_tB (ev_d2 (ev_var rfl) ev_K (eq_ii (decide_eq_false h6)))) ev_sNil
  obtain ⟨b, hb⟩ := judge_ok h hn tv3 (by decide)
  obtain ⟨j1, j2⟩ := hb [s3.ob]
  refine ⟨some v3, o8', some (.bl b), s3, ok3, ?_⟩
  unfold SdB
  refine ev_seq st0 (ev_seq st1 (ev_seq st2 (ev_seq st3 (ev_seq (ρ' := gE sc o2 (some (nI n)) o4 (some (PPv n)) (some (.int t)) (some v3) o8' (some (.bl b)) o10) (μ' := [s3.ob]) ?_ ?_))))
  · unfold Sd4
    exact ev_set (ev_dCall (ev_aCons (ev_var rfl) (ev_aCons (ev_var rfl) ev_aNil)) j1 rfl) rfl
  · unfold Sd5
    exact told_bool rfl (ev_dCall (ev_aCons (ev_var rfl) (ev_aCons (ev_var rfl) ev_aNil)) j2 rfl)
theorem sides_ok {pt : Fn} (ht : TakeOk pt) (sc : PV) {n : Nat} (h : 2 ≤ n) (hn : n ≤ 5000) (o2 o4 o10 : Option PV) : ∀ (c : Nat) (t : Int) (s : Dr) (m : Nat) (hs : s.Ok (m + 200 * c)) (o6 o7 o8 o9 : Option PV), ∃ (o6' o7' o8' o9' : Option PV) (s' : Dr), s'.Ok m ∧
    forL (gNm 6) (SdB pt) [] (rgP t c) (gE sc o2 (some (nI n)) o4 (some (PPv n)) o6 o7 o8 o9 o10) [s.ob] = some (.nx (gE sc o2 (some (nI n)) o4 (some (PPv n)) o6' o7' o8' o9' o10) [s'.ob])
  | 0, t, s, m, hs, o6, o7, o8, o9 => ⟨o6, o7, o8, o9, s, hs.le (by omega), for_nil⟩
  | c + 1, t, s, m, hs, o6, o7, o8, o9 => by
    obtain ⟨p7, p8, p9, s1, ok1, e1⟩ := side_ok ht sc h hn t s (m + 200 * c) (hs.le (by omega)) o2 o4 o7 o8 o9 o10
    obtain ⟨q6, q7, q8, q9, s2, ok2, e2⟩ := sides_ok ht sc h hn o2 o4 o10 c (t + 1) s1 m ok1 (some (.int t)) p7 p8 p9
    exact ⟨q6, q7, q8, q9, s2, ok2, for_step rfl e1 chk_nil e2⟩
end K11

/-! K11n: the law keeps. -/
namespace K11
open PySem PySem.Spec PyProof.Rows L2 Fd Nm
theorem no_if {ρ : En} {μ μ' : Sto} {t : DenT} {a : DenS} (h : t ρ μ = some (false, μ')) : sIf t a sNil ρ μ = some (.nx ρ μ') := ev_sIf_f h ev_sNil
theorem two_ok {pt : Fn} (sc : PV) {n : Nat} (h : 1 ≤ n) (hn : n ≤ 5000) (μ : Sto) (o2 o5 o6 o7 o8 o9 o10 : Option PV) :
    La1_2 pt (gE sc o2 (some (nI n)) (some (.lst ((pfl n).map pq))) o5 o6 o7 o8 o9 o10) μ = some (.nx (gE sc o2 (some (nI n)) (some (.lst ((pfl n).map pq))) o5 o6 o7 o8 o9 o10) μ) := by
  have ll : (pfl n).length ≤ 900 := by
    have := pfl_len (n := n) (B := 13) (by omega) (by omega)
    omega
  obtain ⟨a, b⟩ := isp_ok (n := n) (by omega) (by omega) μ
  have tup : f_tuple [.lst ((pfl n).map pq)] μ = some (.tup ((pfl n).map pq), μ) := rfl
  unfold La1_2
  refine no_if (ev_tOr_f (μ1 := μ) (ev_tNo (b := true) (ev_tTru (x := .bl true) (ev_dCall (ev_aCons (ev_dCall (ev_aCons (ev_var rfl) ev_aNil) (pof_ok (by omega) (by omega) μ) rfl) (ev_aCons (ev_dN (ev_aCons (ev_var rfl) ev_aNil) tup) ev_aNil)) (al40 (pqs_plain _ ll)) rfl) rfl) rfl) ?_)
  exact ev_tB (ev_d2 (ev_dCall (ev_aCons (ev_var rfl) ev_aNil) a rfl) (ev_dCall (ev_aCons (ev_var rfl) ev_aNil) b rfl) ne_bb)
theorem three_ok {pt : Fn} (sc : PV) {n : Nat} (h : 1 ≤ n) (hn : n ≤ 5000) (μ : Sto) (o2 o4 o5 o6 o7 o8 o9 o10 : Option PV) :
    La1_3 pt (gE sc o2 (some (nI n)) o4 o5 o6 o7 o8 o9 o10) μ = some (.nx (gE sc o2 (some (nI n)) o4 o5 o6 o7 o8 o9 o10) μ) := by
  have comp : dLc [8] (itRg2 (aCons (cK (.int 1)) (aCons (d2 f_add (cVar 3) (cK (.int 1))) aNil))) (gNm 8) (tB1 (d2 f_eq (d2 f_mod (cVar 3) (cVar 8)) (cK (.int 0)))) (cVar 8) (gE sc o2 (some (nI n)) o4 o5 o6 o7 o8 o9 o10) μ = some (.lst ((divL n).map nI), μ) := by
    refine ev_lc (xs := (List.range n).map (fun i : Nat => PV.int ((i + 1 : Nat) : Int))) (ch := []) (μ1 := μ) (ρ' := gE sc o2 (some (nI n)) o4 o5 o6 o7 none o9 o10) ?_ rfl ?_
    · rw [← rgP_range1]
      exact it_rg2 (i := 1) (j := (n : Int) + 1) rfl (by decide) (rgIn_of (by omega) (by omega)) (by omega)
    · rw [lc_map (fun i : Nat => PV.int ((i + 1 : Nat) : Int)) (fun i => decide (n % (i + 1) = 0)) (fun i => nI (i + 1)) (List.range n) [] chk_nil (lt20 (b := n) (by rw [List.length_range]; show 0 + _ ≤ _; omega) (by omega)) ?_]
      · rw [List.nil_append]
        unfold divL
        rw [List.filter_map, List.map_map]
        rfl
      · intro i hi
        have m := mod_nn (n := n) (p := i + 1) (by omega) μ
        refine ⟨_, rfl, ev_tB (ev_d2 (ev_d2 (ev_var rfl) (ev_var rfl) m) ev_K (eq_ii ?_)), fun _ => ev_var rfl⟩
        apply decide_eq_decide.mpr; omega
  have tup : f_tuple [.lst ((divL n).map nI)] μ = some (.tup ((divL n).map nI), μ) := rfl
  unfold La1_3
  exact no_if (ev_tNo (b := true) (ev_tTru (x := .bl true) (ev_dCall (ev_aCons (ev_dCall (ev_aCons (ev_var rfl) ev_aNil) (dof_ok (by omega) (by omega) μ) rfl) (ev_aCons (ev_dN (ev_aCons comp ev_aNil) tup) ev_aNil)) (al40 (nIs_plain _ (divL_len (by omega) hn))) rfl) rfl) rfl)
theorem four_ok {pt : Fn} (sc : PV) {n : Nat} (h : 1 ≤ n) (hn : n ≤ 5000) (μ : Sto) (o2 o4 o5 o6 o7 o8 o9 o10 : Option PV) :
    La1_4 pt (gE sc o2 (some (nI n)) o4 o5 o6 o7 o8 o9 o10) μ = some (.nx (gE sc o2 (some (nI n)) o4 o5 o6 o7 o8 o9 o10) μ) := by
  have comp : dLc [10] (itRg1 (aCons (cVar 3) aNil)) (gNm 10) (tB1 (d2 f_eq (dCall 2 p_gcd (aCons (cVar 10) (aCons (cVar 3) aNil))) (cK (.int 1)))) (cVar 10) (gE sc o2 (some (nI n)) o4 o5 o6 o7 o8 o9 o10) μ = some (.lst (((List.range n).filter fun k => decide (Nat.gcd k n = 1)).map nI), μ) := by
    refine ev_lc (xs := (List.range n).map (fun i : Nat => PV.int i)) (ch := []) (μ1 := μ) (ρ' := gE sc o2 (some (nI n)) o4 o5 o6 o7 o8 o9 none) ?_ rfl ?_
    · rw [← rgP_range]
      exact it_rg1 (j := n) rfl (rgIn_of (by omega) (by omega)) (by omega)
    · rw [lc_map (fun i : Nat => PV.int i) (fun k => decide (Nat.gcd k n = 1)) nI (List.range n) [] chk_nil (lt20 (b := n) (by rw [List.length_range]; show 0 + _ ≤ _; omega) (by omega)) ?_]
      · rw [List.nil_append]
      · intro i hi
        have g := gcd_ok (i : Int) (n : Int) μ
        refine ⟨_, rfl, ev_tB (ev_d2 (ev_dCall (ev_aCons (ev_var rfl) (ev_aCons (ev_var rfl) ev_aNil)) g rfl) ev_K (eq_ii ?_)), fun _ => ev_var rfl⟩
        apply decide_eq_decide.mpr
        show ((Nat.gcd i n : Nat) : Int) = 1 ↔ _
        omega
  unfold La1_4
  refine no_if (ev_tB (ev_d2 (ev_dCall (ev_aCons (ev_var rfl) ev_aNil) (uof_ok (by omega) (by omega) μ) rfl) (ev_dN (ev_aCons comp ev_aNil) lenL) (ne_ii (ne_f ?_))))
  rw [List.length_map, units_count (by omega)]
theorem five_ok {pt : Fn} (ht : TakeOk pt) (sc : PV) {n : Nat} (h : 1 ≤ n) (hn : n ≤ 5000) (s : Dr) (m : Nat) (hs : s.Ok (m + 1400)) (o2 o4 o5 o6 o7 o8 o9 o10 : Option PV) : ∃ (o5' o6' o7' o8' o9' o10' : Option PV) (s' : Dr), s'.Ok m ∧
    La1_5 pt (gE sc o2 (some (nI n)) o4 o5 o6 o7 o8 o9 o10) [s.ob] = some (.nx (gE sc o2 (some (nI n)) o4 o5' o6' o7' o8' o9' o10') [s'.ob]) := by
  unfold La1_5
  by_cases h2 : 2 ≤ n
  · obtain ⟨q6, q7, q8, q9, s', ok', e'⟩ := sides_ok ht sc h2 hn o2 o4 o10 7 0 s m (hs.le (by omega)) o6 o7 o8 o9
    refine ⟨some (PPv n), q6, q7, q8, q9, o10, s', ok', ?_⟩
    refine ev_sIf_t (ev_tB (ev_d2 (ev_var rfl) ev_K (gt_ii (decide_eq_true (by omega))))) ?_
    refine ev_seq (ρ' := gE sc o2 (some (nI n)) o4 (some (PPv n)) o6 o7 o8 o9 o10) (μ' := [s.ob]) (ev_set (ev_dCall (ev_aCons (ev_var rfl) ev_aNil) (PP_ok h2 hn [s.ob]) rfl) rfl) ?_
    refine ev_seq (no_if (ev_tNo (b := true) (ev_tTru (x := .bl true) (ev_dCall (ev_aCons (ev_var rfl) (ev_aCons (ev_dCall (ev_aCons (ev_var rfl) ev_aNil) (lpp_ok h2 hn [s.ob]) rfl) ev_aNil)) (al40 (PPv_like h2 hn).1) rfl) rfl) rfl)) ?_
    exact ev_for (it_rg1 (j := 7) (n := 7) rfl (by decide) rfl) e'
  · exact ⟨o5, o6, o7, o8, o9, o10, s, hs.le (by omega), no_if (ev_tB (ev_d2 (ev_var rfl) ev_K (gt_ii (decide_eq_false (by omega)))))⟩
theorem turn_ok {pt : Fn} (ht : TakeOk pt) (sc : PV) (s : Dr) (m : Nat) (hs : s.Ok (m + 1404)) (o2 o3 o4 o5 o6 o7 o8 o9 o10 : Option PV) : ∃ (o3' o4' o5' o6' o7' o8' o9' o10' : Option PV) (s' : Dr), s'.Ok m ∧
    Bla1 pt (gE sc o2 o3 o4 o5 o6 o7 o8 o9 o10) [s.ob] = some (.nx (gE sc o2 o3' o4' o5' o6' o7' o8' o9' o10') [s'.ob]) := by
  obtain ⟨n, s1, h, hn, ok1, e1⟩ := n_ok ht sc s (m + 1400) (hs.le (by omega)) o2 o3 o4 o5 o6 o7 o8 o9 o10
  obtain ⟨q5, q6, q7, q8, q9, q10, s2, ok2, e2⟩ := five_ok ht sc h hn s1 m ok1 o2 (some (.lst ((pfl n).map pq))) o5 o6 o7 o8 o9 o10
  refine ⟨some (nI n), some (.lst ((pfl n).map pq)), q5, q6, q7, q8, q9, q10, s2, ok2, ?_⟩
  unfold Bla1
  refine ev_seq e1 (ev_seq (ρ' := gE sc o2 (some (nI n)) (some (.lst ((pfl n).map pq))) o5 o6 o7 o8 o9 o10) (μ' := [s1.ob]) ?_ (ev_seq (two_ok sc h hn _ o2 o5 o6 o7 o8 o9 o10) (ev_seq (three_ok sc h hn _ o2 _ o5 o6 o7 o8 o9 o10) (ev_seq (four_ok sc h hn _ o2 _ o5 o6 o7 o8 o9 o10) e2))))
  unfold La1_1
  exact ev_set (ev_dCall (ev_aCons (ev_var rfl) ev_aNil) (lprs_ok (by omega) (by omega) _) rfl) rfl
theorem turns_ok {pt : Fn} (ht : TakeOk pt) (sc : PV) : ∀ (c : Nat) (t : Int) (s : Dr) (m : Nat) (hs : s.Ok (m + 1404 * c)) (o2 o3 o4 o5 o6 o7 o8 o9 o10 : Option PV), ∃ (o2' o3' o4' o5' o6' o7' o8' o9' o10' : Option PV) (s' : Dr), s'.Ok m ∧
    forL (gNm 2) (Bla1 pt) [] (rgP t c) (gE sc o2 o3 o4 o5 o6 o7 o8 o9 o10) [s.ob] = some (.nx (gE sc o2' o3' o4' o5' o6' o7' o8' o9' o10') [s'.ob])
  | 0, t, s, m, hs, o2, o3, o4, o5, o6, o7, o8, o9, o10 => ⟨o2, o3, o4, o5, o6, o7, o8, o9, o10, s, hs.le (by omega), for_nil⟩
  | c + 1, t, s, m, hs, o2, o3, o4, o5, o6, o7, o8, o9, o10 => by
    obtain ⟨p3, p4, p5, p6, p7, p8, p9, p10, s1, ok1, e1⟩ := turn_ok ht sc s (m + 1404 * c) (hs.le (by omega)) (some (.int t)) o3 o4 o5 o6 o7 o8 o9 o10
    obtain ⟨q2, q3, q4, q5, q6, q7, q8, q9, q10, s2, ok2, e2⟩ := turns_ok ht sc c (t + 1) s1 m ok1 (some (.int t)) p3 p4 p5 p6 p7 p8 p9 p10
    exact ⟨q2, q3, q4, q5, q6, q7, q8, q9, q10, s2, ok2, for_step rfl e1 chk_nil e2⟩
theorem law_ok {pt : Fn} (ht : TakeOk pt) {ns : List Int} (hn : ns.length ≤ 63) : ∃ μ, LL pt [some (.scr ns), none, none, none, none, none, none, none, none, none, none] [] = some (.rt (.bl true) μ) := by
  obtain ⟨s, ok, e0⟩ := start_ok (μ := []) hn
  obtain ⟨p2, p3, p4, p5, p6, p7, p8, p9, p10, s1, ok1, e1⟩ := turns_ok ht (.scr ns) 3 0 s 1000 (ok.le (by decide)) none none none none none none none none none
  refine ⟨[s1.ob], ?_⟩
  unfold LL
  apply ev_seq (ρ' := gE (.scr ns) none none none none none none none none none) (μ' := [s.ob])
  case ha =>
    unfold La0
    exact ev_set (ev_dCall (ev_aCons (ev_var rfl) ev_aNil) e0 rfl) rfl
  apply ev_seq (ρ' := gE (.scr ns) p2 p3 p4 p5 p6 p7 p8 p9 p10) (μ' := [s1.ob])
  case ha =>
    unfold La1
    exact ev_for (it_rg1 (j := 3) (n := 3) rfl (by decide) rfl) e1
  unfold La2
  exact ev_ret ev_K
end K11

/-! K11y: the head's run. -/
namespace K11
open PySem PySem.Spec PyProof.Rows L2
def D0 : He.DefD := ⟨("_law_start", none), "_law_start", "_law_start", defArgs s__law_start, defBody s__law_start, defScope s__law_start, [], []⟩
def D1 : He.DefD := ⟨("_law_fill", none), "_law_fill", "_law_fill", defArgs s__law_fill, defBody s__law_fill, defScope s__law_fill, [], []⟩
def D2 : He.DefD := ⟨("_law_take", none), "_law_take", "_law_take", defArgs s__law_take, defBody s__law_take, defScope s__law_take, [], []⟩
def D3 : He.DefD := ⟨("_law_primes", none), "_law_primes", "_law_primes", defArgs s__law_primes, defBody s__law_primes, defScope s__law_primes, [], []⟩
def D4 : He.DefD := ⟨("_law_alike", none), "_law_alike", "_law_alike", defArgs s__law_alike, defBody s__law_alike, defScope s__law_alike, [], []⟩
def D5 : He.DefD := ⟨("parts_of", none), "parts_of", "parts_of", defArgs s_parts_of, defBody s_parts_of, defScope s_parts_of, [], []⟩
def D6 : He.DefD := ⟨("is_prime", none), "is_prime", "is_prime", defArgs s_is_prime, defBody s_is_prime, defScope s_is_prime, [], []⟩
def D7 : He.DefD := ⟨("_law_is_prime", none), "_law_is_prime", "_law_is_prime", defArgs s__law_is_prime, defBody s__law_is_prime, defScope s__law_is_prime, [], []⟩
def D8 : He.DefD := ⟨("divisors_of", none), "divisors_of", "divisors_of", defArgs s_divisors_of, defBody s_divisors_of, defScope s_divisors_of, [], []⟩
def D9 : He.DefD := ⟨("units_of", none), "units_of", "units_of", defArgs s_units_of, defBody s_units_of, defScope s_units_of, [], []⟩
def D10 : He.DefD := ⟨("_law_gcd", none), "_law_gcd", "_law_gcd", defArgs s__law_gcd, defBody s__law_gcd, defScope s__law_gcd, [], []⟩
def D11 : He.DefD := ⟨("power", none), "power", "power", defArgs s_power, defBody s_power, defScope s_power, [], []⟩
def D12 : He.DefD := ⟨("is_root", none), "is_root", "is_root", defArgs s_is_root, defBody s_is_root, defScope s_is_root, [], []⟩
def D13 : He.DefD := ⟨("prime_paper", none), "prime_paper", "prime_paper", defArgs s_prime_paper, defBody s_prime_paper, defScope s_prime_paper, [], []⟩
def D14 : He.DefD := ⟨("_law_power", none), "_law_power", "_law_power", defArgs s__law_power, defBody s__law_power, defScope s__law_power, [], []⟩
def D15 : He.DefD := ⟨("_law_fits", none), "_law_fits", "_law_fits", defArgs s__law_fits, defBody s__law_fits, defScope s__law_fits, [], []⟩
def D16 : He.DefD := ⟨("_law_paper", none), "_law_paper", "_law_paper", defArgs s__law_paper, defBody s__law_paper, defScope s__law_paper, [], []⟩
def D17 : He.DefD := ⟨("_law_spoilt", none), "_law_spoilt", "_law_spoilt", defArgs s__law_spoilt, defBody s__law_spoilt, defScope s__law_spoilt, [], []⟩
def D18 : He.DefD := ⟨("_law_bent", none), "_law_bent", "_law_bent", defArgs s__law_bent, defBody s__law_bent, defScope s__law_bent, [], []⟩
def D19 : He.DefD := ⟨("is_integer", none), "is_integer", "is_integer", defArgs s_is_integer, defBody s_is_integer, defScope s_is_integer, [], []⟩
def D20 : He.DefD := ⟨("are_parts", none), "are_parts", "are_parts", defArgs s_are_parts, defBody s_are_parts, defScope s_are_parts, [], []⟩
def D21 : He.DefD := ⟨("judge_prime", none), "judge_prime", "judge_prime", defArgs s_judge_prime, defBody s_judge_prime, defScope s_judge_prime, [], []⟩
def D22 : He.DefD := ⟨("_law_is_int", none), "_law_is_int", "_law_is_int", defArgs s__law_is_int, defBody s__law_is_int, defScope s__law_is_int, [], []⟩
def D23 : He.DefD := ⟨("_law_is_paper", none), "_law_is_paper", "_law_is_paper", defArgs s__law_is_paper, defBody s__law_is_paper, defScope s__law_is_paper, [], []⟩
def D24 : He.DefD := ⟨("law", none), "law", "law", defArgs s_law, defBody s_law, defScope s_law, [], []⟩
def fn : List He.DefD := [D0, D1, D2, D3, D4, D5, D6, D7, D8, D9, D10, D11, D12, D13, D14, D15, D16, D17, D18, D19, D20, D21, D22, D23, D24]
def fa : List He.Fa := [.glo "_law_start", .glo "_law_fill", .glo "_law_take", .glo "_law_primes", .glo "_law_alike", .glo "parts_of", .glo "is_prime", .glo "_law_is_prime", .glo "divisors_of", .glo "units_of", .glo "_law_gcd", .glo "power", .glo "is_root", .glo "prime_paper", .glo "_law_power", .glo "_law_fits", .glo "_law_paper", .glo "_law_spoilt", .glo "_law_bent", .glo "is_integer", .glo "are_parts", .glo "judge_prime", .glo "_law_is_int", .glo "_law_is_paper", .glo "law", .free "abs", .free "all", .free "any", .free "bool", .free "int", .free "isinstance", .free "len", .free "list", .free "range", .free "set", .free "sorted", .free "str", .free "tuple", .free "zip"]
def loose : List PySem.Str := (["is_integer", "power", "is_prime", "parts_of", "divisors_of", "units_of", "is_root", "prime_paper", "judge_prime", "are_parts", "_law_start", "_law_fill", "_law_take", "_law_is_int", "_law_alike", "_law_spoilt", "_law_bent", "_law_gcd", "_law_power", "_law_primes"] : List PySem.Str) ++ (["_law_is_prime", "_law_fits", "_law_paper", "_law_is_paper"] : List PySem.Str)
abbrev R : PySem.W.OpenRow := PySem.W.OpenLaw.row PySem.Challenge.rw_primeworth_k11_papers_of_primes
abbrev hk : PySem.W.Hook := He.hookD 4 fa fn
def ob (s : PySem.W.SharedT) : He.AlD := He.obsDG 4 fa fn (HandSHeadRun.getT s)
theorem ob_eq (s : PySem.W.SharedT) : ob s = hk.obs s.abs := He.obsDG_eq (HandSHeadRun.getT_eq s)
theorem run (w : World) : HandSHeadRun.RunEq R (PySem.W.view R.prog [27]) hk ob 4000 loose w := by
  intro os
  kernel_rfl
end K11

/-! K11z: the joining. -/
namespace K11
open PySem PySem.Spec PyProof.Rows L2 Fd
noncomputable def p_fill : Fn := runF 2 d__law_fill
noncomputable def p_take : Fn := runF 3 (d__law_take p_fill)
theorem p_take_ok : TakeOk p_take := by first | exact takeOk fillOk1 | exact takeOk fillOk2
noncomputable def p_law : Fn := runF 11 (LL p_take)
theorem p_law_ok (ns : List Int) (hn : ns.length ≤ 63) : ∃ μ', p_law [.scr ns] [] = some (.bl true, μ') := by
  obtain ⟨μ, e⟩ := law_ok p_take_ok hn
  exact ⟨μ, runF_rt rfl e⟩
theorem facts {P : Program} {w : World} {K : PySem.W.Frag} {h : Heap} {mg : Str → Option Value} {f : Addr} (X : K.In h) (G : h.Ns mainGlobals mg) (hfa : mg ("law" : Str) = some (.ref f)) (c : He.SaysD fa fn K) :
    ∃ fd : FuncData, (∀ (s : Shared) (v : Value), BindsTo s fd ⟨[v], []⟩ [("script", v)]) ∧ ∀ base : Heap, K.In base → base.Ns mainGlobals mg → FnOk P w K mg base CX0 100 f fd ["script"] (spLaw K) := by
  obtain ⟨fd__law_start, F__law_start⟩ := c.def_ 0 (d := D0) rfl
  have g__law_start := He.glo_ok X G (c.fact 0 (f := .glo "_law_start") rfl)
  have F__law_start := fun_of (x := "_law_start") (qual := "_law_start") (st := s__law_start) F__law_start
  obtain ⟨fd__law_fill, F__law_fill⟩ := c.def_ 1 (d := D1) rfl
  have g__law_fill := He.glo_ok X G (c.fact 1 (f := .glo "_law_fill") rfl)
  have F__law_fill := fun_of (x := "_law_fill") (qual := "_law_fill") (st := s__law_fill) F__law_fill
  obtain ⟨fd__law_take, F__law_take⟩ := c.def_ 2 (d := D2) rfl
  have g__law_take := He.glo_ok X G (c.fact 2 (f := .glo "_law_take") rfl)
  have F__law_take := fun_of (x := "_law_take") (qual := "_law_take") (st := s__law_take) F__law_take
  obtain ⟨fd__law_primes, F__law_primes⟩ := c.def_ 3 (d := D3) rfl
  have g__law_primes := He.glo_ok X G (c.fact 3 (f := .glo "_law_primes") rfl)
  have F__law_primes := fun_of (x := "_law_primes") (qual := "_law_primes") (st := s__law_primes) F__law_primes
  obtain ⟨fd__law_alike, F__law_alike⟩ := c.def_ 4 (d := D4) rfl
  have g__law_alike := He.glo_ok X G (c.fact 4 (f := .glo "_law_alike") rfl)
  have F__law_alike := fun_of (x := "_law_alike") (qual := "_law_alike") (st := s__law_alike) F__law_alike
  obtain ⟨fd_parts_of, F_parts_of⟩ := c.def_ 5 (d := D5) rfl
  have g_parts_of := He.glo_ok X G (c.fact 5 (f := .glo "parts_of") rfl)
  have F_parts_of := fun_of (x := "parts_of") (qual := "parts_of") (st := s_parts_of) F_parts_of
  obtain ⟨fd_is_prime, F_is_prime⟩ := c.def_ 6 (d := D6) rfl
  have g_is_prime := He.glo_ok X G (c.fact 6 (f := .glo "is_prime") rfl)
  have F_is_prime := fun_of (x := "is_prime") (qual := "is_prime") (st := s_is_prime) F_is_prime
  obtain ⟨fd__law_is_prime, F__law_is_prime⟩ := c.def_ 7 (d := D7) rfl
  have g__law_is_prime := He.glo_ok X G (c.fact 7 (f := .glo "_law_is_prime") rfl)
  have F__law_is_prime := fun_of (x := "_law_is_prime") (qual := "_law_is_prime") (st := s__law_is_prime) F__law_is_prime
  obtain ⟨fd_divisors_of, F_divisors_of⟩ := c.def_ 8 (d := D8) rfl
  have g_divisors_of := He.glo_ok X G (c.fact 8 (f := .glo "divisors_of") rfl)
  have F_divisors_of := fun_of (x := "divisors_of") (qual := "divisors_of") (st := s_divisors_of) F_divisors_of
  obtain ⟨fd_units_of, F_units_of⟩ := c.def_ 9 (d := D9) rfl
  have g_units_of := He.glo_ok X G (c.fact 9 (f := .glo "units_of") rfl)
  have F_units_of := fun_of (x := "units_of") (qual := "units_of") (st := s_units_of) F_units_of
  obtain ⟨fd__law_gcd, F__law_gcd⟩ := c.def_ 10 (d := D10) rfl
  have g__law_gcd := He.glo_ok X G (c.fact 10 (f := .glo "_law_gcd") rfl)
  have F__law_gcd := fun_of (x := "_law_gcd") (qual := "_law_gcd") (st := s__law_gcd) F__law_gcd
  obtain ⟨fd_power, F_power⟩ := c.def_ 11 (d := D11) rfl
  have g_power := He.glo_ok X G (c.fact 11 (f := .glo "power") rfl)
  have F_power := fun_of (x := "power") (qual := "power") (st := s_power) F_power
  obtain ⟨fd_is_root, F_is_root⟩ := c.def_ 12 (d := D12) rfl
  have g_is_root := He.glo_ok X G (c.fact 12 (f := .glo "is_root") rfl)
  have F_is_root := fun_of (x := "is_root") (qual := "is_root") (st := s_is_root) F_is_root
  obtain ⟨fd_prime_paper, F_prime_paper⟩ := c.def_ 13 (d := D13) rfl
  have g_prime_paper := He.glo_ok X G (c.fact 13 (f := .glo "prime_paper") rfl)
  have F_prime_paper := fun_of (x := "prime_paper") (qual := "prime_paper") (st := s_prime_paper) F_prime_paper
  obtain ⟨fd__law_power, F__law_power⟩ := c.def_ 14 (d := D14) rfl
  have g__law_power := He.glo_ok X G (c.fact 14 (f := .glo "_law_power") rfl)
  have F__law_power := fun_of (x := "_law_power") (qual := "_law_power") (st := s__law_power) F__law_power
  obtain ⟨fd__law_fits, F__law_fits⟩ := c.def_ 15 (d := D15) rfl
  have g__law_fits := He.glo_ok X G (c.fact 15 (f := .glo "_law_fits") rfl)
  have F__law_fits := fun_of (x := "_law_fits") (qual := "_law_fits") (st := s__law_fits) F__law_fits
  obtain ⟨fd__law_paper, F__law_paper⟩ := c.def_ 16 (d := D16) rfl
  have g__law_paper := He.glo_ok X G (c.fact 16 (f := .glo "_law_paper") rfl)
  have F__law_paper := fun_of (x := "_law_paper") (qual := "_law_paper") (st := s__law_paper) F__law_paper
  obtain ⟨fd__law_spoilt, F__law_spoilt⟩ := c.def_ 17 (d := D17) rfl
  have g__law_spoilt := He.glo_ok X G (c.fact 17 (f := .glo "_law_spoilt") rfl)
  have F__law_spoilt := fun_of (x := "_law_spoilt") (qual := "_law_spoilt") (st := s__law_spoilt) F__law_spoilt
  obtain ⟨fd__law_bent, F__law_bent⟩ := c.def_ 18 (d := D18) rfl
  have g__law_bent := He.glo_ok X G (c.fact 18 (f := .glo "_law_bent") rfl)
  have F__law_bent := fun_of (x := "_law_bent") (qual := "_law_bent") (st := s__law_bent) F__law_bent
  obtain ⟨fd_is_integer, F_is_integer⟩ := c.def_ 19 (d := D19) rfl
  have g_is_integer := He.glo_ok X G (c.fact 19 (f := .glo "is_integer") rfl)
  have F_is_integer := fun_of (x := "is_integer") (qual := "is_integer") (st := s_is_integer) F_is_integer
  obtain ⟨fd_are_parts, F_are_parts⟩ := c.def_ 20 (d := D20) rfl
  have g_are_parts := He.glo_ok X G (c.fact 20 (f := .glo "are_parts") rfl)
  have F_are_parts := fun_of (x := "are_parts") (qual := "are_parts") (st := s_are_parts) F_are_parts
  obtain ⟨fd_judge_prime, F_judge_prime⟩ := c.def_ 21 (d := D21) rfl
  have g_judge_prime := He.glo_ok X G (c.fact 21 (f := .glo "judge_prime") rfl)
  have F_judge_prime := fun_of (x := "judge_prime") (qual := "judge_prime") (st := s_judge_prime) F_judge_prime
  obtain ⟨fd__law_is_int, F__law_is_int⟩ := c.def_ 22 (d := D22) rfl
  have g__law_is_int := He.glo_ok X G (c.fact 22 (f := .glo "_law_is_int") rfl)
  have F__law_is_int := fun_of (x := "_law_is_int") (qual := "_law_is_int") (st := s__law_is_int) F__law_is_int
  obtain ⟨fd__law_is_paper, F__law_is_paper⟩ := c.def_ 23 (d := D23) rfl
  have g__law_is_paper := He.glo_ok X G (c.fact 23 (f := .glo "_law_is_paper") rfl)
  have F__law_is_paper := fun_of (x := "_law_is_paper") (qual := "_law_is_paper") (st := s__law_is_paper) F__law_is_paper
  obtain ⟨fd_law, F_law⟩ := c.def_ 24 (d := D24) rfl
  have g_law := He.glo_ok X G (c.fact 24 (f := .glo "law") rfl)
  have F0_law := F_law
  have F_law := fun_of (x := "law") (qual := "law") (st := s_law) F_law
  have m : MG mg := ⟨He.free_ok X G (c.fact 25 (f := .free "abs") rfl), He.free_ok X G (c.fact 26 (f := .free "all") rfl), He.free_ok X G (c.fact 27 (f := .free "any") rfl), He.free_ok X G (c.fact 28 (f := .free "bool") rfl), He.free_ok X G (c.fact 29 (f := .free "int") rfl), He.free_ok X G (c.fact 30 (f := .free "isinstance") rfl), He.free_ok X G (c.fact 31 (f := .free "len") rfl), He.free_ok X G (c.fact 32 (f := .free "list") rfl), He.free_ok X G (c.fact 33 (f := .free "range") rfl), He.free_ok X G (c.fact 34 (f := .free "set") rfl), He.free_ok X G (c.fact 35 (f := .free "sorted") rfl), He.free_ok X G (c.fact 36 (f := .free "str") rfl), He.free_ok X G (c.fact 37 (f := .free "tuple") rfl), He.free_ok X G (c.fact 38 (f := .free "zip") rfl)⟩
  have e := hfa.symm.trans g_law
  cases e
  have hb := FunD.bindsA (ps := ["script"]) F0_law fun _ _ _ _ _ _ us hl => match us, hl with | [_], _ => rfl
  refine ⟨fd_law, fun s v => hb s [v] rfl, fun base _ _ => ?_⟩
  have c__law_start : Callee P w K mg base 1 "_law_start" 1 p_st := w__law_start (j := 0) m  F__law_start g__law_start runF_does
  have c__law_fill : Callee P w K mg base 1 "_law_fill" 1 p_fill := w__law_fill (j := 0) m  F__law_fill g__law_fill runF_does
  have c__law_take : Callee P w K mg base 2 "_law_take" 2 p_take := w__law_take (j := 1) m (c__law_fill.mono (by decide)) F__law_take g__law_take runF_does
  have c__law_primes : Callee P w K mg base 1 "_law_primes" 1 p_lprs := w__law_primes (j := 0) m  F__law_primes g__law_primes runZ_does
  have r__law_alike : ∀ k : Nat, Callee P w K mg base (k + 0) "_law_alike" 2 (pAlike k) := fun k => by
    induction k with
    | zero => exact (callee_bot (ps := ["value", "due"]) g__law_alike F__law_alike.kp (F__law_alike.binds fun _ _ _ _ _ _ us hl => match us, hl with | [_, _], _ => rfl) : Callee P w K mg base 0 "_law_alike" 2 _).mono (Nat.zero_le _)
    | succ k ih =>
      have ih : Callee P w K mg base (k + 0) "_law_alike" 2 (pAlike k) := ih
      have q := w__law_alike (j := k + 0) m ih F__law_alike g__law_alike runF_does
      rw [show k + 1 + 0 = k + 0 + 1 by omega]
      exact q
  have c__law_alike := r__law_alike 40
  have c_parts_of : Callee P w K mg base 1 "parts_of" 1 p_pof := w_parts_of (j := 0) m  F_parts_of g_parts_of runZ_does
  have c_is_prime : Callee P w K mg base 2 "is_prime" 1 p_isp := w_is_prime (j := 1) m (c_parts_of.mono (by decide)) F_is_prime g_is_prime runF_does
  have c__law_is_prime : Callee P w K mg base 2 "_law_is_prime" 1 p_lisp := w__law_is_prime (j := 1) m (c__law_primes.mono (by decide)) F__law_is_prime g__law_is_prime runF_does
  have c_divisors_of : Callee P w K mg base 2 "divisors_of" 1 p_dof := w_divisors_of (j := 1) m (c_parts_of.mono (by decide)) F_divisors_of g_divisors_of runZ_does
  have c_units_of : Callee P w K mg base 2 "units_of" 1 p_uof := w_units_of (j := 1) m (c_parts_of.mono (by decide)) F_units_of g_units_of runF_does
  have c__law_gcd : Callee P w K mg base 1 "_law_gcd" 2 p_gcd := w__law_gcd (j := 0) m  F__law_gcd g__law_gcd runF_does
  have c_power : Callee P w K mg base 1 "power" 3 p_pow := w_power (j := 0) m  F_power g_power runF_does
  have c_is_root : Callee P w K mg base 2 "is_root" 3 p_isr := w_is_root (j := 1) m (c_power.mono (by decide)) F_is_root g_is_root runF_does
  have r_prime_paper : ∀ k : Nat, Callee P w K mg base (k + 2) "prime_paper" 1 (pPP k) := fun k => by
    induction k with
    | zero => exact (callee_bot (ps := ["n"]) g_prime_paper F_prime_paper.kp (F_prime_paper.binds fun _ _ _ _ _ _ us hl => match us, hl with | [_], _ => rfl) : Callee P w K mg base 0 "prime_paper" 1 _).mono (Nat.zero_le _)
    | succ k ih =>
      have ih : Callee P w K mg base (k + 2) "prime_paper" 1 (pPP k) := ih
      have q := w_prime_paper (j := k + 2) m (c_parts_of.mono (by omega)) (c_is_root.mono (by omega)) ih F_prime_paper g_prime_paper runF_does
      rw [show k + 1 + 2 = k + 2 + 1 by omega]
      exact q
  have c_prime_paper := r_prime_paper 9
  have c__law_power : Callee P w K mg base 1 "_law_power" 3 p_lpow := w__law_power (j := 0) m  F__law_power g__law_power runF_does
  have c__law_fits : Callee P w K mg base 2 "_law_fits" 2 p_fits := w__law_fits (j := 1) m (c__law_power.mono (by decide)) (c__law_primes.mono (by decide)) F__law_fits g__law_fits runF_does
  have c__law_paper : Callee P w K mg base 3 "_law_paper" 1 p_lpp := w__law_paper (j := 2) m (c__law_primes.mono (by decide)) (c__law_fits.mono (by decide)) F__law_paper g__law_paper runZ_does
  have r__law_spoilt : ∀ k : Nat, Callee P w K mg base (k + 2) "_law_spoilt" 2 (pSpoilt p_take k) := fun k => by
    induction k with
    | zero => exact (callee_bot (ps := ["c", "value"]) g__law_spoilt F__law_spoilt.kp (F__law_spoilt.binds fun _ _ _ _ _ _ us hl => match us, hl with | [_, _], _ => rfl) : Callee P w K mg base 0 "_law_spoilt" 2 _).mono (Nat.zero_le _)
    | succ k ih =>
      have ih : Callee P w K mg base (k + 2) "_law_spoilt" 2 (pSpoilt p_take k) := ih
      have q := w__law_spoilt (j := k + 2) m (c__law_take.mono (by omega)) ih F__law_spoilt g__law_spoilt runF_does
      rw [show k + 1 + 2 = k + 2 + 1 by omega]
      exact q
  have c__law_spoilt := r__law_spoilt 28
  have c__law_bent : Callee P w K mg base 31 "_law_bent" 3 (p_bt p_take) := w__law_bent (j := 30) m (c__law_take.mono (by decide)) (c__law_spoilt.mono (by decide)) F__law_bent g__law_bent runF_does
  have c_is_integer : Callee P w K mg base 1 "is_integer" 1 p_ii := w_is_integer (j := 0) m  F_is_integer g_is_integer runF_does
  have c_are_parts : Callee P w K mg base 2 "are_parts" 2 p_arp := w_are_parts (j := 1) m (c_is_integer.mono (by decide)) F_are_parts g_are_parts runF_does
  have c_judge_prime : Callee P w K mg base 3 "judge_prime" 2 p_jp := w_judge_prime (j := 2) m (c_is_integer.mono (by decide)) (c_are_parts.mono (by decide)) (c_is_root.mono (by decide)) F_judge_prime g_judge_prime runZ_does
  have c__law_is_int : Callee P w K mg base 1 "_law_is_int" 1 p_lii := w__law_is_int (j := 0) m  F__law_is_int g__law_is_int runF_does
  have c__law_is_paper : Callee P w K mg base 2 "_law_is_paper" 2 p_lip := w__law_is_paper (j := 1) m (c__law_is_int.mono (by decide)) (c__law_power.mono (by decide)) F__law_is_paper g__law_is_paper runZ_does
  refine FnOk.imp (fn_ok (j := 99) (ψ := p_law) F_law sc_law (fun _ _ _ _ _ _ hr => b_law m (c__law_start.mono (by decide)) (c__law_take.mono (by decide)) (c__law_primes.mono (by decide)) (c__law_alike.mono (by decide)) (c_parts_of.mono (by decide)) (c_is_prime.mono (by decide)) (c__law_is_prime.mono (by decide)) (c_divisors_of.mono (by decide)) (c_units_of.mono (by decide)) (c__law_gcd.mono (by decide)) (c_prime_paper.mono (by decide)) (c__law_paper.mono (by decide)) (c__law_bent.mono (by decide)) (c_judge_prime.mono (by decide)) (c__law_is_paper.mono (by decide)) hr) ?_) (spLaw_of p_law_ok)
  exact runF_does (n := 11) (k := 1) (d := LL p_take)
end K11
open PySem PySem.W PySem.Calls PyProof.Rows
theorem PySem.Challenge.cw_primeworth_k11_papers_of_primes_holds : PySem.Challenge.rw_primeworth_k11_papers_of_primes.Holds := by
  w_on; o_law
  refine HandSHeadRun.head_any (r := OpenLaw.row PySem.Challenge.rw_primeworth_k11_papers_of_primes) (q := view (OpenLaw.row PySem.Challenge.rw_primeworth_k11_papers_of_primes).prog [27]) (H := K11.hk) (ob := K11.ob) (M := 4000) (loose := K11.loose) (d := HandSHeadRun.topDef (OpenLaw.row PySem.Challenge.rw_primeworth_k11_papers_of_primes).prog 27) (kwd := []) K11.ob_eq
    (by kernel_rfl) (fun s => by kernel_rfl) K11.run (by kernel_rfl) (by kernel_rfl) (by kernel_rfl) (by rfl) (by first | assumption | decide +kernel) (by decide +kernel) ⟨rfl, rfl, rfl, rfl, rfl, by decide +kernel⟩ ?hw ?hc
  case hw => w_witness2
  case hc =>
    refine L2.walk_ofE (l := PySem.Challenge.rw_primeworth_k11_papers_of_primes) (n := 63) (k := 100) (x := "script") (CX := L2.CX0) rfl (by decide) (by kernel_rfl) ⟨rfl, by decide, by decide⟩ ?F (fun _ _ _ _ z => z)
    intro w mg fa h Y G hmg0
    obtain ⟨K, KX, c⟩ := Y
    have hmg : mg ("law" : PySem.Str) = some (.ref fa) := by
      have e : (HandSHeadRun.topDef (OpenLaw.row PySem.Challenge.rw_primeworth_k11_papers_of_primes).prog 27).name = ("law" : PySem.Str) := by kernel_rfl
      rw [← e]
      exact hmg0
    obtain ⟨fd, hb, hF⟩ := K11.facts (P := (PySem.Challenge.rw_primeworth_k11_papers_of_primes).prog) (w := w) KX G hmg c
    exact ⟨K, fd, Fd.spLaw K, KX, hb, fun H a ns hl ho hS => ⟨a, ns, rfl, ho, hS, hl, fun _ => rfl⟩, hF⟩
