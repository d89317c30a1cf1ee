import PyProof.Rows.All
import HandS.ForMost
import HandS.Style
import HandS.Flow
import HandS.Walk
import HandS.IsInst
import HandS.SortInts
import HandS.Wide
import HandS.TupAny
import HandS.RaiseMore
import HandS.Deep
import HandS.Defaults
import HandS.HeadEnd
import PySem.Challenge.RW_primeworth_k10_rests_that_are_joined
import Wide.All
import OpenK.AllK
import Wide.FinOn
import KE.KStateDown
import HandS.Head0
import HandS.Head1
import HandS.Head2
import HandS.HeadHook1
import HandS.HeadHook2
set_option Elab.async false
set_option linter.all false
set_option maxRecDepth 100000
set_option maxHeartbeats 0
set_option autoImplicit false
/-! Fd1: values as trees, a store for what is changed in place, what stands for them in the heap. -/
namespace Fd
open PySem PySem.Spec PyProof.Rows L2

abbrev Frg := PySem.W.Frag

/-- a value: tuples and lists that nobody changes are trees; a list or dict that is changed is a place of the store -/
inductive PV where
  | non | bl (b : Bool) | int (i : Int) | str (x : Str) | tup (xs : List PV) | lst (xs : List PV) | loc (n : Nat) | scr (ns : List Int)
/-- what is changed in place -/
inductive Ob where
  | lst (xs : List PV) | dic (t : Bool) (kvs : List (PV × PV))
abbrev Sto := List Ob
abbrev En := List (Option PV)

/-- where the store's places stand; Z: addresses that no value names (a list that is being made) -/
structure Ad where
  f : Nat → Addr
  Z : Addr → Prop
instance : CoeFun Ad fun _ => Nat → Addr := ⟨Ad.f⟩
def Off (ι : Ad) (n : Nat) (a : Addr) : Prop := (∀ l, l < n → ι l ≠ a) ∧ ¬ ι.Z a
/-- a tuple of the written part -/
def KTup (K : Frg) (a : Addr) (xs : List V) : Prop := ∃ (o : Obj) (its : Array Value) (n : Nat), K.lookup a = some o ∧ o.cls = .type "tuple" ∧ o.data = .seq its n ∧ its.size ≤ sizeLine ∧ Vals xs its.toList
def TupAt (K : Frg) (ι : Ad) (n : Nat) (H : Hp) (a : Addr) (ys : List V) : Prop := (H a = some (.tup ys) ∧ Off ι n a) ∨ KTup K a ys
theorem TupAt.sq {K : Frg} {ι : Ad} {n : Nat} {H : Hp} {a : Addr} {ys : List V} (h : TupAt K ι n H a ys) : SqT K H a ys := by
  rcases h with h | h
  · exact .of h.1
  · exact .inr h
def ScrAt (K : Frg) (ι : Ad) (n : Nat) (H : Hp) (a : Addr) (ys : List V) : Prop := (∃ o, H a = some (.frz o (.lst ys)) ∧ Off ι n a) ∨
  ∃ (o : Obj) (its : Array Value) (n : Nat), K.lookup a = some o ∧ o.cls = .type "list" ∧ o.dict = none ∧ o.data = .seq its n ∧ its.size ≤ sizeLine ∧ Vals ys its.toList
theorem ScrAt.sq {K : Frg} {ι : Ad} {n : Nat} {H : Hp} {a : Addr} {ys : List V} (h : ScrAt K ι n H a ys) : SqL K H a ys := by
  rcases h with ⟨o, h, _⟩ | h
  · exact .inl (.inr ⟨o, h⟩)
  · exact .inr h
mutual
def RepV (K : Frg) (ι : Ad) (n : Nat) (H : Hp) : PV → V → Prop
  | .non, v => v = .non
  | .bl b, v => v = .bl b
  | .int i, v => v = .int i
  | .str x, v => v = .str x
  | .tup xs, v => ∃ a ys, v = .ref a ∧ TupAt K ι n H a ys ∧ RepVs K ι n H xs ys
  | .lst xs, v => ∃ a ys, v = .ref a ∧ (H a = some (.lst ys) ∧ Off ι n a) ∧ RepVs K ι n H xs ys
  | .loc l, v => l < n ∧ v = .ref (ι l)
  | .scr ns, v => ∃ a, v = .ref a ∧ ScrAt K ι n H a (ns.map V.int)
def RepVs (K : Frg) (ι : Ad) (n : Nat) (H : Hp) : List PV → List V → Prop
  | [], ys => ys = []
  | x :: xs, ys => ∃ y r, ys = y :: r ∧ RepV K ι n H x y ∧ RepVs K ι n H xs r
end

/-- the heap has grown: what is tracked stays, but for the store's places -/
structure Ext (ι : Ad) (n : Nat) (H : Hp) (ι' : Ad) (n' : Nat) (H' : Hp) : Prop where
  le : n ≤ n'
  same : ∀ l, l < n → ι' l = ι l
  keep : ∀ b o, H b = some o → (∀ l, l < n → ι l ≠ b) → H' b = some o
  dom : ∀ b, H b ≠ none → H' b ≠ none
  new : ∀ l, n ≤ l → l < n' → H (ι' l) = none
  zup : ∀ a, ι.Z a → ι'.Z a
  zdn : ∀ a, ι'.Z a → ι.Z a ∨ H a = none

theorem Ext.refl {ι : Ad} {n : Nat} {H : Hp} : Ext ι n H ι n H := ⟨Nat.le_refl _, fun _ _ => rfl, fun _ _ h _ => h, fun _ h => h, fun _ h1 h2 => absurd h2 (by omega), fun _ h => h, fun _ h => .inl h⟩

section
variable {K : Frg} {ι ι1 ι2 : Ad} {n n1 n2 : Nat} {H H1 H2 : Hp}
theorem Ext.off1 (e : Ext ι n H ι1 n1 H1) {a : Addr} {o : HO} (h : H a = some o) (g : ∀ l, l < n → ι l ≠ a) : ∀ l, l < n1 → ι1 l ≠ a := fun l hl z => by
  by_cases hn : l < n
  · exact g l hn ((e.same l hn).symm.trans z)
  · have q := e.new l (by omega) hl
    rw [z, h] at q
    cases q
theorem Ext.off (e : Ext ι n H ι1 n1 H1) {a : Addr} {o : HO} (h : H a = some o) (g : Off ι n a) : Off ι1 n1 a := ⟨e.off1 h g.1, fun z => (e.zdn a z).elim g.2 fun q => by rw [h] at q; cases q⟩
theorem Ext.trans (a : Ext ι n H ι1 n1 H1) (b : Ext ι1 n1 H1 ι2 n2 H2) : Ext ι n H ι2 n2 H2 where
  le := Nat.le_trans a.le b.le
  same := fun l hl => (b.same l (Nat.lt_of_lt_of_le hl a.le)).trans (a.same l hl)
  zup := fun c z => b.zup c (a.zup c z)
  zdn := fun c z => (b.zdn c z).elim (a.zdn c) fun q => .inr (by
    cases w : H c with
    | none => rfl
    | some o => exact absurd q (a.dom c (by rw [w]; exact fun k => nomatch k)))
  keep := fun c o h g => b.keep c o (a.keep c o h g) (a.off1 h g)
  dom := fun c h => b.dom c (a.dom c h)
  new := fun l h1 h2 => by
    by_cases hl : l < n1
    · rw [b.same l hl]
      exact a.new l h1 hl
    · have q := b.new l (by omega) h2
      cases z : H (ι2 l) with
      | none => rfl
      | some o => exact absurd q (a.dom _ (by rw [z]; exact fun k => nomatch k))
theorem TupAt.mono (e : Ext ι n H ι1 n1 H1) {a : Addr} {ys : List V} (h : TupAt K ι n H a ys) : TupAt K ι1 n1 H1 a ys := by
  rcases h with ⟨h, g⟩ | h
  · exact .inl ⟨e.keep a _ h g.1, e.off h g⟩
  · exact .inr h
mutual
theorem RepV.mono (e : Ext ι n H ι1 n1 H1) : ∀ {x : PV} {v : V}, RepV K ι n H x v → RepV K ι1 n1 H1 x v
  | .non, _, h => h
  | .bl _, _, h => h
  | .int _, _, h => h
  | .str _, _, h => h
  | .tup xs, v, h => by
    obtain ⟨a, ys, rfl, t, r⟩ := h
    exact ⟨a, ys, rfl, t.mono e, RepVs.mono e r⟩
  | .lst xs, v, h => by
    obtain ⟨a, ys, rfl, ⟨t, g⟩, r⟩ := h
    exact ⟨a, ys, rfl, ⟨e.keep a _ t g.1, e.off t g⟩, RepVs.mono e r⟩
  | .loc l, v, h => by
    obtain ⟨h, rfl⟩ := h
    exact ⟨Nat.lt_of_lt_of_le h e.le, by rw [e.same l h]⟩
  | .scr ns, v, h => by
    obtain ⟨a, rfl, ⟨o, s, g⟩ | s⟩ := h
    · exact ⟨a, rfl, .inl ⟨o, e.keep a _ s g.1, e.off s g⟩⟩
    · exact ⟨a, rfl, .inr s⟩
theorem RepVs.mono (e : Ext ι n H ι1 n1 H1) : ∀ {xs : List PV} {vs : List V}, RepVs K ι n H xs vs → RepVs K ι1 n1 H1 xs vs
  | [], _, h => h
  | x :: xs, _, h => by
    obtain ⟨y, r, rfl, h1, h2⟩ := h
    exact ⟨y, r, rfl, RepV.mono e h1, RepVs.mono e h2⟩
end

/-! ### the store -/
def keyOf : PV → Option Key
  | .int i => some (.inl i)
  | .str x => some (.inr x)
  | _ => none
def keysOf : List PV → Option (List Key)
  | [] => some []
  | x :: xs => match keyOf x, keysOf xs with
    | some k, some ks => some (k :: ks)
    | _, _ => none
def tkeyOf : PV → Option (List Key)
  | .tup xs => keysOf xs
  | _ => none
/-- a dict's pairs by their keys -/
def RepKs {κ : Type} (K : Frg) (ι : Ad) (n : Nat) (H : Hp) (key : PV → Option κ) : List (PV × PV) → List (κ × V) → Prop
  | [], ys => ys = []
  | (k, x) :: xs, ys => ∃ q y r, ys = (q, y) :: r ∧ key k = some q ∧ RepV K ι n H x y ∧ RepKs K ι n H key xs r
def RepO (K : Frg) (ι : Ad) (n : Nat) (H : Hp) (a : Addr) : Ob → Prop
  | .lst xs => ∃ ys, H a = some (.lst ys) ∧ RepVs K ι n H xs ys
  | .dic false kvs => ∃ ys, H a = some (.dK ys) ∧ RepKs K ι n H keyOf kvs ys
  | .dic true kvs => ∃ ys, H a = some (.dT ys) ∧ RepKs K ι n H tkeyOf kvs ys
structure RepS (K : Frg) (ι : Ad) (H : Hp) (μ : Sto) : Prop where
  inj : ∀ i j, i < μ.length → j < μ.length → ι i = ι j → i = j
  obj : ∀ (l : Nat) (o : Ob), μ[l]? = some o → RepO K ι μ.length H (ι l) o
  zin : ∀ a, ι.Z a → H a ≠ none
  zap : ∀ l, l < μ.length → ¬ ι.Z (ι l)
/-- the slots: what is known of them -/
structure RepE (K : Frg) (ι : Ad) (n : Nat) (H : Hp) (ρ : En) (σ : L2.St) : Prop where
  len : σ.length = ρ.length
  at_ : ∀ (i : Nat) (x : PV), ρ[i]? = some (some x) → ∃ v, σ[i]? = some (some v) ∧ RepV K ι n H x v

theorem RepKs.mono {κ : Type} {key : PV → Option κ} (e : Ext ι n H ι1 n1 H1) : ∀ {xs : List (PV × PV)} {ys : List (κ × V)}, RepKs K ι n H key xs ys → RepKs K ι1 n1 H1 key xs ys
  | [], _, h => h
  | (k, x) :: xs, _, h => by
    obtain ⟨q, y, r, rfl, hk, h1, h2⟩ := h
    exact ⟨q, y, r, rfl, hk, RepV.mono e h1, RepKs.mono e h2⟩
theorem RepE.mono {ρ : En} {σ : L2.St} (e : Ext ι n H ι1 n1 H1) (h : RepE K ι n H ρ σ) : RepE K ι1 n1 H1 ρ σ :=
  ⟨h.len, fun i x hx => let ⟨v, h1, h2⟩ := h.at_ i x hx; ⟨v, h1, h2.mono e⟩⟩
theorem RepE.set {ρ : En} {σ : L2.St} (h : RepE K ι n H ρ σ) (i : Nat) {x : PV} {v : V} (r : RepV K ι n H x v) : RepE K ι n H (ρ.set i (some x)) (σ.set i (some v)) := by
  refine ⟨by rw [List.length_set, List.length_set, h.len], fun j y hy => ?_⟩
  by_cases hj : i = j
  · subst hj
    by_cases hi : i < ρ.length
    · rw [List.getElem?_set_self hi] at hy
      cases hy
      exact ⟨v, List.getElem?_set_self (by rw [h.len]; exact hi), r⟩
    · rw [List.getElem?_eq_none (by rw [List.length_set]; omega)] at hy
      cases hy
  · rw [List.getElem?_set_ne hj] at hy
    obtain ⟨w, h1, h2⟩ := h.at_ j y hy
    exact ⟨w, by rw [List.getElem?_set_ne hj]; exact h1, h2⟩
/-- slots forgotten -/
theorem RepE.wipe1 {ρ : En} {σ : L2.St} (h : RepE K ι n H ρ σ) (i : Nat) (o : Option V) : RepE K ι n H (ρ.set i none) (σ.set i o) := by
  refine ⟨by rw [List.length_set, List.length_set, h.len], fun j y hy => ?_⟩
  by_cases hj : i = j
  · subst hj
    by_cases hi : i < ρ.length
    · rw [List.getElem?_set_self hi] at hy
      cases hy
    · rw [List.getElem?_eq_none (by rw [List.length_set]; omega)] at hy
      cases hy
  · rw [List.getElem?_set_ne hj] at hy
    obtain ⟨w, h1, h2⟩ := h.at_ j y hy
    exact ⟨w, by rw [List.getElem?_set_ne hj]; exact h1, h2⟩
def wipeE (ρ : En) : List Nat → En
  | [] => ρ
  | v :: vs => (wipeE ρ vs).set v none
theorem RepE.wipe {ρ : En} {σ : L2.St} (h : RepE K ι n H ρ σ) : ∀ vs : List Nat, RepE K ι n H (wipeE ρ vs) (L2.wipe σ vs)
  | [] => h
  | v :: vs => (RepE.wipe h vs).wipe1 v none

theorem RepS.some {μ : Sto} (S : RepS K ι H μ) {l : Nat} (h : l < μ.length) : ∃ o, H (ι l) = some o := by
  have q := S.obj l μ[l] (by simp [h])
  cases e : μ[l] with
  | lst xs => rw [e] at q; obtain ⟨ys, q, _⟩ := q; exact ⟨_, q⟩
  | dic t kvs => cases t <;> (rw [e] at q; obtain ⟨ys, q, _⟩ := q; exact ⟨_, q⟩)
theorem RepO.mono {a : Addr} {o : Ob} (e : Ext ι n H ι1 n1 H1) (ha : H1 a = H a) (h : RepO K ι n H a o) : RepO K ι1 n1 H1 a o := by
  cases o with
  | lst xs => obtain ⟨ys, q, r⟩ := h; exact ⟨ys, ha.trans q, RepVs.mono e r⟩
  | dic t kvs => cases t <;> (obtain ⟨ys, q, r⟩ := h; exact ⟨ys, ha.trans q, RepKs.mono e r⟩)

/-! three steps of the heap -/
/-- a new object that the store does not hold -/
theorem Ext.new1 {μ : Sto} (S : RepS K ι H μ) {p : Addr} {o : HO} (hp : H p = none) : Ext ι μ.length H ι μ.length (upd H p o) where
  le := Nat.le_refl _
  same := fun _ _ => rfl
  keep := fun b u h _ => by rw [upd_ne (ne_of_none h hp)]; exact h
  dom := fun b h => by
    by_cases e : b = p
    · subst e; exact absurd hp h
    · rw [upd_ne e]; exact h
  new := fun _ h1 h2 => absurd h2 (by omega)
  zup := fun _ h => h
  zdn := fun _ h => .inl h
theorem RepS.new1 {μ : Sto} (S : RepS K ι H μ) {p : Addr} {o : HO} (hp : H p = none) : RepS K ι (upd H p o) μ :=
  ⟨S.inj, fun l ob h => by
    have hl : l < μ.length := (List.getElem?_eq_some_iff.mp h).1
    obtain ⟨u, hu⟩ := S.some hl
    exact (S.obj l ob h).mono (Ext.new1 S hp) (upd_ne (ne_of_none hu hp)), fun a z => (Ext.new1 S hp).dom a (S.zin a z), S.zap⟩
theorem RepS.off1 {μ : Sto} (S : RepS K ι H μ) {p : Addr} (hp : H p = none) : ∀ l, l < μ.length → ι l ≠ p := fun l hl e => by
  obtain ⟨u, hu⟩ := S.some hl
  rw [e, hp] at hu
  cases hu
theorem RepS.off {μ : Sto} (S : RepS K ι H μ) {p : Addr} (hp : H p = none) : Off ι μ.length p := ⟨S.off1 hp, fun z => S.zin p z hp⟩
/-- a new place of the store -/
def addI (ι : Ad) (n : Nat) (p : Addr) : Ad := ⟨fun l => if l = n then p else ι l, ι.Z⟩
theorem addI_lt {l : Nat} {p : Addr} (h : l < n) : addI ι n p l = ι l := if_neg (by omega)
theorem addI_at {p : Addr} : addI ι n p n = p := if_pos rfl
theorem Ext.add {μ : Sto} (S : RepS K ι H μ) {p : Addr} {o : HO} (hp : H p = none) : Ext ι μ.length H (addI ι μ.length p) (μ.length + 1) (upd H p o) where
  le := Nat.le_succ _
  same := fun l hl => addI_lt hl
  keep := fun b u h _ => by rw [upd_ne (ne_of_none h hp)]; exact h
  dom := fun b h => by
    by_cases e : b = p
    · subst e; exact absurd hp h
    · rw [upd_ne e]; exact h
  new := fun l h1 h2 => by
    have : l = μ.length := by omega
    subst this
    rw [addI_at]; exact hp
  zup := fun _ h => h
  zdn := fun _ h => .inl h
theorem RepS.add {μ : Sto} (S : RepS K ι H μ) {p : Addr} {o : HO} {ob : Ob} (hp : H p = none) (r : RepO K (addI ι μ.length p) (μ.length + 1) (upd H p o) p ob) :
    RepS K (addI ι μ.length p) (upd H p o) (μ ++ [ob]) := by
  refine ⟨fun i j hi hj e => ?_, fun l u h => ?_, fun a z => (Ext.add S hp).dom a (S.zin a z), fun l hl z => ?_⟩
  · rw [List.length_append, List.length_singleton] at hi hj
    by_cases h1 : i < μ.length
    · by_cases h2 : j < μ.length
      · rw [addI_lt h1, addI_lt h2] at e
        exact S.inj i j h1 h2 e
      · have : j = μ.length := by omega
        subst this
        rw [addI_lt h1, addI_at] at e
        exact absurd e (S.off1 hp i h1)
    · have : i = μ.length := by omega
      subst this
      by_cases h2 : j < μ.length
      · rw [addI_at, addI_lt h2] at e
        exact absurd e.symm (S.off1 hp j h2)
      · omega
  · rw [List.length_append, List.length_singleton]
    by_cases h1 : l < μ.length
    · rw [List.getElem?_append_left h1] at h
      rw [addI_lt h1]
      obtain ⟨w, hw⟩ := S.some h1
      exact (S.obj l u h).mono (Ext.add S hp) (upd_ne (ne_of_none hw hp))
    · have hl : l = μ.length := by
        have := (List.getElem?_eq_some_iff.mp h).1
        rw [List.length_append, List.length_singleton] at this
        omega
      subst hl
      rw [List.getElem?_append_right (Nat.le_refl _), Nat.sub_self] at h
      cases h
      rw [addI_at]
      exact r
  · rw [List.length_append, List.length_singleton] at hl
    have z : ι.Z (addI ι μ.length p l) := z
    by_cases h1 : l < μ.length
    · rw [addI_lt h1] at z
      exact S.zap l h1 z
    · have : l = μ.length := by omega
      subst this
      rw [addI_at] at z
      exact S.zin p z hp
/-- a place of the store is changed -/
theorem Ext.put {μ : Sto} (S : RepS K ι H μ) {l : Nat} (hl : l < μ.length) {o : HO} : Ext ι μ.length H ι μ.length (upd H (ι l) o) where
  le := Nat.le_refl _
  same := fun _ _ => rfl
  keep := fun b u h g => by rw [upd_ne (g l hl).symm]; exact h
  dom := fun b h => by
    by_cases e : b = ι l
    · rw [e, upd_same]; exact fun k => nomatch k
    · rw [upd_ne e]; exact h
  new := fun _ h1 h2 => absurd h2 (by omega)
  zup := fun _ h => h
  zdn := fun _ h => .inl h
theorem RepS.put {μ : Sto} (S : RepS K ι H μ) {l : Nat} (hl : l < μ.length) {o : HO} {ob : Ob} (r : RepO K ι μ.length (upd H (ι l) o) (ι l) ob) :
    RepS K ι (upd H (ι l) o) (μ.set l ob) := by
  refine ⟨fun i j hi hj => ?_, fun k u h => ?_, fun a z => (Ext.put S hl).dom a (S.zin a z), fun k hk => S.zap k (by rw [List.length_set] at hk; exact hk)⟩
  · rw [List.length_set] at hi hj
    exact S.inj i j hi hj
  · rw [List.length_set]
    by_cases hk : l = k
    · subst hk
      rw [List.getElem?_set_self hl] at h
      cases h
      exact r
    · rw [List.getElem?_set_ne hk] at h
      have hk' : k < μ.length := (List.getElem?_eq_some_iff.mp h).1
      exact (S.obj k u h).mono (Ext.put S hl) (upd_ne fun e => hk (S.inj l k hl hk' e.symm))

/-! ### lists of values -/
theorem RepVs.length : ∀ {xs : List PV} {ys : List V}, RepVs K ι n H xs ys → xs.length = ys.length
  | [], _, h => by cases h; rfl
  | x :: xs, _, h => by
    obtain ⟨y, r, rfl, _, h2⟩ := h
    rw [List.length_cons, List.length_cons, RepVs.length h2]
theorem RepVs.get : ∀ {xs : List PV} {ys : List V} {i : Nat} {x : PV}, RepVs K ι n H xs ys → xs[i]? = some x → ∃ y, ys[i]? = some y ∧ RepV K ι n H x y
  | [], _, _, _, _, e => by simp at e
  | x :: xs, _, 0, z, h, e => by
    obtain ⟨y, r, rfl, h1, _⟩ := h
    simp at e; subst e
    exact ⟨y, rfl, h1⟩
  | x :: xs, _, i + 1, z, h, e => by
    obtain ⟨y, r, rfl, _, h2⟩ := h
    obtain ⟨w, h3, h4⟩ := RepVs.get (i := i) h2 (by simpa using e)
    exact ⟨w, by simpa using h3, h4⟩
theorem RepVs.append : ∀ {xs xs' : List PV} {ys ys' : List V}, RepVs K ι n H xs ys → RepVs K ι n H xs' ys' → RepVs K ι n H (xs ++ xs') (ys ++ ys')
  | [], _, _, _, h, g => by cases h; exact g
  | x :: xs, _, _, _, h, g => by
    obtain ⟨y, r, rfl, h1, h2⟩ := h
    exact ⟨y, r ++ _, rfl, h1, RepVs.append h2 g⟩
theorem RepVs.take : ∀ (k : Nat) {xs : List PV} {ys : List V}, RepVs K ι n H xs ys → RepVs K ι n H (xs.take k) (ys.take k)
  | 0, _, _, _ => rfl
  | k + 1, [], _, h => by cases h; rfl
  | k + 1, x :: xs, _, h => by
    obtain ⟨y, r, rfl, h1, h2⟩ := h
    exact ⟨y, r.take k, rfl, h1, RepVs.take k h2⟩
theorem RepVs.drop : ∀ (k : Nat) {xs : List PV} {ys : List V}, RepVs K ι n H xs ys → RepVs K ι n H (xs.drop k) (ys.drop k)
  | 0, _, _, h => h
  | k + 1, [], _, h => by cases h; rfl
  | k + 1, x :: xs, _, h => by
    obtain ⟨y, r, rfl, h1, h2⟩ := h
    exact RepVs.drop k h2
theorem RepVs.set : ∀ {xs : List PV} {ys : List V} (i : Nat) {x : PV} {y : V}, RepV K ι n H x y → RepVs K ι n H xs ys → RepVs K ι n H (xs.set i x) (ys.set i y)
  | [], _, _, _, _, _, h => by cases h; rfl
  | x :: xs, _, 0, _, _, g, h => by
    obtain ⟨y, r, rfl, h1, h2⟩ := h
    exact ⟨_, r, rfl, g, h2⟩
  | x :: xs, _, i + 1, _, _, g, h => by
    obtain ⟨y, r, rfl, h1, h2⟩ := h
    exact ⟨y, r.set i _, rfl, h1, RepVs.set i g h2⟩
theorem RepVs.reverse : ∀ {xs : List PV} {ys : List V}, RepVs K ι n H xs ys → RepVs K ι n H xs.reverse ys.reverse
  | [], _, h => by cases h; rfl
  | x :: xs, _, h => by
    obtain ⟨y, r, rfl, h1, h2⟩ := h
    rw [List.reverse_cons, List.reverse_cons]
    exact RepVs.append (RepVs.reverse h2) ⟨y, [], rfl, h1, rfl⟩
theorem RepVs.cons {x : PV} {y : V} {xs : List PV} {ys : List V} (h : RepV K ι n H x y) (g : RepVs K ι n H xs ys) : RepVs K ι n H (x :: xs) (y :: ys) := ⟨y, ys, rfl, h, g⟩
theorem RepVs.one {x : PV} {y : V} (h : RepV K ι n H x y) : RepVs K ι n H [x] [y] := .cons h rfl
theorem RepVs.dropLast {xs : List PV} {ys : List V} (h : RepVs K ι n H xs ys) : RepVs K ι n H xs.dropLast ys.dropLast := by
  rw [List.dropLast_eq_take, List.dropLast_eq_take, ← h.length]
  exact h.take _
theorem RepVs.rep {xs : List PV} {ys : List V} (h : RepVs K ι n H xs ys) : ∀ k : Nat, RepVs K ι n H (List.replicate k xs).flatten (List.replicate k ys).flatten
  | 0 => rfl
  | k + 1 => by
    rw [List.replicate_succ, List.replicate_succ, List.flatten_cons, List.flatten_cons]
    exact h.append (RepVs.rep h k)
end
end Fd

/-! Fd2: denotations, their readings; operators, comparisons, tests. -/
namespace Fd
open PySem PySem.Spec PyProof.Rows L2

abbrev Den := En → Sto → Option (PV × Sto)
abbrev DenT := En → Sto → Option (Bool × Sto)
abbrev DenA := En → Sto → Option (List PV × Sto)

/-- what is wanted behind a value -/
abbrev Aft (K : Frg) (ι : Ad) (μ : Sto) (H : Hp) (v : PV) (μ' : Sto) (Q : VK) : Prop := ∀ hv ι' H', Ext ι μ.length H ι' μ'.length H' → RepV K ι' μ'.length H' v hv → RepS K ι' H' μ' → Q hv H'
abbrev AftT (K : Frg) (ι : Ad) (μ : Sto) (H : Hp) (b : Bool) (μ' : Sto) (Q : Bool → Hp → Prop) : Prop := ∀ ι' H', Ext ι μ.length H ι' μ'.length H' → RepS K ι' H' μ' → Q b H'
abbrev AftA (K : Frg) (ι : Ad) (μ : Sto) (H : Hp) (vs : List PV) (μ' : Sto) (Q : List V → Hp → Prop) : Prop := ∀ hs ι' H', Ext ι μ.length H ι' μ'.length H' → RepVs K ι' μ'.length H' vs hs → RepS K ι' H' μ' → Q hs H'

def tD (K : Frg) (d : Den) : TE := fun σ H Q => ∃ ι ρ μ v μ', RepE K ι μ.length H ρ σ ∧ RepS K ι H μ ∧ d ρ μ = some (v, μ') ∧ Aft K ι μ H v μ' Q
def tT (K : Frg) (d : DenT) : TT := fun σ H Q => ∃ ι ρ μ b μ', RepE K ι μ.length H ρ σ ∧ RepS K ι H μ ∧ d ρ μ = some (b, μ') ∧ AftT K ι μ H b μ' Q
def tA (K : Frg) (d : DenA) : TA := fun σ H Q => ∃ ι ρ μ vs μ', RepE K ι μ.length H ρ σ ∧ RepS K ι H μ ∧ d ρ μ = some (vs, μ') ∧ AftA K ι μ H vs μ' Q

section
variable {X : Cx} {e : Expr}
theorem _root_.L2.PE.weak {t t' : TE} (h : PE X e t) (g : ∀ σ H Q, t' σ H Q → t σ H Q) : PE X e t' := ⟨fun pins s σ H Q I q => h.run pins s σ H Q I (g σ H Q q)⟩
theorem _root_.L2.PT.weak {t t' : TT} (h : PT X e t) (g : ∀ σ H Q, t' σ H Q → t σ H Q) : PT X e t' := ⟨fun pins s σ H Q I q => h.run pins s σ H Q I (g σ H Q q)⟩
theorem _root_.L2.PW.weak {t t' : TT} (h : PW X e t) (g : ∀ σ H Q, t' σ H Q → t σ H Q) : PW X e t' := ⟨fun wh pins s σ H Q I q => h.run wh pins s σ H Q I (g σ H Q q)⟩
theorem _root_.L2.PA.weak {es : List Expr} {t t' : TA} (h : PA X es t) (g : ∀ σ H Q, t' σ H Q → t σ H Q) : PA X es t' := ⟨fun pos pins s σ H Q I q => h.run pos pins s σ H Q I (g σ H Q q)⟩
theorem _root_.L2.PS.weak {st : Stmt} {t t' : TS} (h : PS X st t) (g : ∀ D σ H, t' D σ H → t D σ H) : PS X st t' := ⟨fun pins s σ H D I q => h.run pins s σ H D I (g D σ H q)⟩
theorem _root_.L2.PSs.weak {st : List Stmt} {t t' : TS} (h : PSs X st t) (g : ∀ D σ H, t' D σ H → t D σ H) : PSs X st t' := ⟨fun pins s σ H D I q => h.run pins s σ H D I (g D σ H q)⟩
end

/-! ### names, constants -/
def cVar (i : Nat) : Den := fun ρ μ => match ρ[i]? with
  | some (some v) => some (v, μ)
  | _ => none
def cK (v : PV) : Den := fun _ μ => some (v, μ)
theorem Aft.pure {K : Frg} {ι : Ad} {μ : Sto} {H : Hp} {v : PV} {Q : VK} (S : RepS K ι H μ) (q : Aft K ι μ H v μ Q) {hv : V} (r : RepV K ι μ.length H v hv) : Q hv H := q hv ι H .refl r S
theorem t_var {K : Frg} {i : Nat} (σ : L2.St) (H : Hp) (Q : VK) (h : tD K (cVar i) σ H Q) : tVar i σ H Q := by
  obtain ⟨ι, ρ, μ, v, μ', E, S, d, q⟩ := h
  unfold cVar at d
  split at d
  · rename_i w hw
    cases d
    obtain ⟨u, h1, h2⟩ := E.at_ i _ hw
    exact ⟨u, h1, q.pure S h2⟩
  · cases d
section
variable {X : Cx}
theorem e_var (i : Nat) {x : Str} {pos : Pos} (hN : X.N[i]? = some x := by rfl) (hv : Vis X.env.scope x := by first | exact Or.inl rfl | exact Or.inr (Or.inl rfl) | exact Or.inr (Or.inr rfl)) (hd : (x == ("__debug__" : Str)) = false := by decide)
    (hcd : (x == ("__classdict__" : Str)) = false := by decide) : PE X (.Name x pos) (tD X.K (cVar i)) := (pe_var hN hv hd hcd).weak t_var
theorem t_c {K : Frg} {v : PV} {u : V} (r : ∀ ι n H, RepV K ι n H v u) (σ : L2.St) (H : Hp) (Q : VK) (h : tD K (cK v) σ H Q) : tC u σ H Q := by
  obtain ⟨ι, ρ, μ, w, μ', E, S, d, q⟩ := h
  cases d
  exact q.pure S (r _ _ _)
theorem e_int {i : Int} {j pos} : PE X (.Constant (.int i) j pos) (tD X.K (cK (.int i))) := pe_int.weak (t_c fun _ _ _ => rfl)
theorem e_bl {b j pos} : PE X (.Constant (.bool b) j pos) (tD X.K (cK (.bl b))) := pe_bl.weak (t_c fun _ _ _ => rfl)
theorem e_non {j pos} : PE X (.Constant .none j pos) (tD X.K (cK .non)) := pe_non.weak (t_c fun _ _ _ => rfl)
theorem e_str {x j pos} : PE X (.Constant (.str x) j pos) (tD X.K (cK (.str x))) := pe_str.weak (t_c fun _ _ _ => rfl)
/-- a module's constant: an int -/
theorem e_gint {x : Str} {i : Int} {t : Tok} {pos : Pos} (hg : Gl X x) (hm : X.mg x = some (.int i t)) (hd : (x == ("__debug__" : Str)) = false := by decide) : PE X (.Name x pos) (tD X.K (cK (.int i))) :=
  (pe_glob (v := .int i) hg hm ⟨t, rfl⟩ hd).weak (t_c fun _ _ _ => rfl)
/-- a module's constant: a tuple of ints -/
theorem ktup_rep {K : Frg} {ι : Ad} {n : Nat} {H : Hp} {a : Addr} : ∀ {ns : List Int}, KTup K a (ns.map V.int) → RepV K ι n H (.tup (ns.map PV.int)) (.ref a) := fun {ns} h => by
  refine ⟨a, ns.map V.int, rfl, .inr h, ?_⟩
  clear h
  induction ns with
  | nil => rfl
  | cons k r ih => exact ⟨.int k, r.map V.int, rfl, rfl, ih⟩
theorem e_gtup {x : Str} {a : Addr} {ns : List Int} {pos : Pos} (hg : Gl X x) (hm : X.mg x = some (.ref a)) (hk : KTup X.K a (ns.map V.int)) (hd : (x == ("__debug__" : Str)) = false := by decide) : PE X (.Name x pos) (tD X.K (cK (.tup (ns.map PV.int)))) :=
  (pe_glob (v := .ref a) hg hm rfl hd).weak (t_c fun _ _ _ => ktup_rep hk)
end

/-! ### one, two values -/
abbrev Op1 := PV → Sto → Option (PV × Sto)
abbrev Op2 := PV → PV → Sto → Option (PV × Sto)
def d1 (f : Op1) (da : Den) : Den := fun ρ μ => (da ρ μ).bind fun p => f p.1 p.2
def d2 (f : Op2) (da db : Den) : Den := fun ρ μ => (da ρ μ).bind fun p => (db ρ p.2).bind fun q => f p.1 q.1 q.2
def S1 (K : Frg) (r : V → Hp → VK → Prop) (f : Op1) : Prop := ∀ ι H μ x v μ' hx (Q : VK), RepS K ι H μ → RepV K ι μ.length H x hx → f x μ = some (v, μ') → Aft K ι μ H v μ' Q → r hx H Q
def S2 (K : Frg) (r : R2) (f : Op2) : Prop := ∀ ι H μ x y v μ' hx hy (Q : VK), RepS K ι H μ → RepV K ι μ.length H x hx → RepV K ι μ.length H y hy → f x y μ = some (v, μ') → Aft K ι μ H v μ' Q → r hx hy H Q
section
variable {K : Frg} {ι ι1 : Ad} {μ μ1 μ' : Sto} {H H1 : Hp} {v : PV} {Q : VK}
theorem Aft.mono (e : Ext ι μ.length H ι1 μ1.length H1) (q : Aft K ι μ H v μ' Q) : Aft K ι1 μ1 H1 v μ' Q := fun hv ι' H' X R S => q hv ι' H' (e.trans X) R S
theorem AftT.mono {b : Bool} {Q : Bool → Hp → Prop} (e : Ext ι μ.length H ι1 μ1.length H1) (q : AftT K ι μ H b μ' Q) : AftT K ι1 μ1 H1 b μ' Q := fun ι' H' X S => q ι' H' (e.trans X) S
theorem AftA.mono {vs : List PV} {Q : List V → Hp → Prop} (e : Ext ι μ.length H ι1 μ1.length H1) (q : AftA K ι μ H vs μ' Q) : AftA K ι1 μ1 H1 vs μ' Q := fun hv ι' H' X R S => q hv ι' H' (e.trans X) R S
end
section
variable {K : Frg} {σ : L2.St} {H : Hp} {Q : VK}
theorem t_1 {f : Op1} {da : Den} {r : V → Hp → VK → Prop} (hr : S1 K r f) (h : tD K (d1 f da) σ H Q) : tUn r (tD K da) σ H Q := by
  obtain ⟨ι, ρ, μ, v, μ', E, S, d, q⟩ := h
  obtain ⟨⟨x, μ1⟩, e1, e2⟩ := Option.bind_eq_some_iff.mp d
  exact ⟨ι, ρ, μ, x, μ1, E, S, e1, fun hx ι1 H1 X1 R1 S1 => hr ι1 H1 μ1 x v μ' hx Q S1 R1 e2 (q.mono X1)⟩
theorem t_2 {f : Op2} {da db : Den} {r : R2} (hr : S2 K r f) (h : tD K (d2 f da db) σ H Q) : tOp r (tD K da) (tD K db) σ H Q := by
  obtain ⟨ι, ρ, μ, v, μ', E, S, d, q⟩ := h
  obtain ⟨⟨x, μ1⟩, e1, d⟩ := Option.bind_eq_some_iff.mp d
  obtain ⟨⟨y, μ2⟩, e2, e3⟩ := Option.bind_eq_some_iff.mp d
  exact ⟨ι, ρ, μ, x, μ1, E, S, e1, fun hx ι1 H1 X1 R1 S1 => ⟨ι1, ρ, μ1, y, μ2, E.mono X1, S1, e2, fun hy ι2 H2 X2 R2 S2 =>
    hr ι2 H2 μ2 x y v μ' hx hy Q S2 (R1.mono X2) R2 e3 (q.mono (X1.trans X2))⟩⟩
end
section
variable {X : Cx} {a b : Expr} {da db : Den} {pos : Pos}
theorem e_op {op : Operator} {r : R2} {f : Op2} (ho : OpR X (binaryOp op) r) (hr : S2 X.K r f) (ha : PE X a (tD X.K da)) (hb : PE X b (tD X.K db)) : PE X (.BinOp a op b pos) (tD X.K (d2 f da db)) :=
  (pe_op ho ha hb).weak fun _ _ _ h => t_2 hr h
theorem e_un {op : UnaryOp} {r : V → Hp → VK → Prop} {f : Op1} (ho : UnR X (unaryOp op) r) (hr : S1 X.K r f) (ha : PE X a (tD X.K da)) : PE X (.UnaryOp op a pos) (tD X.K (d1 f da)) :=
  (pe_un ho ha).weak fun _ _ _ h => t_1 hr h
theorem e_cmp {op : CmpOp} {r : R2} {f : Op2} (ho : OpR X (compareOp op) r) (hr : S2 X.K r f) (ha : PE X a (tD X.K da)) (hb : PE X b (tD X.K db)) (hm : behindInMarks op b = false) : PE X (.Compare a [op] [b] pos) (tD X.K (d2 f da db)) :=
  (pe_cmpR ho ha hb hm).weak fun _ _ _ h => t_2 hr h
end

/-! ### tests -/
def asB : Option (PV × Sto) → Option (Bool × Sto)
  | some (.bl b, μ) => some (b, μ)
  | _ => none
def tB1 (d : Den) : DenT := fun ρ μ => asB (d ρ μ)
theorem t_b {K : Frg} {d : Den} (σ : L2.St) (H : Hp) (Q : Bool → Hp → Prop) (h : tT K (tB1 d) σ H Q) : tD K d σ H fun x H' => ∃ k, x = .bl k ∧ Q k H' := by
  obtain ⟨ι, ρ, μ, b, μ', E, S, e, q⟩ := h
  unfold tB1 asB at e
  split at e
  · rename_i c μ1 h1
    cases e
    exact ⟨ι, ρ, μ, _, _, E, S, h1, fun hv ι' H' X R S => ⟨b, R, q ι' H' X S⟩⟩
  · cases e
section
variable {X : Cx} {a b : Expr} {da db : Den} {pos : Pos}
theorem x_cmp {op : CmpOp} {r : R2} {f : Op2} (ho : OpR X (compareOp op) r) (hr : S2 X.K r f) (ha : PE X a (tD X.K da)) (hb : PE X b (tD X.K db)) (hm : behindInMarks op b = false) : PT X (.Compare a [op] [b] pos) (tT X.K (tB1 (d2 f da db))) :=
  (pt_cmpR ho ha hb hm).weak fun _ _ _ h => t_2 hr (t_b _ _ _ h)
end
/-- a value's truth -/
def truP : PV → Sto → Option Bool
  | .non, _ => some false
  | .bl b, _ => some b
  | .int i, _ => some (i != 0)
  | .str x, _ => if x.length ≤ sizeLine then some ((x.length : Int) != 0) else none
  | .tup xs, _ => some !xs.isEmpty
  | .lst xs, _ => some !xs.isEmpty
  | .loc l, μ => match μ[l]? with
    | some (.lst xs) => some !xs.isEmpty
    | some (.dic false kvs) => some !kvs.isEmpty
    | _ => none
  | .scr _, _ => none
theorem RepVs.isEmpty {K : Frg} {ι : Ad} {n : Nat} {H : Hp} : ∀ {xs : List PV} {ys : List V}, RepVs K ι n H xs ys → xs.isEmpty = ys.isEmpty
  | [], _, h => by cases h; rfl
  | x :: xs, _, h => by obtain ⟨y, r, rfl, _, _⟩ := h; rfl
theorem RepKs.isEmpty {κ : Type} {key : PV → Option κ} {K : Frg} {ι : Ad} {n : Nat} {H : Hp} : ∀ {xs : List (PV × PV)} {ys : List (κ × V)}, RepKs K ι n H key xs ys → xs.isEmpty = ys.isEmpty
  | [], _, h => by cases h; rfl
  | (k, x) :: xs, _, h => by obtain ⟨q, y, r, rfl, _, _⟩ := h; rfl
theorem tru_rep {K : Frg} {ι : Ad} {μ : Sto} {H : Hp} (S : RepS K ι H μ) {x : PV} {v : V} {b : Bool} (r : RepV K ι μ.length H x v) (h : truP x μ = some b) : TruV K v H b := by
  cases x with
  | non => cases r; cases h; rfl
  | bl c => cases r; cases h; rfl
  | int i => cases r; cases h; rfl
  | str z =>
    cases r
    have h : (if z.length ≤ sizeLine then some ((z.length : Int) != 0) else none) = some b := h
    by_cases hz : z.length ≤ sizeLine
    · rw [if_pos hz] at h; cases h; exact ⟨hz, rfl⟩
    · rw [if_neg hz] at h; cases h
  | tup xs =>
    obtain ⟨a, ys, rfl, t, q⟩ := r
    cases h
    exact .inr (.inl ⟨ys, t.sq, by rw [q.isEmpty]⟩)
  | lst xs =>
    obtain ⟨a, ys, rfl, ⟨t, _⟩, q⟩ := r
    cases h
    exact .inl ⟨ys, .of t, by rw [q.isEmpty]⟩
  | loc l =>
    obtain ⟨hl, rfl⟩ := r
    simp only [truP] at h
    split at h
    · rename_i xs e
      obtain ⟨ys, t, q⟩ := S.obj l _ e
      cases h
      exact .inl ⟨ys, .of t, by rw [q.isEmpty]⟩
    · rename_i kvs e
      obtain ⟨ys, t, q⟩ := S.obj l _ e
      cases h
      exact .inr (.inr ⟨ys, t, by rw [q.isEmpty]⟩)
    · cases h
  | scr ns => cases h
def tTru (d : Den) : DenT := fun ρ μ => (d ρ μ).bind fun p => (truP p.1 p.2).map fun b => (b, p.2)
theorem t_tru {K : Frg} {d : Den} (σ : L2.St) (H : Hp) (Q : Bool → Hp → Prop) (h : tT K (tTru d) σ H Q) : tD K d σ H fun x H' => ∃ k, TruV K x H' k ∧ Q k H' := by
  obtain ⟨ι, ρ, μ, b, μ', E, S, e, q⟩ := h
  obtain ⟨⟨x, μ1⟩, e1, e2⟩ := Option.bind_eq_some_iff.mp e
  obtain ⟨c, e3, e4⟩ := Option.map_eq_some_iff.mp e2
  cases e4
  exact ⟨ι, ρ, μ, x, _, E, S, e1, fun hv ι' H' X R S => ⟨b, tru_rep S R e3, q ι' H' X S⟩⟩
def tAn (c d : DenT) : DenT := fun ρ μ => (c ρ μ).bind fun p => if p.1 = true then d ρ p.2 else some (false, p.2)
def tOr' (c d : DenT) : DenT := fun ρ μ => (c ρ μ).bind fun p => if p.1 = true then some (true, p.2) else d ρ p.2
def tNo (c : DenT) : DenT := fun ρ μ => (c ρ μ).map fun p => (!p.1, p.2)
section
variable {X : Cx} {a b : Expr} {rest : List Expr} {ca cb : DenT} {da db : Den} {pos : Pos}
/-- a name, a call, a subscript .. as a test -/
theorem x_tru (ha : PE X a (tD X.K da)) (he : ∀ whole, isTrue a X.env whole = (do let v ← whole; standAt a.pos; holding [v] (truthy v)) := by intro _; rfl) : PT X a (tT X.K (tTru da)) :=
  (pt_truth ha he).weak fun _ _ _ h => t_tru _ _ _ h
theorem x_an (ha : PT X a (tT X.K ca)) (hb : PW X (.BoolOp .And (b :: rest) pos) (tT X.K cb)) : PW X (.BoolOp .And (a :: b :: rest) pos) (tT X.K (tAn ca cb)) :=
  (pw_and ha hb).weak fun σ H Q h => by
    obtain ⟨ι, ρ, μ, c, μ', E, S, e, q⟩ := h
    obtain ⟨⟨x, μ1⟩, e1, e2⟩ := Option.bind_eq_some_iff.mp e
    refine ⟨ι, ρ, μ, x, μ1, E, S, e1, fun ι1 H1 X1 S1 => ?_⟩
    cases x with
    | true => exact ⟨ι1, ρ, μ1, c, μ', E.mono X1, S1, e2, q.mono X1⟩
    | false => cases e2; exact q ι1 H1 X1 S1
theorem x_an1 (ha : PT X a (tT X.K ca)) : PW X (.BoolOp .And [a] pos) (tT X.K ca) := pw_and1 ha
theorem x_or (ha : PT X a (tT X.K ca)) (hb : PW X (.BoolOp .Or (b :: rest) pos) (tT X.K cb)) : PW X (.BoolOp .Or (a :: b :: rest) pos) (tT X.K (tOr' ca cb)) :=
  (pw_or ha hb).weak fun σ H Q h => by
    obtain ⟨ι, ρ, μ, c, μ', E, S, e, q⟩ := h
    obtain ⟨⟨x, μ1⟩, e1, e2⟩ := Option.bind_eq_some_iff.mp e
    refine ⟨ι, ρ, μ, x, μ1, E, S, e1, fun ι1 H1 X1 S1 => ?_⟩
    cases x with
    | false => exact ⟨ι1, ρ, μ1, c, μ', E.mono X1, S1, e2, q.mono X1⟩
    | true => cases e2; exact q ι1 H1 X1 S1
theorem x_or1 (ha : PT X a (tT X.K ca)) : PW X (.BoolOp .Or [a] pos) (tT X.K ca) := pw_or1 ha
theorem x_no (ha : PT X a (tT X.K ca)) : PT X (.UnaryOp .Not a pos) (tT X.K (tNo ca)) :=
  (pt_not ha).weak fun σ H Q h => by
    obtain ⟨ι, ρ, μ, c, μ', E, S, e, q⟩ := h
    obtain ⟨⟨x, μ1⟩, e1, e2⟩ := Option.map_eq_some_iff.mp e
    cases e2
    exact ⟨ι, ρ, μ, x, _, E, S, e1, q⟩
/-- a if t else b -/
def dIf (c : DenT) (da db : Den) : Den := fun ρ μ => (c ρ μ).bind fun p => if p.1 = true then da ρ p.2 else db ρ p.2
theorem e_if {c : Expr} {dc : DenT} (hc : PT X c (tT X.K dc)) (ha : PE X a (tD X.K da)) (hb : PE X b (tD X.K db)) : PE X (.IfExp c a b pos) (tD X.K (dIf dc da db)) :=
  (pe_ifExp hc ha hb).weak fun σ H Q h => by
    obtain ⟨ι, ρ, μ, v, μ', E, S, e, q⟩ := h
    obtain ⟨⟨x, μ1⟩, e1, e2⟩ := Option.bind_eq_some_iff.mp e
    refine ⟨ι, ρ, μ, x, μ1, E, S, e1, fun ι1 H1 X1 S1 => ?_⟩
    cases x with
    | true => exact ⟨ι1, ρ, μ1, v, μ', E.mono X1, S1, e2, q.mono X1⟩
    | false => exact ⟨ι1, ρ, μ1, v, μ', E.mono X1, S1, e2, q.mono X1⟩
/-- x and y, x or y, not x as values -/
def dAn (da db : Den) : Den := fun ρ μ => (da ρ μ).bind fun p => match truP p.1 p.2 with
  | some true => db ρ p.2
  | some false => some p
  | none => none
def dOr (da db : Den) : Den := fun ρ μ => (da ρ μ).bind fun p => match truP p.1 p.2 with
  | some false => db ρ p.2
  | some true => some p
  | none => none
def dNo (da : Den) : Den := fun ρ μ => (da ρ μ).bind fun p => (truP p.1 p.2).map fun b => (.bl !b, p.2)
theorem e_an (ha : PE X a (tD X.K da)) (hb : PE X (.BoolOp .And (b :: rest) pos) (tD X.K db)) : PE X (.BoolOp .And (a :: b :: rest) pos) (tD X.K (dAn da db)) :=
  (pe_andT ha hb).weak fun σ H Q h => by
    obtain ⟨ι, ρ, μ, v, μ', E, S, e, q⟩ := h
    obtain ⟨⟨x, μ1⟩, e1, e2⟩ := Option.bind_eq_some_iff.mp e
    refine ⟨ι, ρ, μ, x, μ1, E, S, e1, fun hx ι1 H1 X1 R1 S1 => ?_⟩
    split at e2
    · rename_i e3
      exact ⟨true, tru_rep S1 R1 e3, ι1, ρ, μ1, v, μ', E.mono X1, S1, e2, q.mono X1⟩
    · rename_i e3
      cases e2
      exact ⟨false, tru_rep S1 R1 e3, q hx ι1 H1 X1 R1 S1⟩
    · cases e2
theorem e_or (ha : PE X a (tD X.K da)) (hb : PE X (.BoolOp .Or (b :: rest) pos) (tD X.K db)) : PE X (.BoolOp .Or (a :: b :: rest) pos) (tD X.K (dOr da db)) :=
  (pe_orT ha hb).weak fun σ H Q h => by
    obtain ⟨ι, ρ, μ, v, μ', E, S, e, q⟩ := h
    obtain ⟨⟨x, μ1⟩, e1, e2⟩ := Option.bind_eq_some_iff.mp e
    refine ⟨ι, ρ, μ, x, μ1, E, S, e1, fun hx ι1 H1 X1 R1 S1 => ?_⟩
    split at e2
    · rename_i e3
      exact ⟨false, tru_rep S1 R1 e3, ι1, ρ, μ1, v, μ', E.mono X1, S1, e2, q.mono X1⟩
    · rename_i e3
      cases e2
      exact ⟨true, tru_rep S1 R1 e3, q hx ι1 H1 X1 R1 S1⟩
    · cases e2
theorem e_one {op} {d : Den} (h : PE X a (tD X.K d)) : PE X (.BoolOp op [a] pos) (tD X.K d) := pe_one h
theorem e_no (ha : PE X a (tD X.K da)) : PE X (.UnaryOp .Not a pos) (tD X.K (dNo da)) :=
  (pe_notT ha).weak fun σ H Q h => by
    obtain ⟨ι, ρ, μ, v, μ', E, S, e, q⟩ := h
    obtain ⟨⟨x, μ1⟩, e1, e2⟩ := Option.bind_eq_some_iff.mp e
    obtain ⟨c, e3, e4⟩ := Option.map_eq_some_iff.mp e2
    cases e4
    exact ⟨ι, ρ, μ, x, _, E, S, e1, fun hx ι1 H1 X1 R1 S1 => ⟨c, tru_rep S1 R1 e3, q _ ι1 H1 X1 rfl S1⟩⟩
end

/-! ### argument lists, tuples, lists -/
def aNil : DenA := fun _ μ => some ([], μ)
def aCons (d : Den) (r : DenA) : DenA := fun ρ μ => (d ρ μ).bind fun p => (r ρ p.2).bind fun q => some (p.1 :: q.1, q.2)
theorem RepVs.mono' {K : Frg} {ι ι1 : Ad} {n n1 : Nat} {H H1 : Hp} (e : Ext ι n H ι1 n1 H1) {xs : List PV} {ys : List V} (h : RepVs K ι n H xs ys) : RepVs K ι1 n1 H1 xs ys := RepVs.mono e h
section
variable {X : Cx} {e : Expr} {es : List Expr} {d : Den} {r : DenA} {pos : Pos}
theorem a_nil : PA X [] (tA X.K aNil) := pa_nil.weak fun σ H Q h => by
  obtain ⟨ι, ρ, μ, v, μ', E, S, e, q⟩ := h
  cases e
  exact q [] ι H .refl rfl S
theorem a_cons (ha : PE X e (tD X.K d)) (hr : PA X es (tA X.K r)) (hs : starEach (e :: es) X.env = (false, eval e X.env) :: starEach es X.env := by rfl) : PA X (e :: es) (tA X.K (aCons d r)) :=
  (pa_cons ha hr hs).weak fun σ H Q h => by
    obtain ⟨ι, ρ, μ, v, μ', E, S, e, q⟩ := h
    obtain ⟨⟨x, μ1⟩, e1, e2⟩ := Option.bind_eq_some_iff.mp e
    obtain ⟨⟨y, μ2⟩, e3, e4⟩ := Option.bind_eq_some_iff.mp e2
    cases e4
    exact ⟨ι, ρ, μ, x, μ1, E, S, e1, fun hx ι1 H1 X1 R1 S1 => ⟨ι1, ρ, μ1, y, _, E.mono X1, S1, e3, fun hy ι2 H2 X2 R2 S2 => q _ ι2 H2 (X1.trans X2) (.cons (R1.mono X2) R2) S2⟩⟩
/-- a tuple display -/
def dTup (r : DenA) : Den := fun ρ μ => (r ρ μ).bind fun p => if p.1.length ≤ sizeLine then some (.tup p.1, p.2) else none
/-- a list display that nobody changes -/
def dLst (r : DenA) : Den := fun ρ μ => (r ρ μ).bind fun p => if p.1.length ≤ sizeLine then some (.lst p.1, p.2) else none
/-- a list display that will be changed -/
def dLoc (r : DenA) : Den := fun ρ μ => (r ρ μ).bind fun p => if p.1.length ≤ sizeLine then some (.loc p.2.length, p.2 ++ [.lst p.1]) else none
theorem Aft.tup {K : Frg} {ι : Ad} {μ : Sto} {H : Hp} {xs : List PV} {ys : List V} {Q : VK} (S : RepS K ι H μ) (q : Aft K ι μ H (.tup xs) μ Q) (r : RepVs K ι μ.length H xs ys) {p : Addr} (hp : H p = none) : Q (.ref p) (upd H p (.tup ys)) :=
  q _ ι _ (Ext.new1 S hp) ⟨p, ys, rfl, .inl ⟨upd_same, S.off hp⟩, RepVs.mono (Ext.new1 S hp) r⟩ (S.new1 hp)
theorem Aft.lst {K : Frg} {ι : Ad} {μ : Sto} {H : Hp} {xs : List PV} {ys : List V} {Q : VK} (S : RepS K ι H μ) (q : Aft K ι μ H (.lst xs) μ Q) (r : RepVs K ι μ.length H xs ys) {p : Addr} (hp : H p = none) : Q (.ref p) (upd H p (.lst ys)) :=
  q _ ι _ (Ext.new1 S hp) ⟨p, ys, rfl, ⟨upd_same, S.off hp⟩, RepVs.mono (Ext.new1 S hp) r⟩ (S.new1 hp)
theorem Aft.loc {K : Frg} {ι : Ad} {μ : Sto} {H : Hp} {xs : List PV} {ys : List V} {Q : VK} (S : RepS K ι H μ) (q : Aft K ι μ H (.loc μ.length) (μ ++ [.lst xs]) Q) (r : RepVs K ι μ.length H xs ys) {p : Addr} (hp : H p = none) : Q (.ref p) (upd H p (.lst ys)) := by
  have hl : (μ ++ [Ob.lst xs]).length = μ.length + 1 := by simp
  refine q _ (addI ι μ.length p) _ (by rw [hl]; exact Ext.add S hp) ?_ ?_
  · rw [hl]
    exact ⟨Nat.lt_succ_self _, by rw [addI_at]⟩
  · exact S.add hp ⟨ys, upd_same, RepVs.mono (Ext.add S hp) r⟩
theorem e_tup {x1} (h : PA X es (tA X.K r)) : PE X (.Tuple es x1 pos) (tD X.K (dTup r)) :=
  (pe_tup h).weak fun σ H Q h => by
    obtain ⟨ι, ρ, μ, v, μ', E, S, e, q⟩ := h
    obtain ⟨⟨x, μ1⟩, e1, e2⟩ := Option.bind_eq_some_iff.mp e
    split at e2
    · rename_i hz
      cases e2
      exact ⟨ι, ρ, μ, x, _, E, S, e1, fun hs ι1 H1 X1 R1 S1 => ⟨by rw [← R1.length]; exact hz, fun p hp => (q.mono X1).tup S1 R1 hp⟩⟩
    · cases e2
theorem e_lst (h : PA X es (tA X.K r)) : PE X (.List es pos) (tD X.K (dLst r)) :=
  (pe_lst h).weak fun σ H Q h => by
    obtain ⟨ι, ρ, μ, v, μ', E, S, e, q⟩ := h
    obtain ⟨⟨x, μ1⟩, e1, e2⟩ := Option.bind_eq_some_iff.mp e
    split at e2
    · rename_i hz
      cases e2
      exact ⟨ι, ρ, μ, x, _, E, S, e1, fun hs ι1 H1 X1 R1 S1 => ⟨by rw [← R1.length]; exact hz, fun p hp => (q.mono X1).lst S1 R1 hp⟩⟩
    · cases e2
theorem e_loc (h : PA X es (tA X.K r)) : PE X (.List es pos) (tD X.K (dLoc r)) :=
  (pe_lst h).weak fun σ H Q h => by
    obtain ⟨ι, ρ, μ, v, μ', E, S, e, q⟩ := h
    obtain ⟨⟨x, μ1⟩, e1, e2⟩ := Option.bind_eq_some_iff.mp e
    split at e2
    · rename_i hz
      cases e2
      exact ⟨ι, ρ, μ, x, _, E, S, e1, fun hs ι1 H1 X1 R1 S1 => ⟨by rw [← R1.length]; exact hz, fun p hp => (q.mono X1).loc S1 R1 hp⟩⟩
    · cases e2
end
end Fd

/-! Fd3: what the operators do. -/
namespace Fd
open PySem PySem.Spec PyProof.Rows L2

def b2 (b : Bool) : Int := if b = true then 1 else 0
/-- a list, by value or in the store -/
def rdL (μ : Sto) : PV → Option (List PV)
  | .lst xs => some xs
  | .loc l => match μ[l]? with
    | some (.lst xs) => some xs
    | _ => none
  | _ => none
section
variable {K : Frg} {ι : Ad} {μ : Sto} {H : Hp}
theorem rdL_rep (S : RepS K ι H μ) {x : PV} {v : V} {xs : List PV} (r : RepV K ι μ.length H x v) (h : rdL μ x = some xs) : ∃ a ys, v = .ref a ∧ H a = some (.lst ys) ∧ RepVs K ι μ.length H xs ys := by
  unfold rdL at h
  split at h
  · cases h
    obtain ⟨a, ys, rfl, ⟨t, _⟩, q⟩ := r
    exact ⟨a, ys, rfl, t, q⟩
  · rename_i l
    obtain ⟨hl, rfl⟩ := r
    split at h
    · rename_i zs e
      cases h
      obtain ⟨ys, t, q⟩ := S.obj l _ e
      exact ⟨_, ys, rfl, t, q⟩
    · cases h
  · cases h
end

/-! ### + - * // % ** and signs -/
def f_add : Op2 := fun x y μ => match x, y with
  | .int i, .int j => some (.int (i + j), μ)
  | .str a, .str b => if a.length + b.length ≤ sizeLine then some (.str (a ++ b), μ) else none
  | .int i, .bl b => some (.int (i + b2 b), μ)
  | .bl b, .int i => some (.int (b2 b + i), μ)
  | .bl b, .bl c => some (.int (b2 b + b2 c), μ)
  | .tup xs, .tup ys => if xs.length + ys.length ≤ sizeLine then some (.tup (xs ++ ys), μ) else none
  | x, y => match rdL μ x, rdL μ y with
    | some xs, some ys => if xs.length + ys.length ≤ sizeLine then some (.lst (xs ++ ys), μ) else none
    | _, _ => none
section
variable {X : Cx}
theorem op_add_ii : OpR X (binaryOp .Add) (fun x y H Q => ∃ i k, x = .bl k ∧ y = .int i ∧ Q (.int (b2 k + i)) H) := by
  intro pins s σ H x y v u Q I rx ry h
  obtain ⟨i, k, rfl, rfl, q⟩ := h
  obtain ⟨t, rfl⟩ := ry
  cases rx
  exact PySem.IntBool.add_bool_int ⟨.int (b2 k + i), H, I.tok _, ⟨_, rfl⟩, q⟩
theorem op_add_bb : OpR X (binaryOp .Add) (fun x y H Q => ∃ i k, x = .bl k ∧ y = .bl i ∧ Q (.int (b2 k + b2 i)) H) := by
  intro pins s σ H x y v u Q I rx ry h
  obtain ⟨i, k, rfl, rfl, q⟩ := h
  cases rx
  cases ry
  exact add_bool ⟨.int (b2 k + b2 i), H, I.tok _, ⟨_, rfl⟩, q⟩
theorem op_sub_bb : OpR X (binaryOp .Sub) (fun x y H Q => ∃ i k, x = .bl k ∧ y = .bl i ∧ Q (.int (b2 k - b2 i)) H) := by
  intro pins s σ H x y v u Q I rx ry h
  obtain ⟨i, k, rfl, rfl, q⟩ := h
  cases rx
  cases ry
  exact sub_bool ⟨.int (b2 k - b2 i), H, I.tok _, ⟨_, rfl⟩, q⟩
end
def r_add (K : Frg) : R2 := fun x y H Q => (∃ i j, x = .int i ∧ y = .int j ∧ Q (.int (i + j)) H) ∨ ((∃ i j, x = .str i ∧ y = .str j ∧ i.length + j.length ≤ sizeLine ∧ Q (.str (i ++ j)) H) ∨
  ((∃ i k, x = .int i ∧ y = .bl k ∧ Q (.int (i + b2 k)) H) ∨ ((∃ i k, x = .bl k ∧ y = .int i ∧ Q (.int (b2 k + i)) H) ∨ ((∃ i k, x = .bl k ∧ y = .bl i ∧ Q (.int (b2 k + b2 i)) H) ∨ (rCatA K x y H Q ∨ rCat x y H Q)))))
theorem o_add {X : Cx} : OpR X (binaryOp .Add) (r_add X.K) := op_add.or (op_add_str.or (op_add_ib.or (op_add_ii.or (op_add_bb.or (op_catA.or op_cat)))))
theorem s_add {K : Frg} : S2 K (r_add K) f_add := by
  intro ι H μ x y v μ' hx hy Q S rx ry h q
  unfold f_add at h
  split at h
  · cases h; cases rx; cases ry; exact .inl ⟨_, _, rfl, rfl, q.pure S rfl⟩
  · split at h
    · cases h; cases rx; cases ry; exact .inr (.inl ⟨_, _, rfl, rfl, by assumption, q.pure S rfl⟩)
    · cases h
  · cases h; cases rx; cases ry; exact .inr (.inr (.inl ⟨_, _, rfl, rfl, q.pure S rfl⟩))
  · cases h; cases rx; cases ry; exact .inr (.inr (.inr (.inl ⟨_, _, rfl, rfl, q.pure S rfl⟩)))
  · cases h; cases rx; cases ry; exact .inr (.inr (.inr (.inr (.inl ⟨_, _, rfl, rfl, q.pure S rfl⟩))))
  · rename_i xs ys
    split at h
    · rename_i hz
      cases h
      obtain ⟨a, us, rfl, ta, ra⟩ := rx
      obtain ⟨b, ws, rfl, tb, rb⟩ := ry
      refine .inr (.inr (.inr (.inr (.inr (.inl ⟨a, b, us, ws, rfl, rfl, ta.sq, tb.sq, by rw [← ra.length, ← rb.length]; exact hz, fun e => ?_, fun _ e => ?_, fun _ _ p hp => q.tup S (ra.append rb) hp⟩)))))
      · subst e
        have e : xs = [] := List.length_eq_zero_iff.mp (ra.length.trans rfl)
        subst e
        exact q.pure S ⟨b, ws, rfl, tb, rb⟩
      · subst e
        have e : ys = [] := List.length_eq_zero_iff.mp (rb.length.trans rfl)
        subst e
        exact q.pure S ⟨a, us, rfl, ta, by rw [List.append_nil]; exact ra⟩
    · cases h
  · split at h
    · rename_i xs ys e1 e2
      split at h
      · rename_i hz
        cases h
        obtain ⟨a, us, rfl, ta, ra⟩ := rdL_rep S rx e1
        obtain ⟨b, ws, rfl, tb, rb⟩ := rdL_rep S ry e2
        exact .inr (.inr (.inr (.inr (.inr (.inr ⟨a, b, us, ws, rfl, rfl, ta, tb, by rw [← ra.length, ← rb.length]; exact hz, fun p hp => q.lst S (ra.append rb) hp⟩)))))
      · cases h
    · cases h
def f_sub : Op2 := fun x y μ => match x, y with
  | .int i, .int j => some (.int (i - j), μ)
  | .bl b, .bl c => some (.int (b2 b - b2 c), μ)
  | _, _ => none
def r_sub : R2 := fun x y H Q => (∃ i j, x = .int i ∧ y = .int j ∧ Q (.int (i - j)) H) ∨ (∃ i k, x = .bl k ∧ y = .bl i ∧ Q (.int (b2 k - b2 i)) H)
theorem o_sub {X : Cx} : OpR X (binaryOp .Sub) r_sub := op_sub.or op_sub_bb
theorem s_sub {K : Frg} : S2 K r_sub f_sub := by
  intro ι H μ x y v μ' hx hy Q S rx ry h q
  unfold f_sub at h
  split at h
  · cases h; cases rx; cases ry; exact .inl ⟨_, _, rfl, rfl, q.pure S rfl⟩
  · cases h; cases rx; cases ry; exact .inr ⟨_, _, rfl, rfl, q.pure S rfl⟩
  · cases h
instance (i j : Int) : Decidable (CMulW i j) := inferInstanceAs (Decidable (_ < _))
def okMul (i j : Int) : Bool := decide (i.natAbs.log2 + j.natAbs.log2 < 1000000)
theorem okMul_iff {i j : Int} (h : okMul i j = true) : CMulW i j := of_decide_eq_true h
theorem okMul_of {i j : Int} (hi : i.natAbs < 2 ^ 400000) (hj : j.natAbs < 2 ^ 400000) : okMul i j = true := decide_eq_true (wide_mul hi hj (by decide) (by decide) (by decide))
theorem okMul_small {i j : Int} (hi : i.natAbs < 2 ^ 200) (hj : j.natAbs < 2 ^ 200) : okMul i j = true := decide_eq_true (wide_mul hi hj (by decide) (by decide) (by decide))
def f_mul : Op2 := fun x y μ => match x, y with
  | .int i, .int j => if okMul i j = true then some (.int (i * j), μ) else none
  | .str a, .int k => none
  | x, .int k => match rdL μ x with
    | some xs => if -(2 ^ 63) ≤ k ∧ k < 2 ^ 63 ∧ xs.length * k.toNat ≤ sizeLine then some (.lst (List.replicate k.toNat xs).flatten, μ) else none
    | none => none
  | _, _ => none
def r_mul : R2 := fun x y H Q => rI CMulW (fun i j => .int (i * j)) x y H Q ∨ rRep x y H Q
theorem o_mul {X : Cx} : OpR X (binaryOp .Mult) r_mul := op_mulW.or op_rep
theorem s_mul {K : Frg} : S2 K r_mul f_mul := by
  intro ι H μ x y v μ' hx hy Q S rx ry h q
  unfold f_mul at h
  split at h
  · split at h
    · rename_i hk
      cases h; cases rx; cases ry; exact .inl ⟨_, _, rfl, rfl, okMul_iff hk, q.pure S rfl⟩
    · cases h
  · cases h
  · split at h
    · rename_i xs e
      split at h
      · rename_i hz
        cases h
        obtain ⟨a, us, rfl, ta, ra⟩ := rdL_rep S rx e
        cases ry
        exact .inr ⟨a, _, us, rfl, rfl, ta, hz.1, hz.2.1, by rw [← ra.length]; exact hz.2.2, fun p hp => q.lst S (ra.rep _) hp⟩
      · cases h
    · cases h
  · cases h
def f_fdiv : Op2 := fun x y μ => match x, y with
  | .int i, .int j => if 0 < j ∧ j.natAbs.log2 < 9000 then some (.int (i / j), μ) else if j < 0 ∧ j.natAbs.log2 < 9000 then some (.int (i.fdiv j), μ) else none
  | _, _ => none
def CDivZ (i j : Int) : Prop := j ≠ 0 ∧ j.natAbs.log2 < 9000
theorem op_fdivZ {X : Cx} : OpR X (binaryOp .FloorDiv) (rI CDivZ fun i j => .int (i.fdiv j)) := opI fun _ _ _ _ _ _ _ hc q => floordiv_int hc.1 q (.inl (PyProof.noPylong_of_log2 hc.2))
def r_fdiv : R2 := fun x y H Q => rI CDivW (fun i j => .int (i / j)) x y H Q ∨ rI CDivZ (fun i j => .int (i.fdiv j)) x y H Q
theorem o_fdiv {X : Cx} : OpR X (binaryOp .FloorDiv) r_fdiv := op_fdivW.or op_fdivZ
theorem s_fdiv {K : Frg} : S2 K r_fdiv f_fdiv := by
  intro ι H μ x y v μ' hx hy Q S rx ry h q
  unfold f_fdiv at h
  split at h
  · split at h
    · rename_i hk
      cases h; cases rx; cases ry; exact .inl ⟨_, _, rfl, rfl, hk, q.pure S rfl⟩
    · split at h
      · rename_i hk
        cases h; cases rx; cases ry; exact .inr ⟨_, _, rfl, rfl, ⟨by omega, hk.2⟩, q.pure S rfl⟩
      · cases h
  · cases h
def f_mod : Op2 := fun x y μ => match x, y with
  | .int i, .int j => if 0 < j then some (.int (i % j), μ) else if j < 0 then some (.int (i.fmod j), μ) else none
  | _, _ => none
def r_mod : R2 := fun x y H Q => rI (fun _ j => 0 < j) (fun i j => .int (i % j)) x y H Q ∨ rI (fun _ j => j ≠ 0) (fun i j => .int (i.fmod j)) x y H Q
theorem o_mod {X : Cx} : OpR X (binaryOp .Mod) r_mod := op_mod.or op_modN
theorem s_mod {K : Frg} : S2 K r_mod f_mod := by
  intro ι H μ x y v μ' hx hy Q S rx ry h q
  unfold f_mod at h
  split at h
  · split at h
    · rename_i hk
      cases h; cases rx; cases ry; exact .inl ⟨_, _, rfl, rfl, hk, q.pure S rfl⟩
    · split at h
      · rename_i hk
        cases h; cases rx; cases ry; exact .inr ⟨_, _, rfl, rfl, by omega, q.pure S rfl⟩
      · cases h
  · cases h
def f_pow : Op2 := fun x y μ => match x, y with
  | .int i, .int j => if 0 ≤ j ∧ j ≤ 1000000 ∧ i.natAbs < 2 ^ 64 then some (.int (i ^ j.toNat), μ) else none
  | _, _ => none
theorem s_pow {K : Frg} : S2 K (rI CPow fun i j => .int (i ^ j.toNat)) f_pow := by
  intro ι H μ x y v μ' hx hy Q S rx ry h q
  unfold f_pow at h
  split at h
  · split at h
    · rename_i hk
      cases h; cases rx; cases ry; exact ⟨_, _, rfl, rfl, hk, q.pure S rfl⟩
    · cases h
  · cases h
def f_neg : Op1 := fun x μ => match x with
  | .int i => some (.int (-i), μ)
  | _ => none
theorem s_neg {K : Frg} : S1 K (rU fun i => .int (-i)) f_neg := by
  intro ι H μ x v μ' hx Q S rx h q
  unfold f_neg at h
  split at h
  · cases h; cases rx; exact ⟨_, rfl, q.pure S rfl⟩
  · cases h

/-! ### < <= > >= -/
def intsP : List PV → Option (List Int)
  | [] => some []
  | .int i :: r => (intsP r).map (i :: ·)
  | _ :: _ => none
theorem intsP_map : ∀ ns : List Int, intsP (ns.map PV.int) = some ns
  | [] => rfl
  | i :: r => by rw [List.map_cons]; unfold intsP; rw [intsP_map r]; rfl
theorem intsP_rep {K : Frg} {ι : Ad} {n : Nat} {H : Hp} : ∀ {xs : List PV} {ys : List V} {ns : List Int}, intsP xs = some ns → RepVs K ι n H xs ys → ys = ns.map V.int ∧ xs = ns.map PV.int
  | [], _, _, h, r => by cases h; cases r; exact ⟨rfl, rfl⟩
  | .int i :: xs, _, ns, h, r => by
    obtain ⟨y, t, rfl, r1, r2⟩ := r
    unfold intsP at h
    obtain ⟨ms, e, rfl⟩ := Option.map_eq_some_iff.mp h
    cases r1
    obtain ⟨e1, e2⟩ := intsP_rep e r2
    exact ⟨by rw [e1]; rfl, by rw [e2]; rfl⟩
  | .non :: _, _, _, h, _ => by cases h
  | .bl _ :: _, _, _, h, _ => by cases h
  | .str _ :: _, _, _, h, _ => by cases h
  | .tup _ :: _, _, _, h, _ => by cases h
  | .lst _ :: _, _, _, h, _ => by cases h
  | .loc _ :: _, _, _, h, _ => by cases h
  | .scr _ :: _, _, _, h, _ => by cases h
def f_lt : Op2 := fun x y μ => match x, y with
  | .int i, .int j => some (.bl (decide (i < j)), μ)
  | .tup xs, .tup ys => match intsP xs, intsP ys with
    | some ns, some ms => some (.bl (HT.lexLt ns ms), μ)
    | _, _ => none
  | _, _ => none
def r_lt (K : Frg) : R2 := fun x y H Q => rI0 (fun i j => .bl (decide (i < j))) x y H Q ∨ rLtT K x y H Q
theorem o_lt {X : Cx} (hu : X.A.units < cLine) : OpR X (compareOp .Lt) (r_lt X.K) := op_lt.or (op_ltT hu)
theorem s_lt {K : Frg} : S2 K (r_lt K) f_lt := by
  intro ι H μ x y v μ' hx hy Q S rx ry h q
  unfold f_lt at h
  split at h
  · cases h; cases rx; cases ry; exact .inl ⟨_, _, rfl, rfl, q.pure S rfl⟩
  · split at h
    · rename_i ns ms e1 e2
      cases h
      obtain ⟨a, us, rfl, ta, ra⟩ := rx
      obtain ⟨b, ws, rfl, tb, rb⟩ := ry
      obtain ⟨rfl, _⟩ := intsP_rep e1 ra
      obtain ⟨rfl, _⟩ := intsP_rep e2 rb
      exact .inr ⟨a, b, ns, ms, rfl, rfl, ta.sq, tb.sq, q.pure S rfl⟩
    · cases h
  · cases h
def f_le : Op2 := fun x y μ => match x, y with
  | .int i, .int j => some (.bl (decide (i ≤ j)), μ)
  | _, _ => none
def f_gt : Op2 := fun x y μ => match x, y with
  | .int i, .int j => some (.bl (decide (j < i)), μ)
  | _, _ => none
def f_ge : Op2 := fun x y μ => match x, y with
  | .int i, .int j => some (.bl (decide (j ≤ i)), μ)
  | _, _ => none
theorem s_le {K : Frg} : S2 K (rI0 fun i j => .bl (decide (i ≤ j))) f_le := by
  intro ι H μ x y v μ' hx hy Q S rx ry h q
  unfold f_le at h
  split at h
  · cases h; cases rx; cases ry; exact ⟨_, _, rfl, rfl, q.pure S rfl⟩
  · cases h
theorem s_gt {K : Frg} : S2 K (rI0 fun i j => .bl (decide (j < i))) f_gt := by
  intro ι H μ x y v μ' hx hy Q S rx ry h q
  unfold f_gt at h
  split at h
  · cases h; cases rx; cases ry; exact ⟨_, _, rfl, rfl, q.pure S rfl⟩
  · cases h
theorem s_ge {K : Frg} : S2 K (rI0 fun i j => .bl (decide (j ≤ i))) f_ge := by
  intro ι H μ x y v μ' hx hy Q S rx ry h q
  unfold f_ge at h
  split at h
  · cases h; cases rx; cases ry; exact ⟨_, _, rfl, rfl, q.pure S rfl⟩
  · cases h

/-! ### == at any depth -/
mutual
def peqv : PV → PV → Bool
  | .non, .non => true
  | .bl a, .bl b => a == b
  | .bl a, .int j => (if a then 1 else 0) == j
  | .int i, .bl b => i == (if b then 1 else 0)
  | .int i, .int j => i == j
  | .str x, .str y => x == y
  | .lst xs, .lst ys => peqvs xs ys
  | .tup xs, .tup ys => peqvs xs ys
  | _, _ => false
def peqvs : List PV → List PV → Bool
  | [], [] => true
  | x :: xs, y :: ys => peqv x y && peqvs xs ys
  | _, _ => false
end
mutual
/-- data of depth at most d -/
def pok : PV → Nat → Bool
  | .non, _ => true
  | .bl _, _ => true
  | .int _, _ => true
  | .str x, _ => PyData.strOk x
  | .tup xs, d => match d with
    | 0 => false
    | d + 1 => poks xs d
  | .lst xs, d => match d with
    | 0 => false
    | d + 1 => poks xs d
  | .loc _, _ => false
  | .scr _, _ => false
def poks : List PV → Nat → Bool
  | [], _ => true
  | x :: xs, d => pok x d && poks xs d
end
mutual
def toD : PV → PyData
  | .non => .none
  | .bl b => .bool b
  | .int i => .int i
  | .str x => .str x
  | .tup xs => .tuple (toDs xs)
  | .lst xs => .list (toDs xs)
  | .loc _ => .none
  | .scr _ => .none
def toDs : List PV → List PyData
  | [] => []
  | x :: xs => toD x :: toDs xs
end
mutual
theorem toD_lay : ∀ (x : PV) (d : Nat), pok x d = true → (toD x).canLay0 = true ∧ (toD x).depth ≤ d
  | .non, d, _ => ⟨rfl, Nat.zero_le _⟩
  | .bl _, d, _ => ⟨rfl, Nat.zero_le _⟩
  | .int _, d, _ => ⟨rfl, Nat.zero_le _⟩
  | .str x, d, h => ⟨h, Nat.zero_le _⟩
  | .tup xs, 0, h => by cases h
  | .tup xs, d + 1, h => ⟨(toDs_lay xs d h).1, Nat.succ_le_succ (toDs_lay xs d h).2⟩
  | .lst xs, 0, h => by cases h
  | .lst xs, d + 1, h => ⟨(toDs_lay xs d h).1, Nat.succ_le_succ (toDs_lay xs d h).2⟩
  | .loc _, d, h => by cases h
  | .scr _, d, h => by cases h
theorem toDs_lay : ∀ (xs : List PV) (d : Nat), poks xs d = true → PyData.canLayAll0 (toDs xs) = true ∧ PyData.depthAll (toDs xs) ≤ d
  | [], d, _ => ⟨rfl, Nat.zero_le _⟩
  | x :: xs, d, h => by
    have h' : (pok x d && poks xs d) = true := h
    rw [Bool.and_eq_true] at h'
    obtain ⟨a1, a2⟩ := toD_lay x d h'.1
    obtain ⟨b1, b2⟩ := toDs_lay xs d h'.2
    refine ⟨?_, ?_⟩
    · show ((toD x).canLay0 && PyData.canLayAll0 (toDs xs)) = true
      rw [a1, b1] <;> rfl
    · show max (toD x).depth (PyData.depthAll (toDs xs)) ≤ d
      exact Nat.max_le.mpr ⟨a2, b2⟩
end
theorem toD_shaped {x : PV} (h : pok x 64 = true) : SeqAt.shaped (toD x) = true := by
  obtain ⟨a, b⟩ := toD_lay x 64 h
  unfold SeqAt.shaped
  rw [a, Bool.true_and]
  exact decide_eq_true b
mutual
theorem toD_eqv : ∀ (x y : PV) (d e : Nat), pok x d = true → pok y e = true → PyData.eqv (toD x) (toD y) = peqv x y
  | .tup xs, .tup ys, d + 1, e + 1, h, g => toDs_eqv xs ys d e h g
  | .lst xs, .lst ys, d + 1, e + 1, h, g => toDs_eqv xs ys d e h g
  | .tup xs, y, 0, _, h, _ => by cases h
  | .lst xs, y, 0, _, h, _ => by cases h
  | x, .tup xs, _, 0, _, h => by cases h
  | x, .lst xs, _, 0, _, h => by cases h
  | .loc _, y, _, _, h, _ => by cases h
  | .scr _, y, _, _, h, _ => by cases h
  | x, .loc _, _, _, _, h => by cases h
  | x, .scr _, _, _, _, h => by cases h
  | .non, .non, _, _, _, _ => rfl
  | .non, .bl _, _, _, _, _ => rfl
  | .non, .int _, _, _, _, _ => rfl
  | .non, .str _, _, _, _, _ => rfl
  | .non, .tup _, _, _, _, _ => rfl
  | .non, .lst _, _, _, _, _ => rfl
  | .bl _, .non, _, _, _, _ => rfl
  | .bl _, .bl _, _, _, _, _ => rfl
  | .bl _, .int _, _, _, _, _ => rfl
  | .bl _, .str _, _, _, _, _ => rfl
  | .bl _, .tup _, _, _, _, _ => rfl
  | .bl _, .lst _, _, _, _, _ => rfl
  | .int _, .non, _, _, _, _ => rfl
  | .int _, .bl _, _, _, _, _ => rfl
  | .int _, .int _, _, _, _, _ => rfl
  | .int _, .str _, _, _, _, _ => rfl
  | .int _, .tup _, _, _, _, _ => rfl
  | .int _, .lst _, _, _, _, _ => rfl
  | .str _, .non, _, _, _, _ => rfl
  | .str _, .bl _, _, _, _, _ => rfl
  | .str _, .int _, _, _, _, _ => rfl
  | .str _, .str _, _, _, _, _ => rfl
  | .str _, .tup _, _, _, _, _ => rfl
  | .str _, .lst _, _, _, _, _ => rfl
  | .tup _, .non, _, _, _, _ => rfl
  | .tup _, .bl _, _, _, _, _ => rfl
  | .tup _, .int _, _, _, _, _ => rfl
  | .tup _, .str _, _, _, _, _ => rfl
  | .tup _, .lst _, _, _, _, _ => rfl
  | .lst _, .non, _, _, _, _ => rfl
  | .lst _, .bl _, _, _, _, _ => rfl
  | .lst _, .int _, _, _, _, _ => rfl
  | .lst _, .str _, _, _, _, _ => rfl
  | .lst _, .tup _, _, _, _, _ => rfl
theorem toDs_eqv : ∀ (xs ys : List PV) (d e : Nat), poks xs d = true → poks ys e = true → PyData.eqvAll (toDs xs) (toDs ys) = peqvs xs ys
  | [], [], _, _, _, _ => rfl
  | [], _ :: _, _, _, _, _ => rfl
  | _ :: _, [], _, _, _, _ => rfl
  | x :: xs, y :: ys, d, e, h, g => by
    have h' : (pok x d && poks xs d) = true := h
    have g' : (pok y e && poks ys e) = true := g
    rw [Bool.and_eq_true] at h' g'
    show (PyData.eqv (toD x) (toD y) && PyData.eqvAll (toDs xs) (toDs ys)) = (peqv x y && peqvs xs ys)
    rw [toD_eqv x y d e h'.1 g'.1, toDs_eqv xs ys d e h'.2 g'.2]
end
/-- a list in the store by its value -/
def rsv (μ : Sto) : PV → PV
  | .loc l => match μ[l]? with
    | some (.lst xs) => .lst xs
    | _ => .loc l
  | x => x
section
variable {K : Frg} {ι : Ad} {n : Nat} {H : Hp}
mutual
theorem dp_rep : ∀ (x : PV) (v : V) (d : Nat), pok x d = true → RepV K ι n H x v → Dp K H v (toD x)
  | .non, _, _, _, r => by cases r; exact .non
  | .bl b, _, _, _, r => by cases r; exact .bl b
  | .int i, _, _, _, r => by cases r; exact .int i
  | .str z, _, _, _, r => by cases r; exact .str z
  | .tup xs, _, 0, h, _ => by cases h
  | .lst xs, _, 0, h, _ => by cases h
  | .tup xs, _, d + 1, h, r => by
    obtain ⟨a, ys, rfl, t, q⟩ := r
    exact .tup t.sq (dps_rep xs ys d h q)
  | .lst xs, _, d + 1, h, r => by
    obtain ⟨a, ys, rfl, ⟨t, _⟩, q⟩ := r
    exact .lst (.of t) (dps_rep xs ys d h q)
  | .loc _, _, _, h, _ => by cases h
  | .scr _, _, _, h, _ => by cases h
theorem dps_rep : ∀ (xs : List PV) (ys : List V) (d : Nat), poks xs d = true → RepVs K ι n H xs ys → DpAll K H ys (toDs xs)
  | [], _, _, _, r => by cases r; exact .nil
  | x :: xs, _, d, h, r => by
    obtain ⟨y, t, rfl, r1, r2⟩ := r
    have h' : (pok x d && poks xs d) = true := h
    rw [Bool.and_eq_true] at h'
    exact .cons (dp_rep x y d h'.1 r1) (dps_rep xs t d h'.2 r2)
end
theorem dp_rsv {μ : Sto} (S : RepS K ι H μ) {x : PV} {v : V} (h : pok (rsv μ x) 64 = true) (r : RepV K ι μ.length H x v) : Dp K H v (toD (rsv μ x)) := by
  cases x with
  | loc l =>
    obtain ⟨hl, rfl⟩ := r
    unfold rsv at h ⊢
    simp only at h ⊢
    split at h
    · rename_i xs e
      obtain ⟨ys, t, q⟩ := S.obj l _ e
      exact .lst (.of t) (dps_rep xs ys 63 h q)
    · cases h
  | _ => exact dp_rep _ v 64 h r
end
def f_eq : Op2 := fun x y μ => match x, y with
  | .int i, .int j => some (.bl (decide (i = j)), μ)
  | .str a, .str b => some (.bl (decide (a = b)), μ)
  | x, y => if (pok (rsv μ x) 64 && pok (rsv μ y) 64) = true then some (.bl (peqv (rsv μ x) (rsv μ y)), μ) else none
def f_ne : Op2 := fun x y μ => match x, y with
  | .int i, .int j => some (.bl (!decide (i = j)), μ)
  | .str a, .str b => some (.bl (!decide (a = b)), μ)
  | x, y => if (pok (rsv μ x) 64 && pok (rsv μ y) 64) = true then some (.bl (!peqv (rsv μ x) (rsv μ y)), μ) else none
def r_eq (K : Frg) : R2 := fun x y H Q => rEq x y H Q ∨ rEqD K x y H Q
def r_ne (K : Frg) : R2 := fun x y H Q => rNe x y H Q ∨ rNeD K x y H Q
theorem o_eq {X : Cx} (hu : X.A.units + 64 < cLine) : OpR X (compareOp .Eq) (r_eq X.K) := op_eq.or (op_eqD hu)
theorem o_ne {X : Cx} (hu : X.A.units + 64 < cLine) : OpR X (compareOp .NotEq) (r_ne X.K) := op_ne.or (op_neD hu)
theorem s_eq {K : Frg} : S2 K (r_eq K) f_eq := by
  intro ι H μ x y v μ' hx hy Q S rx ry h q
  unfold f_eq at h
  split at h
  · cases h; cases rx; cases ry
    refine .inl ⟨rfl, q.pure S ?_⟩
    show V.bl _ = V.bl _
    simp
  · cases h; cases rx; cases ry
    refine .inl ⟨rfl, q.pure S ?_⟩
    show V.bl _ = V.bl _
    simp
  · split at h
    · rename_i hk
      cases h
      rw [Bool.and_eq_true] at hk
      refine .inr ⟨_, _, dp_rsv S hk.1 rx, dp_rsv S hk.2 ry, toD_shaped hk.1, toD_shaped hk.2, q.pure S ?_⟩
      rw [toD_eqv _ _ 64 64 hk.1 hk.2]
      rfl
    · cases h
theorem s_ne {K : Frg} : S2 K (r_ne K) f_ne := by
  intro ι H μ x y v μ' hx hy Q S rx ry h q
  unfold f_ne at h
  split at h
  · cases h; cases rx; cases ry
    refine .inl ⟨rfl, q.pure S ?_⟩
    show V.bl _ = V.bl _
    simp
  · cases h; cases rx; cases ry
    refine .inl ⟨rfl, q.pure S ?_⟩
    show V.bl _ = V.bl _
    simp
  · split at h
    · rename_i hk
      cases h
      rw [Bool.and_eq_true] at hk
      refine .inr ⟨_, _, dp_rsv S hk.1 rx, dp_rsv S hk.2 ry, toD_shaped hk.1, toD_shaped hk.2, q.pure S ?_⟩
      rw [toD_eqv _ _ 64 64 hk.1 hk.2]
      rfl
    · cases h

/-! ### is, is not -/
def isNon : PV → Bool
  | .non => true
  | _ => false
def f_is : Op2 := fun x y μ => match x, y with
  | .bl a, .bl b => some (.bl (decide (a = b)), μ)
  | x, .non => some (.bl (isNon x), μ)
  | _, _ => none
def f_isn : Op2 := fun x y μ => match x, y with
  | .bl a, .bl b => some (.bl (!decide (a = b)), μ)
  | x, .non => some (.bl (!isNon x), μ)
  | _, _ => none
def r_is : R2 := fun x y H Q => rIsB x y H Q ∨ (y = .non ∧ Q (.bl (decide (x = .non))) H)
def r_isn : R2 := fun x y H Q => rNotB x y H Q ∨ (y = .non ∧ Q (.bl (!decide (x = .non))) H)
theorem o_is {X : Cx} : OpR X (compareOp .Is) r_is := op_isBl.or op_isN
theorem o_isn {X : Cx} : OpR X (compareOp .IsNot) r_isn := op_notBl.or op_notN
theorem non_rep {K : Frg} {ι : Ad} {n : Nat} {H : Hp} {x : PV} {v : V} (r : RepV K ι n H x v) : decide (v = .non) = isNon x := by
  cases x with
  | non => cases r; rfl
  | bl _ => cases r; rfl
  | int _ => cases r; rfl
  | str _ => cases r; rfl
  | tup xs => obtain ⟨a, ys, rfl, _⟩ := r; rfl
  | lst xs => obtain ⟨a, ys, rfl, _⟩ := r; rfl
  | loc l => obtain ⟨_, rfl⟩ := r; rfl
  | scr l => obtain ⟨a, rfl, _⟩ := r; rfl
theorem s_is {K : Frg} : S2 K r_is f_is := by
  intro ι H μ x y v μ' hx hy Q S rx ry h q
  unfold f_is at h
  split at h
  · cases h; cases rx; cases ry; exact .inl ⟨_, _, rfl, rfl, q.pure S rfl⟩
  · cases h; cases ry
    exact .inr ⟨rfl, q.pure S (congrArg V.bl (non_rep rx))⟩
  · cases h
theorem s_isn {K : Frg} : S2 K r_isn f_isn := by
  intro ι H μ x y v μ' hx hy Q S rx ry h q
  unfold f_isn at h
  split at h
  · cases h; cases rx; cases ry; exact .inl ⟨_, _, rfl, rfl, q.pure S rfl⟩
  · cases h; cases ry
    exact .inr ⟨rfl, q.pure S (congrArg V.bl (congrArg not (non_rep rx)))⟩
  · cases h

/-! ### subscripts -/
def rdS (μ : Sto) : PV → Option (List PV)
  | .tup xs => some xs
  | x => rdL μ x
theorem RepVs.atI {K : Frg} {ι : Ad} {n : Nat} {H : Hp} {xs : List PV} {ys : List V} (r : RepVs K ι n H xs ys) {i : Int} {x : PV} (h : L2.atI xs i = some x) : ∃ y, L2.atI ys i = some y ∧ RepV K ι n H x y := by
  unfold L2.atI at h ⊢
  rw [← r.length]
  obtain ⟨j, e1, e2⟩ := Option.bind_eq_some_iff.mp h
  obtain ⟨y, h1, h2⟩ := r.get e2
  exact ⟨y, by rw [e1]; exact h1, h2⟩
def f_ix : Op2 := fun x y μ => match x, y with
  | .str z, .int i => if z.length ≤ sizeLine then (L2.atI z.cps.toList i).map fun c => (.str ⟨#[c]⟩, μ) else none
  | x, .int i => (rdS μ x).bind fun xs => (L2.atI xs i).map fun v => (v, μ)
  | _, _ => none
theorem s_ix {K : Frg} : S2 K (rIx K) f_ix := by
  intro ι H μ x y v μ' hx hy Q S rx ry h q
  unfold f_ix at h
  split at h
  · split at h
    · obtain ⟨c, e1, e2⟩ := Option.map_eq_some_iff.mp h
      cases e2; cases rx; cases ry
      exact .inr (.inr ⟨_, _, c, rfl, rfl, by assumption, e1, q.pure S rfl⟩)
    · cases h
  · obtain ⟨xs, e1, e2⟩ := Option.bind_eq_some_iff.mp h
    obtain ⟨w, e3, e4⟩ := Option.map_eq_some_iff.mp e2
    cases e4; cases ry
    unfold rdS at e1
    split at e1
    · cases e1
      obtain ⟨a, us, rfl, ta, ra⟩ := rx
      obtain ⟨z, h1, h2⟩ := ra.atI e3
      exact .inr (.inl ⟨a, us, _, z, rfl, rfl, ta.sq, h1, q.pure S h2⟩)
    · obtain ⟨a, us, rfl, ta, ra⟩ := rdL_rep S rx e1
      obtain ⟨z, h1, h2⟩ := ra.atI e3
      exact .inl ⟨a, us, _, z, rfl, rfl, .of ta, h1, q.pure S h2⟩
  · cases h
section
variable {X : Cx} {a b : Expr} {da db : Den} {pos : Pos}
theorem e_ix (ha : PE X a (tD X.K da)) (hb : PE X b (tD X.K db)) (hs : PlainIx b := by exact fun _ _ => rfl) : PE X (.Subscript a b pos) (tD X.K (d2 f_ix da db)) :=
  (pe_ix ix_seq ha hb hs).weak fun _ _ _ h => t_2 s_ix h
end
/-! slices -/
def DenO := En → Sto → Option (Option Int × Sto)
def tO' (K : Frg) (d : DenO) : TO := fun σ H Q => ∃ ι ρ μ o μ', RepE K ι μ.length H ρ σ ∧ RepS K ι H μ ∧ d ρ μ = some (o, μ') ∧ ∀ ι' H', Ext ι μ.length H ι' μ'.length H' → RepS K ι' H' μ' → Q o H'
def oNo : DenO := fun _ μ => some (none, μ)
def oSo (d : Den) : DenO := fun ρ μ => match d ρ μ with
  | some (.int i, μ') => some (some i, μ')
  | _ => none
section
variable {X : Cx} {e : Expr} {d : Den} {pos p2 : Pos}
theorem PO.weak {e : Option Expr} {t t' : TO} (h : PO X e t) (g : ∀ σ H Q, t' σ H Q → t σ H Q) : PO X e t' := ⟨fun pins s σ H Q I q => h.run pins s σ H Q I (g σ H Q q)⟩
theorem o_no : PO X none (tO' X.K oNo) := PO.weak po_none fun σ H Q h => by
  obtain ⟨ι, ρ, μ, o, μ', E, S, e, q⟩ := h
  cases e
  exact q ι H .refl S
theorem o_so (h : PE X e (tD X.K d)) : PO X (some e) (tO' X.K (oSo d)) := PO.weak (po_some h) fun σ H Q h => by
  obtain ⟨ι, ρ, μ, o, μ', E, S, e, q⟩ := h
  unfold oSo at e
  split at e
  · rename_i i μ1 e1
    cases e
    exact ⟨ι, ρ, μ, _, _, E, S, e1, fun hv ι' H' X R S' => ⟨i, R, q ι' H' X S'⟩⟩
  · cases e
end
def cutP {α : Type} (xs : List α) (lo hi : Option Int) : List α := (xs.drop (HT.sIx xs.length 0 lo)).take (HT.sIx xs.length xs.length hi - HT.sIx xs.length 0 lo)
theorem RepVs.cut {K : Frg} {ι : Ad} {n : Nat} {H : Hp} {xs : List PV} {ys : List V} (r : RepVs K ι n H xs ys) (lo hi : Option Int) : RepVs K ι n H (cutP xs lo hi) (cutV ys lo hi) := by
  unfold cutP cutV
  rw [r.length]
  exact (r.drop _).take _
def f_sl (lo hi : Option Int) : Op1 := fun x μ => match x with
  | .tup xs => some (.tup (cutP xs lo hi), μ)
  | .scr ns => some (.lst ((cutP ns lo hi).map PV.int), μ)
  | x => (rdL μ x).map fun xs => (.lst (cutP xs lo hi), μ)
def r_sl (K : Frg) : V → Option Int → Option Int → Hp → VK → Prop := fun x lo hi H Q => rSlA K x lo hi H Q ∨ rSlL K x lo hi H Q
theorem o_sl {X : Cx} : SlR X (r_sl X.K) := sl_tupA.or sl_list
theorem cut_map {α β : Type} (f : α → β) (xs : List α) (lo hi : Option Int) : cutP (xs.map f) lo hi = (cutP xs lo hi).map f := by
  unfold cutP
  rw [List.length_map, List.map_take, List.map_drop]
theorem repVs_ints {K : Frg} {ι : Ad} {n : Nat} {H : Hp} : ∀ ns : List Int, RepVs K ι n H (ns.map PV.int) (ns.map V.int)
  | [] => rfl
  | i :: r => ⟨.int i, r.map V.int, rfl, rfl, repVs_ints r⟩
theorem s_sl {K : Frg} {lo hi : Option Int} : S1 K (fun x => r_sl K x lo hi) (f_sl lo hi) := by
  intro ι H μ x v μ' hx Q S rx h q
  unfold f_sl at h
  split at h
  · rename_i xs
    cases h
    obtain ⟨a, us, rfl, ta, ra⟩ := rx
    refine .inl ⟨a, us, rfl, ta.sq, fun hw => ?_, fun _ p hp => q.tup S (ra.cut lo hi) hp⟩
    refine q.pure S ⟨a, us, rfl, ta, ?_⟩
    rw [← ra.length] at hw
    have : cutP xs lo hi = xs := by
      unfold cutP
      rw [hw.1, hw.2, List.drop_zero, Nat.sub_zero, List.take_length]
    rw [this]
    exact ra
  · rename_i ns
    cases h
    obtain ⟨a, rfl, t⟩ := rx
    refine .inr ⟨a, _, rfl, t.sq, fun p hp => q.lst S ?_ hp⟩
    have e : cutV (ns.map V.int) lo hi = (cutP ns lo hi).map V.int := cut_map V.int ns lo hi
    rw [e]
    exact repVs_ints _
  · obtain ⟨xs, e1, e2⟩ := Option.map_eq_some_iff.mp h
    cases e2
    obtain ⟨a, us, rfl, ta, ra⟩ := rdL_rep S rx e1
    exact .inr ⟨a, us, rfl, .of ta, fun p hp => q.lst S (ra.cut lo hi) hp⟩
def dSl (d : Den) (lo hi : DenO) : Den := fun ρ μ => (d ρ μ).bind fun p => (lo ρ p.2).bind fun q => (hi ρ q.2).bind fun r => f_sl q.1 r.1 p.1 r.2
section
variable {X : Cx} {e : Expr} {d : Den} {pos p2 : Pos} {lo hi : Option Expr} {dl dh : DenO}
theorem e_sl (he : PE X e (tD X.K d)) (hl : PO X lo (tO' X.K dl)) (hu : PO X hi (tO' X.K dh)) : PE X (.Subscript e (.Slice lo hi none p2) pos) (tD X.K (dSl d dl dh)) :=
  (pe_slice o_sl he hl hu).weak fun σ H Q h => by
    obtain ⟨ι, ρ, μ, v, μ', E, S, e, q⟩ := h
    obtain ⟨⟨x, μ1⟩, e1, e⟩ := Option.bind_eq_some_iff.mp e
    obtain ⟨⟨l, μ2⟩, e2, e⟩ := Option.bind_eq_some_iff.mp e
    obtain ⟨⟨u, μ3⟩, e3, e⟩ := Option.bind_eq_some_iff.mp e
    exact ⟨ι, ρ, μ, x, μ1, E, S, e1, fun hx ι1 H1 X1 R1 S1 => ⟨ι1, ρ, μ1, l, μ2, E.mono X1, S1, e2, fun ι2 H2 X2 S2 => ⟨ι2, ρ, μ2, u, μ3, E.mono (X1.trans X2), S2, e3, fun ι3 H3 X3 S3 =>
      s_sl ι3 H3 μ3 x v μ' hx Q S3 (R1.mono (X2.trans X3)) e (q.mono (X1.trans (X2.trans X3)))⟩⟩⟩
end
end Fd

/-! Fd4: targets, statements, loops. -/
namespace Fd
open PySem PySem.Spec PyProof.Rows L2

inductive Out where
  | nx (ρ : En) (μ : Sto) | rt (v : PV) (μ : Sto) | bk (ρ : En) (μ : Sto) | ct (ρ : En) (μ : Sto)
abbrev DenS := En → Sto → Option Out
abbrev DenG := PV → En → Sto → Option (En × Sto)
def AftR (K : Frg) (ι : Ad) (μ : Sto) (H : Hp) (ρ' : En) (μ' : Sto) (Q : L2.St → Hp → Prop) : Prop := ∀ σ' ι' H', Ext ι μ.length H ι' μ'.length H' → RepE K ι' μ'.length H' ρ' σ' → RepS K ι' H' μ' → Q σ' H'
def AftS (K : Frg) (ι : Ad) (μ : Sto) (H : Hp) (D : Ends) : Out → Prop
  | .nx ρ' μ' => AftR K ι μ H ρ' μ' D.nx
  | .rt v μ' => Aft K ι μ H v μ' D.rt
  | .bk ρ' μ' => AftR K ι μ H ρ' μ' D.bk
  | .ct ρ' μ' => AftR K ι μ H ρ' μ' D.ct
def tS (K : Frg) (d : DenS) : TS := fun D σ H => ∃ ι ρ μ o, RepE K ι μ.length H ρ σ ∧ RepS K ι H μ ∧ d ρ μ = some o ∧ AftS K ι μ H D o
def tG (K : Frg) (g : DenG) : TG := fun v σ H Q => ∃ ι ρ μ pv ρ' μ', RepE K ι μ.length H ρ σ ∧ RepS K ι H μ ∧ RepV K ι μ.length H pv v ∧ g pv ρ μ = some (ρ', μ') ∧ AftR K ι μ H ρ' μ' Q
section
variable {K : Frg} {ι ι1 : Ad} {μ μ1 μ' : Sto} {H H1 : Hp}
theorem AftR.mono {ρ' : En} {Q : L2.St → Hp → Prop} (e : Ext ι μ.length H ι1 μ1.length H1) (q : AftR K ι μ H ρ' μ' Q) : AftR K ι1 μ1 H1 ρ' μ' Q := fun σ' ι' H' X R S => q σ' ι' H' (e.trans X) R S
theorem AftS.mono {D : Ends} {o : Out} (e : Ext ι μ.length H ι1 μ1.length H1) (q : AftS K ι μ H D o) : AftS K ι1 μ1 H1 D o := by
  cases o with
  | nx ρ μ => exact AftR.mono e q
  | rt v μ => exact Aft.mono e q
  | bk ρ μ => exact AftR.mono e q
  | ct ρ μ => exact AftR.mono e q
end
/-! ### blocks -/
def sNil : DenS := fun ρ μ => some (.nx ρ μ)
def sSeq (a b : DenS) : DenS := fun ρ μ => (a ρ μ).bind fun o => match o with
  | .nx ρ' μ' => b ρ' μ'
  | o => some o
def sIf (c : DenT) (a b : DenS) : DenS := fun ρ μ => (c ρ μ).bind fun p => if p.1 = true then a ρ p.2 else b ρ p.2
def sRet (d : Den) : DenS := fun ρ μ => (d ρ μ).map fun p => .rt p.1 p.2
def sRetN : DenS := fun _ μ => some (.rt .non μ)
def sEx (d : Den) : DenS := fun ρ μ => (d ρ μ).map fun p => .nx ρ p.2
def sBk : DenS := fun ρ μ => some (.bk ρ μ)
def sCt : DenS := fun ρ μ => some (.ct ρ μ)
def sNo : DenS := fun _ _ => none
def sAsg (d : Den) (g : DenG) : DenS := fun ρ μ => (d ρ μ).bind fun p => (g p.1 ρ p.2).map fun q => .nx q.1 q.2
section
variable {X : Cx} {st : Stmt} {rest : List Stmt} {t u : DenS} {e : Expr} {d : Den} {pos : Pos}
theorem ss_nil : PSs X [] (tS X.K sNil) := pss_nil.weak fun D σ H h => by
  obtain ⟨ι, ρ, μ, o, E, S, e, q⟩ := h
  cases e
  exact q σ ι H .refl E S
theorem ss_cons (h1 : PS X st (tS X.K t)) (h2 : PSs X rest (tS X.K u)) : PSs X (st :: rest) (tS X.K (sSeq t u)) :=
  (pss_cons h1 h2).weak fun D σ H h => by
    obtain ⟨ι, ρ, μ, o, E, S, e, q⟩ := h
    obtain ⟨o1, e1, e2⟩ := Option.bind_eq_some_iff.mp e
    refine ⟨ι, ρ, μ, o1, E, S, e1, ?_⟩
    cases o1 with
    | nx ρ' μ' => exact fun σ' ι' H' X R S' => ⟨ι', ρ', μ', o, R, S', e2, q.mono X⟩
    | rt v μ' => cases e2; exact q
    | bk ρ' μ' => cases e2; exact q
    | ct ρ' μ' => cases e2; exact q
theorem ss_one (h1 : PS X st (tS X.K t)) : PSs X [st] (tS X.K t) := pss_one h1
theorem ss_never {sts : List Stmt} : PSs X sts (tS X.K sNo) := pss_never.weak fun D σ H h => by
  obtain ⟨ι, ρ, μ, o, E, S, e, q⟩ := h
  cases e
theorem s_never : PS X st (tS X.K sNo) := ps_never.weak fun D σ H h => by
  obtain ⟨ι, ρ, μ, o, E, S, e, q⟩ := h
  cases e
theorem s_pass : PS X (.Pass pos) (tS X.K sNil) := ps_pass.weak fun D σ H h => by
  obtain ⟨ι, ρ, μ, o, E, S, e, q⟩ := h
  cases e
  exact q σ ι H .refl E S
theorem s_bk : PS X (.Break pos) (tS X.K sBk) := ps_break.weak fun D σ H h => by
  obtain ⟨ι, ρ, μ, o, E, S, e, q⟩ := h
  cases e
  exact q σ ι H .refl E S
theorem s_ct : PS X (.Continue pos) (tS X.K sCt) := ps_continue.weak fun D σ H h => by
  obtain ⟨ι, ρ, μ, o, E, S, e, q⟩ := h
  cases e
  exact q σ ι H .refl E S
theorem s_ex (he : PE X e (tD X.K d)) (hs : swapsWith e none pos.line X.env = pure false := by rfl) : PS X (.Expr e pos) (tS X.K (sEx d)) :=
  (ps_expr he hs).weak fun D σ H h => by
    obtain ⟨ι, ρ, μ, o, E, S, e, q⟩ := h
    obtain ⟨⟨v, μ1⟩, e1, e2⟩ := Option.map_eq_some_iff.mp e
    cases e2
    exact ⟨ι, ρ, μ, v, μ1, E, S, e1, fun hv ι' H' X R S' => q σ ι' H' X (E.mono X) S'⟩
theorem s_ret (he : PE X e (tD X.K d)) : PS X (.Return (some e) pos) (tS X.K (sRet d)) :=
  (ps_ret he).weak fun D σ H h => by
    obtain ⟨ι, ρ, μ, o, E, S, e, q⟩ := h
    obtain ⟨⟨v, μ1⟩, e1, e2⟩ := Option.map_eq_some_iff.mp e
    cases e2
    exact ⟨ι, ρ, μ, v, μ1, E, S, e1, q⟩
theorem s_retN : PS X (.Return none pos) (tS X.K sRetN) := ps_retN.weak fun D σ H h => by
  obtain ⟨ι, ρ, μ, o, E, S, e, q⟩ := h
  cases e
  exact q _ ι H .refl rfl S
theorem s_if {c : Expr} {a b : List Stmt} {dc : DenT} (hc : PT X c (tT X.K dc)) (ha : PSs X a (tS X.K t)) (hb : PSs X b (tS X.K u)) : PS X (.If c a b pos) (tS X.K (sIf dc t u)) :=
  (ps_if hc ha hb).weak fun D σ H h => by
    obtain ⟨ι, ρ, μ, o, E, S, e, q⟩ := h
    obtain ⟨⟨b, μ1⟩, e1, e2⟩ := Option.bind_eq_some_iff.mp e
    refine ⟨ι, ρ, μ, b, μ1, E, S, e1, fun ι1 H1 X1 S1 => ?_⟩
    cases b with
    | true => exact ⟨ι1, ρ, μ1, o, E.mono X1, S1, e2, q.mono X1⟩
    | false => exact ⟨ι1, ρ, μ1, o, E.mono X1, S1, e2, q.mono X1⟩
end
/-! ### targets -/
def gNm (i : Nat) : DenG := fun v ρ μ => some (ρ.set i (some v), μ)
abbrev DenGs := List PV → En → Sto → Option (En × Sto)
def gsNil : DenGs := fun vs ρ μ => match vs with
  | [] => some (ρ, μ)
  | _ => none
def gsCons (g : DenG) (r : DenGs) : DenGs := fun vs ρ μ => match vs with
  | v :: vs => (g v ρ μ).bind fun p => r vs p.1 p.2
  | [] => none
def gTu (n : Nat) (r : DenGs) : DenG := fun v ρ μ => match v with
  | .tup xs => if xs.length = n then r xs ρ μ else none
  | _ => none
def tGs (K : Frg) (g : DenGs) : TGs := fun vs σ H Q => ∃ ι ρ μ pvs ρ' μ', RepE K ι μ.length H ρ σ ∧ RepS K ι H μ ∧ RepVs K ι μ.length H pvs vs ∧ g pvs ρ μ = some (ρ', μ') ∧ AftR K ι μ H ρ' μ' Q
section
variable {X : Cx} {e tg : Expr} {es : List Expr} {d : Den} {g : DenG} {gs : DenGs} {pos : Pos}
theorem _root_.L2.PG.weak {t t' : TG} (h : PG X e t) (w : ∀ v σ H Q, t' v σ H Q → t v σ H Q) : PG X e t' := ⟨fun pins s σ H v u Q I r q => h.run pins s σ H v u Q I r (w v σ H Q q)⟩
theorem _root_.L2.PGs.weak {t t' : TGs} (h : PGs X es t) (w : ∀ v σ H Q, t' v σ H Q → t v σ H Q) : PGs X es t' := ⟨fun pins s σ H v u Q I r q => h.run pins s σ H v u Q I r (w v σ H Q q)⟩
theorem g_nm (i : Nat) {x : Str} (hN : X.N.Nodup) (hi : X.N[i]? = some x := by rfl) (hx : Loc X.env.scope x := by first | exact Or.inl rfl | exact Or.inr rfl) (hf : X.fn x = true ∨ X.env.scope.names.lookup x = some .local := by first | exact .inl rfl | exact .inr rfl | assumption) :
    PG X (.Name x pos) (tG X.K (gNm i)) := (pg_name (i := i) hN hi hx hf).weak fun v σ H Q h => by
  obtain ⟨ι, ρ, μ, pv, ρ', μ', E, S, R, e, q⟩ := h
  cases e
  exact q _ ι H .refl (E.set i R) S
theorem gs_nil : PGs X [] (tGs X.K gsNil) := pgs_nil.weak fun v σ H Q h => by
  obtain ⟨ι, ρ, μ, pv, ρ', μ', E, S, R, e, q⟩ := h
  unfold gsNil at e
  split at e
  · cases e; cases R; exact ⟨rfl, q σ ι H .refl E S⟩
  · cases e
theorem gs_cons (h1 : PG X e (tG X.K g)) (h2 : PGs X es (tGs X.K gs)) (hs : (assignEach (e :: es) X.env).map (·.2) = assign e X.env :: (assignEach es X.env).map (·.2) := by rfl) : PGs X (e :: es) (tGs X.K (gsCons g gs)) :=
  (pgs_cons h1 h2 hs).weak fun v σ H Q h => by
    obtain ⟨ι, ρ, μ, pv, ρ', μ', E, S, R, e, q⟩ := h
    unfold gsCons at e
    split at e
    · rename_i w ws
      obtain ⟨y, r, rfl, r1, r2⟩ := R
      obtain ⟨⟨ρ1, μ1⟩, e1, e2⟩ := Option.bind_eq_some_iff.mp e
      exact ⟨y, r, rfl, ι, ρ, μ, w, ρ1, μ1, E, S, r1, e1, fun σ1 ι1 H1 X1 E1 S1 => ⟨ι1, ρ1, μ1, ws, ρ', μ', E1, S1, RepVs.mono X1 r2, e2, q.mono X1⟩⟩
    · cases e
theorem g_tu {k n : Nat} (hc : X.calm = true) (h : PGs X es (tGs X.K gs)) (hn : (assignEach es X.env).length = n := by rfl) (hst : (assignEach es X.env).findIdx? (·.1) = none := by rfl) : PG X (.Tuple es k pos) (tG X.K (gTu n gs)) :=
  (pg_tup hc h hn hst).weak fun v σ H Q h => by
    obtain ⟨ι, ρ, μ, pv, ρ', μ', E, S, R, e, q⟩ := h
    unfold gTu at e
    split at e
    · rename_i xs
      split at e
      · rename_i hl
        obtain ⟨a, ys, rfl, t, r⟩ := R
        exact ⟨a, ys, rfl, t.sq, by rw [← r.length]; exact hl, ι, ρ, μ, xs, ρ', μ', E, S, r, e, q⟩
      · cases e
    · cases e
/-- o[i] = v, o a list of the store -/
def f_set (o i v : PV) (μ : Sto) : Option Sto := match o, i with
  | .loc l, .int k => match μ[l]? with
    | some (.lst xs) => (ixN xs.length k).map fun j => μ.set l (.lst (xs.set j v))
    | _ => none
  | _, _ => none
def gSb (o i : Den) : DenG := fun v ρ μ => (o ρ μ).bind fun p => (i ρ p.2).bind fun q => (f_set p.1 q.1 v q.2).map fun μ' => (ρ, μ')
theorem set_rep {K : Frg} {ι : Ad} {H : Hp} {μ μ' : Sto} {o i v : PV} {ho hi hv : V} {Q : Hp → Prop} (S : RepS K ι H μ) (ro : RepV K ι μ.length H o ho) (ri : RepV K ι μ.length H i hi) (rv : RepV K ι μ.length H v hv)
    (e : f_set o i v μ = some μ') (q : ∀ H', Ext ι μ.length H ι μ'.length H' → RepS K ι H' μ' → Q H') : rSetL ho hi hv H Q := by
  unfold f_set at e
  split at e
  · rename_i l k
    split at e
    · rename_i xs em
      obtain ⟨j, e1, e2⟩ := Option.map_eq_some_iff.mp e
      cases e2; cases ri
      obtain ⟨hl, rfl⟩ := ro
      obtain ⟨ys, t, r⟩ := S.obj l _ em
      refine ⟨ι l, ys, k, j, rfl, rfl, t, by rw [← r.length]; exact e1, ?_⟩
      have X := Ext.put (o := .lst (ys.set j hv)) S hl
      refine q _ ?_ (S.put hl ⟨_, upd_same, (RepVs.mono X r).set j (rv.mono X)⟩)
      rw [List.length_set]
      exact X
    · cases e
  · cases e
theorem g_sb {o i : Expr} {d2 : Den} (ho : PE X o (tD X.K d)) (hi : PE X i (tD X.K d2))
    (ha : ∀ v, assign (.Subscript o i pos) X.env v = (do
      let ov ← holding [v] (eval o X.env)
      let iv ← holding [v, ov] (eval i X.env)
      standAt pos
      holding [v, ov, iv] (setItem ov iv v)
      release [v, ov, iv] []) := by intro _; rfl) : PG X (.Subscript o i pos) (tG X.K (gSb d d2)) :=
  (pg_sub ho hi set_list ha).weak fun v σ H Q h => by
    obtain ⟨ι, ρ, μ, pv, ρ', μ', E, S, R, e, q⟩ := h
    obtain ⟨⟨x, μ1⟩, e1, e⟩ := Option.bind_eq_some_iff.mp e
    obtain ⟨⟨y, μ2⟩, e2, e⟩ := Option.bind_eq_some_iff.mp e
    obtain ⟨μ3, e3, e4⟩ := Option.map_eq_some_iff.mp e
    cases e4
    exact ⟨ι, ρ, μ, x, μ1, E, S, e1, fun hx ι1 H1 X1 R1 S1 => ⟨ι1, ρ, μ1, y, μ2, E.mono X1, S1, e2, fun hy ι2 H2 X2 R2 S2 =>
      set_rep S2 (R1.mono X2) R2 (R.mono (X1.trans X2)) e3 fun H3 X3 S3 => q σ ι2 H3 (X1.trans (X2.trans X3)) (E.mono (X1.trans (X2.trans X3))) S3⟩⟩
/-- target = value -/
theorem s_asg (he : PE X e (tD X.K d)) (hg : PG X tg (tG X.K g)) (hs : swapsWithSole [tg] e pos.line X.env = pure false := by rfl) (hw : swappedStores [tg] e X.env = pure none := by rfl)
    (h1 : (assignEach [tg] X.env).map (·.2) = [assign tg X.env] := by rfl) : PS X (.Assign [tg] e pos) (tS X.K (sAsg d g)) :=
  (ps_asg he hg hs hw h1).weak fun D σ H h => by
    obtain ⟨ι, ρ, μ, o, E, S, e, q⟩ := h
    obtain ⟨⟨v, μ1⟩, e1, e⟩ := Option.bind_eq_some_iff.mp e
    obtain ⟨⟨ρ2, μ2⟩, e2, e3⟩ := Option.map_eq_some_iff.mp e
    cases e3
    exact ⟨ι, ρ, μ, v, μ1, E, S, e1, fun hv ι1 H1 X1 R1 S1 => ⟨ι1, ρ, μ1, v, ρ2, μ2, E.mono X1, S1, R1, e2, AftR.mono X1 q⟩⟩
theorem s_set (i : Nat) {x : Str} {pos' : Pos} (hN : X.N.Nodup) (he : PE X e (tD X.K d)) (hi : X.N[i]? = some x := by rfl) (hx : Loc X.env.scope x := by first | exact Or.inl rfl | exact Or.inr rfl) (hs : swapsWith e (some (.Name x pos')) pos.line X.env = pure false := by rfl)
    (hf : X.fn x = true ∨ X.env.scope.names.lookup x = some .local := by first | exact .inl rfl | exact .inr rfl | assumption) :
    PS X (.Assign [.Name x pos'] e pos) (tS X.K (sAsg d (gNm i))) :=
  (ps_set (i := i) hN hi hx he hs hf).weak fun D σ H h => by
    obtain ⟨ι, ρ, μ, o, E, S, e, q⟩ := h
    obtain ⟨⟨v, μ1⟩, e1, e⟩ := Option.bind_eq_some_iff.mp e
    obtain ⟨⟨ρ2, μ2⟩, e2, e3⟩ := Option.map_eq_some_iff.mp e
    cases e3; cases e2
    exact ⟨ι, ρ, μ, v, μ1, E, S, e1, fun hv ι1 H1 X1 R1 S1 => q _ ι1 H1 X1 ((E.mono X1).set i R1) S1⟩
/-- a, b = x, y, the stores swapped -/
def sPar (i j : Nat) (r : DenA) : DenS := fun ρ μ => match r ρ μ with
  | some ([v, w], μ') => some (.nx ((ρ.set i (some v)).set j (some w)) μ')
  | _ => none
def sPar3 (i j k : Nat) (r : DenA) : DenS := fun ρ μ => match r ρ μ with
  | some ([u, v, w], μ') => some (.nx (((ρ.set i (some u)).set j (some v)).set k (some w)) μ')
  | _ => none
theorem s_par (i j : Nat) {x y : Str} {a b : Expr} {r : DenA} {px py pt : Pos} {kt k2 pt2} (hc : X.calm = true) (hN : X.N.Nodup) (ha : PA X [a, b] (tA X.K r)) (hi : X.N[i]? = some x := by rfl) (hj : X.N[j]? = some y := by rfl) (hij : i ≠ j := by decide)
    (hx : X.env.scope.names.lookup x = some .local := by rfl) (hy : X.env.scope.names.lookup y = some .local := by rfl)
    (hw : swappedStores [.Tuple [.Name x px, .Name y py] kt pt] (.Tuple [a, b] k2 pt2) X.env = pure (some [x, y]) := by rfl)
    (hs : swapsWithSole [.Tuple [.Name x px, .Name y py] kt pt] (.Tuple [a, b] k2 pt2) pos.line X.env = pure false := by rfl) :
    PS X (.Assign [.Tuple [.Name x px, .Name y py] kt pt] (.Tuple [a, b] k2 pt2) pos) (tS X.K (sPar i j r)) :=
  (ps_par (i := i) (j := j) hc hN hi hj hij hx hy ha hw hs).weak fun D σ H h => by
    obtain ⟨ι, ρ, μ, o, E, S, e, q⟩ := h
    unfold sPar at e
    split at e
    · rename_i v w μ1 e1
      cases e
      exact ⟨ι, ρ, μ, _, μ1, E, S, e1, fun hv ι1 H1 X1 R1 S1 => by
        obtain ⟨y1, t1, rfl, r1, y2, t2, rfl, r2, rfl⟩ := R1
        exact ⟨y1, y2, rfl, q _ ι1 H1 X1 (((E.mono X1).set i r1).set j r2) S1⟩⟩
    · cases e
theorem s_par3 (i j l : Nat) {x y z : Str} {a b c : Expr} {r : DenA} {px py pz pt : Pos} {kt k2 pt2} (hc : X.calm = true) (hN : X.N.Nodup) (ha : PA X [a, b, c] (tA X.K r)) (hi : X.N[i]? = some x := by rfl) (hj : X.N[j]? = some y := by rfl) (hl : X.N[l]? = some z := by rfl) (hij : i ≠ j := by decide) (hil : i ≠ l := by decide) (hjl : j ≠ l := by decide)
    (hx : X.env.scope.names.lookup x = some .local := by rfl) (hy : X.env.scope.names.lookup y = some .local := by rfl) (hz : X.env.scope.names.lookup z = some .local := by rfl)
    (hw : swappedStores [.Tuple [.Name x px, .Name y py, .Name z pz] kt pt] (.Tuple [a, b, c] k2 pt2) X.env = pure (some [x, y, z]) := by rfl)
    (hs : swapsWithSole [.Tuple [.Name x px, .Name y py, .Name z pz] kt pt] (.Tuple [a, b, c] k2 pt2) pos.line X.env = pure false := by rfl) :
    PS X (.Assign [.Tuple [.Name x px, .Name y py, .Name z pz] kt pt] (.Tuple [a, b, c] k2 pt2) pos) (tS X.K (sPar3 i j l r)) :=
  (ps_par3 (i := i) (j := j) (l := l) hc hN hi hj hl hij hil hjl hx hy hz ha hw hs).weak fun D σ H h => by
    obtain ⟨ι, ρ, μ, o, E, S, e, q⟩ := h
    unfold sPar3 at e
    split at e
    · rename_i u v w μ1 e1
      cases e
      exact ⟨ι, ρ, μ, _, μ1, E, S, e1, fun hv ι1 H1 X1 R1 S1 => by
        obtain ⟨y1, t1, rfl, r1, y2, t2, rfl, r2, y3, t3, rfl, r3, rfl⟩ := R1
        exact ⟨y1, y2, y3, rfl, q _ ι1 H1 X1 ((((E.mono X1).set i r1).set j r2).set l r3) S1⟩⟩
    · cases e
/-- x op= e -/
def sAug (i : Nat) (f : Op2) (d : Den) : DenS := fun ρ μ => match ρ[i]? with
  | some (some x) => (d ρ μ).bind fun p => (f x p.1 p.2).map fun q => .nx (ρ.set i (some q.1)) q.2
  | _ => none
theorem s_aug (i : Nat) {x : Str} {op : Operator} {r : R2} {f : Op2} {pos' : Pos} (ho : OpR X (inplaceOp op) r) (hr : S2 X.K r f) (hN : X.N.Nodup) (he : PE X e (tD X.K d)) (hi : X.N[i]? = some x := by rfl) (hx : Loc X.env.scope x := by first | exact Or.inl rfl | exact Or.inr rfl)
    (hf : X.fn x = true ∨ X.env.scope.names.lookup x = some .local := by first | exact .inl rfl | exact .inr rfl | assumption) :
    PS X (.AugAssign (.Name x pos') op e pos) (tS X.K (sAug i f d)) :=
  (ps_aug (i := i) hN hi hx he ho hf).weak fun D σ H h => by
    obtain ⟨ι, ρ, μ, o, E, S, e, q⟩ := h
    unfold sAug at e
    split at e
    · rename_i w hw
      obtain ⟨⟨v, μ1⟩, e1, e⟩ := Option.bind_eq_some_iff.mp e
      obtain ⟨⟨z, μ2⟩, e2, e3⟩ := Option.map_eq_some_iff.mp e
      cases e3
      obtain ⟨hw', h1, h2⟩ := E.at_ i _ hw
      exact ⟨hw', h1, ι, ρ, μ, v, μ1, E, S, e1, fun hv ι1 H1 X1 R1 S1 => hr ι1 H1 μ1 w v z μ2 hw' hv _ S1 (h2.mono X1) R1 e2 fun hz ι2 H2 X2 R2 S2 =>
        q _ ι2 H2 (X1.trans X2) ((E.mono (X1.trans X2)).set i R2) S2⟩
    · cases e
end

/-! ### while -/
def whN (c : DenT) (b : DenS) : Nat → DenS
  | 0, _, _ => none
  | n + 1, ρ, μ => (c ρ μ).bind fun p => if p.1 = true then (b ρ p.2).bind fun o => match o with
      | .nx ρ' μ' => whN c b n ρ' μ'
      | .ct ρ' μ' => whN c b n ρ' μ'
      | .bk ρ' μ' => some (.nx ρ' μ')
      | .rt v μ' => some (.rt v μ') else some (.nx ρ p.2)
theorem whN_mono {c : DenT} {b : DenS} : ∀ {n m : Nat} {ρ : En} {μ : Sto} {o : Out}, n ≤ m → whN c b n ρ μ = some o → whN c b m ρ μ = some o
  | 0, _, _, _, _, _, h => by cases h
  | n + 1, 0, _, _, _, hm, _ => by omega
  | n + 1, m + 1, ρ, μ, o, hm, h => by
    unfold whN at h ⊢
    obtain ⟨⟨k, μ1⟩, e1, h⟩ := Option.bind_eq_some_iff.mp h
    rw [e1]
    show (if k = true then _ else _) = _
    have h : (if k = true then _ else _) = some o := h
    cases k with
    | false => exact h
    | true =>
      rw [if_pos rfl] at h ⊢
      obtain ⟨o1, e2, h⟩ := Option.bind_eq_some_iff.mp h
      rw [e2]
      cases o1 with
      | nx ρ' μ' => exact whN_mono (by omega) h
      | ct ρ' μ' => exact whN_mono (by omega) h
      | bk ρ' μ' => exact h
      | rt v μ' => exact h
open Classical in
/-- a while: what any number of turns comes to -/
noncomputable def sWh (c : DenT) (b : DenS) : DenS := fun ρ μ => if h : ∃ o n, whN c b n ρ μ = some o then some (Classical.choose h) else none
theorem sWh_of {c : DenT} {b : DenS} {ρ : En} {μ : Sto} {o : Out} (n : Nat) (h : whN c b n ρ μ = some o) : sWh c b ρ μ = some o := by
  have hh : ∃ o n, whN c b n ρ μ = some o := ⟨o, n, h⟩
  unfold sWh
  rw [dif_pos hh]
  obtain ⟨m, hm⟩ := Classical.choose_spec hh
  have h1 := whN_mono (Nat.le_max_left n m) h
  have h2 := whN_mono (Nat.le_max_right n m) hm
  rw [h1] at h2
  exact h2.symm
theorem sWh_get {c : DenT} {b : DenS} {ρ : En} {μ : Sto} {o : Out} (h : sWh c b ρ μ = some o) : ∃ n, whN c b n ρ μ = some o := by
  unfold sWh at h
  split at h
  · rename_i hh
    cases h
    exact Classical.choose_spec hh
  · cases h
section
variable {X : Cx} {pos : Pos} {c : Expr} {body : List Stmt} {dc : DenT} {db : DenS}
theorem s_wh (hc : PT X c (tT X.K dc)) (hb : PSs X body (tS X.K db)) (hp : PassesOwn (model X.prog X.w) X.A X.env X.xe := by exact PassesOwn.never) : PS X (.While c body [] pos) (tS X.K (sWh dc db)) :=
  (ps_while hp hc hb).weak fun D σ H h => by
    obtain ⟨ι, ρ, μ, o, E, S, e, q⟩ := h
    obtain ⟨n, e⟩ := sWh_get e
    refine ⟨fun m σ' H' => ∃ ι' ρ' μ', RepE X.K ι' μ'.length H' ρ' σ' ∧ RepS X.K ι' H' μ' ∧ whN dc db m ρ' μ' = some o ∧ AftS X.K ι' μ' H' D o, ⟨n, ι, ρ, μ, E, S, e, q⟩, ?_⟩
    rintro m σ1 H1 ⟨ι, ρ, μ, E, S, e, q⟩
    cases m with
    | zero => cases e
    | succ m =>
      unfold whN at e
      obtain ⟨⟨k, μ1⟩, e1, e⟩ := Option.bind_eq_some_iff.mp e
      have e : (if k = true then _ else _) = some o := e
      refine ⟨ι, ρ, μ, k, μ1, E, S, e1, fun ι1 H2 X1 S1 => ?_⟩
      cases k with
      | false =>
        rw [if_neg Bool.false_ne_true] at e ⊢
        cases e
        exact q σ1 ι1 H2 X1 (E.mono X1) S1
      | true =>
        rw [if_pos rfl] at e ⊢
        obtain ⟨o1, e2, e⟩ := Option.bind_eq_some_iff.mp e
        refine ⟨fun σ' H' => ∃ ι' ρ' μ', RepE X.K ι' μ'.length H' ρ' σ' ∧ RepS X.K ι' H' μ' ∧ whN dc db m ρ' μ' = some o ∧ AftS X.K ι' μ' H' D o, fun σ' H' h => ⟨m, Nat.lt_succ_self _, h⟩, ι1, ρ, μ1, o1, E.mono X1, S1, e2, ?_⟩
        cases o1 with
        | nx ρ' μ' => exact fun σ' ι' H' X R S' => ⟨ι', ρ', μ', R, S', e, q.mono (X1.trans X)⟩
        | ct ρ' μ' => exact fun σ' ι' H' X R S' => ⟨ι', ρ', μ', R, S', e, q.mono (X1.trans X)⟩
        | bk ρ' μ' => cases e; exact AftR.mono X1 q
        | rt v μ' => cases e; exact Aft.mono X1 q
end

/-! ### what is walked -/
/-- the lists of the store that a walk reads stand as they stood -/
def ChkOk (ch : List (Nat × List PV)) (μ : Sto) : Prop := ∀ p ∈ ch, μ[p.1]? = some (.lst p.2)
abbrev DenI := En → Sto → Option ((List PV × List (Nat × List PV)) × Sto)
structure ItOk (K : Frg) (J : It) (xs : List PV) (ch : List (Nat × List PV)) (ι : Ad) (n : Nat) (H : Hp) : Prop where
  goes : ∀ (i : Nat) (ι2 : Ad) (μ2 : Sto) (H2 : Hp), i < xs.length → Ext ι n H ι2 μ2.length H2 → RepS K ι2 H2 μ2 → ChkOk ch μ2 → J.go i H2
  stops : ∀ (ι2 : Ad) (μ2 : Sto) (H2 : Hp), Ext ι n H ι2 μ2.length H2 → RepS K ι2 H2 μ2 → ChkOk ch μ2 → J.stop xs.length H2
  yields : ∀ (i : Nat) (ι2 : Ad) (μ2 : Sto) (H2 : Hp) (x : V) (H3 : Hp) (z : PV), xs[i]? = some z → Ext ι n H ι2 μ2.length H2 → RepS K ι2 H2 μ2 → ChkOk ch μ2 → J.yld i H2 x H3 →
    Ext ι2 μ2.length H2 ι2 μ2.length H3 ∧ RepS K ι2 H3 μ2 ∧ RepV K ι2 μ2.length H3 z x
def tI (K : Frg) (d : DenI) : TI := fun σ H R => ∃ ι ρ μ p μ', RepE K ι μ.length H ρ σ ∧ RepS K ι H μ ∧ d ρ μ = some (p, μ') ∧ ChkOk p.2 μ' ∧ ∀ ι' H' J, Ext ι μ.length H ι' μ'.length H' → RepS K ι' H' μ' → ItOk K J p.1 p.2 ι' μ'.length H' → R J H'
section
variable {X : Cx} {tg iter : Expr}
theorem _root_.L2.PI.weak {t t' : TI} (h : PI X tg iter t) (w : ∀ σ H R, t' σ H R → t σ H R) : PI X tg iter t' := ⟨fun pins s σ H R I q => h.run pins s σ H R I (w σ H R q)⟩
/-- a list or a tuple, by what the value is -/
def iSeqA (K : Frg) (tl : TE) : TI := fun σ H R => tl σ H fun x H1 => ∃ a, x = .ref a ∧ (((∃ xs, SqL K H1 a xs) ∧ R (Itl K a) H1) ∨ ((∃ xs, SqT K H1 a xs) ∧ R (Itt K a) H1))
theorem pi_seqA {l : Expr} {tl : TE} (hl : PE X l tl) : PI X tg l (iSeqA X.K tl) := by
  refine ⟨fun pins s σ H R I h => ?_⟩
  refine thn (hl.run pins s σ H _ I h) fun v s1 ⟨x, H1, I1, r1, q1⟩ => ?_
  obtain ⟨a, e, q⟩ := q1
  subst e
  cases r1
  rcases q with ⟨⟨xs, hq⟩, q⟩ | ⟨⟨xs, hq⟩, q⟩
  · obtain ⟨its, rv, p, hz⟩ := I1.list hq
    refine wpAny_pyIter_list p.isList ?_
    refine ⟨s1.heap.objs.size, [s1.heap.objs.size], _, _, H1, rfl, I1.kept (t' := s1.toks) fun b o e => Heap.get?_push_of_some _ e, turn_list a _, ⟨_, Heap.get?_push_size _ rfl, rfl, rfl⟩, fun b hb => ?_, q⟩
    have e : b = s1.heap.objs.size := by simpa using hb
    subst e
    exact I1.fpOk (Nat.le_refl _) (I1.hok.fresh (Nat.le_refl _))
  · obtain ⟨its, rv, p, hz⟩ := I1.tuple hq
    refine wpAny_pyIter_tuple (show s1.heap.IsTuple a its.toArray from p) ?_
    refine ⟨s1.heap.objs.size, [s1.heap.objs.size], _, _, H1, rfl, I1.kept (t' := s1.toks) fun b o e => Heap.get?_push_of_some _ e, turn_tuple a _, ⟨_, Heap.get?_push_size _ rfl, rfl, rfl⟩, fun b hb => ?_, q⟩
    have e : b = s1.heap.objs.size := by simpa using hb
    subst e
    exact I1.fpOk (Nat.le_refl _) (I1.hok.fresh (Nat.le_refl _))
end
/-- the items of a list or tuple; a list of the store must stand -/
def itSeq (d : Den) : DenI := fun ρ μ => (d ρ μ).bind fun p => match p.1 with
  | .tup xs => some ((xs, []), p.2)
  | .lst xs => some ((xs, []), p.2)
  | .loc l => match p.2[l]? with
    | some (.lst xs) => some ((xs, [(l, xs)]), p.2)
    | _ => none
  | _ => none
/-- a list that may be read at later heaps -/
theorem itl_ok {K : Frg} {J : It} {xs : List PV} {ch : List (Nat × List PV)} {ι : Ad} {n : Nat} {H : Hp} {a : Addr} (hJ : J = Itl K a)
    (h : ∀ (ι2 : Ad) (μ2 : Sto) (H2 : Hp), Ext ι n H ι2 μ2.length H2 → RepS K ι2 H2 μ2 → ChkOk ch μ2 → ∃ ys, SqL K H2 a ys ∧ RepVs K ι2 μ2.length H2 xs ys) : ItOk K J xs ch ι n H := by
  subst hJ
  refine ⟨fun i ι2 μ2 H2 hi e S c => ?_, fun ι2 μ2 H2 e S c => ?_, fun i ι2 μ2 H2 x H3 z hz e S c y => ?_⟩
  · obtain ⟨ys, s, r⟩ := h ι2 μ2 H2 e S c
    exact ⟨ys, ys[i]'(by rw [← r.length]; exact hi), s, by simp⟩
  · obtain ⟨ys, s, r⟩ := h ι2 μ2 H2 e S c
    exact ⟨ys, s, by rw [r.length]; exact Nat.le_refl _⟩
  · obtain ⟨ys, s, r⟩ := h ι2 μ2 H2 e S c
    obtain ⟨e1, y⟩ := y
    subst e1
    obtain ⟨w, h1, h2⟩ := r.get hz
    have := (y ys s).symm.trans h1
    cases this
    exact ⟨.refl, S, h2⟩
theorem itt_ok {K : Frg} {J : It} {xs : List PV} {ch : List (Nat × List PV)} {ι : Ad} {n : Nat} {H : Hp} {a : Addr} (hJ : J = Itt K a)
    (h : ∀ (ι2 : Ad) (μ2 : Sto) (H2 : Hp), Ext ι n H ι2 μ2.length H2 → RepS K ι2 H2 μ2 → ChkOk ch μ2 → ∃ ys, SqT K H2 a ys ∧ RepVs K ι2 μ2.length H2 xs ys) : ItOk K J xs ch ι n H := by
  subst hJ
  refine ⟨fun i ι2 μ2 H2 hi e S c => ?_, fun ι2 μ2 H2 e S c => ?_, fun i ι2 μ2 H2 x H3 z hz e S c y => ?_⟩
  · obtain ⟨ys, s, r⟩ := h ι2 μ2 H2 e S c
    exact ⟨ys, ys[i]'(by rw [← r.length]; exact hi), s, by simp⟩
  · obtain ⟨ys, s, r⟩ := h ι2 μ2 H2 e S c
    exact ⟨ys, s, by rw [r.length]; exact Nat.le_refl _⟩
  · obtain ⟨ys, s, r⟩ := h ι2 μ2 H2 e S c
    obtain ⟨e1, y⟩ := y
    subst e1
    obtain ⟨w, h1, h2⟩ := r.get hz
    have := (y ys s).symm.trans h1
    cases this
    exact ⟨.refl, S, h2⟩
section
variable {X : Cx} {tg : Expr}
theorem i_seq {l : Expr} {d : Den} (hl : PE X l (tD X.K d)) : PI X tg l (tI X.K (itSeq d)) :=
  (pi_seqA hl).weak fun σ H R h => by
    obtain ⟨ι, ρ, μ, p, μ', E, S, e, c, q⟩ := h
    obtain ⟨⟨x, μ1⟩, e1, e⟩ := Option.bind_eq_some_iff.mp e
    refine ⟨ι, ρ, μ, x, μ1, E, S, e1, fun hx ι1 H1 X1 R1 S1 => ?_⟩
    cases x with
    | tup xs =>
      cases e
      obtain ⟨a, ys, rfl, t, r⟩ := R1
      exact ⟨a, rfl, .inr ⟨⟨ys, t.sq⟩, q ι1 H1 _ X1 S1 (itt_ok rfl fun ι2 μ2 H2 e S c => ⟨ys, (t.mono e).sq, RepVs.mono e r⟩)⟩⟩
    | lst xs =>
      cases e
      obtain ⟨a, ys, rfl, ⟨t, g⟩, r⟩ := R1
      exact ⟨a, rfl, .inl ⟨⟨ys, .of t⟩, q ι1 H1 _ X1 S1 (itl_ok rfl fun ι2 μ2 H2 e S c => ⟨ys, .of (e.keep a _ t g.1), RepVs.mono e r⟩)⟩⟩
    | loc l =>
      obtain ⟨hl, rfl⟩ := R1
      have e : (match μ1[l]? with
        | some (.lst xs) => some ((xs, [(l, xs)]), μ1)
        | _ => none) = some (p, μ') := e
      split at e
      · rename_i xs em
        cases e
        obtain ⟨ys, t, r⟩ := S1.obj l _ em
        refine ⟨ι1 l, rfl, .inl ⟨⟨ys, .of t⟩, q ι1 H1 _ X1 S1 (itl_ok rfl fun ι2 μ2 H2 e S c => ?_)⟩⟩
        have em2 := c (l, xs) (by simp)
        obtain ⟨ys2, t2, r2⟩ := S.obj l _ em2
        rw [e.same l hl] at t2
        exact ⟨ys2, .of t2, r2⟩
      · cases e
    | _ => cases e
/-- range -/
def rgP (lo : Int) : Nat → List PV
  | 0 => []
  | n + 1 => .int lo :: rgP (lo + 1) n
theorem rgP_length : ∀ (n : Nat) (lo : Int), (rgP lo n).length = n
  | 0, _ => rfl
  | n + 1, lo => by show (rgP (lo + 1) n).length + 1 = n + 1; rw [rgP_length n]
theorem rgP_get : ∀ (n : Nat) (lo : Int) (i : Nat), i < n → (rgP lo n)[i]? = some (.int (lo + i))
  | 0, _, _, h => by omega
  | n + 1, lo, 0, _ => by
    show some (PV.int lo) = _
    simp
  | n + 1, lo, i + 1, h => by
    show (rgP (lo + 1) n)[i]? = _
    rw [rgP_get n (lo + 1) i (by omega)]
    congr 2
    push_cast
    omega
theorem itr_ok {K : Frg} {lo : Int} {k : Nat} {ι : Ad} {n : Nat} {H : Hp} : ItOk K (Itr lo k) (rgP lo k) [] ι n H := by
  refine ⟨fun i ι2 μ2 H2 hi e S c => ?_, fun ι2 μ2 H2 e S c => ?_, fun i ι2 μ2 H2 x H3 z hz e S c y => ?_⟩
  · rw [rgP_length] at hi; exact hi
  · rw [rgP_length]; exact Nat.le_refl _
  · have hi : i < k := by
      have := (List.getElem?_eq_some_iff.mp hz).1
      rw [rgP_length] at this
      exact this
    rw [rgP_get _ _ _ hi] at hz
    cases hz
    obtain ⟨e1, y⟩ := y
    subst e1 y
    exact ⟨.refl, S, rfl⟩
def RgIn (i : Int) : Bool := decide (-(2 ^ 62) ≤ i) && decide (i < 2 ^ 62)
def itRg1 (r : DenA) : DenI := fun ρ μ => match r ρ μ with
  | some ([.int j], μ') => if RgIn j = true then some ((rgP 0 j.toNat, []), μ') else none
  | _ => none
def itRg2 (r : DenA) : DenI := fun ρ μ => match r ρ μ with
  | some ([.int i, .int j], μ') => if (RgIn i && RgIn j) = true then some ((rgP i (j - i).toNat, []), μ') else none
  | _ => none
theorem rgIn {i : Int} (h : RgIn i = true) : -(2 ^ 62) ≤ i ∧ i < 2 ^ 62 := by
  unfold RgIn at h
  rw [Bool.and_eq_true] at h
  exact ⟨of_decide_eq_true h.1, of_decide_eq_true h.2⟩
theorem chk_nil {μ : Sto} : ChkOk [] μ := fun _ h => nomatch h
theorem i_rg1 {a : Expr} {r : DenA} {p pos : Pos} (hm : X.mg "range" = none) (ha : PA X [a] (tA X.K r)) (hg : Gl X "range" := by rfl) (hs : starEach [a] X.env = [(false, eval a X.env)] := by rfl) : PI X tg (.Call (.Name "range" p) [a] [] pos) (tI X.K (itRg1 r)) :=
  (pi_range1 hg hm ha hs).weak fun σ H R h => by
    obtain ⟨ι, ρ, μ, p, μ', E, S, e, c, q⟩ := h
    unfold itRg1 at e
    split at e
    · rename_i j μ1 e1
      split at e
      · rename_i hj
        cases e
        refine ⟨ι, ρ, μ, _, _, E, S, e1, fun hs ι1 H1 X1 R1 S1 => ?_⟩
        obtain ⟨y, t, rfl, r1, rfl⟩ := R1
        cases r1
        exact ⟨j, rfl, (rgIn hj).1, (rgIn hj).2, q ι1 H1 _ X1 S1 itr_ok⟩
      · cases e
    · cases e
theorem i_rg2 {a b : Expr} {r : DenA} {p pos : Pos} (hm : X.mg "range" = none) (ha : PA X [a, b] (tA X.K r)) (hg : Gl X "range" := by rfl) (hs : starEach [a, b] X.env = [(false, eval a X.env), (false, eval b X.env)] := by rfl) (hs2 : starEach [b] X.env = [(false, eval b X.env)] := by rfl) :
    PI X tg (.Call (.Name "range" p) [a, b] [] pos) (tI X.K (itRg2 r)) :=
  (pi_range2 hg hm ha hs hs2).weak fun σ H R h => by
    obtain ⟨ι, ρ, μ, p, μ', E, S, e, c, q⟩ := h
    unfold itRg2 at e
    split at e
    · rename_i i j μ1 e1
      split at e
      · rename_i hj
        cases e
        rw [Bool.and_eq_true] at hj
        refine ⟨ι, ρ, μ, _, _, E, S, e1, fun hs ι1 H1 X1 R1 S1 => ?_⟩
        obtain ⟨y, t, rfl, r1, y2, t2, rfl, r2, rfl⟩ := R1
        cases r1; cases r2
        exact ⟨i, j, rfl, ⟨(rgIn hj.1).1, (rgIn hj.1).2, (rgIn hj.2).1, (rgIn hj.2).2⟩, q ι1 H1 _ X1 S1 itr_ok⟩
      · cases e
    · cases e
end

/-! ### for -/
open Classical in
noncomputable def forL (g : DenG) (b : DenS) (ch : List (Nat × List PV)) : List PV → DenS
  | [], ρ, μ => some (.nx ρ μ)
  | x :: xs, ρ, μ => (g x ρ μ).bind fun p => (b p.1 p.2).bind fun o => match o with
      | .nx ρ' μ' => if ChkOk ch μ' then forL g b ch xs ρ' μ' else none
      | .ct ρ' μ' => if ChkOk ch μ' then forL g b ch xs ρ' μ' else none
      | .bk ρ' μ' => some (.nx ρ' μ')
      | .rt v μ' => some (.rt v μ')
noncomputable def sFor (it : DenI) (g : DenG) (b : DenS) : DenS := fun ρ μ => (it ρ μ).bind fun p => forL g b p.1.2 p.1.1 ρ p.2
section
variable {X : Cx} {pos : Pos} {iter tg : Expr} {body : List Stmt} {di : DenI} {g : DenG} {b : DenS}
open Classical in
theorem s_for (hi : PI X tg iter (tI X.K di)) (hg : PG X tg (tG X.K g)) (hb : PSs X body (tS X.K b)) (hci : ∀ ρ μ p μ', di ρ μ = some (p, μ') → ChkOk p.2 μ') (hp : PassesOwn (model X.prog X.w) X.A X.env X.xe := by exact PassesOwn.never) (hc : X.calm = true := by rfl)
    (hs : ∀ x, foldedSetIterable iter X.env x = pure x := by intro _; rfl) : PS X (.For tg iter body [] pos) (tS X.K (sFor di g b)) :=
  (ps_for hp hc hi hg hb hs).weak fun D σ H h => by
    obtain ⟨ι, ρ, μ, o, E, S, e, q⟩ := h
    obtain ⟨⟨⟨xs, ch⟩, μ1⟩, e1, e⟩ := Option.bind_eq_some_iff.mp e
    have hch := hci _ _ _ _ e1
    refine ⟨ι, ρ, μ, (xs, ch), μ1, E, S, e1, hch, fun ι1 H1 J X1 S1 ok => ?_⟩
    have e : forL g b ch xs ρ μ1 = some o := e
    have hch : ChkOk ch μ1 := hch
    have ok : ItOk X.K J xs ch ι1 μ1.length H1 := ok
    refine ⟨fun i m σ' H' => m = xs.length - i ∧ i ≤ xs.length ∧ ∃ ι' ρ' μ', Ext ι1 μ1.length H1 ι' μ'.length H' ∧ RepE X.K ι' μ'.length H' ρ' σ' ∧ RepS X.K ι' H' μ' ∧ ChkOk ch μ' ∧ forL g b ch (xs.drop i) ρ' μ' = some o ∧ AftS X.K ι' μ' H' D o,
      ⟨xs.length, by simp, Nat.zero_le _, ι1, ρ, μ1, .refl, E.mono X1, S1, hch, e, q.mono X1⟩, ?_⟩
    rintro i m σ2 H2 ⟨rfl, hi, ι2, ρ2, μ2, X2, E2, S2, c2, e2, q2⟩
    by_cases hlt : i < xs.length
    · have hd : xs.drop i = xs[i] :: xs.drop (i + 1) := List.drop_eq_getElem_cons hlt
      rw [hd] at e2
      unfold forL at e2
      obtain ⟨⟨ρ3, μ3⟩, e3, e2⟩ := Option.bind_eq_some_iff.mp e2
      obtain ⟨o1, e4, e2⟩ := Option.bind_eq_some_iff.mp e2
      refine .inr ⟨ok.goes i ι2 μ2 H2 hlt X2 S2 c2, fun σ' H' => ∃ ι' ρ' μ', Ext ι1 μ1.length H1 ι' μ'.length H' ∧ RepE X.K ι' μ'.length H' ρ' σ' ∧ RepS X.K ι' H' μ' ∧ ChkOk ch μ' ∧ forL g b ch (xs.drop (i + 1)) ρ' μ' = some o ∧ AftS X.K ι' μ' H' D o,
        fun σ' H' h => ⟨xs.length - (i + 1), by omega, rfl, hlt, h⟩, fun x H3 y => ?_⟩
      obtain ⟨X3, S3, R3⟩ := ok.yields i ι2 μ2 H2 x H3 xs[i] (by simp [hlt]) X2 S2 c2 y
      refine ⟨ι2, ρ2, μ2, xs[i], ρ3, μ3, E2.mono X3, S3, R3, e3, fun σ4 ι4 H4 X4 E4 S4 => ⟨ι4, ρ3, μ3, o1, E4, S4, e4, ?_⟩⟩
      have go : ∀ {ρ' : En} {μ' : Sto}, (if ChkOk ch μ' then forL g b ch (xs.drop (i + 1)) ρ' μ' else none) = some o → AftR X.K ι4 μ3 H4 ρ' μ' fun σ' H' => ∃ ι' ρ' μ', Ext ι1 μ1.length H1 ι' μ'.length H' ∧ RepE X.K ι' μ'.length H' ρ' σ' ∧ RepS X.K ι' H' μ' ∧ ChkOk ch μ' ∧ forL g b ch (xs.drop (i + 1)) ρ' μ' = some o ∧ AftS X.K ι' μ' H' D o := fun {ρ' μ'} z => by
        split at z
        · rename_i hc
          exact fun σ5 ι5 H5 X5 E5 S5 => ⟨ι5, ρ', μ', X2.trans (X3.trans (X4.trans X5)), E5, S5, hc, z, q2.mono (X3.trans (X4.trans X5))⟩
        · cases z
      cases o1 with
      | nx ρ' μ' => exact go e2
      | ct ρ' μ' => exact go e2
      | bk ρ' μ' => cases e2; exact AftR.mono (X3.trans X4) q2
      | rt v μ' => cases e2; exact Aft.mono (X3.trans X4) q2
    · have hi2 : i = xs.length := by omega
      subst hi2
      rw [List.drop_length] at e2
      cases e2
      exact .inl ⟨ok.stops ι2 μ2 H2 X2 S2 c2, q2 σ2 ι2 H2 .refl E2 S2⟩
end
theorem ci_seq {d : Den} (ρ : En) (μ : Sto) (p : List PV × List (Nat × List PV)) (μ' : Sto) (h : itSeq d ρ μ = some (p, μ')) : ChkOk p.2 μ' := by
  obtain ⟨⟨x, μ1⟩, e1, e⟩ := Option.bind_eq_some_iff.mp h
  cases x with
  | tup xs => cases e; exact chk_nil
  | lst xs => cases e; exact chk_nil
  | loc l =>
    have e : (match μ1[l]? with
      | some (.lst xs) => some ((xs, [(l, xs)]), μ1)
      | _ => none) = some (p, μ') := e
    split at e
    · rename_i xs em
      cases e
      intro q hq
      simp at hq
      subst hq
      exact em
    · cases e
  | _ => cases e
theorem ci_rg1 {r : DenA} (ρ : En) (μ : Sto) (p : List PV × List (Nat × List PV)) (μ' : Sto) (h : itRg1 r ρ μ = some (p, μ')) : ChkOk p.2 μ' := by
  unfold itRg1 at h
  split at h
  · split at h
    · cases h; exact chk_nil
    · cases h
  · cases h
theorem ci_rg2 {r : DenA} (ρ : En) (μ : Sto) (p : List PV × List (Nat × List PV)) (μ' : Sto) (h : itRg2 r ρ μ = some (p, μ')) : ChkOk p.2 μ' := by
  unfold itRg2 at h
  split at h
  · split at h
    · cases h; exact chk_nil
    · cases h
  · cases h
end Fd

/-! Fd5: list comprehensions; defs and their calls. -/
namespace Fd
open PySem PySem.Spec PyProof.Rows L2

/-! ### a private address -/
def addZ (ι : Ad) (D : Addr) : Ad := ⟨ι.f, fun a => ι.Z a ∨ a = D⟩
section
variable {K : Frg} {ι ι1 ι2 : Ad} {n n1 : Nat} {H H1 H2 : Hp} {D : Addr} {o : HO}
theorem Ext.addZ {μ : Sto} (S : RepS K ι H μ) (hD : H D = none) : Ext ι μ.length H (Fd.addZ ι D) μ.length (upd H D o) :=
  let X := Ext.new1 (o := o) S hD
  ⟨X.le, X.same, X.keep, X.dom, X.new, fun _ h => .inl h, fun a h => h.imp id fun e => by rw [e]; exact hD⟩
theorem RepS.addZ {μ : Sto} (S : RepS K ι H μ) (hD : H D = none) : RepS K (Fd.addZ ι D) (upd H D o) μ := by
  refine ⟨S.inj, fun l u h => ?_, fun a z => ?_, fun l hl z => ?_⟩
  · have hl : l < μ.length := (List.getElem?_eq_some_iff.mp h).1
    obtain ⟨w, hw⟩ := S.some hl
    exact (S.obj l u h).mono (Ext.addZ S hD) (upd_ne (ne_of_none hw hD))
  · by_cases e : a = D
    · subst e; rw [upd_same]; exact fun k => nomatch k
    · rw [upd_ne e]; exact z.elim (S.zin a) fun e' => absurd e' e
  · exact z.elim (S.zap l hl) fun e => S.off1 hD l hl e
theorem Ext.privR (X : Ext ι n H ι1 n1 H1) (hD : H D = none) : Ext ι n H ι1 n1 (upd H1 D o) :=
  ⟨X.le, X.same, fun b u h g => by rw [upd_ne (ne_of_none h hD)]; exact X.keep b u h g, fun b h => by
    by_cases e : b = D
    · subst e; exact absurd hD h
    · rw [upd_ne e]; exact X.dom b h, X.new, X.zup, X.zdn⟩
theorem Ext.setR (X : Ext ι n H ι1 n1 H1) : Ext ι n H ⟨ι1.f, ι.Z⟩ n1 H1 := ⟨X.le, X.same, X.keep, X.dom, X.new, fun _ h => h, fun _ h => .inl h⟩
/-- the private list is changed -/
theorem Off.priv {μ : Sto} {a : Addr} {u : HO} (h : Off ι n a) (hz : ι.Z D) : a ≠ D := fun e => h.2 (by rw [e]; exact hz)
mutual
theorem RepV.priv (hz : ι.Z D) : ∀ {x : PV} {v : V}, RepV K ι n H x v → RepV K ι n (upd H D o) x v
  | .non, _, h => h
  | .bl _, _, h => h
  | .int _, _, h => h
  | .str _, _, h => h
  | .tup xs, v, h => by
    obtain ⟨a, ys, rfl, t, r⟩ := h
    rcases t with ⟨t, g⟩ | t
    · exact ⟨a, ys, rfl, .inl ⟨by rw [upd_ne fun e => g.2 (by rw [e]; exact hz)]; exact t, g⟩, RepVs.priv hz r⟩
    · exact ⟨a, ys, rfl, .inr t, RepVs.priv hz r⟩
  | .lst xs, v, h => by
    obtain ⟨a, ys, rfl, ⟨t, g⟩, r⟩ := h
    exact ⟨a, ys, rfl, ⟨by rw [upd_ne fun e => g.2 (by rw [e]; exact hz)]; exact t, g⟩, RepVs.priv hz r⟩
  | .loc l, v, h => h
  | .scr ns, v, h => by
    obtain ⟨a, rfl, ⟨o', s, g⟩ | s⟩ := h
    · exact ⟨a, rfl, .inl ⟨o', by rw [upd_ne fun e => g.2 (by rw [e]; exact hz)]; exact s, g⟩⟩
    · exact ⟨a, rfl, .inr s⟩
theorem RepVs.priv (hz : ι.Z D) : ∀ {xs : List PV} {vs : List V}, RepVs K ι n H xs vs → RepVs K ι n (upd H D o) xs vs
  | [], _, h => h
  | x :: xs, _, h => by
    obtain ⟨y, r, rfl, h1, h2⟩ := h
    exact ⟨y, r, rfl, RepV.priv hz h1, RepVs.priv hz h2⟩
end
theorem RepKs.priv {κ : Type} {key : PV → Option κ} (hz : ι.Z D) : ∀ {xs : List (PV × PV)} {ys : List (κ × V)}, RepKs K ι n H key xs ys → RepKs K ι n (upd H D o) key xs ys
  | [], _, h => h
  | (k, x) :: xs, _, h => by
    obtain ⟨q, y, r, rfl, hk, h1, h2⟩ := h
    exact ⟨q, y, r, rfl, hk, RepV.priv hz h1, RepKs.priv hz h2⟩
theorem RepS.priv {μ : Sto} (S : RepS K ι H μ) (hz : ι.Z D) : RepS K ι (upd H D o) μ := by
  refine ⟨S.inj, fun l u h => ?_, fun a z => ?_, S.zap⟩
  · have hl : l < μ.length := (List.getElem?_eq_some_iff.mp h).1
    have e : upd H D o (ι l) = H (ι l) := upd_ne fun e => S.zap l hl (by rw [e]; exact hz)
    have q := S.obj l u h
    cases u with
    | lst xs => obtain ⟨ys, q, r⟩ := q; exact ⟨ys, e.trans q, RepVs.priv hz r⟩
    | dic t kvs => cases t <;> (obtain ⟨ys, q, r⟩ := q; exact ⟨ys, e.trans q, RepKs.priv hz r⟩)
  · by_cases e : a = D
    · subst e; rw [upd_same]; exact fun k => nomatch k
    · rw [upd_ne e]; exact S.zin a z
/-- the private address is given up -/
def setZ (ι : Ad) (Z : Addr → Prop) : Ad := ⟨ι.f, Z⟩
mutual
theorem RepV.setZ {Z : Addr → Prop} (hz : ∀ a, Z a → ι.Z a) : ∀ {x : PV} {v : V}, RepV K ι n H x v → RepV K (Fd.setZ ι Z) n H x v
  | .non, _, h => h
  | .bl _, _, h => h
  | .int _, _, h => h
  | .str _, _, h => h
  | .tup xs, v, h => by
    obtain ⟨a, ys, rfl, t, r⟩ := h
    rcases t with ⟨t, g⟩ | t
    · exact ⟨a, ys, rfl, .inl ⟨t, g.1, fun z => g.2 (hz a z)⟩, RepVs.setZ hz r⟩
    · exact ⟨a, ys, rfl, .inr t, RepVs.setZ hz r⟩
  | .lst xs, v, h => by
    obtain ⟨a, ys, rfl, ⟨t, g⟩, r⟩ := h
    exact ⟨a, ys, rfl, ⟨t, g.1, fun z => g.2 (hz a z)⟩, RepVs.setZ hz r⟩
  | .loc l, v, h => h
  | .scr ns, v, h => by
    obtain ⟨a, rfl, ⟨o', s, g⟩ | s⟩ := h
    · exact ⟨a, rfl, .inl ⟨o', s, g.1, fun z => g.2 (hz a z)⟩⟩
    · exact ⟨a, rfl, .inr s⟩
theorem RepVs.setZ {Z : Addr → Prop} (hz : ∀ a, Z a → ι.Z a) : ∀ {xs : List PV} {vs : List V}, RepVs K ι n H xs vs → RepVs K (Fd.setZ ι Z) n H xs vs
  | [], _, h => h
  | x :: xs, _, h => by
    obtain ⟨y, r, rfl, h1, h2⟩ := h
    exact ⟨y, r, rfl, RepV.setZ hz h1, RepVs.setZ hz h2⟩
end
theorem RepKs.setZ {κ : Type} {key : PV → Option κ} {Z : Addr → Prop} (hz : ∀ a, Z a → ι.Z a) : ∀ {xs : List (PV × PV)} {ys : List (κ × V)}, RepKs K ι n H key xs ys → RepKs K (Fd.setZ ι Z) n H key xs ys
  | [], _, h => h
  | (k, x) :: xs, _, h => by
    obtain ⟨q, y, r, rfl, hk, h1, h2⟩ := h
    exact ⟨q, y, r, rfl, hk, RepV.setZ hz h1, RepKs.setZ hz h2⟩
theorem RepS.setZ {μ : Sto} {Z : Addr → Prop} (S : RepS K ι H μ) (hz : ∀ a, Z a → ι.Z a) : RepS K (Fd.setZ ι Z) H μ := by
  refine ⟨S.inj, fun l u h => ?_, fun a z => S.zin a (hz a z), fun l hl z => S.zap l hl (hz _ z)⟩
  have q := S.obj l u h
  cases u with
  | lst xs => obtain ⟨ys, q, r⟩ := q; exact ⟨ys, q, RepVs.setZ hz r⟩
  | dic t kvs => cases t <;> (obtain ⟨ys, q, r⟩ := q; exact ⟨ys, q, RepKs.setZ hz r⟩)
end

/-! ### [elt for target in iter if ..] -/
open Classical in
noncomputable def lcL (ρ : En) (g : DenG) (t : DenT) (e : Den) (ch : List (Nat × List PV)) : List PV → List PV → Sto → Option (List PV × Sto)
  | [], acc, μ => some (acc, μ)
  | x :: xs, acc, μ => (g x ρ μ).bind fun p => (t p.1 p.2).bind fun q => if q.1 = true
      then (e p.1 q.2).bind fun r => if ChkOk ch r.2 ∧ acc.length < sizeLine then lcL ρ g t e ch xs (acc ++ [r.1]) r.2 else none
      else if ChkOk ch q.2 then lcL ρ g t e ch xs acc q.2 else none
noncomputable def dLc (vs : List Nat) (it : DenI) (g : DenG) (t : DenT) (e : Den) : Den := fun ρ μ => (it ρ μ).bind fun p => (lcL (wipeE ρ vs) g t e p.1.2 p.1.1 [] p.2).map fun r => (.lst r.1, r.2)
def tAll : DenT := fun _ μ => some (true, μ)
section
variable {X : Cx}
theorem x_nil : PTs X [] (tT X.K tAll) := ⟨fun pins s σ H Q I h => pts_nil.run pins s σ H Q I (by
  obtain ⟨ι, ρ, μ, b, μ', E, S, e, q⟩ := h
  cases e
  exact q ι H .refl S)⟩
theorem x_one {c : Expr} {t : DenT} (h : PT X c (tT X.K t)) : PTs X [c] (tT X.K t) := pts_one h
end
/-- a target whose stores are among the slots vs -/
structure GIn (K : Frg) (tg : TG) (g : DenG) (vs : List Nat) : Prop where
  imp : ∀ (v : V) (σ : L2.St) (H : Hp) (Q : L2.St → Hp → Prop), tG K g v σ H Q → tg v σ H fun σ' H' => L2.wipe σ' vs = L2.wipe σ vs ∧ Q σ' H'
theorem wipe_set1 (σ : L2.St) (i : Nat) (o : Option V) : L2.wipe (σ.set i o) [i] = L2.wipe σ [i] := by
  show (σ.set i o).set i none = σ.set i none
  rw [List.set_set]
theorem gin_nm {K : Frg} (i : Nat) : GIn K (gName i) (gNm i) [i] := ⟨fun v σ H Q h => by
  obtain ⟨ι, ρ, μ, pv, ρ', μ', E, S, R, e, q⟩ := h
  cases e
  exact ⟨wipe_set1 _ _ _, q _ ι H .refl (E.set i R) S⟩⟩
theorem wipe_idem (σ : L2.St) : ∀ vs : List Nat, L2.wipe (L2.wipe σ vs) vs = L2.wipe σ vs := fun vs => by
  apply List.ext_getElem?
  intro i
  have key : ∀ (σ : L2.St) (vs : List Nat) (i : Nat), (L2.wipe σ vs)[i]? = if i ∈ vs ∧ i < σ.length then some none else σ[i]? := by
    intro σ vs
    induction vs with
    | nil => intro i; simp [L2.wipe]
    | cons v vs ih =>
      intro i
      show ((L2.wipe σ vs).set v none)[i]? = _
      by_cases hv : v = i
      · subst hv
        by_cases hl : v < σ.length
        · rw [List.getElem?_set_self (by rw [wipe_length]; exact hl), if_pos ⟨List.mem_cons_self, hl⟩]
        · rw [if_neg fun z => hl z.2, List.getElem?_eq_none (by rw [List.length_set, wipe_length]; omega), List.getElem?_eq_none (by omega)]
      · rw [List.getElem?_set_ne hv, ih i]
        have : (i ∈ v :: vs ∧ i < σ.length) ↔ (i ∈ vs ∧ i < σ.length) := by
          constructor
          · rintro ⟨h1, h2⟩
            rcases List.mem_cons.mp h1 with e | h1
            · exact absurd e.symm hv
            · exact ⟨h1, h2⟩
          · rintro ⟨h1, h2⟩
            exact ⟨List.mem_cons_of_mem _ h1, h2⟩
        by_cases hc : i ∈ vs ∧ i < σ.length
        · rw [if_pos hc, if_pos (this.mpr hc)]
        · rw [if_neg hc, if_neg fun z => hc (this.mp z)]
  rw [key, wipe_length]
  split
  · rename_i h
    rw [key, if_pos h]
  · rfl
section
variable {X : Cx}
open Classical in
theorem lc_core' {K : Frg} {vs : List Nat} {J : It} {xs : List PV} {ch : List (Nat × List PV)} {tg : TG} {g : DenG} {t : DenT} {e : Den} {ι1 : Ad} {μ1 : Sto} {H1 : Hp} {ρ : En} {σ : L2.St} {out : List PV} {μ' : Sto} {Qd : V → Hp → Prop}
    (gi : GIn K tg g vs) (ok : ItOk K J xs ch ι1 μ1.length H1) (E : RepE K ι1 μ1.length H1 ρ σ) (S : RepS K ι1 H1 μ1) (c1 : ChkOk ch μ1) (he : lcL (wipeE ρ vs) g t e ch xs [] μ1 = some (out, μ')) (q : Aft K ι1 μ1 H1 (.lst out) μ' Qd)
    (D : Addr) (hD : H1 D = none) :
    ∃ W : Nat → Nat → Hp → Prop, (∃ m, W 0 m (upd H1 D (.lst []))) ∧ ∀ i m H, W i m H →
      (J.stop i H ∧ Qd (.ref D) H) ∨ (J.go i H ∧ ∃ Nx : Hp → Prop, (∀ H', Nx H' → ∃ m', m' < m ∧ W (i + 1) m' H') ∧ ∀ x H', J.yld i H x H' → tg x (L2.wipe σ vs) H' fun σ2 H2 => L2.wipe σ2 vs = L2.wipe σ vs ∧ tT K t σ2 H2 fun b H3 =>
        if b = true then tD K e σ2 H3 fun y H4 => ∃ acc, H4 D = some (.lst acc) ∧ acc.length < sizeLine ∧ Nx (upd H4 D (.lst (acc ++ [y]))) else Nx H3) := by
  let Pv : Nat → Hp → Prop := fun i H => ∃ ι2 μ2 acc ys, Ext ι1 μ1.length H1 ι2 μ2.length H ∧ ι2.Z D ∧ RepS K ι2 H μ2 ∧ H D = some (.lst ys) ∧ RepVs K ι2 μ2.length H acc ys ∧ ChkOk ch μ2 ∧
    lcL (wipeE ρ vs) g t e ch (xs.drop i) acc μ2 = some (out, μ')
  refine ⟨fun i m H => m = xs.length - i ∧ i ≤ xs.length ∧ Pv i H, ⟨xs.length, by simp, Nat.zero_le _, addZ ι1 D, μ1, [], [], Ext.addZ S hD, .inr rfl, S.addZ hD, upd_same, rfl, c1, he⟩, ?_⟩
  rintro i m H ⟨rfl, hi, ι2, μ2, acc, ys, X2, z2, S2, hDy, R2, c2, e2⟩
  by_cases hlt : i < xs.length
  · have hd : xs.drop i = xs[i] :: xs.drop (i + 1) := List.drop_eq_getElem_cons hlt
    rw [hd] at e2
    unfold lcL at e2
    obtain ⟨⟨ρ3, μ3⟩, e3, e2⟩ := Option.bind_eq_some_iff.mp e2
    obtain ⟨⟨b, μ4⟩, e4, e2⟩ := Option.bind_eq_some_iff.mp e2
    refine .inr ⟨ok.goes i ι2 μ2 H hlt X2 S2 c2, Pv (i + 1), fun H' h => ⟨xs.length - (i + 1), by omega, rfl, hlt, h⟩, fun x H3 y => ?_⟩
    obtain ⟨X3, S3, R3⟩ := ok.yields i ι2 μ2 H x H3 xs[i] (by simp [hlt]) X2 S2 c2 y
    have E3 : RepE K ι2 μ2.length H3 (wipeE ρ vs) (L2.wipe σ vs) := (E.wipe vs).mono (X2.trans X3)
    have h0 := gi.imp x (L2.wipe σ vs) H3 (fun σ2 H2 => tT K t σ2 H2 fun b H3 =>
        if b = true then tD K e σ2 H3 fun y H4 => ∃ acc, H4 D = some (.lst acc) ∧ acc.length < sizeLine ∧ Pv (i + 1) (upd H4 D (.lst (acc ++ [y]))) else Pv (i + 1) H3) ?_
    · rw [wipe_idem] at h0
      exact h0
    refine ⟨ι2, wipeE ρ vs, μ2, xs[i], ρ3, μ3, E3, S3, R3, e3, fun σ4 ι4 H4 X4 E4 S4 => ⟨ι4, ρ3, μ3, b, μ4, E4, S4, e4, fun ι5 H5 X5 S5 => ?_⟩⟩
    have e2 : (if b = true then _ else _) = some (out, μ') := e2
    have hoffD : ∀ l, l < μ2.length → ι2 l ≠ D := fun l hl z => S2.zap l hl (by rw [z]; exact z2)
    have X25 := X3.trans (X4.trans X5)
    have hDy5 : H5 D = some (.lst ys) := X25.keep D _ hDy hoffD
    have z5 : ι5.Z D := X25.zup D z2
    cases b with
    | false =>
      rw [if_neg Bool.false_ne_true] at e2
      refine iteF ?_
      split at e2
      · rename_i c5
        exact ⟨ι5, μ4, acc, ys, X2.trans X25, z5, S5, hDy5, RepVs.mono X25 R2, c5, e2⟩
      · cases e2
    | true =>
      rw [if_pos rfl] at e2
      refine iteT ?_
      obtain ⟨⟨w, μ6⟩, e5, e2⟩ := Option.bind_eq_some_iff.mp e2
      refine ⟨ι5, ρ3, μ4, w, μ6, E4.mono X5, S5, e5, fun hw ι6 H6 X6 R6 S6 => ?_⟩
      split at e2
      · rename_i c6
        have X26 := X25.trans X6
        have z6 : ι6.Z D := X6.zup D z5
        have R26 : RepVs K ι6 μ6.length H6 acc ys := RepVs.mono X26 R2
        refine ⟨ys, X26.keep D _ hDy hoffD, by rw [← R2.length]; exact c6.2, ι6, μ6, acc ++ [w], ys ++ [hw], (X2.trans X26).privR hD, z6, S6.priv z6, upd_same, (R26.append (.one R6)).priv z6, c6.1, e2⟩
      · cases e2
  · have hi2 : i = xs.length := by omega
    subst hi2
    rw [List.drop_length] at e2
    cases e2
    have zs : ∀ a, ι1.Z a → ι2.Z a := X2.zup
    refine .inl ⟨ok.stops ι2 _ H X2 S2 c2, q _ (setZ ι2 ι1.Z) H X2.setR ?_ (S2.setZ zs)⟩
    exact ⟨D, ys, rfl, ⟨hDy, fun l hl z => S2.zap l hl (by have z : ι2 l = D := z; rw [z]; exact z2), fun z => S.zin D z hD⟩, R2.setZ zs⟩
theorem t_lc {K : Frg} {vs : List Nat} {tg : TG} {di : DenI} {g : DenG} {t : DenT} {e : Den} (gi : GIn K tg g vs) (hci : ∀ ρ μ p μ', di ρ μ = some (p, μ') → ChkOk p.2 μ') {σ : L2.St} {H : Hp} {Q : VK} (h : tD K (dLc vs di g t e) σ H Q) :
    tLc (tI K di) tg (tT K t) (tD K e) vs σ H Q := by
  obtain ⟨ι, ρ, μ, v, μ', E, S, e, q⟩ := h
  obtain ⟨⟨⟨xs, ch⟩, μ1⟩, e1, e⟩ := Option.bind_eq_some_iff.mp e
  obtain ⟨⟨out, μ2⟩, e2, e3⟩ := Option.map_eq_some_iff.mp e
  cases e3
  have hch := hci _ _ _ _ e1
  exact ⟨ι, ρ, μ, (xs, ch), μ1, E, S, e1, hch, fun ι1 H1 J X1 S1 ok D hD => lc_core' gi ok (E.mono X1) S1 hch e2 (q.mono X1) D hD⟩
theorem e_lc {elt tg iter : Expr} {ifs : List Expr} {scope : Scope} {own : List (Str × Nat)} {pos : Pos} {di : DenI} {gt : TG} {g : DenG} {t : DenT} {e : Den} (hN : X.N.Nodup) (hi : PI X tg iter (tI X.K di)) (hci : ∀ ρ μ p μ', di ρ μ = some (p, μ') → ChkOk p.2 μ') (ok : BlkOk X.N X.env.scope scope own)
    (gi : GIn X.K gt g (own.map (·.2)))
    (hg : ∀ (s : Shared) (H : Hp) (C : Addr) (cl : List (Str × Addr)) (fp : List Addr), PG (X.blk s H scope (compEnvC scope cl C X.env) fp) tg gt) (ht : ∀ (s : Shared) (H : Hp) (C : Addr) (cl : List (Str × Addr)) (fp : List Addr), PTs (X.blk s H scope (compEnvC scope cl C X.env) fp) ifs (tT X.K t))
    (he : ∀ (s : Shared) (H : Hp) (C : Addr) (cl : List (Str × Addr)) (fp : List Addr), PE (X.blk s H scope (compEnvC scope cl C X.env) fp) elt (tD X.K e)) (hc : X.calm = true := by rfl) (hs : ∀ x, foldedSetIterable iter X.env x = pure x := by intro _; rfl) :
    PE X (.ListComp elt [⟨tg, iter, ifs, 0⟩] scope pos) (tD X.K (dLc (own.map (·.2)) di g t e)) :=
  (pe_lc hc hN hi ok hg ht he hs).weak fun _ _ _ h => t_lc gi hci h
theorem s_setLc (i : Nat) {y : Str} {py : Pos} {elt tg iter : Expr} {ifs : List Expr} {scope : Scope} {own : List (Str × Nat)} {pos spos : Pos} {di : DenI} {gt : TG} {g : DenG} {t : DenT} {e : Den} (hN : X.N.Nodup)
    (hsw : swapsWith (.ListComp elt [⟨tg, iter, ifs, 0⟩] scope pos) (some (.Name y py)) spos.line X.env = pure true) (hi : PI X tg iter (tI X.K di)) (hci : ∀ ρ μ p μ', di ρ μ = some (p, μ') → ChkOk p.2 μ') (ok : BlkOk X.N X.env.scope scope own)
    (gi : GIn X.K gt g (own.map (·.2)))
    (hg : ∀ (s : Shared) (H : Hp) (C : Addr) (cl : List (Str × Addr)) (fp : List Addr), PG (X.blk s H scope (compEnvC scope cl C X.env) fp) tg gt) (ht : ∀ (s : Shared) (H : Hp) (C : Addr) (cl : List (Str × Addr)) (fp : List Addr), PTs (X.blk s H scope (compEnvC scope cl C X.env) fp) ifs (tT X.K t))
    (he : ∀ (s : Shared) (H : Hp) (C : Addr) (cl : List (Str × Addr)) (fp : List Addr), PE (X.blk s H scope (compEnvC scope cl C X.env) fp) elt (tD X.K e)) (hy : X.N[i]? = some y := by rfl) (hyl : X.env.scope.names.lookup y = some .local := by rfl) (hc : X.calm = true := by rfl) (hs : ∀ x, foldedSetIterable iter X.env x = pure x := by intro _; rfl) :
    PS X (.Assign [.Name y py] (.ListComp elt [⟨tg, iter, ifs, 0⟩] scope pos) spos) (tS X.K (sAsg (dLc (own.map (·.2)) di g t e) (gNm i))) :=
  (ps_setLc (i := i) hc hN hy hyl hsw hi ok hg ht he hs).weak fun D σ H h => by
    obtain ⟨ι, ρ, μ, o, E, S, e, q⟩ := h
    obtain ⟨⟨v, μ1⟩, e1, e⟩ := Option.bind_eq_some_iff.mp e
    obtain ⟨⟨ρ2, μ2⟩, e2, e3⟩ := Option.map_eq_some_iff.mp e
    cases e3; cases e2
    exact t_lc gi hci (Q := fun x H1 => gName i x σ H1 D.nx) ⟨ι, ρ, μ, v, μ1, E, S, e1, fun hv ι1 H1 X1 R1 S1 => q _ ι1 H1 X1 ((E.mono X1).set i R1) S1⟩
end
end Fd

/-! Fd6: defs, their calls; built-ins. -/
namespace Fd
open PySem PySem.Spec PyProof.Rows L2

/-! ### values that name no place of the store from n on -/
mutual
def okL (n : Nat) : PV → Bool
  | .tup xs => okLs n xs
  | .lst xs => okLs n xs
  | .loc l => decide (l < n)
  | _ => true
def okLs (n : Nat) : List PV → Bool
  | [] => true
  | x :: xs => okL n x && okLs n xs
end
def okKs (n : Nat) : List (PV × PV) → Bool
  | [] => true
  | (_, x) :: xs => okL n x && okKs n xs
def okO (n : Nat) : Ob → Bool
  | .lst xs => okLs n xs
  | .dic _ kvs => okKs n kvs
section
variable {K : Frg} {ι : Ad} {n m : Nat} {H : Hp}
mutual
theorem RepV.ok : ∀ {x : PV} {v : V}, RepV K ι n H x v → okL n x = true
  | .non, _, _ => rfl
  | .bl _, _, _ => rfl
  | .int _, _, _ => rfl
  | .str _, _, _ => rfl
  | .tup xs, v, h => by obtain ⟨a, ys, rfl, t, r⟩ := h; exact RepVs.ok r
  | .lst xs, v, h => by obtain ⟨a, ys, rfl, t, r⟩ := h; exact RepVs.ok r
  | .loc l, v, h => decide_eq_true h.1
  | .scr _, _, _ => rfl
theorem RepVs.ok : ∀ {xs : List PV} {vs : List V}, RepVs K ι n H xs vs → okLs n xs = true
  | [], _, _ => rfl
  | x :: xs, _, h => by
    obtain ⟨y, r, rfl, h1, h2⟩ := h
    show (okL n x && okLs n xs) = true
    rw [RepV.ok h1, RepVs.ok h2]
    rfl
end
theorem RepKs.ok {κ : Type} {key : PV → Option κ} : ∀ {xs : List (PV × PV)} {ys : List (κ × V)}, RepKs K ι n H key xs ys → okKs n xs = true
  | [], _, _ => rfl
  | (k, x) :: xs, _, h => by
    obtain ⟨q, y, r, rfl, hk, h1, h2⟩ := h
    show (okL n x && okKs n xs) = true
    rw [RepV.ok h1, RepKs.ok h2]
    rfl
theorem RepO.ok {a : Addr} {o : Ob} (h : RepO K ι n H a o) : okO n o = true := by
  cases o with
  | lst xs => obtain ⟨ys, _, r⟩ := h; exact RepVs.ok r
  | dic t kvs => cases t <;> (obtain ⟨ys, _, r⟩ := h; exact RepKs.ok r)
theorem Off.le {a : Addr} (h : Off ι m a) (hm : n ≤ m) : Off ι n a := ⟨fun l hl => h.1 l (Nat.lt_of_lt_of_le hl hm), h.2⟩
mutual
theorem RepV.cut (hm : n ≤ m) : ∀ {x : PV} {v : V}, RepV K ι m H x v → okL n x = true → RepV K ι n H x v
  | .non, _, h, _ => h
  | .bl _, _, h, _ => h
  | .int _, _, h, _ => h
  | .str _, _, h, _ => h
  | .tup xs, v, h, o => by
    obtain ⟨a, ys, rfl, t, r⟩ := h
    exact ⟨a, ys, rfl, t.imp (fun t => ⟨t.1, t.2.le hm⟩) id, RepVs.cut' hm r o⟩
  | .lst xs, v, h, o => by
    obtain ⟨a, ys, rfl, t, r⟩ := h
    exact ⟨a, ys, rfl, ⟨t.1, t.2.le hm⟩, RepVs.cut' hm r o⟩
  | .loc l, v, h, o => ⟨of_decide_eq_true o, h.2⟩
  | .scr ns, v, h, o => by
    obtain ⟨a, rfl, ⟨o', s, g⟩ | s⟩ := h
    · exact ⟨a, rfl, .inl ⟨o', s, g.le hm⟩⟩
    · exact ⟨a, rfl, .inr s⟩
theorem RepVs.cut' (hm : n ≤ m) : ∀ {xs : List PV} {vs : List V}, RepVs K ι m H xs vs → okLs n xs = true → RepVs K ι n H xs vs
  | [], _, h, _ => h
  | x :: xs, _, h, o => by
    obtain ⟨y, r, rfl, h1, h2⟩ := h
    have o : (okL n x && okLs n xs) = true := o
    rw [Bool.and_eq_true] at o
    exact ⟨y, r, rfl, RepV.cut hm h1 o.1, RepVs.cut' hm h2 o.2⟩
end
theorem RepKs.cut {κ : Type} {key : PV → Option κ} (hm : n ≤ m) : ∀ {xs : List (PV × PV)} {ys : List (κ × V)}, RepKs K ι m H key xs ys → okKs n xs = true → RepKs K ι n H key xs ys
  | [], _, h, _ => h
  | (k, x) :: xs, _, h, o => by
    obtain ⟨q, y, r, rfl, hk, h1, h2⟩ := h
    have o : (okL n x && okKs n xs) = true := o
    rw [Bool.and_eq_true] at o
    exact ⟨q, y, r, rfl, hk, RepV.cut hm h1 o.1, RepKs.cut hm h2 o.2⟩
theorem RepO.cut {a : Addr} {o : Ob} (hm : n ≤ m) (h : RepO K ι m H a o) (ok : okO n o = true) : RepO K ι n H a o := by
  cases o with
  | lst xs => obtain ⟨ys, t, r⟩ := h; exact ⟨ys, t, RepVs.cut' hm r ok⟩
  | dic t kvs => cases t <;> (obtain ⟨ys, t, r⟩ := h; exact ⟨ys, t, RepKs.cut hm r ok⟩)
theorem Ext.cut {ι1 : Ad} {n1 : Nat} {H1 : Hp} (X : Ext ι n H ι1 n1 H1) : Ext ι n H ι1 n H1 := ⟨Nat.le_refl _, X.same, X.keep, X.dom, fun _ h1 h2 => absurd h2 (by omega), X.zup, X.zdn⟩
end
/-- how a body's end becomes a call's: what the body laid in the store and nobody names is forgotten -/
inductive Fin (μ : Sto) : Out → PV → Sto → Prop where
  | rt (v : PV) (μ' : Sto) : Fin μ (.rt v μ') v μ'
  | nx (ρ : En) (μ' : Sto) : Fin μ (.nx ρ μ') .non μ'
  | trim (v : PV) (μ1 g : Sto) (hl : μ1.length = μ.length) (hc : ∀ (l : Nat) (o : Ob), μ1[l]? = some o → μ[l]? = some o ∨ okO μ.length o = true) (hv : okL μ.length v = true) : Fin μ (.rt v (μ1 ++ g)) v μ1
  | trimN (ρ : En) (μ1 g : Sto) (hl : μ1.length = μ.length) (hc : ∀ (l : Nat) (o : Ob), μ1[l]? = some o → μ[l]? = some o ∨ okO μ.length o = true) : Fin μ (.nx ρ (μ1 ++ g)) .non μ1
  | frz (l : Nat) (xs : List PV) (μ1 g : Sto) (hl : μ1.length = μ.length) (hc : ∀ (l : Nat) (o : Ob), μ1[l]? = some o → μ[l]? = some o ∨ okO μ.length o = true) (h : (μ1 ++ g)[l]? = some (.lst xs)) (hn : μ.length ≤ l) (hv : okLs μ.length xs = true) :
      Fin μ (.rt (.loc l) (μ1 ++ g)) (.lst xs) μ1
abbrev Fn := List PV → Sto → Option (PV × Sto)
/-- a def's promise by a function of its arguments and the store -/
def spD (K : Frg) (k : Nat) (ψ : Fn) : Sp := fun vs H Q _ => ∃ ι args μ v μ', args.length = k ∧ RepVs K ι μ.length H args vs ∧ RepS K ι H μ ∧ ψ args μ = some (v, μ') ∧ Aft K ι μ H v μ' Q
def init (N : Nat) (args : List PV) : En := args.map some ++ List.replicate (N - args.length) none
theorem init_rep {K : Frg} {ι : Ad} {n : Nat} {H : Hp} {args : List PV} {vs : List V} (r : RepVs K ι n H args vs) {N : List Str} (hN : vs.length ≤ N.length) : RepE K ι n H (init N.length args) (L2.start N vs) := by
  have hl := r.length
  refine ⟨?_, fun i x hx => ?_⟩
  · unfold init L2.start
    simp only [List.length_append, List.length_map, List.length_replicate, hl]
  · unfold init at hx
    by_cases hi : i < args.length
    · rw [List.getElem?_append_left (by simpa using hi), List.getElem?_map] at hx
      cases e : args[i]? with
      | none => rw [e] at hx; cases hx
      | some a =>
        rw [e] at hx
        cases hx
        obtain ⟨y, h1, h2⟩ := r.get e
        refine ⟨y, ?_, h2⟩
        unfold L2.start
        rw [List.getElem?_append_left (by rw [List.length_map, ← hl]; exact hi), List.getElem?_map, h1]
        rfl
    · rw [List.getElem?_append_right (by simpa using hi), List.getElem?_replicate] at hx
      split at hx <;> cases hx
theorem trim_rep {K : Frg} {ι ι' : Ad} {H H' : Hp} {μ μ1 g : Sto} (S : RepS K ι H μ) (X : Ext ι μ.length H ι' (μ1 ++ g).length H') (S' : RepS K ι' H' (μ1 ++ g)) (hl : μ1.length = μ.length) (hc : ∀ (l : Nat) (o : Ob), μ1[l]? = some o → μ[l]? = some o ∨ okO μ.length o = true) :
    RepS K ι' H' μ1 := by
  have hle : μ1.length ≤ (μ1 ++ g).length := by rw [List.length_append]; omega
  refine ⟨fun i j hi hj => S'.inj i j (by omega) (by omega), fun l o h => ?_, S'.zin, fun l h => S'.zap l (by omega)⟩
  have hll : l < μ1.length := (List.getElem?_eq_some_iff.mp h).1
  refine (S'.obj l o (by rw [List.getElem?_append_left hll]; exact h)).cut hle ?_
  rw [hl]
  rcases hc l o h with q | q
  · exact (S.obj l o q).ok
  · exact q
section
variable {P : Program} {w : World} {K : Frg} {mg : Str → Option Value} {base : Heap}
/-- THE RULE for a def -/
theorem fn_ok {x qual : Str} {st : Stmt} {f : Addr} {fd : FuncData} {N ps : List Str} {j : Nat} {d : DenS} {ψ : Fn} (F : L2.Fun K x qual st f fd) (S : FnScope N ps (defScope st))
    (hb : ∀ (cdv : Value) (A : Around) (outer : List Env) (s : Shared) (H : Hp) (E : XK), Room j (A.deeper (envOfC qual (defScope st) s.heap.objs.size f cdv)) → PSs (cxOf CX0 P w K mg base N qual (defScope st) f cdv A outer s H E).nox (defBody st) (tS K d))
    (hψ : ∀ (args : List PV) (μ : Sto) (v : PV) (μ' : Sto), args.length = ps.length → okLs μ.length args = true → ψ args μ = some (v, μ') → ∃ o, d (init N.length args) μ = some o ∧ Fin μ o v μ') : FnOk P w K mg base CX0 (j + 1) f fd ps (spD K ps.length ψ) := by
  refine F.ok S (fun vs H Q E h => ?_) (fun cdv A outer s H vs Q E hr h => ⟨tS K d, hb cdv A outer s H E hr, ?_⟩)
  · obtain ⟨ι, args, μ, v, μ', hl, R, _⟩ := h
    rw [← R.length]; exact hl
  · obtain ⟨ι, args, μ, v, μ', hl, R, S0, e, q⟩ := h
    obtain ⟨o, e2, fin⟩ := hψ args μ v μ' hl R.ok e
    have hpl : ps.length ≤ N.length := by
      have := congrArg List.length S.pre
      rw [List.length_take] at this
      omega
    refine ⟨ι, init N.length args, μ, o, init_rep R (by rw [← R.length, hl]; exact hpl), S0, e2, ?_⟩
    cases fin with
    | rt => exact q
    | nx ρ => exact fun σ' ι' H' X E' S' => q .non ι' H' X rfl S'
    | trim v μ1 g hl1 hc hv =>
      intro hv' ι' H' X R' S'
      have hle : μ'.length ≤ (μ' ++ g).length := by rw [List.length_append]; omega
      refine q hv' ι' H' (by rw [hl1]; exact X.cut) ?_ (trim_rep S0 X S' hl1 hc)
      exact R'.cut hle (by rw [hl1]; exact hv)
    | trimN ρ μ1 g hl1 hc => exact fun σ' ι' H' X E' S' => q .non ι' H' (by rw [hl1]; exact X.cut) rfl (trim_rep S0 X S' hl1 hc)
    | frz l xs μ1 g hl1 hc h hn hv =>
      intro hv' ι' H' X R' S'
      have hle : μ'.length ≤ (μ' ++ g).length := by rw [List.length_append]; omega
      obtain ⟨hlt, rfl⟩ := R'
      obtain ⟨ys, t, r⟩ := S'.obj l _ h
      refine q _ ι' H' (by rw [hl1]; exact X.cut) ⟨ι' l, ys, rfl, ⟨t, fun k hk z => ?_, fun z => S'.zap l hlt z⟩, RepVs.cut' hle r (by rw [hl1]; exact hv)⟩ (trim_rep S0 X S' hl1 hc)
      have := S'.inj k l (by omega) hlt z
      omega
/-- a def as its callers know it -/
structure Callee (P : Program) (w : World) (K : Frg) (mg : Str → Option Value) (base : Heap) (j : Nat) (x : Str) (k : Nat) (ψ : Fn) : Prop where
  ex : ∃ (f : Addr) (fd : FuncData) (ps : List Str), FnOk P w K mg base CX0 j f fd ps (spD K k ψ) ∧ mg x = some (.ref f) ∧ PySem.W.keepIn K (.ref f) = true ∧ Binds K fd ps []
theorem Callee.mono {i j k : Nat} {x : Str} {ψ : Fn} (c : Callee P w K mg base i x k ψ) (h : i ≤ j) : Callee P w K mg base j x k ψ := by
  obtain ⟨f, fd, ps, F, r⟩ := c.ex
  exact ⟨f, fd, ps, F.mono h, r⟩
theorem Callee.imp {j k : Nat} {x : Str} {ψ ψ' : Fn} (c : Callee P w K mg base j x k ψ) (h : ∀ args μ r, ψ' args μ = some r → ψ args μ = some r) : Callee P w K mg base j x k ψ' := by
  obtain ⟨f, fd, ps, F, r⟩ := c.ex
  exact ⟨f, fd, ps, F.imp (fun vs H Q E ⟨ι, args, μ, v, μ', h1, h2, h3, h4, h5⟩ => ⟨ι, args, μ, v, μ', h1, h2, h3, h _ _ _ h4, h5⟩), r⟩
/-- a def that is never called with anything -/
theorem callee_bot {x : Str} {f : Addr} {fd : FuncData} {ps : List Str} {k : Nat} (hg : mg x = some (.ref f)) (hk : PySem.W.keepIn K (.ref f) = true) (hb : Binds K fd ps []) : Callee P w K mg base 0 x k fun _ _ => none :=
  ⟨⟨f, fd, ps, ⟨fun vs H Q E h => (by obtain ⟨ι, args, μ, v, μ', _, _, _, h, _⟩ := h; cases h), fun A outer s H args us vs Q E _ _ _ _ h => (by obtain ⟨ι, args, μ, v, μ', _, _, _, h, _⟩ := h; cases h)⟩, hg, hk, hb⟩⟩
end
def dCall (k : Nat) (ψ : Fn) (r : DenA) : Den := fun ρ μ => (r ρ μ).bind fun p => if p.1.length = k then ψ p.1 p.2 else none
section
variable {X : Cx} {x : Str} {p pos : Pos} {e : Expr} {es : List Expr} {r : DenA} {j k : Nat} {ψ : Fn}
theorem t_call {K : Frg} {σ : L2.St} {H : Hp} {Q : VK} (h : tD K (dCall k ψ r) σ H Q) : tCall (spD K k ψ) [] E0 (tA K r) σ H Q := by
  obtain ⟨ι, ρ, μ, v, μ', E, S, e, q⟩ := h
  obtain ⟨⟨vs, μ1⟩, e1, e2⟩ := Option.bind_eq_some_iff.mp e
  split at e2
  · rename_i hl
    refine ⟨ι, ρ, μ, vs, μ1, E, S, e1, fun hs ι1 H1 X1 R1 S1 => ⟨ι1, vs, μ1, v, μ', hl, ?_, S1, e2, q.mono X1⟩⟩
    rw [List.append_nil]
    exact R1
  · cases e2
theorem e_call (C : Callee X.prog X.w X.K X.mg X.base j x k ψ) (hr : Room j X.A) (ha : PA X (e :: es) (tA X.K r)) (hg : Gl X x := by rfl) (hdb : (x == ("__debug__" : Str)) = false := by decide) (he : starEach (e :: es) X.env = (false, eval e X.env) :: starEach es X.env := by rfl) (hpl : (backTo pos (starEach es X.env)).any (·.1) = false := by rfl) :
    PE X (.Call (.Name x p) (e :: es) [] pos) (tD X.K (dCall k ψ r)) := by
  obtain ⟨f, fd, ps, F, hm, hk, hb⟩ := C.ex
  exact (pe_call F hr hg hm hk hb .nil pass0 ha hdb he hpl).weak fun _ _ _ h => t_call h
theorem e_call0 (C : Callee X.prog X.w X.K X.mg X.base j x k ψ) (hr : Room j X.A) (hg : Gl X x := by rfl) (hdb : (x == ("__debug__" : Str)) = false := by decide) : PE X (.Call (.Name x p) [] [] pos) (tD X.K (dCall k ψ aNil)) := by
  obtain ⟨f, fd, ps, F, hm, hk, hb⟩ := C.ex
  refine (pe_call0 F hr hg hm hk hb .nil pass0 hdb).weak fun σ H Q h => ?_
  obtain ⟨ι, ρ, μ, v, μ', E, S, e, q⟩ := h
  obtain ⟨⟨vs, μ1⟩, e1, e2⟩ := Option.bind_eq_some_iff.mp e
  cases e1
  split at e2
  · rename_i hl
    exact ⟨ι, [], μ, v, μ', hl, rfl, S, e2, q⟩
  · cases e2
end

/-! ### built-ins -/
def SN (K : Frg) (r : List V → Hp → VK → Prop) (f : Fn) : Prop := ∀ ι H μ xs v μ' hs (Q : VK), RepS K ι H μ → RepVs K ι μ.length H xs hs → f xs μ = some (v, μ') → Aft K ι μ H v μ' Q → r hs H Q
def dN (f : Fn) (r : DenA) : Den := fun ρ μ => (r ρ μ).bind fun p => f p.1 p.2
theorem t_n {K : Frg} {σ : L2.St} {H : Hp} {Q : VK} {r : List V → Hp → VK → Prop} {f : Fn} {d : DenA} (hr : SN K r f) (h : tD K (dN f d) σ H Q) : tCB r (tA K d) σ H Q := by
  obtain ⟨ι, ρ, μ, v, μ', E, S, e, q⟩ := h
  obtain ⟨⟨vs, μ1⟩, e1, e2⟩ := Option.bind_eq_some_iff.mp e
  exact ⟨ι, ρ, μ, vs, μ1, E, S, e1, fun hs ι1 H1 X1 R1 S1 => hr ι1 H1 μ1 vs v μ' hs Q S1 R1 e2 (q.mono X1)⟩
section
variable {X : Cx} {x : Str} {p pos : Pos} {e : Expr} {es : List Expr} {d : DenA} {id T : String} {r : List V → Hp → VK → Prop} {f : Fn}
theorem e_callB (hc : CallR X (.builtin id) r) (hr : SN X.K r f) (hm : X.mg x = none) (ha : PA X (e :: es) (tA X.K d)) (hv : bootBuiltins x = some (.builtin id) := by decide +kernel) (hg : Gl X x := by rfl) (hn : x ≠ "__name__" := by decide) (hdb : (x == ("__debug__" : Str)) = false := by decide)
    (he : starEach (e :: es) X.env = (false, eval e X.env) :: starEach es X.env := by rfl) (hpl : (backTo pos (starEach es X.env)).any (·.1) = false := by rfl) : PE X (.Call (.Name x p) (e :: es) [] pos) (tD X.K (dN f d)) :=
  (pe_callB hc hg hm hv ha hn hdb he hpl).weak fun _ _ _ h => t_n hr h
theorem e_callTy (hc : CallR X (.type T) r) (hr : SN X.K r f) (hm : X.mg x = none) (ha : PA X (e :: es) (tA X.K d)) (hv : bootBuiltins x = some (.type T) := by decide +kernel) (hg : Gl X x := by rfl) (hn : x ≠ "__name__" := by decide) (hdb : (x == ("__debug__" : Str)) = false := by decide)
    (he : starEach (e :: es) X.env = (false, eval e X.env) :: starEach es X.env := by rfl) (hpl : (backTo pos (starEach es X.env)).any (·.1) = false := by rfl) : PE X (.Call (.Name x p) (e :: es) [] pos) (tD X.K (dN f d)) :=
  (pe_callTy hc hg hm hv ha hn hdb he hpl).weak fun _ _ _ h => t_n hr h
end
def f_len : Fn := fun xs μ => match xs with
  | [.str z] => if z.length ≤ sizeLine then some (.int z.length, μ) else none
  | [x] => (rdS μ x).map fun ys => (.int ys.length, μ)
  | _ => none
theorem rdS_rep {K : Frg} {ι : Ad} {μ : Sto} {H : Hp} (S : RepS K ι H μ) {x : PV} {v : V} {xs : List PV} (r : RepV K ι μ.length H x v) (h : rdS μ x = some xs) : ∃ a ys, v = .ref a ∧ (SqL K H a ys ∨ SqT K H a ys) ∧ RepVs K ι μ.length H xs ys := by
  unfold rdS at h
  split at h
  · cases h
    obtain ⟨a, us, rfl, ta, ra⟩ := r
    exact ⟨a, us, rfl, .inr ta.sq, ra⟩
  · obtain ⟨a, us, rfl, ta, ra⟩ := rdL_rep S r h
    exact ⟨a, us, rfl, .inl (.of ta), ra⟩
theorem s_len {K : Frg} : SN K (fun xs H Q => ∃ x n, xs = [x] ∧ LenV K x H n ∧ Q (.int n) H) f_len := by
  intro ι H μ xs v μ' hs Q S R h q
  unfold f_len at h
  split at h
  · split at h
    · rename_i z hz
      cases h
      obtain ⟨y, t, rfl, r1, rfl⟩ := R
      cases r1
      exact ⟨_, _, rfl, ⟨hz, rfl⟩, q.pure S rfl⟩
    · cases h
  · obtain ⟨ys, e1, e2⟩ := Option.map_eq_some_iff.mp h
    cases e2
    obtain ⟨y, t, rfl, r1, rfl⟩ := R
    obtain ⟨a, us, rfl, t, ra⟩ := rdS_rep S r1 e1
    refine ⟨_, us.length, rfl, ?_, q.pure S (by rw [ra.length]; rfl)⟩
    exact t.imp (fun t => ⟨us, t, rfl⟩) fun t => ⟨us, t, rfl⟩
  · cases h
def f_abs : Fn := fun xs μ => match xs with
  | [.int i] => some (.int (if i < 0 then -i else i), μ)
  | _ => none
theorem s_abs {K : Frg} : SN K (fun xs H Q => ∃ i, xs = [.int i] ∧ Q (.int (if i < 0 then -i else i)) H) f_abs := by
  intro ι H μ xs v μ' hs Q S R h q
  unfold f_abs at h
  split at h
  · cases h
    obtain ⟨y, t, rfl, r1, rfl⟩ := R
    cases r1
    exact ⟨_, rfl, q.pure S rfl⟩
  · cases h
def f_int : Fn := fun xs μ => match xs with
  | [.int i] => some (.int i, μ)
  | [.bl b] => some (.int (if b then 1 else 0), μ)
  | _ => none
theorem s_int {K : Frg} : SN K (fun xs H Q => (∃ i, xs = [.int i] ∧ Q (.int i) H) ∨ ∃ k, xs = [.bl k] ∧ Q (.int (if k then 1 else 0)) H) f_int := by
  intro ι H μ xs v μ' hs Q S R h q
  unfold f_int at h
  split at h
  · cases h
    obtain ⟨y, t, rfl, r1, rfl⟩ := R
    cases r1
    exact .inl ⟨_, rfl, q.pure S rfl⟩
  · cases h
    obtain ⟨y, t, rfl, r1, rfl⟩ := R
    cases r1
    exact .inr ⟨_, rfl, q.pure S rfl⟩
  · cases h
def f_max2 : Fn := fun xs μ => match xs with
  | [.int i, .int j] => some (.int (if j > i then j else i), μ)
  | _ => none
theorem s_max2 {K : Frg} : SN K (fun xs H Q => ∃ i j, xs = [.int i, .int j] ∧ Q (.int (if j > i then j else i)) H) f_max2 := by
  intro ι H μ xs v μ' hs Q S R h q
  unfold f_max2 at h
  split at h
  · cases h
    obtain ⟨y, t, rfl, r1, y2, t2, rfl, r2, rfl⟩ := R
    cases r1; cases r2
    exact ⟨_, _, rfl, q.pure S rfl⟩
  · cases h
def f_min2 : Fn := fun xs μ => match xs with
  | [.int i, .int j] => some (.int (if j < i then j else i), μ)
  | _ => none
theorem s_min2 {K : Frg} : SN K (fun xs H Q => ∃ i j, xs = [.int i, .int j] ∧ Q (.int (if j < i then j else i)) H) f_min2 := by
  intro ι H μ xs v μ' hs Q S R h q
  unfold f_min2 at h
  split at h
  · cases h
    obtain ⟨y, t, rfl, r1, y2, t2, rfl, r2, rfl⟩ := R
    cases r1; cases r2
    exact ⟨_, _, rfl, q.pure S rfl⟩
  · cases h
def f_sum : Fn := fun xs μ => match xs with
  | [x] => ((rdL μ x).bind intsP).map fun ns => (.int ns.sum, μ)
  | _ => none
theorem s_sum {K : Frg} : SN K (rSum K) f_sum := by
  intro ι H μ xs v μ' hs Q S R h q
  unfold f_sum at h
  split at h
  · obtain ⟨ns, e1, e2⟩ := Option.map_eq_some_iff.mp h
    obtain ⟨ys, e3, e4⟩ := Option.bind_eq_some_iff.mp e1
    cases e2
    obtain ⟨y, t, rfl, r1, rfl⟩ := R
    obtain ⟨a, us, rfl, ta, ra⟩ := rdL_rep S r1 e3
    obtain ⟨rfl, _⟩ := intsP_rep e4 ra
    exact ⟨a, ns, rfl, .of ta, q.pure S rfl⟩
  · cases h
def maxI : List Int → Int
  | [] => 0
  | [i] => i
  | i :: j :: r => if maxI (j :: r) > i then maxI (j :: r) else i
theorem maxI_mem : ∀ {ns : List Int}, 0 < ns.length → maxI ns ∈ ns ∧ ∀ y ∈ ns, y ≤ maxI ns
  | [i], _ => ⟨List.mem_singleton.mpr rfl, fun y hy => by rw [List.mem_singleton.mp hy]; exact Int.le_refl _⟩
  | i :: j :: r, _ => by
    obtain ⟨h1, h2⟩ := maxI_mem (ns := j :: r) (by simp)
    unfold maxI
    split
    · exact ⟨List.mem_cons_of_mem _ h1, fun y hy => (List.mem_cons.mp hy).elim (fun e => by rw [e]; omega) (h2 y)⟩
    · exact ⟨List.mem_cons_self, fun y hy => (List.mem_cons.mp hy).elim (fun e => by rw [e]; omega) fun q => by have := h2 y q; omega⟩
def minI : List Int → Int
  | [] => 0
  | [i] => i
  | i :: j :: r => if minI (j :: r) < i then minI (j :: r) else i
theorem minI_mem : ∀ {ns : List Int}, 0 < ns.length → minI ns ∈ ns ∧ ∀ y ∈ ns, minI ns ≤ y
  | [i], _ => ⟨List.mem_singleton.mpr rfl, fun y hy => by rw [List.mem_singleton.mp hy]; exact Int.le_refl _⟩
  | i :: j :: r, _ => by
    obtain ⟨h1, h2⟩ := minI_mem (ns := j :: r) (by simp)
    unfold minI
    split
    · exact ⟨List.mem_cons_of_mem _ h1, fun y hy => (List.mem_cons.mp hy).elim (fun e => by rw [e]; omega) (h2 y)⟩
    · exact ⟨List.mem_cons_self, fun y hy => (List.mem_cons.mp hy).elim (fun e => by rw [e]; omega) fun q => by have := h2 y q; omega⟩
def f_max : Fn := fun xs μ => match xs with
  | [x] => ((rdL μ x).bind intsP).bind fun ns => if 0 < ns.length then some (.int (maxI ns), μ) else none
  | _ => none
theorem s_max {K : Frg} : SN K (rMax K) f_max := by
  intro ι H μ xs v μ' hs Q S R h q
  unfold f_max at h
  split at h
  · obtain ⟨ns, e1, e2⟩ := Option.bind_eq_some_iff.mp h
    obtain ⟨ys, e3, e4⟩ := Option.bind_eq_some_iff.mp e1
    split at e2
    · rename_i hl
      cases e2
      obtain ⟨y, t, rfl, r1, rfl⟩ := R
      obtain ⟨a, us, rfl, ta, ra⟩ := rdL_rep S r1 e3
      obtain ⟨rfl, _⟩ := intsP_rep e4 ra
      obtain ⟨h1, h2⟩ := maxI_mem hl
      refine ⟨a, ns, rfl, .of ta, hl, fun m m1 m2 => ?_⟩
      have : m = maxI ns := by have := h2 m m1; have := m2 _ h1; omega
      rw [this]
      exact q.pure S rfl
    · cases e2
  · cases h
def f_min : Fn := fun xs μ => match xs with
  | [x] => ((rdL μ x).bind intsP).bind fun ns => if 0 < ns.length then some (.int (minI ns), μ) else none
  | _ => none
theorem s_min {K : Frg} : SN K (rMin K) f_min := by
  intro ι H μ xs v μ' hs Q S R h q
  unfold f_min at h
  split at h
  · obtain ⟨ns, e1, e2⟩ := Option.bind_eq_some_iff.mp h
    obtain ⟨ys, e3, e4⟩ := Option.bind_eq_some_iff.mp e1
    split at e2
    · rename_i hl
      cases e2
      obtain ⟨y, t, rfl, r1, rfl⟩ := R
      obtain ⟨a, us, rfl, ta, ra⟩ := rdL_rep S r1 e3
      obtain ⟨rfl, _⟩ := intsP_rep e4 ra
      obtain ⟨h1, h2⟩ := minI_mem hl
      refine ⟨a, ns, rfl, .of ta, hl, fun m m1 m2 => ?_⟩
      have : m = minI ns := by have := h2 m m1; have := m2 _ h1; omega
      rw [this]
      exact q.pure S rfl
    · cases e2
  · cases h
def f_tuple : Fn := fun xs μ => match xs with
  | [.tup ys] => some (.tup ys, μ)
  | [x] => (rdL μ x).map fun ys => (.tup ys, μ)
  | _ => none
theorem s_tuple {K : Frg} : SN K (fun xs H Q => ∃ p ys, xs = [.ref p] ∧ ((SqL K H p ys ∧ ∀ l, H l = none → Q (.ref l) (upd H l (.tup ys))) ∨ (SqT K H p ys ∧ Q (.ref p) H))) f_tuple := by
  intro ι H μ xs v μ' hs Q S R h q
  unfold f_tuple at h
  split at h
  · cases h
    obtain ⟨y, t, rfl, ⟨a, us, rfl, ta, ra⟩, rfl⟩ := R
    exact ⟨a, us, rfl, .inr ⟨ta.sq, q.pure S ⟨a, us, rfl, ta, ra⟩⟩⟩
  · obtain ⟨ys, e1, e2⟩ := Option.map_eq_some_iff.mp h
    cases e2
    obtain ⟨y, t, rfl, r1, rfl⟩ := R
    obtain ⟨a, us, rfl, ta, ra⟩ := rdL_rep S r1 e1
    exact ⟨a, us, rfl, .inl ⟨.of ta, fun p hp => q.tup S ra hp⟩⟩
  · cases h
/-- a list that nobody changes; one that will be changed -/
def f_list : Fn := fun xs μ => match xs with
  | [x] => (rdS μ x).map fun ys => (.lst ys, μ)
  | _ => none
def f_listM : Fn := fun xs μ => match xs with
  | [x] => (rdS μ x).map fun ys => (.loc μ.length, μ ++ [.lst ys])
  | _ => none
theorem s_list {K : Frg} : SN K (fun xs H Q => ∃ p ys, xs = [.ref p] ∧ (SqL K H p ys ∨ SqT K H p ys) ∧ ∀ l, H l = none → Q (.ref l) (upd H l (.lst ys))) f_list := by
  intro ι H μ xs v μ' hs Q S R h q
  unfold f_list at h
  split at h
  · obtain ⟨ys, e1, e2⟩ := Option.map_eq_some_iff.mp h
    cases e2
    obtain ⟨y, t, rfl, r1, rfl⟩ := R
    obtain ⟨a, us, rfl, ta, ra⟩ := rdS_rep S r1 e1
    exact ⟨a, us, rfl, ta, fun p hp => q.lst S ra hp⟩
  · cases h
theorem s_listM {K : Frg} : SN K (fun xs H Q => ∃ p ys, xs = [.ref p] ∧ (SqL K H p ys ∨ SqT K H p ys) ∧ ∀ l, H l = none → Q (.ref l) (upd H l (.lst ys))) f_listM := by
  intro ι H μ xs v μ' hs Q S R h q
  unfold f_listM at h
  split at h
  · obtain ⟨ys, e1, e2⟩ := Option.map_eq_some_iff.mp h
    cases e2
    obtain ⟨y, t, rfl, r1, rfl⟩ := R
    obtain ⟨a, us, rfl, ta, ra⟩ := rdS_rep S r1 e1
    exact ⟨a, us, rfl, ta, fun p hp => q.loc S ra hp⟩
  · cases h
def blsP : List PV → Option (List Bool)
  | [] => some []
  | .bl b :: r => (blsP r).map (b :: ·)
  | _ :: _ => none
theorem blsP_map : ∀ ns : List Bool, blsP (ns.map PV.bl) = some ns
  | [] => rfl
  | i :: r => by rw [List.map_cons]; unfold blsP; rw [blsP_map r]; rfl
theorem blsP_rep {K : Frg} {ι : Ad} {n : Nat} {H : Hp} : ∀ {xs : List PV} {ys : List V} {ns : List Bool}, blsP xs = some ns → RepVs K ι n H xs ys → ys = ns.map V.bl
  | [], _, _, h, r => by cases h; cases r; rfl
  | .bl i :: xs, _, ns, h, r => by
    obtain ⟨y, t, rfl, r1, r2⟩ := r
    unfold blsP at h
    obtain ⟨ms, e, rfl⟩ := Option.map_eq_some_iff.mp h
    cases r1
    rw [blsP_rep e r2]; rfl
  | .non :: _, _, _, h, _ => by cases h
  | .int _ :: _, _, _, h, _ => by cases h
  | .str _ :: _, _, _, h, _ => by cases h
  | .tup _ :: _, _, _, h, _ => by cases h
  | .lst _ :: _, _, _, h, _ => by cases h
  | .loc _ :: _, _, _, h, _ => by cases h
  | .scr _ :: _, _, _, h, _ => by cases h
def f_all : Fn := fun xs μ => match xs with
  | [x] => ((rdL μ x).bind blsP).map fun ns => (.bl (ns.all id), μ)
  | _ => none
def f_any : Fn := fun xs μ => match xs with
  | [x] => ((rdL μ x).bind blsP).map fun ns => (.bl (ns.any id), μ)
  | _ => none
theorem s_all {K : Frg} : SN K (rAll K) f_all := by
  intro ι H μ xs v μ' hs Q S R h q
  unfold f_all at h
  split at h
  · obtain ⟨ns, e1, e2⟩ := Option.map_eq_some_iff.mp h
    obtain ⟨ys, e3, e4⟩ := Option.bind_eq_some_iff.mp e1
    cases e2
    obtain ⟨y, t, rfl, r1, rfl⟩ := R
    obtain ⟨a, us, rfl, ta, ra⟩ := rdL_rep S r1 e3
    have := blsP_rep e4 ra
    subst this
    exact ⟨a, ns, rfl, .of ta, q.pure S rfl⟩
  · cases h
theorem s_any {K : Frg} : SN K (rAny K) f_any := by
  intro ι H μ xs v μ' hs Q S R h q
  unfold f_any at h
  split at h
  · obtain ⟨ns, e1, e2⟩ := Option.map_eq_some_iff.mp h
    obtain ⟨ys, e3, e4⟩ := Option.bind_eq_some_iff.mp e1
    cases e2
    obtain ⟨y, t, rfl, r1, rfl⟩ := R
    obtain ⟨a, us, rfl, ta, ra⟩ := rdL_rep S r1 e3
    have := blsP_rep e4 ra
    subst this
    exact ⟨a, ns, rfl, .of ta, q.pure S rfl⟩
  · cases h
/-- repr(int), str(int) -/
def f_repr : Fn := fun xs μ => match xs with
  | [.int i] => if i.natAbs.log2 < 1920 then some (.str (toString i), μ) else none
  | _ => none
theorem s_repr {K : Frg} : SN K (fun xs H Q => ∃ i, xs = [.int i] ∧ i.natAbs.log2 < 1920 ∧ Q (.str (toString i)) H) f_repr := by
  intro ι H μ xs v μ' hs Q S R h q
  unfold f_repr at h
  split at h
  · split at h
    · cases h
      obtain ⟨y, t, rfl, r1, rfl⟩ := R
      cases r1
      exact ⟨_, rfl, by assumption, q.pure S rfl⟩
    · cases h
  · cases h

/-! ### isinstance -/
inductive Ty where
  | int | bool | str | tuple | list
def Ty.name : Ty → String
  | .int => "int" | .bool => "bool" | .str => "str" | .tuple => "tuple" | .list => "list"
def tyN (μ : Sto) : PV → Option String
  | .non => some "NoneType"
  | .bl _ => some "bool"
  | .int _ => some "int"
  | .str _ => some "str"
  | .tup _ => some "tuple"
  | .lst _ => some "list"
  | .loc l => match μ[l]? with
    | some (.lst _) => some "list"
    | some (.dic _ _) => some "dict"
    | none => none
  | .scr _ => none
def isT (T : Ty) (s : String) : Bool := match T with
  | .int => s == "int" || s == "bool"
  | t => s == t.name
theorem tyN_rep {K : Frg} {ι : Ad} {μ : Sto} {H : Hp} (S : RepS K ι H μ) {x : PV} {v : V} {s : String} (r : RepV K ι μ.length H x v) (h : tyN μ x = some s) : TyX K H v (.type s) ∧ s ∈ ["NoneType", "bool", "int", "str", "tuple", "list", "dict"] := by
  cases x with
  | non => cases r; cases h; exact ⟨.base .non, by decide⟩
  | bl b => cases r; cases h; exact ⟨.base (.bl b), by decide⟩
  | int i => cases r; cases h; exact ⟨.base (.int i), by decide⟩
  | str z => cases r; cases h; exact ⟨.base (.str z), by decide⟩
  | tup xs =>
    obtain ⟨a, ys, rfl, t, _⟩ := r
    cases h
    rcases t with ⟨t, _⟩ | ⟨o, its, n, hk, hc, _⟩
    · exact ⟨.base (.tup t), by decide⟩
    · exact ⟨.kTuple hk hc, by decide⟩
  | lst xs =>
    obtain ⟨a, ys, rfl, ⟨t, _⟩, _⟩ := r
    cases h
    exact ⟨.base (.lst t), by decide⟩
  | loc l =>
    obtain ⟨hl, rfl⟩ := r
    unfold tyN at h
    simp only at h
    split at h
    · rename_i xs e
      cases h
      obtain ⟨ys, t, _⟩ := S.obj _ _ e
      exact ⟨.base (.lst t), by decide⟩
    · rename_i b kvs e
      cases h
      cases b with
      | false => obtain ⟨ys, t, _⟩ := S.obj _ _ e; exact ⟨.base (.dK t), by decide⟩
      | true => obtain ⟨ys, t, _⟩ := S.obj _ _ e; exact ⟨.base (.dT t), by decide⟩
    · cases h
  | scr _ => cases h
theorem isT_kit : ∀ (T : Ty), ∀ s ∈ ["NoneType", "bool", "int", "str", "tuple", "list", "dict"], kitB s T.name = some (isT T s) := by
  intro T
  cases T <;> decide +kernel
def f_isi (T : Ty) : Op1 := fun x μ => (tyN μ x).map fun s => (.bl (isT T s), μ)
def f_isi2 (T U : Ty) : Op1 := fun x μ => (tyN μ x).map fun s => (.bl (isT T s || isT U s), μ)
section
variable {X : Cx} {a : Expr} {d : Den}
theorem e_isi (T : Ty) {y : Str} {p p2 pos : Pos} (ha : PE X a (tD X.K d)) (hm : X.mg "isinstance" = none) (hm2 : X.mg y = none) (hv2 : bootBuiltins y = some (.type T.name) := by decide +kernel) (hg : Gl X "isinstance" := by rfl) (hg2 : Gl X y := by rfl) (hn2 : y ≠ "__name__" := by decide) (hd2 : (y == ("__debug__" : Str)) = false := by decide)
    (hs : starEach [a, .Name y p2] X.env = (false, eval a X.env) :: starEach [.Name y p2] X.env := by rfl) (hpl : (backTo pos (starEach [.Name y p2] X.env)).any (·.1) = false := by rfl) : PE X (.Call (.Name "isinstance" p) [a, .Name y p2] [] pos) (tD X.K (d1 (f_isi T) d)) :=
  (pe_callB (r := rIsi X.K) call_isi hg hm (by decide +kernel) (pa_cons ha (pa_cons (pe_bltn (v := .ty T.name) hg2 hm2 hv2 rfl hn2 hd2) pa_nil) hs) (by decide) (by decide) hs hpl).weak fun σ H Q h => by
    obtain ⟨ι, ρ, μ, v, μ', E, S, e, q⟩ := h
    obtain ⟨⟨x, μ1⟩, e1, e2⟩ := Option.bind_eq_some_iff.mp e
    obtain ⟨s, e3, e4⟩ := Option.map_eq_some_iff.mp e2
    cases e4
    refine ⟨ι, ρ, μ, x, _, E, S, e1, fun hx ι1 H1 X1 R1 S1 => ?_⟩
    obtain ⟨t1, t2⟩ := tyN_rep S1 R1 e3
    exact ⟨hx, .ty T.name, .type s, .type T.name, _, rfl, .ty _, t1, kit_ty (isT_kit T s t2), q _ ι1 H1 X1 rfl S1⟩
theorem e_isi2 (T U : Ty) {y z : Str} {p p2 p3 pt pos : Pos} {k : Nat} (ha : PE X a (tD X.K d)) (hm : X.mg "isinstance" = none) (hm2 : X.mg y = none) (hm3 : X.mg z = none) (hv2 : bootBuiltins y = some (.type T.name) := by decide +kernel) (hv3 : bootBuiltins z = some (.type U.name) := by decide +kernel) (hg : Gl X "isinstance" := by rfl) (hg2 : Gl X y := by rfl) (hg3 : Gl X z := by rfl)
    (hn2 : y ≠ "__name__" := by decide) (hd2 : (y == ("__debug__" : Str)) = false := by decide) (hn3 : z ≠ "__name__" := by decide) (hd3 : (z == ("__debug__" : Str)) = false := by decide)
    (hs : starEach [a, .Tuple [.Name y p2, .Name z p3] k pt] X.env = (false, eval a X.env) :: starEach [.Tuple [.Name y p2, .Name z p3] k pt] X.env := by rfl) (hpl : (backTo pos (starEach [.Tuple [.Name y p2, .Name z p3] k pt] X.env)).any (·.1) = false := by rfl) :
    PE X (.Call (.Name "isinstance" p) [a, .Tuple [.Name y p2, .Name z p3] k pt] [] pos) (tD X.K (d1 (f_isi2 T U) d)) :=
  (pe_callB (r := rIsiT X.K) call_isiT hg hm (by decide +kernel) (pa_cons ha (pa_cons (pe_tup (pa_cons (pe_bltn (v := .ty T.name) hg2 hm2 hv2 rfl hn2 hd2) (pa_cons (pe_bltn (v := .ty U.name) hg3 hm3 hv3 rfl hn3 hd3) pa_nil))) pa_nil) hs) (by decide) (by decide) hs hpl).weak fun σ H Q h => by
    obtain ⟨ι, ρ, μ, v, μ', E, S, e, q⟩ := h
    obtain ⟨⟨x, μ1⟩, e1, e2⟩ := Option.bind_eq_some_iff.mp e
    obtain ⟨s, e3, e4⟩ := Option.map_eq_some_iff.mp e2
    cases e4
    refine ⟨ι, ρ, μ, x, _, E, S, e1, fun hx ι1 H1 X1 R1 S1 => ⟨by show 2 ≤ sizeLine; decide, fun p hp => ?_⟩⟩
    have X2 := Ext.new1 (o := .tup [.ty T.name, .ty U.name]) S1 hp
    have S2 := S1.new1 (o := .tup [.ty T.name, .ty U.name]) hp
    obtain ⟨t1, t2⟩ := tyN_rep S2 (R1.mono X2) e3
    refine ⟨hx, p, [.ty T.name, .ty U.name], .type s, [.type T.name, .type U.name], _, rfl, upd_same, .cons (.ty _) (.cons (.ty _) .nil), t1, ?_, q _ ι1 _ (X1.trans X2) rfl S2⟩
    refine kitAny_cons (b := isT T s) (kit_ty (isT_kit T s t2)) (fun h => ?_) fun h => by rw [h]; rfl
    refine kitAny_cons (b := isT U s) (kit_ty (isT_kit U s t2)) (fun h2 => by rw [h, h2]; exact kitAny_nil) fun h2 => by rw [h, h2]; rfl
end

/-! ### methods of lists -/
abbrev OpM := PV → List PV → Sto → Option (PV × Sto)
def dM (f : OpM) (d : Den) (r : DenA) : Den := fun ρ μ => (d ρ μ).bind fun p => (r ρ p.2).bind fun q => f p.1 q.1 q.2
def SM (K : Frg) (r : V → List V → Hp → VK → Prop) (f : OpM) : Prop := ∀ ι H μ x xs v μ' hx hs (Q : VK), RepS K ι H μ → RepV K ι μ.length H x hx → RepVs K ι μ.length H xs hs → f x xs μ = some (v, μ') → Aft K ι μ H v μ' Q → r hx hs H Q
/-- the receiver's type is known whatever the heap -/
def isLs (μ : Sto) : PV → Bool
  | .lst _ => true
  | .loc l => match μ[l]? with
    | some (.lst _) => true
    | _ => false
  | _ => false
def dML (f : OpM) (d : Den) (r : DenA) : Den := fun ρ μ => (d ρ μ).bind fun p => if isLs p.2 p.1 = true then (r ρ p.2).bind fun q => f p.1 q.1 q.2 else none
theorem isLs_rep {K : Frg} {ι : Ad} {μ : Sto} {H : Hp} (S : RepS K ι H μ) {x : PV} {v : V} (r : RepV K ι μ.length H x v) (h : isLs μ x = true) : tyV K "list" v H := by
  unfold isLs at h
  split at h
  · obtain ⟨a, ys, rfl, ⟨t, _⟩, _⟩ := r
    exact .inl ⟨rfl, ys, .of t⟩
  · obtain ⟨hl, rfl⟩ := r
    split at h
    · rename_i xs e
      obtain ⟨ys, t, _⟩ := S.obj _ _ e
      exact .inl ⟨rfl, ys, .of t⟩
    · cases h
  · cases h
section
variable {X : Cx} {o e : Expr} {es : List Expr} {d : Den} {r : DenA} {name : Str} {apos cpos : Pos} {id : String} {rr : V → List V → Hp → VK → Prop} {f : OpM}
theorem e_bm (pa : PlainAttrs "list") (slot : Slot "list" name id) (hty : typeOf (.builtin id) = pure (.type "method_descriptor")) (hm : MtR X id rr) (hr : SM X.K rr f) (ho : PE X o (tD X.K d)) (ha : PA X (e :: es) (tA X.K r))
    (hbase : attributeBase o name X.env (eval o X.env) = eval o X.env := by rfl)
    (hfew : ((backTo cpos (starEach (e :: es) X.env)).all (fun x => !x.1) && (backToKw cpos (keywordEach [] X.env)).all (fun x => x.1.isSome)
      && decide ((e :: es).length + ([] : List Keyword).length + (if ([] : List Keyword).isEmpty then 0 else 1) < 30)) = true := by rfl)
    (hline : (apos.endLine == cpos.line) = true := by rfl) (hs : starEach (e :: es) X.env = (false, eval e X.env) :: starEach es X.env := by rfl) (hplain : (backTo cpos (starEach es X.env)).any (·.1) = false := by rfl) :
    PE X (.Call (.Attribute o name apos) (e :: es) [] cpos) (tD X.K (dML f d r)) :=
  (pe_bm pa slot hty hm ho ha hbase hfew hline hs hplain).weak fun σ H Q h => by
    obtain ⟨ι, ρ, μ, v, μ', E, S, e, q⟩ := h
    obtain ⟨⟨x, μ1⟩, e1, e2⟩ := Option.bind_eq_some_iff.mp e
    split at e2
    · rename_i hL
      obtain ⟨⟨vs, μ2⟩, e3, e4⟩ := Option.bind_eq_some_iff.mp e2
      exact ⟨ι, ρ, μ, x, μ1, E, S, e1, fun hx ι1 H1 X1 R1 S1 => ⟨isLs_rep S1 R1 hL, ι1, ρ, μ1, vs, μ2, E.mono X1, S1, e3, fun hs ι2 H2 X2 R2 S2 =>
        hr ι2 H2 μ2 x vs v μ' hx hs Q S2 (R1.mono X2) R2 e4 (q.mono (X1.trans X2))⟩⟩
    · cases e2
theorem e_bm0 (pa : PlainAttrs "list") (slot : Slot "list" name id) (hty : typeOf (.builtin id) = pure (.type "method_descriptor")) (hm : MtR X id rr) (hr : SM X.K rr f) (ho : PE X o (tD X.K d))
    (hbase : attributeBase o name X.env (eval o X.env) = eval o X.env := by rfl) (hline : (apos.endLine == cpos.line) = true := by rfl) :
    PE X (.Call (.Attribute o name apos) [] [] cpos) (tD X.K (dML f d aNil)) :=
  (pe_bm0 pa slot hty hm ho hbase hline).weak fun σ H Q h => by
    obtain ⟨ι, ρ, μ, v, μ', E, S, e, q⟩ := h
    obtain ⟨⟨x, μ1⟩, e1, e2⟩ := Option.bind_eq_some_iff.mp e
    split at e2
    · rename_i hL
      obtain ⟨⟨vs, μ2⟩, e3, e4⟩ := Option.bind_eq_some_iff.mp e2
      cases e3
      exact ⟨ι, ρ, μ, x, μ1, E, S, e1, fun hx ι1 H1 X1 R1 S1 => ⟨isLs_rep S1 R1 hL, hr ι1 H1 μ1 x [] v μ' hx [] Q S1 R1 rfl e4 (q.mono X1)⟩⟩
    · cases e2
end
def f_app : OpM := fun x xs μ => match x, xs with
  | .loc l, [y] => match μ[l]? with
    | some (.lst zs) => if zs.length < sizeLine then some (.non, μ.set l (.lst (zs ++ [y]))) else none
    | _ => none
  | _, _ => none
theorem Aft.put {K : Frg} {ι : Ad} {μ : Sto} {H : Hp} {v : PV} {hv : V} {l : Nat} {xs' : List PV} {ys' : List V} {Q : VK} (S : RepS K ι H μ) (hl : l < μ.length) (q : Aft K ι μ H v (μ.set l (.lst xs')) Q) (r : RepVs K ι μ.length H xs' ys') (rv : RepV K ι μ.length H v hv) :
    Q hv (upd H (ι l) (.lst ys')) := by
  have X := Ext.put (o := .lst ys') S hl
  have hn : (μ.set l (.lst xs')).length = μ.length := List.length_set
  exact q hv ι _ (by rw [hn]; exact X) (by rw [hn]; exact rv.mono X) (S.put hl ⟨_, upd_same, RepVs.mono X r⟩)
theorem s_app {K : Frg} : SM K rAppend f_app := by
  intro ι H μ x xs v μ' hx hs Q S R Rs h q
  unfold f_app at h
  split at h
  · split at h
    · rename_i l y zs e
      split at h
      · rename_i hz
        cases h
        obtain ⟨hl, rfl⟩ := R
        obtain ⟨y', t, rfl, r1, rfl⟩ := Rs
        obtain ⟨us, tu, ru⟩ := S.obj _ _ e
        exact ⟨_, us, y', rfl, rfl, tu, by rw [← ru.length]; exact hz, q.put S hl (ru.append (.one r1)) rfl⟩
      · cases h
    · cases h
  · cases h
def f_ext : OpM := fun x xs μ => match x, xs with
  | .loc l, [y] => match μ[l]?, rdL μ y with
    | some (.lst zs), some ws => if zs.length + ws.length ≤ sizeLine then some (.non, μ.set l (.lst (zs ++ ws))) else none
    | _, _ => none
  | _, _ => none
theorem s_ext {K : Frg} : SM K rExtend f_ext := by
  intro ι H μ x xs v μ' hx hs Q S R Rs h q
  unfold f_ext at h
  split at h
  · split at h
    · rename_i l y zs ws e1 e2
      split at h
      · rename_i hz
        cases h
        obtain ⟨hl, rfl⟩ := R
        obtain ⟨y', t, rfl, r1, rfl⟩ := Rs
        obtain ⟨us, tu, ru⟩ := S.obj _ _ e1
        obtain ⟨b, us2, rfl, tb, rb⟩ := rdL_rep S r1 e2
        exact ⟨_, b, us, us2, rfl, rfl, tu, tb, by rw [← ru.length, ← rb.length]; exact hz, q.put S hl (ru.append rb) rfl⟩
      · cases h
    · cases h
  · cases h
def f_pop : OpM := fun x xs μ => match x, xs with
  | .loc l, [] => match μ[l]? with
    | some (.lst zs) => (zs[zs.length - 1]?).map fun y => (y, μ.set l (.lst zs.dropLast))
    | _ => none
  | _, _ => none
theorem s_pop {K : Frg} : SM K rPop f_pop := by
  intro ι H μ x xs v μ' hx hs Q S R Rs h q
  unfold f_pop at h
  split at h
  · split at h
    · rename_i l zs e
      obtain ⟨y, e1, e2⟩ := Option.map_eq_some_iff.mp h
      cases e2
      obtain ⟨hl, rfl⟩ := R
      cases Rs
      obtain ⟨us, tu, ru⟩ := S.obj _ _ e
      obtain ⟨y', h1, h2⟩ := ru.get e1
      exact ⟨_, us, y', rfl, rfl, tu, by rw [← ru.length]; exact h1, q.put S hl ru.dropLast h2⟩
    · cases h
  · cases h
end Fd

/-! Fd7: chained comparisons, reversed slices, in, two-part targets. -/
namespace Fd
open PySem PySem.Spec PyProof.Rows L2

/-! ### a < b < c -/
def dCh2 (f g : Op2) (da db dc : Den) : Den := fun ρ μ => (da ρ μ).bind fun p => (db ρ p.2).bind fun q => (asB (f p.1 q.1 q.2)).bind fun r => if r.1 = true then (dc ρ r.2).bind fun s => g q.1 s.1 s.2 else some (.bl false, r.2)
def dCh3 (f g h : Op2) (da db dc dd : Den) : Den := fun ρ μ => (da ρ μ).bind fun p => (db ρ p.2).bind fun q => (asB (f p.1 q.1 q.2)).bind fun r => if r.1 = true then (dc ρ r.2).bind fun s => (asB (g q.1 s.1 s.2)).bind fun t => if t.1 = true then (dd ρ t.2).bind fun u => h s.1 u.1 u.2 else some (.bl false, t.2)
  else some (.bl false, r.2)
theorem asB_some {o : Option (PV × Sto)} {b : Bool} {μ : Sto} (h : asB o = some (b, μ)) : o = some (.bl b, μ) := by
  unfold asB at h
  split at h
  · cases h; rfl
  · cases h
def tChain3 (r r' r'' : R2) (ta tb tc td : TE) : TE := fun σ H Q => ta σ H fun x H1 => tb σ H1 fun y H2 => r x y H2 fun z H3 => ∃ k, z = .bl k ∧
  (if k = true then tc σ H3 fun w' H4 => r' y w' H4 fun z2 H5 => ∃ k2, z2 = .bl k2 ∧ (if k2 = true then td σ H5 fun w2 H6 => r'' w' w2 H6 Q else Q (.bl false) H5) else Q (.bl false) H3)
section
variable {X : Cx} {a b c d : Expr} {ta tb tc td : TE} {pos : Pos}
theorem pe_chain3 {op op' op'' : CmpOp} {r r' r'' : R2} (ho : OpR X (compareOp op) r) (ho' : OpR X (compareOp op') r') (ho'' : OpR X (compareOp op'') r'') (ha : PE X a ta) (hb : PE X b tb) (hc : PE X c tc) (hd : PE X d td)
    (hm : lastMarks [op, op', op''] [b, c, d] = false := by with_unfolding_all rfl) : PE X (.Compare a [op, op', op''] [b, c, d] pos) (tChain3 r r' r'' ta tb tc td) := by
  refine ⟨fun pins s σ H Q I h => ?_⟩
  refine Compare_chain (thn (ha.run pins s σ H _ I h) fun v s1 ⟨x, H1, I1, r1, q1⟩ => chain_link (thn (hb.run pins s1 σ H1 _ I1 q1) fun u s2 ⟨y, H2, I2, r2, q2⟩ =>
    thn (ho pins s2 σ H2 x y v u _ I2 r1 r2 q2) fun d s3 ⟨z, H3, I3, r3, k, e, q3⟩ => ?_)) hm
  subst e
  cases r3
  refine wpAny_truthy_bool ?_
  cases k with
  | false => exact ite_ff ⟨.bl false, H3, I3, rfl, q3⟩
  | true =>
    refine ite_tt (chain_link (thn (hc.run pins s3 σ H3 _ I3 q3) fun w' s4 ⟨z', H4, I4, r4, q4⟩ => thn (ho' pins s4 σ H4 y z' u w' _ I4 r2 r4 q4) fun d' s5 ⟨z2, H5, I5, r5, k2, e2, q5⟩ => ?_))
    subst e2
    cases r5
    refine wpAny_truthy_bool ?_
    cases k2 with
    | false => exact ite_ff ⟨.bl false, H5, I5, rfl, q5⟩
    | true => exact ite_tt (chain_last (thn (hd.run pins s5 σ H5 _ I5 q5) fun w2 s6 ⟨z3, H6, I6, r6, q6⟩ => ho'' pins s6 σ H6 z' z3 w' w2 Q I6 r4 r6 q6))
theorem pt_chain3 {op op' op'' : CmpOp} {r r' r'' : R2} (ho : OpR X (compareOp op) r) (ho' : OpR X (compareOp op') r') (ho'' : OpR X (compareOp op'') r'') (ha : PE X a ta) (hb : PE X b tb) (hc : PE X c tc) (hd : PE X d td)
    (hm : lastMarks [op, op', op''] [b, c, d] = false := by with_unfolding_all rfl) : PT X (.Compare a [op, op', op''] [b, c, d] pos) (tTest (tChain3 r r' r'' ta tb tc td)) := by
  refine ⟨fun pins s σ H Q I h => ?_⟩
  refine isTrue_chain (thn (ha.run pins s σ H _ I h) fun v s1 ⟨x, H1, I1, r1, q1⟩ => test_link (thn (hb.run pins s1 σ H1 _ I1 q1) fun u s2 ⟨y, H2, I2, r2, q2⟩ =>
    thn (ho pins s2 σ H2 x y v u _ I2 r1 r2 q2) fun d s3 ⟨z, H3, I3, r3, k, e, q3⟩ => ?_)) hm
  subst e
  cases r3
  refine wpAny_truthy_bool ?_
  cases k with
  | false =>
    obtain ⟨k', e', q'⟩ := q3
    cases e'
    exact ite_ff ⟨H3, I3, q'⟩
  | true =>
    refine ite_tt (test_link (thn (hc.run pins s3 σ H3 _ I3 q3) fun w' s4 ⟨z', H4, I4, r4, q4⟩ => thn (ho' pins s4 σ H4 y z' u w' _ I4 r2 r4 q4) fun d' s5 ⟨z2, H5, I5, r5, k2, e2, q5⟩ => ?_))
    subst e2
    cases r5
    refine wpAny_truthy_bool ?_
    cases k2 with
    | false =>
      obtain ⟨k', e', q'⟩ := q5
      cases e'
      exact ite_ff ⟨H5, I5, q'⟩
    | true =>
      refine ite_tt (test_last (thn (hd.run pins s5 σ H5 _ I5 q5) fun w2 s6 ⟨z3, H6, I6, r6, q6⟩ => thn (ho'' pins s6 σ H6 z' z3 w' w2 _ I6 r4 r6 q6) fun d'' s7 ⟨z4, H7, I7, r7, k3, e3, q7⟩ => ?_))
      subst e3
      cases r7
      exact wpAny_truthy_bool ⟨H7, I7, q7⟩
end
section
variable {K : Frg} {σ : L2.St} {H : Hp} {Q : VK} {f g h : Op2} {r r' r'' : R2} {da db dc dd : Den}
theorem t_ch2 (hf : S2 K r f) (hg : S2 K r' g) (w : tD K (dCh2 f g da db dc) σ H Q) : tChain r r' (tD K da) (tD K db) (tD K dc) σ H Q := by
  obtain ⟨ι, ρ, μ, v, μ', E, S, e, q⟩ := w
  obtain ⟨⟨x, μ1⟩, e1, e⟩ := Option.bind_eq_some_iff.mp e
  obtain ⟨⟨y, μ2⟩, e2, e⟩ := Option.bind_eq_some_iff.mp e
  obtain ⟨⟨k, μ3⟩, e3, e⟩ := Option.bind_eq_some_iff.mp e
  refine ⟨ι, ρ, μ, x, μ1, E, S, e1, fun hx ι1 H1 X1 R1 S1 => ⟨ι1, ρ, μ1, y, μ2, E.mono X1, S1, e2, fun hy ι2 H2 X2 R2 S2 => ?_⟩⟩
  refine hf ι2 H2 μ2 x y (.bl k) μ3 hx hy _ S2 (R1.mono X2) R2 (asB_some e3) fun hz ι3 H3 X3 R3 S3 => ⟨k, R3, ?_⟩
  have e : (if k = true then _ else _) = some (v, μ') := e
  cases k with
  | false => cases e; exact q _ ι3 H3 (X1.trans (X2.trans X3)) rfl S3
  | true =>
    obtain ⟨⟨z, μ4⟩, e4, e⟩ := Option.bind_eq_some_iff.mp e
    exact ⟨ι3, ρ, μ3, z, μ4, E.mono (X1.trans (X2.trans X3)), S3, e4, fun hw ι4 H4 X4 R4 S4 => hg ι4 H4 μ4 y z v μ' hy hw Q S4 (R2.mono (X3.trans X4)) R4 e (q.mono (X1.trans (X2.trans (X3.trans X4))))⟩
theorem t_ch3 (hf : S2 K r f) (hg : S2 K r' g) (hh : S2 K r'' h) (w : tD K (dCh3 f g h da db dc dd) σ H Q) : tChain3 r r' r'' (tD K da) (tD K db) (tD K dc) (tD K dd) σ H Q := by
  obtain ⟨ι, ρ, μ, v, μ', E, S, e, q⟩ := w
  obtain ⟨⟨x, μ1⟩, e1, e⟩ := Option.bind_eq_some_iff.mp e
  obtain ⟨⟨y, μ2⟩, e2, e⟩ := Option.bind_eq_some_iff.mp e
  obtain ⟨⟨k, μ3⟩, e3, e⟩ := Option.bind_eq_some_iff.mp e
  refine ⟨ι, ρ, μ, x, μ1, E, S, e1, fun hx ι1 H1 X1 R1 S1 => ⟨ι1, ρ, μ1, y, μ2, E.mono X1, S1, e2, fun hy ι2 H2 X2 R2 S2 => ?_⟩⟩
  refine hf ι2 H2 μ2 x y (.bl k) μ3 hx hy _ S2 (R1.mono X2) R2 (asB_some e3) fun hz ι3 H3 X3 R3 S3 => ⟨k, R3, ?_⟩
  have e : (if k = true then _ else _) = some (v, μ') := e
  have X13 := X1.trans (X2.trans X3)
  cases k with
  | false => cases e; exact q _ ι3 H3 X13 rfl S3
  | true =>
    obtain ⟨⟨z, μ4⟩, e4, e⟩ := Option.bind_eq_some_iff.mp e
    obtain ⟨⟨k2, μ5⟩, e5, e⟩ := Option.bind_eq_some_iff.mp e
    refine ⟨ι3, ρ, μ3, z, μ4, E.mono X13, S3, e4, fun hw ι4 H4 X4 R4 S4 => hg ι4 H4 μ4 y z (.bl k2) μ5 hy hw _ S4 (R2.mono (X3.trans X4)) R4 (asB_some e5) fun hz2 ι5 H5 X5 R5 S5 => ⟨k2, R5, ?_⟩⟩
    have e : (if k2 = true then _ else _) = some (v, μ') := e
    have X15 := X13.trans (X4.trans X5)
    cases k2 with
    | false => cases e; exact q _ ι5 H5 X15 rfl S5
    | true =>
      obtain ⟨⟨u, μ6⟩, e6, e⟩ := Option.bind_eq_some_iff.mp e
      exact ⟨ι5, ρ, μ5, u, μ6, E.mono X15, S5, e6, fun hu ι6 H6 X6 R6 S6 => hh ι6 H6 μ6 z u v μ' hw hu Q S6 (R4.mono (X5.trans X6)) R6 e (q.mono (X15.trans X6))⟩
end
section
variable {X : Cx} {a b c d : Expr} {da db dc dd : Den} {pos : Pos} {op op' op'' : CmpOp} {r r' r'' : R2} {f g h : Op2}
theorem e_ch2 (ho : OpR X (compareOp op) r) (hf : S2 X.K r f) (ho' : OpR X (compareOp op') r') (hg : S2 X.K r' g) (ha : PE X a (tD X.K da)) (hb : PE X b (tD X.K db)) (hc : PE X c (tD X.K dc)) (hm : lastMarks [op, op'] [b, c] = false := by with_unfolding_all rfl) :
    PE X (.Compare a [op, op'] [b, c] pos) (tD X.K (dCh2 f g da db dc)) := (pe_chain ho ho' ha hb hc hm).weak fun _ _ _ w => t_ch2 hf hg w
theorem x_ch2 (ho : OpR X (compareOp op) r) (hf : S2 X.K r f) (ho' : OpR X (compareOp op') r') (hg : S2 X.K r' g) (ha : PE X a (tD X.K da)) (hb : PE X b (tD X.K db)) (hc : PE X c (tD X.K dc)) (hm : lastMarks [op, op'] [b, c] = false := by with_unfolding_all rfl) :
    PT X (.Compare a [op, op'] [b, c] pos) (tT X.K (tB1 (dCh2 f g da db dc))) := (pt_chain ho ho' ha hb hc hm).weak fun _ _ _ w => t_ch2 hf hg (t_b _ _ _ w)
theorem e_ch3 (ho : OpR X (compareOp op) r) (hf : S2 X.K r f) (ho' : OpR X (compareOp op') r') (hg : S2 X.K r' g) (ho'' : OpR X (compareOp op'') r'') (hh : S2 X.K r'' h) (ha : PE X a (tD X.K da)) (hb : PE X b (tD X.K db)) (hc : PE X c (tD X.K dc)) (hd : PE X d (tD X.K dd))
    (hm : lastMarks [op, op', op''] [b, c, d] = false := by with_unfolding_all rfl) : PE X (.Compare a [op, op', op''] [b, c, d] pos) (tD X.K (dCh3 f g h da db dc dd)) := (pe_chain3 ho ho' ho'' ha hb hc hd hm).weak fun _ _ _ w => t_ch3 hf hg hh w
theorem x_ch3 (ho : OpR X (compareOp op) r) (hf : S2 X.K r f) (ho' : OpR X (compareOp op') r') (hg : S2 X.K r' g) (ho'' : OpR X (compareOp op'') r'') (hh : S2 X.K r'' h) (ha : PE X a (tD X.K da)) (hb : PE X b (tD X.K db)) (hc : PE X c (tD X.K dc)) (hd : PE X d (tD X.K dd))
    (hm : lastMarks [op, op', op''] [b, c, d] = false := by with_unfolding_all rfl) : PT X (.Compare a [op, op', op''] [b, c, d] pos) (tT X.K (tB1 (dCh3 f g h da db dc dd))) := (pt_chain3 ho ho' ho'' ha hb hc hd hm).weak fun _ _ _ w => t_ch3 hf hg hh (t_b _ _ _ w)
end

/-! ### x[::-1] -/
section
variable {prog : Program} {w : World} {A : Around} {E : Value → Shared → Prop} {s : Shared}
theorem sliceApplied_rev {sl : Addr} {vl vu vs : Value} {n : Nat} {Q : Int × Int × Nat → Shared → Prop} (hs : s.heap.IsSliceOf sl vl vu vs) (pl : IsPart vl none) (pu : IsPart vu none) (ps : IsPart vs (some (-1)))
    (h : Q ((n : Int) - 1, -1, n) s) : wpAny (model prog w) A (Builtin.Slice.sliceApplied (.ref sl) (pure (n : Int))) Q E s := by
  obtain ⟨os, hos, hcs, hds⟩ := id hs
  unfold Builtin.Slice.sliceApplied Builtin.Slice.sliceFields
  refine wpAny_bind (wpAny_bind (wpAny_field hos hds (x := vl) rfl (wpAny_bind (wpAny_field hos hds (x := vu) rfl (wpAny_bind (wpAny_field hos hds (x := vs) rfl (wpAny_pure ?_)))))))
  refine wpAny_bind (HT.slicePart_ ps ?_)
  show wpAny _ _ (if ((-1 : Int) == 0) = true then _ else _) _ _ s
  rw [if_neg (by decide)]
  refine wpAny_bind (HT.slicePart_ pl (wpAny_bind (HT.slicePart_ pu (wpAny_bind (wpAny_pure ?_)))))
  show wpAny _ _ (match Builtin.Slice.sliceAdjust none none (-1) (n : Int) with | (lo, hi) => pure (lo, (-1 : Int), Builtin.Slice.slicePlaces lo hi (-1))) _ _ s
  have e1 : Builtin.Slice.sliceAdjust none none (-1) (n : Int) = ((n : Int) - 1, -1) := rfl
  rw [e1]
  show wpAny _ _ (pure ((n : Int) - 1, (-1 : Int), Builtin.Slice.slicePlaces ((n : Int) - 1) (-1) (-1))) _ _ s
  have e2 : Builtin.Slice.slicePlaces ((n : Int) - 1) (-1) (-1) = n := by
    unfold Builtin.Slice.slicePlaces
    rw [if_neg (by decide)]
    split
    · show (((n : Int) - 1 - -1 - 1) / 1 + 1).toNat = n
      rw [Int.ediv_one]
      omega
    · show (0 : Int).toNat = n
      omega
  rw [e2]
  exact wpAny_pure h
theorem pick_rev (xs : Array Value) : ((List.range xs.size).filterMap fun (m : Nat) => xs[((xs.size : Int) - 1 + (m : Int) * -1).toNat]?).toArray = xs.toList.reverse.toArray := by
  congr 1
  have key : ∀ k, k ≤ xs.size → (List.range k).filterMap (fun (m : Nat) => xs[((xs.size : Int) - 1 + (m : Int) * -1).toNat]?) = (xs.toList.reverse).take k := by
    intro k
    induction k with
    | zero => intro _; simp
    | succ k ih =>
      intro hk
      rw [List.range_succ, List.filterMap_append, ih (by omega), List.take_add_one]
      congr 1
      have h1 : ((xs.size : Int) - 1 + (k : Int) * -1).toNat = xs.size - 1 - k := by omega
      have h2 : xs.toList.reverse[k]? = xs.toList[xs.toList.length - 1 - k]? := List.getElem?_reverse (by simp; omega)
      rw [List.filterMap_cons, h1, List.filterMap_nil, h2]
      have h3 : xs.size - 1 - k < xs.size := by omega
      simp [h3]
  rw [key _ (Nat.le_refl _), List.take_of_length_le (by simp)]
theorem getItem_tuple_rev {t sl : Addr} {items : Array Value} {vl vu vs : Value} {Q : Value → Shared → Prop} (ht : IsTup s.heap t items) (hs : s.heap.IsSliceOf sl vl vu vs) (pl : IsPart vl none) (pu : IsPart vu none) (ps : IsPart vs (some (-1)))
    (h : Q (.ref s.heap.objs.size) { s with heap := s.heap.push { cls := .type "tuple", data := .seq items.toList.reverse.toArray } })
    (hsz : items.size ≤ sizeLine) : wpAny (model prog w) A (getItem (.ref t) (.ref sl)) Q E s := by
  have htake : sizeOk (.seq items.toList.reverse.toArray) := by
    show items.toList.reverse.toArray.size ≤ sizeLine
    rw [List.size_toArray, List.length_reverse, Array.length_toList]
    exact hsz
  obtain ⟨os, hos, hcs, hds⟩ := id hs
  have hTs : s.TypeIs (.ref sl) "slice" := ⟨os, hos, hcs⟩
  unfold getItem
  try with_reducible refine wpAny_holding ?_
  first | refine wpAny_bind (wpAny_pure ?_) | skip
  refine wpAny_bind (wpAny_sequenceKey ht.typeIs (by decide) ?_)
  refine wpAny_bind (wpAny_callSpecial?_slot (name := Str.ofString "__getitem__") ht.typeIs PyProof.Rows.slot_tuple_getitem
    (wpAny_call_entry PyProof.Rows.slot_tuple_getitem ht.typeIs entry_tuple_getitem ?_ (args_tuple_getitem _ _)))
  show wpAny _ _ (Builtin.Tuple.tupleItemsOf (.ref t) >>= _) _ _ s
  refine wpAny_bind (tupleItemsOf_ ht ?_)
  refine wpAny_bind (wpAny_typeOf hTs ?_)
  rw [if_pos (by decide)]
  refine wpAny_bind (sliceApplied_rev hs pl pu ps ?_)
  have hno : ¬ ((((items.size : Int) - 1) == 0 && (-1 : Int) == 1 && items.size == items.size) = true) := by
    intro q
    rw [Bool.and_eq_true, Bool.and_eq_true] at q
    exact absurd q.1.2 (by decide)
  show wpAny _ _ (if (((items.size : Int) - 1) == 0 && (-1 : Int) == 1 && items.size == items.size) = true then _ else _) _ _ s
  rw [if_neg hno, pick_rev]
  first
    | exact wpAny_bind (m := Builtin.Tuple.tupleExact _) (wpAny_newObj_type (wpAny_pure ⟨_, rfl, wpAny_pure h⟩) htake)
    | exact wpAny_bind (m := Builtin.Tuple.tupleExact _) (wpAny_newObj_type (wpAny_bind (wpAny_pure (wpAny_pure ⟨_, rfl, wpAny_pure h⟩))) htake)
    | exact wpAny_bind (wpAny_bind (m := Builtin.Tuple.tupleExact _) (wpAny_newObj_type (wpAny_pure (wpAny_pure ⟨_, rfl, wpAny_pure h⟩)) htake))
    | exact wpAny_bind (wpAny_bind (m := Builtin.Tuple.tupleExact _) (wpAny_newObj_type (wpAny_pure ⟨_, rfl, wpAny_pure h⟩) htake))
end
/-- x[::step], the step -1: a tuple or a list -/
def tRevA (K : Frg) (te ts : TE) : TE := fun σ H Q => te σ H fun x H1 => ts σ H1 fun z H2 => ∃ i, z = .int i ∧ some i = some (-1 : Int) ∧ ∃ a xs, x = .ref a ∧ ((SqT K H2 a xs ∧ ∀ p, H2 p = none → Q (.ref p) (upd H2 p (.tup xs.reverse))) ∨ (SqL K H2 a xs ∧ ∀ p, H2 p = none → Q (.ref p) (upd H2 p (.lst xs.reverse))))
theorem pe_revA {X : Cx} {e st : Expr} {te ts : TE} {p3 pos : Pos} (he : PE X e te) (hst : PE X st ts) : PE X (.Subscript e (.Slice none none (some st) p3) pos) (tRevA X.K te ts) := by
  refine ⟨fun pins s σ H Q I h => ?_⟩
  refine Subscript_ (thn (he.run pins s σ H _ I h) fun v s1 ⟨x, H1, I1, r1, q1⟩ => ?_)
  refine wpAny_Slice (thn (po_none.run pins s1 σ H1 (fun o H2 => o = none ∧ H2 = H1) I1 ⟨rfl, rfl⟩) fun vl s2 ⟨l, H2, I2, pl, el, e2⟩ => ?_)
  subst el e2
  refine thn (po_none.run pins s2 σ H2 (fun o H3 => o = none ∧ H3 = H2) I2 ⟨rfl, rfl⟩) fun vu s3 ⟨u, H3, I3, pu, eu, e3⟩ => ?_
  subst eu e3
  have hst' : PO X (some st) (tPart ts) := po_some hst
  refine thn (hst'.run pins s3 σ H3 (fun o H4 => o = some (-1) ∧ ∃ a xs, x = .ref a ∧ ((SqT X.K H4 a xs ∧ ∀ p, H4 p = none → Q (.ref p) (upd H4 p (.tup xs.reverse))) ∨ (SqL X.K H4 a xs ∧ ∀ p, H4 p = none → Q (.ref p) (upd H4 p (.lst xs.reverse))))) I3 ?_) fun vs s4 ⟨o, H4, I4, ps, eo, q4⟩ => ?_
  · exact q1
  subst eo
  have I5 : Inv X pins σ H4 { s4 with heap := s4.heap.push { cls := .type "slice", data := .fields #[vl, vu, vs] } } := I4.kept (t' := s4.toks) fun b ob q => Heap.get?_push_of_some _ q
  obtain ⟨a, xs, ex, hx⟩ := q4
  subst ex
  cases r1
  rcases hx with ⟨hx, q⟩ | ⟨hx, q⟩
  · obtain ⟨its, r, ht, hz⟩ := I5.tuple hx
    have hlen := r.length
    show wpAny (model X.prog X.w) X.A (subscriptTail e (.Slice none none (some st) p3) (.ref a) (.ref s4.heap.objs.size)) (EP X pins σ Q) X.xe { s4 with heap := s4.heap.push { cls := .type "slice", data := .fields #[vl, vu, vs] } }
    refine tail_any (ops := [.ref a, .ref s4.heap.objs.size]) ht.typeIs (PyProof.Rows.slot_tuple_getitem.lookup) ?_ (by with_unfolding_all rfl)
    refine getItem_tuple_rev ht (Heap.IsSliceOf.new _ vl vu vs) pl pu ps ?_ (by rw [List.size_toArray]; omega)
    refine ⟨.ref _, _, I5.laid (t' := s4.toks) (o := .tup xs.reverse) (fun b ob q => Heap.get?_push_of_some _ q) (Nat.le_refl _) ?_, rfl, q _ (I5.hok.fresh (Nat.le_refl _))⟩
    exact ⟨by rw [List.length_reverse]; exact hz, its.reverse, r.reverse, IsTup.new _ _⟩
  · obtain ⟨its, r, ht, hz⟩ := I5.list hx
    have hlen := r.length
    show wpAny (model X.prog X.w) X.A (subscriptTail e (.Slice none none (some st) p3) (.ref a) (.ref s4.heap.objs.size)) (EP X pins σ Q) X.xe { s4 with heap := s4.heap.push { cls := .type "slice", data := .fields #[vl, vu, vs] } }
    refine tail_any (ops := [.ref a, .ref s4.heap.objs.size]) ht.isList.typeIs (PySem.slot_list_getitem.lookup) ?_ (by with_unfolding_all rfl)
    refine wpAny_getItem_list_slice ht.isList (Heap.IsSliceOf.new _ vl vu vs) pl pu ps (by decide) ?_ (by rw [List.size_toArray]; omega)
    rw [PySem.W.krv_pick]
    refine ⟨.ref _, _, I5.laid (t' := s4.toks) (o := .lst xs.reverse) (fun b ob q => Heap.get?_push_of_some _ q) (Nat.le_refl _) ?_, rfl, q _ (I5.hok.fresh (Nat.le_refl _))⟩
    exact ⟨by rw [List.length_reverse]; exact hz, _, 0, r.reverse, Heap.get?_push_size _ rfl⟩
def revP (x : PV) (μ : Sto) : Option (PV × Sto) := match x with
  | .tup xs => some (.tup xs.reverse, μ)
  | x => (rdL μ x).map fun xs => (.lst xs.reverse, μ)
def f_rev : Op2 := fun x y μ => match y with
  | .int i => if i = -1 then revP x μ else none
  | _ => none
theorem f_rev_some {x y v : PV} {μ μ' : Sto} (h : f_rev x y μ = some (v, μ')) : y = .int (-1) ∧ μ' = μ ∧ ((∃ xs, x = .tup xs ∧ v = .tup xs.reverse) ∨ ∃ xs, rdL μ x = some xs ∧ v = .lst xs.reverse) := by
  unfold f_rev at h
  split at h
  · split at h
    · rename_i i hi
      subst hi
      unfold revP at h
      split at h
      · cases h; exact ⟨rfl, rfl, .inl ⟨_, rfl, rfl⟩⟩
      · obtain ⟨xs, e3, e4⟩ := Option.map_eq_some_iff.mp h
        cases e4
        exact ⟨rfl, rfl, .inr ⟨xs, e3, rfl⟩⟩
    · cases h
  · cases h
theorem e_rev {X : Cx} {e st : Expr} {d s : Den} {p3 pos : Pos} (he : PE X e (tD X.K d)) (hst : PE X st (tD X.K s)) : PE X (.Subscript e (.Slice none none (some st) p3) pos) (tD X.K (d2 f_rev d s)) :=
  (pe_revA he hst).weak fun σ H Q w => by
    obtain ⟨ι, ρ, μ, v, μ', E, S, e, q⟩ := w
    obtain ⟨⟨x, μ1⟩, e1, e⟩ := Option.bind_eq_some_iff.mp e
    obtain ⟨⟨y, μ2⟩, e2, e⟩ := Option.bind_eq_some_iff.mp e
    refine ⟨ι, ρ, μ, x, μ1, E, S, e1, fun hx ι1 H1 X1 R1 S1 => ⟨ι1, ρ, μ1, y, μ2, E.mono X1, S1, e2, fun hy ι2 H2 X2 R2 S2 => ?_⟩⟩
    have X12 := X1.trans X2
    have R1 := R1.mono X2
    obtain ⟨rfl, rfl, ⟨xs, rfl, rfl⟩ | ⟨xs, e3, rfl⟩⟩ := f_rev_some e
    · cases R2
      obtain ⟨a, us, rfl, ta, ra⟩ := R1
      exact ⟨-1, rfl, rfl, a, us, rfl, .inl ⟨ta.sq, fun p hp => (q.mono X12).tup S2 ra.reverse hp⟩⟩
    · cases R2
      obtain ⟨a, us, rfl, ta, ra⟩ := rdL_rep S2 R1 e3
      exact ⟨-1, rfl, rfl, a, us, rfl, .inr ⟨.of ta, fun p hp => (q.mono X12).lst S2 ra.reverse hp⟩⟩

/-! ### in, not in -/
def flatP : PV → Bool
  | .non => true
  | .bl _ => true
  | .int _ => true
  | .str _ => true
  | _ => false
theorem flat_rep {K : Frg} {ι : Ad} {n : Nat} {H : Hp} {x : PV} {v : V} (f : flatP x = true) (r : RepV K ι n H x v) : flatV v = true := by
  cases x with
  | non => cases r; rfl
  | bl _ => cases r; rfl
  | int _ => cases r; rfl
  | str _ => cases r; rfl
  | _ => cases f
theorem flats_rep {K : Frg} {ι : Ad} {n : Nat} {H : Hp} : ∀ {xs : List PV} {ys : List V}, xs.all flatP = true → RepVs K ι n H xs ys → ys.all flatV = true
  | [], _, _, r => by cases r; rfl
  | x :: xs, _, f, r => by
    obtain ⟨y, t, rfl, r1, r2⟩ := r
    rw [List.all_cons, Bool.and_eq_true] at f
    rw [List.all_cons, flat_rep f.1 r1, flats_rep f.2 r2]
    rfl
theorem eqV_rep {K : Frg} {ι : Ad} {n : Nat} {H : Hp} {x y : PV} {u v : V} (fx : flatP x = true) (fy : flatP y = true) (rx : RepV K ι n H x u) (ry : RepV K ι n H y v) : eqV u v = peqv x y := by
  cases x <;> cases y <;> first
    | exact absurd (show false = true from fx) Bool.false_ne_true
    | exact absurd (show false = true from fy) Bool.false_ne_true
    | (cases rx; cases ry; rfl)
theorem inV_rep {K : Frg} {ι : Ad} {n : Nat} {H : Hp} {x : PV} {v : V} (fx : flatP x = true) (rx : RepV K ι n H x v) : ∀ {xs : List PV} {ys : List V}, xs.all flatP = true → RepVs K ι n H xs ys → inV v ys = xs.any fun z => peqv z x
  | [], _, _, r => by cases r; rfl
  | z :: xs, _, f, r => by
    obtain ⟨y, t, rfl, r1, r2⟩ := r
    rw [List.all_cons, Bool.and_eq_true] at f
    show (eqV y v || inV v t) = _
    rw [eqV_rep f.1 fx r1 rx, inV_rep fx rx f.2 r2, List.any_cons]
/-- membership: flat items of a list or tuple; data of a list -/
def f_inB (x y : PV) (μ : Sto) : Option Bool := (rdS μ y).bind fun ys =>
  if (flatP x && ys.all flatP) = true then some (ys.any fun z => peqv z x)
  else match y with
    | .tup _ => none
    | _ => if (pok x 64 && pok (.lst ys) 64) = true then some (ys.any fun z => peqv z x) else none
def f_in : Op2 := fun x y μ => (f_inB x y μ).map fun b => (.bl b, μ)
def f_notin : Op2 := fun x y μ => (f_inB x y μ).map fun b => (.bl !b, μ)
def r_in (K : Frg) : R2 := fun x y H Q => rIn K false x y H Q ∨ rInD K x y H Q
def r_notin (K : Frg) : R2 := fun x y H Q => rIn K true x y H Q ∨ rNotInD K x y H Q
theorem o_in {X : Cx} (hu : X.A.units + 65 < cLine) : OpR X (compareOp .In) (r_in X.K) := op_in_seq.or (op_inD hu)
theorem o_notin {X : Cx} (hu : X.A.units + 65 < cLine) : OpR X (compareOp .NotIn) (r_notin X.K) := op_notIn_seq.or (op_notInD hu)
theorem in_deep {K : Frg} {ι : Ad} {μ : Sto} {H : Hp} (S : RepS K ι H μ) {x y : PV} {hx hy : V} {ys : List PV} (rx : RepV K ι μ.length H x hx) (ry : RepV K ι μ.length H y hy) (e : rdL μ y = some ys) (ok : (pok x 64 && pok (.lst ys) 64) = true) :
    Dp K H hx (toD x) ∧ Dp K H hy (.list (toDs ys)) ∧ SeqAt.shaped (toD x) = true ∧ SeqAt.shaped (.list (toDs ys)) = true ∧ ((toDs ys).any fun z => PyData.eqv z (toD x)) = ys.any fun z => peqv z x := by
  rw [Bool.and_eq_true] at ok
  obtain ⟨a, us, rfl, ta, ra⟩ := rdL_rep S ry e
  refine ⟨dp_rep x hx 64 ok.1 rx, .lst (.of ta) (dps_rep ys us 63 ok.2 ra), toD_shaped ok.1, toD_shaped ok.2, ?_⟩
  have key : ∀ ys : List PV, poks ys 63 = true → ((toDs ys).any fun z => PyData.eqv z (toD x)) = ys.any fun z => peqv z x := by
    intro ys
    induction ys with
    | nil => intro _; rfl
    | cons z zs ih =>
      intro h
      have h : (pok z 63 && poks zs 63) = true := h
      rw [Bool.and_eq_true] at h
      show (PyData.eqv (toD z) (toD x) || _) = _
      rw [List.any_cons, toD_eqv z x 63 64 h.1 ok.1, ← ih h.2]
  exact key ys ok.2
theorem s_in {K : Frg} : S2 K (r_in K) f_in := by
  intro ι H μ x y v μ' hx hy Q S rx ry h q
  obtain ⟨b, e, e2⟩ := Option.map_eq_some_iff.mp h
  cases e2
  obtain ⟨ys, e1, e2⟩ := Option.bind_eq_some_iff.mp e
  split at e2
  · rename_i hf
    cases e2
    rw [Bool.and_eq_true] at hf
    obtain ⟨a, us, rfl, ta, ra⟩ := rdS_rep S ry e1
    exact .inl ⟨a, us, rfl, ta, flat_rep hf.1 rx, flats_rep hf.2 ra, q.pure S (congrArg V.bl (inV_rep hf.1 rx hf.2 ra))⟩
  · split at e2
    · cases e2
    · rename_i hn
      split at e2
      · rename_i ok
        cases e2
        have e1 : rdL μ y = some ys := by
          unfold rdS at e1
          split at e1
          · rename_i xs; exact absurd rfl (hn xs)
          · exact e1
        obtain ⟨d1, d2, d3, d4, d5⟩ := in_deep S rx ry e1 ok
        exact .inr ⟨_, _, d1, d2, d3, d4, q.pure S (congrArg V.bl d5)⟩
      · cases e2
theorem s_notin {K : Frg} : S2 K (r_notin K) f_notin := by
  intro ι H μ x y v μ' hx hy Q S rx ry h q
  obtain ⟨b, e, e2⟩ := Option.map_eq_some_iff.mp h
  cases e2
  obtain ⟨ys, e1, e2⟩ := Option.bind_eq_some_iff.mp e
  split at e2
  · rename_i hf
    cases e2
    rw [Bool.and_eq_true] at hf
    obtain ⟨a, us, rfl, ta, ra⟩ := rdS_rep S ry e1
    exact .inl ⟨a, us, rfl, ta, flat_rep hf.1 rx, flats_rep hf.2 ra, q.pure S (congrArg V.bl (congrArg not (inV_rep hf.1 rx hf.2 ra)))⟩
  · split at e2
    · cases e2
    · rename_i hn
      split at e2
      · rename_i ok
        cases e2
        have e1 : rdL μ y = some ys := by
          unfold rdS at e1
          split at e1
          · rename_i xs; exact absurd rfl (hn xs)
          · exact e1
        obtain ⟨d1, d2, d3, d4, d5⟩ := in_deep S rx ry e1 ok
        exact .inr ⟨_, _, d1, d2, d3, d4, q.pure S (congrArg V.bl (congrArg not d5))⟩
      · cases e2

/-! ### targets of comprehensions that unpack -/
theorem wipe_set2 (σ : L2.St) (i j : Nat) (o p : Option V) : L2.wipe ((σ.set i o).set j p) [i, j] = L2.wipe σ [i, j] := by
  show (((σ.set i o).set j p).set j none).set i none = (σ.set j none).set i none
  rw [List.set_set]
  by_cases h : i = j
  · subst h; rw [List.set_set, List.set_set, List.set_set]
  · rw [List.set_comm _ _ (show i ≠ j from h), List.set_set]
theorem gin_tu2 {K : Frg} (i j : Nat) : GIn K (gTup K 2 (gCons (gName i) (gCons (gName j) gNil))) (gTu 2 (gsCons (gNm i) (gsCons (gNm j) gsNil))) [i, j] := ⟨fun v σ H Q h => by
  obtain ⟨ι, ρ, μ, pv, ρ', μ', E, S, R, e, q⟩ := h
  unfold gTu at e
  split at e
  · rename_i xs
    split at e
    · rename_i hl
      match xs, hl with
      | [x, y], _ =>
        cases e
        obtain ⟨a, ys, rfl, t, u, r1, rfl, h1, w, r2, rfl, h2, rfl⟩ := R
        exact ⟨a, [u, w], rfl, t.sq, rfl, u, [w], rfl, w, [], rfl, rfl, wipe_set2 _ _ _ _ _, q _ ι H .refl ((E.set i h1).set j h2) S⟩
    · cases e
  · cases e⟩
end Fd

/-! Fd8: what a def's denotation promises; facts of the head. -/
namespace Fd
open PySem PySem.Spec PyProof.Rows L2
theorem hu65 {k : Nat} {A : Around} (r : Room k A) : A.units + 65 < cLine := by have := r.un; omega
/-- what the body's denotation has to come to for the def to be ψ -/
def Den.Does (n k : Nat) (d : DenS) (ψ : Fn) : Prop := ∀ (args : List PV) (μ : Sto) (v : PV) (μ' : Sto), args.length = k → okLs μ.length args = true → ψ args μ = some (v, μ') → ∃ o, d (init n args) μ = some o ∧ Fin μ o v μ'
theorem fun_of {K : Frg} {x qual : Str} {st : Stmt} {f : Addr} {fd : FuncData} (F : FunD K x qual (defArgs st) (defBody st) (defScope st) [] [] f fd) : L2.Fun K x qual st f fd := by
  obtain ⟨oc, od, dV, kV, doc, pm, an, cdv, ct, osl, e, lk, hcd, hD, hK⟩ := F.ex
  rcases hD with ⟨_, rfl⟩ | ⟨h, _⟩
  · exact ⟨⟨oc, od, kV, doc, pm, an, cdv, ct, osl, e, lk, hcd⟩, F.kp⟩
  · exact absurd rfl h
end Fd

/-! Fd9: running a denotation, step by step. -/
namespace Fd
open PySem PySem.Spec PyProof.Rows L2

/-! ### what a def's body comes to, as a function -/
def runF (n : Nat) (d : DenS) : Fn := fun args μ => match d (init n args) μ with
  | some (.rt v μ') => some (v, μ')
  | some (.nx _ μ') => some (.non, μ')
  | _ => none
theorem runF_does {n k : Nat} {d : DenS} : Den.Does n k d (runF n d) := fun args μ v μ' _ _ h => by
  unfold runF at h
  split at h
  · rename_i w ν e; cases h; exact ⟨_, e, .rt _ _⟩
  · rename_i ρ ν e; cases h; exact ⟨_, e, .nx _ _⟩
  · cases h
theorem runF_rt {n : Nat} {d : DenS} {args : List PV} {ρ : En} {μ μ' : Sto} {v : PV} (hi : init n args = ρ) (h : d ρ μ = some (.rt v μ')) : runF n d args μ = some (v, μ') := by
  unfold runF; rw [hi, h]
theorem runF_nx {n : Nat} {d : DenS} {args : List PV} {ρ ρ' : En} {μ μ' : Sto} (hi : init n args = ρ) (h : d ρ μ = some (.nx ρ' μ')) : runF n d args μ = some (.non, μ') := by
  unfold runF; rw [hi, h]
/-- the same for a def that lays lists in the store and gives none of them away but one, whole -/
def outV (μ : Sto) : Out → Option (PV × Sto)
  | .rt (.loc l) μ' => if l < μ.length then some (.loc l, μ') else match μ'[l]? with
    | some (.lst xs) => some (.lst xs, μ')
    | _ => none
  | .rt v μ' => some (v, μ')
  | .nx _ μ' => some (.non, μ')
  | _ => none
open Classical in
noncomputable def runZ (n : Nat) (d : DenS) : Fn := fun args μ => (d (init n args) μ).bind fun o => (outV μ o).bind fun p =>
  if (∃ g, p.2 = μ ++ g) ∧ okL μ.length p.1 = true then some (p.1, μ) else none
theorem runZ_does {n k : Nat} {d : DenS} : Den.Does n k d (runZ n d) := fun args μ v μ' _ _ h => by
  unfold runZ at h
  obtain ⟨o, e1, h⟩ := Option.bind_eq_some_iff.mp h
  obtain ⟨⟨w, ν⟩, e2, h⟩ := Option.bind_eq_some_iff.mp h
  split at h
  · rename_i hc
    cases h
    obtain ⟨⟨g, hg⟩, hv⟩ := hc
    have hg : ν = μ ++ g := hg
    subst hg
    have hc : ∀ (l : Nat) (o : Ob), μ[l]? = some o → μ[l]? = some o ∨ okO μ.length o = true := fun _ _ h => .inl h
    refine ⟨o, e1, ?_⟩
    unfold outV at e2
    split at e2
    · rename_i l μ1
      split at e2
      · cases e2; exact .trim _ _ _ rfl hc hv
      · rename_i hl
        split at e2
        · rename_i xs ex
          cases e2
          exact .frz l xs μ g rfl hc ex (by omega) hv
        · cases e2
    · cases e2; exact .trim _ _ _ rfl hc hv
    · cases e2; exact .trimN _ _ _ rfl hc
    · cases e2
  · cases h
theorem runZ_rt {n : Nat} {d : DenS} {args : List PV} {ρ : En} {μ g : Sto} {l : Nat} {xs : List PV} (hi : init n args = ρ) (h : d ρ μ = some (.rt (.loc l) (μ ++ g))) (hl : μ.length ≤ l) (hx : (μ ++ g)[l]? = some (.lst xs)) (ok : okLs μ.length xs = true) : runZ n d args μ = some (.lst xs, μ) := by
  unfold runZ
  rw [hi, h]
  have e : outV μ (.rt (.loc l) (μ ++ g)) = some (.lst xs, μ ++ g) := by
    show (if l < μ.length then _ else _) = _
    rw [if_neg (by omega), hx]
  show (outV μ (.rt (.loc l) (μ ++ g))).bind _ = _
  rw [e]
  exact if_pos ⟨⟨g, rfl⟩, ok⟩
theorem runZ_v {n : Nat} {d : DenS} {args : List PV} {ρ : En} {μ g : Sto} {v : PV} (hi : init n args = ρ) (h : d ρ μ = some (.rt v (μ ++ g))) (hv : ∀ l, v ≠ .loc l) (ok : okL μ.length v = true) : runZ n d args μ = some (v, μ) := by
  unfold runZ
  rw [hi, h]
  show (outV μ (.rt v (μ ++ g))).bind _ = _
  have : outV μ (.rt v (μ ++ g)) = some (v, μ ++ g) := by
    cases v with
    | loc l => exact absurd rfl (hv l)
    | _ => rfl
  rw [this]
  exact if_pos ⟨⟨g, rfl⟩, ok⟩

/-! ### steps: expressions -/
section
variable {ρ ρ' ρ1 : En} {μ μ' μ1 μ2 μ3 : Sto} {v x y z : PV} {r : PV × Sto}
theorem ev_var {i : Nat} (h : ρ[i]? = some (some v)) : cVar i ρ μ = some (v, μ) := by unfold cVar; rw [h]
theorem ev_K : cK v ρ μ = some (v, μ) := rfl
theorem ev_d1 {f : Op1} {da : Den} (ha : da ρ μ = some (x, μ1)) (hf : f x μ1 = some r) : d1 f da ρ μ = some r := by unfold d1; rw [ha]; exact hf
theorem ev_d2 {f : Op2} {da db : Den} (ha : da ρ μ = some (x, μ1)) (hb : db ρ μ1 = some (y, μ2)) (hf : f x y μ2 = some r) : d2 f da db ρ μ = some r := by unfold d2; rw [ha]; show Option.bind (db ρ μ1) _ = _; rw [hb]; exact hf
theorem ev_aNil : aNil ρ μ = some ([], μ) := rfl
theorem ev_aCons {d : Den} {a : DenA} {vs : List PV} (hd : d ρ μ = some (x, μ1)) (ha : a ρ μ1 = some (vs, μ2)) : aCons d a ρ μ = some (x :: vs, μ2) := by unfold aCons; rw [hd]; show Option.bind (a ρ μ1) _ = _; rw [ha]; rfl
theorem ev_dN {f : Fn} {a : DenA} {vs : List PV} (ha : a ρ μ = some (vs, μ1)) (hf : f vs μ1 = some r) : dN f a ρ μ = some r := by unfold dN; rw [ha]; exact hf
theorem ev_dCall {k : Nat} {f : Fn} {a : DenA} {vs : List PV} (ha : a ρ μ = some (vs, μ1)) (hf : f vs μ1 = some r) (hl : vs.length = k) : dCall k f a ρ μ = some r := by unfold dCall; rw [ha]; show (if _ then _ else _) = _; rw [if_pos hl]; exact hf
theorem ev_dTup {a : DenA} {vs : List PV} (ha : a ρ μ = some (vs, μ1)) (hl : vs.length ≤ sizeLine) : dTup a ρ μ = some (.tup vs, μ1) := by unfold dTup; rw [ha]; show (if _ then _ else _) = _; rw [if_pos hl]
theorem ev_dLst {a : DenA} {vs : List PV} (ha : a ρ μ = some (vs, μ1)) (hl : vs.length ≤ sizeLine) : dLst a ρ μ = some (.lst vs, μ1) := by unfold dLst; rw [ha]; show (if _ then _ else _) = _; rw [if_pos hl]
theorem ev_dLoc {a : DenA} {vs : List PV} (ha : a ρ μ = some (vs, μ1)) (hl : vs.length ≤ sizeLine) : dLoc a ρ μ = some (.loc μ1.length, μ1 ++ [.lst vs]) := by unfold dLoc; rw [ha]; show (if _ then _ else _) = _; rw [if_pos hl]
theorem ev_if_t {c : DenT} {da db : Den} (hc : c ρ μ = some (true, μ1)) (h : da ρ μ1 = some r) : dIf c da db ρ μ = some r := by unfold dIf; rw [hc]; exact h
theorem ev_if_f {c : DenT} {da db : Den} (hc : c ρ μ = some (false, μ1)) (h : db ρ μ1 = some r) : dIf c da db ρ μ = some r := by unfold dIf; rw [hc]; exact h
theorem ev_an_t {da db : Den} (ha : da ρ μ = some (x, μ1)) (ht : truP x μ1 = some true) (h : db ρ μ1 = some r) : dAn da db ρ μ = some r := by unfold dAn; rw [ha]; simp only [Option.bind_some, ht]; exact h
theorem ev_an_f {da db : Den} (ha : da ρ μ = some (x, μ1)) (ht : truP x μ1 = some false) : dAn da db ρ μ = some (x, μ1) := by unfold dAn; rw [ha]; simp only [Option.bind_some, ht]
theorem ev_or_f {da db : Den} (ha : da ρ μ = some (x, μ1)) (ht : truP x μ1 = some false) (h : db ρ μ1 = some r) : dOr da db ρ μ = some r := by unfold dOr; rw [ha]; simp only [Option.bind_some, ht]; exact h
theorem ev_or_t {da db : Den} (ha : da ρ μ = some (x, μ1)) (ht : truP x μ1 = some true) : dOr da db ρ μ = some (x, μ1) := by unfold dOr; rw [ha]; simp only [Option.bind_some, ht]
theorem ev_no {da : Den} {b : Bool} (ha : da ρ μ = some (x, μ1)) (ht : truP x μ1 = some b) : dNo da ρ μ = some (.bl !b, μ1) := by unfold dNo; rw [ha]; show Option.map _ (truP x μ1) = _; rw [ht]; rfl
theorem ev_sl {d : Den} {lo hi : DenO} {a b : Option Int} (hd : d ρ μ = some (x, μ1)) (hl : lo ρ μ1 = some (a, μ2)) (hu : hi ρ μ2 = some (b, μ3)) (hf : f_sl a b x μ3 = some r) : dSl d lo hi ρ μ = some r := by
  unfold dSl; rw [hd]; show Option.bind (lo ρ μ1) _ = _; rw [hl]; show Option.bind (hi ρ μ2) _ = _; rw [hu]; exact hf
theorem ev_oNo : oNo ρ μ = some (none, μ) := rfl
theorem ev_oSo {d : Den} {i : Int} (h : d ρ μ = some (.int i, μ1)) : oSo d ρ μ = some (some i, μ1) := by unfold oSo; rw [h]
theorem ev_ch2 {f g : Op2} {da db dc : Den} {b : Bool} (ha : da ρ μ = some (x, μ1)) (hb : db ρ μ1 = some (y, μ2)) (hf : f x y μ2 = some (.bl true, μ3)) (h : ((dc ρ μ3).bind fun s => g y s.1 s.2) = some r) : dCh2 f g da db dc ρ μ = some r := by
  unfold dCh2; rw [ha]; show Option.bind (db ρ μ1) _ = _; rw [hb]; show Option.bind (asB (f x y μ2)) _ = _; rw [hf]; exact h
theorem ev_ch2_f {f g : Op2} {da db dc : Den} (ha : da ρ μ = some (x, μ1)) (hb : db ρ μ1 = some (y, μ2)) (hf : f x y μ2 = some (.bl false, μ3)) : dCh2 f g da db dc ρ μ = some (.bl false, μ3) := by
  unfold dCh2; rw [ha]; show Option.bind (db ρ μ1) _ = _; rw [hb]; show Option.bind (asB (f x y μ2)) _ = _; rw [hf]; rfl
theorem ev_bnd {d : Den} {g : PV → Sto → Option (PV × Sto)} (hd : d ρ μ = some (x, μ1)) (h : g x μ1 = some r) : ((d ρ μ).bind fun s => g s.1 s.2) = some r := by rw [hd]; exact h
/-- a chain whose two tests are both reckoned -/
theorem ev_ch2b {f g : Op2} {da db dc : Den} {b c : Bool} (ha : da ρ μ = some (x, μ)) (hb : db ρ μ = some (y, μ)) (hf : f x y μ = some (.bl b, μ)) (hc : dc ρ μ = some (z, μ)) (hg : g y z μ = some (.bl c, μ)) : dCh2 f g da db dc ρ μ = some (.bl (b && c), μ) := by
  cases b with
  | true => exact ev_ch2 (b := true) ha hb hf (ev_bnd hc hg)
  | false => exact ev_ch2_f ha hb hf
theorem ev_ch3b {f g h : Op2} {da db dc dd : Den} {b c d : Bool} {u : PV} (ha : da ρ μ = some (x, μ)) (hb : db ρ μ = some (y, μ)) (hf : f x y μ = some (.bl b, μ)) (hc : dc ρ μ = some (z, μ)) (hg : g y z μ = some (.bl c, μ)) (hd : dd ρ μ = some (u, μ)) (hh : h z u μ = some (.bl d, μ)) : dCh3 f g h da db dc dd ρ μ = some (.bl (b && (c && d)), μ) := by
  unfold dCh3; rw [ha]; show Option.bind (db ρ μ) _ = _; rw [hb]; show Option.bind (asB (f x y μ)) _ = _; rw [hf]
  cases b with
  | false => rfl
  | true =>
    show Option.bind (dc ρ μ) _ = _; rw [hc]; show Option.bind (asB (g y z μ)) _ = _; rw [hg]
    cases c with
    | false => rfl
    | true => show Option.bind (dd ρ μ) _ = _; rw [hd]; exact hh
theorem ev_dML {f : OpM} {d : Den} {a : DenA} {vs : List PV} (hd : d ρ μ = some (x, μ1)) (hL : isLs μ1 x = true) (ha : a ρ μ1 = some (vs, μ2)) (hf : f x vs μ2 = some r) : dML f d a ρ μ = some r := by
  unfold dML; rw [hd]; show (if _ then _ else _) = _; rw [if_pos hL, ha]; exact hf
/-! tests -/
theorem ev_tB {d : Den} {b : Bool} (h : d ρ μ = some (.bl b, μ1)) : tB1 d ρ μ = some (b, μ1) := by unfold tB1; rw [h]; rfl
theorem ev_tTru {d : Den} {b : Bool} (h : d ρ μ = some (x, μ1)) (ht : truP x μ1 = some b) : tTru d ρ μ = some (b, μ1) := by unfold tTru; rw [h]; show Option.map _ (truP x μ1) = _; rw [ht]; rfl
theorem ev_tAn_t {c d : DenT} {p : Bool × Sto} (h : c ρ μ = some (true, μ1)) (h2 : d ρ μ1 = some p) : tAn c d ρ μ = some p := by unfold tAn; rw [h]; exact h2
theorem ev_tAn_f {c d : DenT} (h : c ρ μ = some (false, μ1)) : tAn c d ρ μ = some (false, μ1) := by unfold tAn; rw [h]; rfl
theorem ev_tOr_f {c d : DenT} {p : Bool × Sto} (h : c ρ μ = some (false, μ1)) (h2 : d ρ μ1 = some p) : tOr' c d ρ μ = some p := by unfold tOr'; rw [h]; exact h2
theorem ev_tOr_t {c d : DenT} (h : c ρ μ = some (true, μ1)) : tOr' c d ρ μ = some (true, μ1) := by unfold tOr'; rw [h]; rfl
theorem ev_tNo {c : DenT} {b b' : Bool} (h : c ρ μ = some (b, μ1)) (hb : (!b) = b') : tNo c ρ μ = some (b', μ1) := by unfold tNo; rw [h, ← hb]; rfl
theorem ev_tAll : tAll ρ μ = some (true, μ) := rfl
/-- both reckoned -/
theorem ev_tAnb {c d : DenT} {b b' : Bool} (h : c ρ μ = some (b, μ)) (h2 : d ρ μ = some (b', μ)) : tAn c d ρ μ = some (b && b', μ) := by
  cases b with
  | true => exact ev_tAn_t h h2
  | false => exact ev_tAn_f h
theorem ev_tOrb {c d : DenT} {b b' : Bool} (h : c ρ μ = some (b, μ)) (h2 : d ρ μ = some (b', μ)) : tOr' c d ρ μ = some (b || b', μ) := by
  cases b with
  | false => exact ev_tOr_f h h2
  | true => exact ev_tOr_t h
end
/-! ### steps: statements -/
section
variable {ρ ρ' ρ1 : En} {μ μ' μ1 μ2 μ3 : Sto} {v x y z : PV} {o : Out}
theorem ev_seq {a b : DenS} (ha : a ρ μ = some (.nx ρ' μ')) (hb : b ρ' μ' = some o) : sSeq a b ρ μ = some o := by unfold sSeq; rw [ha]; exact hb
theorem ev_seq_rt {a b : DenS} (ha : a ρ μ = some (.rt v μ')) : sSeq a b ρ μ = some (.rt v μ') := by unfold sSeq; rw [ha]; rfl
theorem ev_seq_bk {a b : DenS} (ha : a ρ μ = some (.bk ρ' μ')) : sSeq a b ρ μ = some (.bk ρ' μ') := by unfold sSeq; rw [ha]; rfl
theorem ev_seq_ct {a b : DenS} (ha : a ρ μ = some (.ct ρ' μ')) : sSeq a b ρ μ = some (.ct ρ' μ') := by unfold sSeq; rw [ha]; rfl
theorem ev_sNil : sNil ρ μ = some (.nx ρ μ) := rfl
theorem ev_sIf_t {c : DenT} {a b : DenS} (hc : c ρ μ = some (true, μ1)) (h : a ρ μ1 = some o) : sIf c a b ρ μ = some o := by unfold sIf; rw [hc]; exact h
theorem ev_sIf_f {c : DenT} {a b : DenS} (hc : c ρ μ = some (false, μ1)) (h : b ρ μ1 = some o) : sIf c a b ρ μ = some o := by unfold sIf; rw [hc]; exact h
theorem ev_ret {d : Den} (h : d ρ μ = some (v, μ1)) : sRet d ρ μ = some (.rt v μ1) := by unfold sRet; rw [h]; rfl
theorem ev_ex {d : Den} (h : d ρ μ = some (v, μ1)) : sEx d ρ μ = some (.nx ρ μ1) := by unfold sEx; rw [h]; rfl
theorem ev_set {d : Den} {i : Nat} (h : d ρ μ = some (v, μ1)) (e : ρ.set i (some v) = ρ') : sAsg d (gNm i) ρ μ = some (.nx ρ' μ1) := by unfold sAsg; rw [h, ← e]; rfl
theorem ev_asg {d : Den} {g : DenG} (h : d ρ μ = some (v, μ1)) (hg : g v ρ μ1 = some (ρ', μ2)) : sAsg d g ρ μ = some (.nx ρ' μ2) := by unfold sAsg; rw [h]; show Option.map _ (g v ρ μ1) = _; rw [hg]; rfl
theorem ev_par {i j : Nat} {a : DenA} (h : a ρ μ = some ([x, y], μ1)) (e : (ρ.set i (some x)).set j (some y) = ρ') : sPar i j a ρ μ = some (.nx ρ' μ1) := by unfold sPar; rw [h, ← e]
theorem ev_par3 {i j k : Nat} {a : DenA} (h : a ρ μ = some ([x, y, z], μ1)) (e : ((ρ.set i (some x)).set j (some y)).set k (some z) = ρ') : sPar3 i j k a ρ μ = some (.nx ρ' μ1) := by unfold sPar3; rw [h, ← e]
theorem ev_aug {i : Nat} {f : Op2} {d : Den} (h0 : ρ[i]? = some (some x)) (h : d ρ μ = some (y, μ1)) (hf : f x y μ1 = some (z, μ2)) (e : ρ.set i (some z) = ρ') : sAug i f d ρ μ = some (.nx ρ' μ2) := by
  unfold sAug; rw [h0]; show Option.bind (d ρ μ) _ = _; rw [h]; show Option.map _ (f x y μ1) = _; rw [hf, ← e]; rfl
theorem ev_gNm {i : Nat} (e : ρ.set i (some v) = ρ') : gNm i v ρ μ = some (ρ', μ) := by rw [← e]; rfl
theorem ev_gTu {n : Nat} {g : DenGs} {xs : List PV} (hl : xs.length = n) (h : g xs ρ μ = some (ρ', μ')) : gTu n g (.tup xs) ρ μ = some (ρ', μ') := by show (if _ then _ else _) = _; rw [if_pos hl]; exact h
theorem ev_gsN : gsNil [] ρ μ = some (ρ, μ) := rfl
theorem ev_gsC {g : DenG} {r : DenGs} {vs : List PV} (h : g v ρ μ = some (ρ1, μ1)) (h2 : r vs ρ1 μ1 = some (ρ', μ')) : gsCons g r (v :: vs) ρ μ = some (ρ', μ') := by show Option.bind (g v ρ μ) _ = _; rw [h]; exact h2
theorem ev_gSb {o i : Den} (ho : o ρ μ = some (x, μ1)) (hi : i ρ μ1 = some (y, μ2)) (hs : f_set x y v μ2 = some μ3) : gSb o i v ρ μ = some (ρ, μ3) := by
  unfold gSb; rw [ho]; show Option.bind (i ρ μ1) _ = _; rw [hi]; show Option.map _ (f_set x y v μ2) = _; rw [hs]; rfl
/-! while -/
theorem wh_step {c : DenT} {b : DenS} (hc : c ρ μ = some (true, μ1)) (hb : b ρ μ1 = some (.nx ρ' μ')) (h : sWh c b ρ' μ' = some o) : sWh c b ρ μ = some o := by
  obtain ⟨n, hn⟩ := sWh_get h
  refine sWh_of (n + 1) ?_
  unfold whN
  simp only [hc, hb, Option.bind_some, if_true]
  exact hn
theorem wh_done {c : DenT} {b : DenS} (hc : c ρ μ = some (false, μ1)) : sWh c b ρ μ = some (.nx ρ μ1) := by
  refine sWh_of 1 ?_
  unfold whN
  rw [hc]
  rfl
theorem wh_rt {c : DenT} {b : DenS} (hc : c ρ μ = some (true, μ1)) (hb : b ρ μ1 = some (.rt v μ')) : sWh c b ρ μ = some (.rt v μ') := by
  refine sWh_of 1 ?_
  unfold whN
  simp only [hc, hb, Option.bind_some, if_true]
theorem wh_bk {c : DenT} {b : DenS} (hc : c ρ μ = some (true, μ1)) (hb : b ρ μ1 = some (.bk ρ' μ')) : sWh c b ρ μ = some (.nx ρ' μ') := by
  refine sWh_of 1 ?_
  unfold whN
  simp only [hc, hb, Option.bind_some, if_true]
/-! for -/
theorem ev_for {it : DenI} {g : DenG} {b : DenS} {xs : List PV} {ch : List (Nat × List PV)} (hi : it ρ μ = some ((xs, ch), μ1)) (h : forL g b ch xs ρ μ1 = some o) : sFor it g b ρ μ = some o := by unfold sFor; rw [hi]; exact h
theorem for_nil {g : DenG} {b : DenS} {ch : List (Nat × List PV)} : forL g b ch [] ρ μ = some (.nx ρ μ) := by unfold forL; rfl
theorem for_step {g : DenG} {b : DenS} {ch : List (Nat × List PV)} {xs : List PV} (hg : g x ρ μ = some (ρ1, μ1)) (hb : b ρ1 μ1 = some (.nx ρ' μ')) (hc : ChkOk ch μ') (h : forL g b ch xs ρ' μ' = some o) : forL g b ch (x :: xs) ρ μ = some o := by
  unfold forL; simp only [hg, hb, Option.bind_some, if_pos hc]; exact h
theorem for_ct {g : DenG} {b : DenS} {ch : List (Nat × List PV)} {xs : List PV} (hg : g x ρ μ = some (ρ1, μ1)) (hb : b ρ1 μ1 = some (.ct ρ' μ')) (hc : ChkOk ch μ') (h : forL g b ch xs ρ' μ' = some o) : forL g b ch (x :: xs) ρ μ = some o := by
  unfold forL; simp only [hg, hb, Option.bind_some, if_pos hc]; exact h
theorem for_rt {g : DenG} {b : DenS} {ch : List (Nat × List PV)} {xs : List PV} (hg : g x ρ μ = some (ρ1, μ1)) (hb : b ρ1 μ1 = some (.rt v μ')) : forL g b ch (x :: xs) ρ μ = some (.rt v μ') := by
  unfold forL; rw [hg]; show Option.bind (b ρ1 μ1) _ = _; rw [hb]; rfl
theorem for_bk {g : DenG} {b : DenS} {ch : List (Nat × List PV)} {xs : List PV} (hg : g x ρ μ = some (ρ1, μ1)) (hb : b ρ1 μ1 = some (.bk ρ' μ')) : forL g b ch (x :: xs) ρ μ = some (.nx ρ' μ') := by
  unfold forL; rw [hg]; show Option.bind (b ρ1 μ1) _ = _; rw [hb]; rfl
theorem it_tup {d : Den} {xs : List PV} (h : d ρ μ = some (.tup xs, μ1)) : itSeq d ρ μ = some ((xs, []), μ1) := by unfold itSeq; rw [h]; rfl
theorem it_lst {d : Den} {xs : List PV} (h : d ρ μ = some (.lst xs, μ1)) : itSeq d ρ μ = some ((xs, []), μ1) := by unfold itSeq; rw [h]; rfl
theorem it_loc {d : Den} {l : Nat} {xs : List PV} (h : d ρ μ = some (.loc l, μ1)) (hl : μ1[l]? = some (.lst xs)) : itSeq d ρ μ = some ((xs, [(l, xs)]), μ1) := by
  unfold itSeq; rw [h]; show (match μ1[l]? with | some (.lst xs) => _ | _ => _) = _; rw [hl]
theorem it_rg1 {a : DenA} {j : Int} {n : Nat} (h : a ρ μ = some ([.int j], μ1)) (hj : RgIn j = true) (hn : j.toNat = n) : itRg1 a ρ μ = some ((rgP 0 n, []), μ1) := by
  unfold itRg1; rw [h]; show (if _ then _ else _) = _; rw [if_pos hj, hn]
theorem it_rg2 {a : DenA} {i j : Int} {n : Nat} (h : a ρ μ = some ([.int i, .int j], μ1)) (hi : RgIn i = true) (hj : RgIn j = true) (hn : (j - i).toNat = n) : itRg2 a ρ μ = some ((rgP i n, []), μ1) := by
  unfold itRg2; rw [h]; show (if _ then _ else _) = _; rw [if_pos (by rw [hi, hj]; rfl), hn]
theorem rgIn_of {i : Int} (h0 : -(2 ^ 62) ≤ i) (h : i < 2 ^ 62) : RgIn i = true := by
  unfold RgIn; rw [decide_eq_true h0, decide_eq_true h]; rfl
/-! comprehensions: no changes of the store, no test -/
theorem lc_nil {g : DenG} {t : DenT} {e : Den} {ch : List (Nat × List PV)} {acc : List PV} : lcL ρ g t e ch [] acc μ = some (acc, μ) := by unfold lcL; rfl
theorem lc_yes {g : DenG} {t : DenT} {e : Den} {ch : List (Nat × List PV)} {xs acc : List PV} {r : List PV × Sto} (hg : g x ρ μ = some (ρ1, μ1)) (ht : t ρ1 μ1 = some (true, μ2)) (he : e ρ1 μ2 = some (y, μ3)) (hc : ChkOk ch μ3) (hl : acc.length < sizeLine)
    (h : lcL ρ g t e ch xs (acc ++ [y]) μ3 = some r) : lcL ρ g t e ch (x :: xs) acc μ = some r := by
  unfold lcL; simp only [hg, ht, he, Option.bind_some, if_true]; rw [if_pos ⟨hc, hl⟩]; exact h
theorem lc_no {g : DenG} {t : DenT} {e : Den} {ch : List (Nat × List PV)} {xs acc : List PV} {r : List PV × Sto} (hg : g x ρ μ = some (ρ1, μ1)) (ht : t ρ1 μ1 = some (false, μ2)) (hc : ChkOk ch μ2)
    (h : lcL ρ g t e ch xs acc μ2 = some r) : lcL ρ g t e ch (x :: xs) acc μ = some r := by
  unfold lcL; simp only [hg, ht, Option.bind_some, Bool.false_eq_true, if_false, if_pos hc]; exact h
theorem ev_lc {vs : List Nat} {it : DenI} {g : DenG} {t : DenT} {e : Den} {xs : List PV} {ch : List (Nat × List PV)} {out : List PV} (hi : it ρ μ = some ((xs, ch), μ1)) (hw : wipeE ρ vs = ρ') (h : lcL ρ' g t e ch xs [] μ1 = some (out, μ2)) : dLc vs it g t e ρ μ = some (.lst out, μ2) := by
  unfold dLc; rw [hi]; show Option.map _ (lcL (wipeE ρ vs) g t e ch xs [] μ1) = _; rw [hw, h]; rfl
/-- all items, one by one; the test p, the item f -/
theorem lc_all {g : DenG} {t : DenT} {e : Den} {ch : List (Nat × List PV)} (p : PV → Bool) (f : PV → PV) : ∀ (xs acc : List PV), ChkOk ch μ → acc.length + xs.length ≤ sizeLine →
    (∀ x ∈ xs, ∃ ρ1, g x ρ μ = some (ρ1, μ) ∧ t ρ1 μ = some (p x, μ) ∧ (p x = true → e ρ1 μ = some (f x, μ))) → lcL ρ g t e ch xs acc μ = some (acc ++ (xs.filter p).map f, μ)
  | [], acc, _, _, _ => by rw [lc_nil]; simp
  | x :: xs, acc, hc, hl, h => by
    have hl' : acc.length + (xs.length + 1) ≤ sizeLine := hl
    obtain ⟨ρ1, h1, h2, h3⟩ := h x List.mem_cons_self
    cases hp : p x with
    | true =>
      rw [hp] at h2
      refine lc_yes h1 h2 (h3 hp) hc (by omega) ?_
      rw [lc_all p f xs (acc ++ [f x]) hc (by rw [List.length_append]; simp only [List.length_cons, List.length_nil]; omega) fun y hy => h y (List.mem_cons_of_mem _ hy)]
      rw [List.filter_cons_of_pos hp]
      simp
    | false =>
      rw [hp] at h2
      refine lc_no h1 h2 hc ?_
      rw [lc_all p f xs acc hc (by omega) fun y hy => h y (List.mem_cons_of_mem _ hy)]
      rw [List.filter_cons_of_neg (by rw [hp]; exact Bool.false_ne_true)]
end

/-! ### steps: operators -/
section
variable {μ : Sto} {i j : Int} {x y : PV} {b : Bool}
theorem mul_ii (h : okMul i j = true) : f_mul (.int i) (.int j) μ = some (.int (i * j), μ) := by show (if _ then _ else _) = _; rw [if_pos h]
theorem mod_ii (h : 0 < j) : f_mod (.int i) (.int j) μ = some (.int (i % j), μ) := by show (if _ then _ else _) = _; rw [if_pos h]
theorem mod_ni (h : j < 0) : f_mod (.int i) (.int j) μ = some (.int (i.fmod j), μ) := by show (if _ then _ else _) = _; rw [if_neg (by omega), if_pos h]
theorem fdiv_ii (h : 0 < j) (h2 : j.natAbs < 2 ^ 100) : f_fdiv (.int i) (.int j) μ = some (.int (i / j), μ) := by
  have hh : j.natAbs.log2 < 9000 := Nat.lt_trans ((Nat.log2_lt (n := j.natAbs) (k := 100) (by omega)).mpr h2) (by decide)
  show (if _ then _ else _) = _
  rw [if_pos ⟨h, hh⟩]
theorem fdiv_ni (h : j < 0) (h2 : j.natAbs < 2 ^ 100) : f_fdiv (.int i) (.int j) μ = some (.int (i.fdiv j), μ) := by
  have hh : j.natAbs.log2 < 9000 := Nat.lt_trans ((Nat.log2_lt (n := j.natAbs) (k := 100) (by omega)).mpr h2) (by decide)
  show (if _ then _ else _) = _
  rw [if_neg (by omega), if_pos ⟨h, hh⟩]
theorem pow_ii (h : 0 ≤ j) (h2 : j ≤ 1000000) (h3 : i.natAbs < 2 ^ 64) : f_pow (.int i) (.int j) μ = some (.int (i ^ j.toNat), μ) := by show (if _ then _ else _) = _; rw [if_pos ⟨h, h2, h3⟩]
theorem lt_ii (h : decide (i < j) = b) : f_lt (.int i) (.int j) μ = some (.bl b, μ) := by rw [← h]; rfl
theorem le_ii (h : decide (i ≤ j) = b) : f_le (.int i) (.int j) μ = some (.bl b, μ) := by rw [← h]; rfl
theorem gt_ii (h : decide (j < i) = b) : f_gt (.int i) (.int j) μ = some (.bl b, μ) := by rw [← h]; rfl
theorem ge_ii (h : decide (j ≤ i) = b) : f_ge (.int i) (.int j) μ = some (.bl b, μ) := by rw [← h]; rfl
theorem eq_ii (h : decide (i = j) = b) : f_eq (.int i) (.int j) μ = some (.bl b, μ) := by rw [← h]; rfl
theorem ne_ii (h : (!decide (i = j)) = b) : f_ne (.int i) (.int j) μ = some (.bl b, μ) := by rw [← h]; rfl
theorem eq_ss {s t : Str} (h : decide (s = t) = b) : f_eq (.str s) (.str t) μ = some (.bl b, μ) := by rw [← h]; rfl
theorem ne_t (h : i ≠ j) : (!decide (i = j)) = true := by rw [decide_eq_false h]; rfl
theorem ne_f (h : i = j) : (!decide (i = j)) = false := by rw [decide_eq_true h]; rfl
theorem isn_non : f_is .non .non μ = some (.bl true, μ) := rfl
theorem ix_tup {xs : List PV} {v : PV} (h : L2.atI xs i = some v) : f_ix (.tup xs) (.int i) μ = some (v, μ) := by show Option.map _ (L2.atI xs i) = _; rw [h]; rfl
theorem ix_lst {xs : List PV} {v : PV} (h : L2.atI xs i = some v) : f_ix (.lst xs) (.int i) μ = some (v, μ) := by show Option.map _ (L2.atI xs i) = _; rw [h]; rfl
theorem ix_loc {l : Nat} {xs : List PV} {v : PV} (hl : μ[l]? = some (.lst xs)) (h : L2.atI xs i = some v) : f_ix (.loc l) (.int i) μ = some (v, μ) := by
  have e : rdS μ (.loc l) = some xs := by unfold rdS; simp only; unfold rdL; simp only [hl]
  show Option.bind (rdS μ (.loc l)) _ = _
  rw [e]; show Option.map _ (L2.atI xs i) = _; rw [h]; rfl
theorem tru_int (h : (i != 0) = b) : truP (.int i) μ = some b := by rw [← h]; rfl
theorem set_loc {l : Nat} {xs : List PV} {v : PV} {k : Nat} {μ' : Sto} (hl : μ[l]? = some (.lst xs)) (hk : ixN xs.length i = some k) (he : μ.set l (.lst (xs.set k v)) = μ') : f_set (.loc l) (.int i) v μ = some μ' := by
  show (match μ[l]? with | some (.lst xs) => _ | _ => _) = _
  rw [hl]
  show Option.map _ (ixN xs.length i) = _
  rw [hk, ← he]; rfl
theorem atI_nat {α : Type} {xs : List α} {k : Nat} {v : α} (h : xs[k]? = some v) : L2.atI xs (k : Int) = some v := L2.atI_nat h
end
end Fd

/-! FdZ: the law's promise at its call. -/
namespace Fd
open PySem PySem.Spec PyProof.Rows L2
def spLaw (K : Frg) : Sp := fun vs H Q _ => ∃ (a : Addr) (ns : List Int), vs = [.ref a] ∧ Only H ∧ SqL K H a (ns.map V.int) ∧ ns.length ≤ 63 ∧ ∀ H', Q (.bl true) H'
theorem spLaw_of {K : Frg} {ψ : Fn} (h : ∀ ns : List Int, ns.length ≤ 63 → ∃ μ', ψ [.scr ns] [] = some (.bl true, μ')) (vs : List V) (H : Hp) (Q : VK) (E : XK) (q : spLaw K vs H Q E) : spD K 1 ψ vs H Q E := by
  obtain ⟨a, ns, rfl, ho, hs, hl, hq⟩ := q
  obtain ⟨μ', e⟩ := h ns hl
  refine ⟨⟨fun _ => a, fun _ => False⟩, [.scr ns], [], .bl true, μ', rfl, ⟨.ref a, [], rfl, ⟨a, rfl, ?_⟩, rfl⟩, ⟨fun i j hi => absurd hi (Nat.not_lt_zero i), fun l o h => (nomatch h), fun a h => h.elim, fun l hl => absurd hl (Nat.not_lt_zero l)⟩, e, fun hv ι' H' X R S => ?_⟩
  · rcases hs with hs | hs
    · rcases hs with hs | ⟨o, hs⟩
      · rcases ho a with z | ⟨o, xs, z⟩
        · rw [hs] at z; cases z
        · rw [hs] at z; cases z
      · exact .inl ⟨o, hs, fun l hl => absurd hl (Nat.not_lt_zero l), fun z => z.elim⟩
    · exact .inr hs
  · cases R
    exact hq H'
end Fd

/-! FdL: the laws' own helpers: start, fill, take. -/
namespace Fd
open PySem PySem.Spec PyProof.Rows L2
theorem len_ok {α : Type} {vs : List α} {n : Nat} (h : vs.length = n) (h2 : n ≤ 1000) : vs.length ≤ sizeLine := by rw [h]; exact Nat.le_of_lt (small1000 h2)
theorem len_le {n : Nat} (h : n ≤ 1000) : n ≤ sizeLine := Nat.le_of_lt (small1000 h)
/-- what the drawing's list holds -/
structure Dr where
  (cells : List Int) (i acc turn : Int)
def Dr.xs (s : Dr) : List PV := [.lst (s.cells.map .int), .int s.i, .int s.acc, .int s.turn, .int 20]
abbrev Dr.ob (s : Dr) : Ob := .lst s.xs
structure Dr.Ok (s : Dr) (n : Nat) : Prop where
  i0 : 0 ≤ s.i
  t0 : 0 ≤ s.turn
  tn : s.turn + n ≤ 2 ^ 60
  cl : s.cells.length ≤ 63
theorem Dr.Ok.le {s : Dr} {n m : Nat} (h : s.Ok n) (hm : m ≤ n) : s.Ok m := ⟨h.i0, h.t0, by have := h.tn; omega, h.cl⟩
section
variable {μ : Sto} {l : Nat} {s : Dr}
theorem dr_get {o o' : Ob} (h : μ[l]? = some o) : (μ.set l o')[l]? = some o' := by
  rw [List.getElem?_set_self]
  exact (List.getElem?_eq_some_iff.mp h).1
theorem dr_ix0 (h : μ[l]? = some s.ob) : f_ix (.loc l) (.int 0) μ = some (.lst (s.cells.map .int), μ) := ix_loc h rfl
theorem dr_ix1 (h : μ[l]? = some s.ob) : f_ix (.loc l) (.int 1) μ = some (.int s.i, μ) := ix_loc h rfl
theorem dr_ix2 (h : μ[l]? = some s.ob) : f_ix (.loc l) (.int 2) μ = some (.int s.acc, μ) := ix_loc h rfl
theorem dr_ix3 (h : μ[l]? = some s.ob) : f_ix (.loc l) (.int 3) μ = some (.int s.turn, μ) := ix_loc h rfl
theorem dr_set1 {v : Int} (h : μ[l]? = some s.ob) : f_set (.loc l) (.int 1) (.int v) μ = some (μ.set l ({ s with i := v } : Dr).ob) := set_loc h rfl rfl
theorem dr_set2 {v : Int} (h : μ[l]? = some s.ob) : f_set (.loc l) (.int 2) (.int v) μ = some (μ.set l ({ s with acc := v } : Dr).ob) := set_loc h rfl rfl
theorem dr_set3 {v : Int} (h : μ[l]? = some s.ob) : f_set (.loc l) (.int 3) (.int v) μ = some (μ.set l ({ s with turn := v } : Dr).ob) := set_loc h rfl rfl
end
theorem lenL {xs : List PV} {μ : Sto} : f_len [.lst xs] μ = some (.int xs.length, μ) := rfl
theorem lenT {xs : List PV} {μ : Sto} : f_len [.tup xs] μ = some (.int xs.length, μ) := rfl

def dFillR : DenS :=
  (sSeq (sIf (tAn (tTru (d2 f_ix (cVar 0) (cK (.int 0)))) (tB1 (d2 f_ge (d2 f_ix (cVar 0) (cK (.int 1))) (dN f_len (aCons (d2 f_ix (cVar 0) (cK (.int 0))) aNil))))) (sAsg (d2 f_add (cVar 1) (d2 f_mod (dN f_int (aCons (d2 f_ix (d2 f_ix (cVar 0) (cK (.int 0))) (d1 f_neg (cK (.int 1)))) aNil)) (cK (.int 1000003)))) (gNm 1)) sNil)
  (sSeq (sAsg (d2 f_mod (dN f_int (aCons (d2 f_add (d2 f_mul (cVar 1) (cK (.int 48271))) (d2 f_mul (d2 f_ix (cVar 0) (cK (.int 3))) (cK (.int 69621)))) aNil)) (cK (.int 2147483647))) (gNm 1))
  (sRet (d2 f_add (d2 f_fdiv (dN f_int (aCons (d2 f_add (d2 f_add (d2 f_mul (cVar 1) (cVar 1)) (d2 f_mul (d2 f_ix (cVar 0) (cK (.int 3))) (cK (.int 7919)))) (cK (.int 11))) aNil)) (cK (.int 64))) (cK (.int 36028797018963968))))))
def dFill : DenS :=
  (sSeq (sAsg (d2 f_add (d2 f_ix (cVar 0) (cK (.int 3))) (cK (.int 1))) (gSb (cVar 0) (cK (.int 3))))
  (sSeq (sAsg (d2 f_add (d2 f_mul (d2 f_ix (cVar 0) (cK (.int 3))) (cK (.int 69621))) (cK (.int 12345))) (gNm 1))
  (sSeq (sIf (tB1 (d2 f_lt (d2 f_ix (cVar 0) (cK (.int 1))) (dN f_len (aCons (d2 f_ix (cVar 0) (cK (.int 0))) aNil)))) (sSeq (sAsg (d2 f_ix (d2 f_ix (cVar 0) (cK (.int 0))) (d2 f_ix (cVar 0) (cK (.int 1)))) (gNm 1))
  (sSeq (sAsg (d2 f_add (d2 f_ix (cVar 0) (cK (.int 1))) (cK (.int 1))) (gSb (cVar 0) (cK (.int 1))))
  (sSeq (sIf (tB1 (d2 f_lt (cVar 1) (cK (.int 0)))) (sAsg (d2 f_sub (d2 f_sub (cK (.int 0)) (cK (.int 1))) (cVar 1)) (gNm 1)) sNil)
  (sIf (tB1 (d2 f_ge (cVar 1) (d2 f_pow (cK (.int 10)) (cK (.int 18))))) (sRet (cVar 1)) sNil)))) sNil)
  dFillR)))
theorem fillR_ok {s : Dr} {n : Nat} {μ : Sto} {l : Nat} {k : Int} (ok : s.Ok n) (h : μ[l]? = some s.ob) (hk : k.natAbs < 2 ^ 100) : ∃ r : Int, dFillR [some (.loc l), some (.int k)] μ = some (.rt (.int r) μ) := by
  have h0 := dr_ix0 h; have h1 := dr_ix1 h; have h3 := dr_ix3 h
  have ht := ok.t0
  have ht2 := ok.tn
  have hi := ok.i0
  have hlen : ((s.cells.map PV.int).length : Int) = s.cells.length := by rw [List.length_map]
  suffices hh : ∃ k' : Int, k'.natAbs < 2 ^ 101 ∧ sIf (tAn (tTru (d2 f_ix (cVar 0) (cK (.int 0)))) (tB1 (d2 f_ge (d2 f_ix (cVar 0) (cK (.int 1))) (dN f_len (aCons (d2 f_ix (cVar 0) (cK (.int 0))) aNil))))) (sAsg (d2 f_add (cVar 1) (d2 f_mod (dN f_int (aCons (d2 f_ix (d2 f_ix (cVar 0) (cK (.int 0))) (d1 f_neg (cK (.int 1)))) aNil)) (cK (.int 1000003)))) (gNm 1)) sNil [some (.loc l), some (.int k)] μ = some (.nx [some (.loc l), some (.int k')] μ) by
    obtain ⟨k', hk', e⟩ := hh
    apply Exists.intro
    apply ev_seq e
    (apply ev_seq; case' ha => ((first | apply ev_set | apply ev_par | apply ev_par3 | apply ev_asg | apply ev_ex | apply ev_ret | exact ev_sNil | apply ev_aug) <;> (repeat' first | exact ev_var rfl | exact ev_K | exact h3 | exact ev_aNil | apply ev_aCons | apply ev_d2 | apply ev_d1 | apply ev_dN | apply ev_dCall | apply ev_dTup | apply ev_dLst | apply ev_dLoc | apply ev_sl | exact ev_oNo | apply ev_oSo | apply ev_ch2b | apply ev_ch3b | apply ev_tB | apply ev_tTru | apply ev_tNo | apply ev_no | apply ev_dML | exact ev_tAll | apply ev_gTu | exact ev_gsN | apply ev_gsC | apply ev_gSb | apply ev_gNm | (simp only [List.length_cons, List.length_nil]; exact len_le (by decide)) | exact decide_eq_true (by omega) | exact decide_eq_false (by omega) | exact ne_t (by omega) | exact ne_f (by omega) | apply lt_ii | apply le_ii | apply gt_ii | apply ge_ii | apply eq_ii | apply ne_ii | apply eq_ss | apply mul_ii | exact okMul_small (by omega) (by omega) | exact mod_ii (by omega) | exact fdiv_ii (by omega) (by omega) | exact mod_ni (by omega) | exact fdiv_ni (by omega) (by omega) | exact pow_ii (by omega) (by omega) (by omega) | apply ix_tup | apply ix_lst | (simp only [List.set_cons_succ, List.set_cons_zero]; rfl) | exact rfl)))
    ((first | apply ev_set | apply ev_par | apply ev_par3 | apply ev_asg | apply ev_ex | apply ev_ret | exact ev_sNil | apply ev_aug) <;> (repeat' first | exact ev_var rfl | exact ev_K | exact h3 | exact ev_aNil | apply ev_aCons | apply ev_d2 | apply ev_d1 | apply ev_dN | apply ev_dCall | apply ev_dTup | apply ev_dLst | apply ev_dLoc | apply ev_sl | exact ev_oNo | apply ev_oSo | apply ev_ch2b | apply ev_ch3b | apply ev_tB | apply ev_tTru | apply ev_tNo | apply ev_no | apply ev_dML | exact ev_tAll | apply ev_gTu | exact ev_gsN | apply ev_gsC | apply ev_gSb | apply ev_gNm | (simp only [List.length_cons, List.length_nil]; exact len_le (by decide)) | exact decide_eq_true (by omega) | exact decide_eq_false (by omega) | exact ne_t (by omega) | exact ne_f (by omega) | apply lt_ii | apply le_ii | apply gt_ii | apply ge_ii | apply eq_ii | apply ne_ii | apply eq_ss | apply mul_ii | exact okMul_small (by omega) (by omega) | exact mod_ii (by omega) | exact fdiv_ii (by omega) (by omega) | exact mod_ni (by omega) | exact fdiv_ni (by omega) (by omega) | exact pow_ii (by omega) (by omega) (by omega) | apply ix_tup | apply ix_lst | (simp only [List.set_cons_succ, List.set_cons_zero]; rfl) | exact rfl))
  by_cases hz : s.cells = []
  · refine ⟨k, by omega, ?_⟩
    apply ev_sIf_f
    case h => exact ev_sNil
    apply ev_tAn_f
    (repeat' first | exact ev_var rfl | exact ev_K | exact h0 | exact ev_aNil | apply ev_aCons | apply ev_d2 | apply ev_d1 | apply ev_dN | apply ev_dCall | apply ev_dTup | apply ev_dLst | apply ev_dLoc | apply ev_sl | exact ev_oNo | apply ev_oSo | apply ev_ch2b | apply ev_ch3b | apply ev_tB | apply ev_tTru | apply ev_tNo | apply ev_no | apply ev_dML | exact ev_tAll | apply ev_gTu | exact ev_gsN | apply ev_gsC | apply ev_gSb | apply ev_gNm | (simp only [List.length_cons, List.length_nil]; exact len_le (by decide)) | exact decide_eq_true (by omega) | exact decide_eq_false (by omega) | exact ne_t (by omega) | exact ne_f (by omega) | apply lt_ii | apply le_ii | apply gt_ii | apply ge_ii | apply eq_ii | apply ne_ii | apply eq_ss | apply mul_ii | exact okMul_small (by omega) (by omega) | exact mod_ii (by omega) | exact fdiv_ii (by omega) (by omega) | exact mod_ni (by omega) | exact fdiv_ni (by omega) (by omega) | exact pow_ii (by omega) (by omega) (by omega) | apply ix_tup | apply ix_lst | (simp only [List.set_cons_succ, List.set_cons_zero]; rfl) | exact rfl)
    show some _ = _
    rw [hz]
    rfl
  · have hb : (!(s.cells.map PV.int).isEmpty) = true := by
      cases e : s.cells with
      | nil => exact absurd e hz
      | cons a r => rfl
    by_cases hg : (s.cells.length : Int) ≤ s.i
    · obtain ⟨z, hzz⟩ : ∃ z : Int, L2.atI (s.cells.map PV.int) (-1) = some (.int z) := by
        have hl : 0 < s.cells.length := List.length_pos_iff.mpr hz
        refine ⟨s.cells[s.cells.length - 1], ?_⟩
        unfold L2.atI
        have : ixN (s.cells.map PV.int).length (-1) = some (s.cells.length - 1) := by
          unfold ixN
          rw [List.length_map]
          rw [if_neg (by omega), if_pos (by omega)]
          congr 1
          omega
        rw [this]
        show (s.cells.map PV.int)[s.cells.length - 1]? = _
        rw [List.getElem?_map, List.getElem?_eq_getElem (by omega)]
        rfl
      have h9 : f_ix (.lst (s.cells.map PV.int)) (.int (-1)) μ = some (.int z, μ) := ix_lst hzz
      refine ⟨k + z % 1000003, by omega, ?_⟩
      apply ev_sIf_t
      case hc =>
        apply ev_tAn_t
        case h => (repeat' first | exact ev_var rfl | exact ev_K | exact h0 | exact (show some (!(s.cells.map PV.int).isEmpty) = _ from by rw [hb]) | exact ev_aNil | apply ev_aCons | apply ev_d2 | apply ev_d1 | apply ev_dN | apply ev_dCall | apply ev_dTup | apply ev_dLst | apply ev_dLoc | apply ev_sl | exact ev_oNo | apply ev_oSo | apply ev_ch2b | apply ev_ch3b | apply ev_tB | apply ev_tTru | apply ev_tNo | apply ev_no | apply ev_dML | exact ev_tAll | apply ev_gTu | exact ev_gsN | apply ev_gsC | apply ev_gSb | apply ev_gNm | (simp only [List.length_cons, List.length_nil]; exact len_le (by decide)) | exact decide_eq_true (by omega) | exact decide_eq_false (by omega) | exact ne_t (by omega) | exact ne_f (by omega) | apply lt_ii | apply le_ii | apply gt_ii | apply ge_ii | apply eq_ii | apply ne_ii | apply eq_ss | apply mul_ii | exact okMul_small (by omega) (by omega) | exact mod_ii (by omega) | exact fdiv_ii (by omega) (by omega) | exact mod_ni (by omega) | exact fdiv_ni (by omega) (by omega) | exact pow_ii (by omega) (by omega) (by omega) | apply ix_tup | apply ix_lst | (simp only [List.set_cons_succ, List.set_cons_zero]; rfl) | exact rfl)
        (repeat' first | exact ev_var rfl | exact ev_K | exact h0 | exact h1 | exact ev_aNil | apply ev_aCons | apply ev_d2 | apply ev_d1 | apply ev_dN | apply ev_dCall | apply ev_dTup | apply ev_dLst | apply ev_dLoc | apply ev_sl | exact ev_oNo | apply ev_oSo | apply ev_ch2b | apply ev_ch3b | apply ev_tB | apply ev_tTru | apply ev_tNo | apply ev_no | apply ev_dML | exact ev_tAll | apply ev_gTu | exact ev_gsN | apply ev_gsC | apply ev_gSb | apply ev_gNm | (simp only [List.length_cons, List.length_nil]; exact len_le (by decide)) | exact decide_eq_true (by omega) | exact decide_eq_false (by omega) | exact ne_t (by omega) | exact ne_f (by omega) | apply lt_ii | apply le_ii | apply gt_ii | apply ge_ii | apply eq_ii | apply ne_ii | apply eq_ss | apply mul_ii | exact okMul_small (by omega) (by omega) | exact mod_ii (by omega) | exact fdiv_ii (by omega) (by omega) | exact mod_ni (by omega) | exact fdiv_ni (by omega) (by omega) | exact pow_ii (by omega) (by omega) (by omega) | apply ix_tup | apply ix_lst | (simp only [List.set_cons_succ, List.set_cons_zero]; rfl) | exact rfl)
      ((first | apply ev_set | apply ev_par | apply ev_par3 | apply ev_asg | apply ev_ex | apply ev_ret | exact ev_sNil | apply ev_aug) <;> (repeat' first | exact ev_var rfl | exact ev_K | exact h0 | exact h9 | exact ev_aNil | apply ev_aCons | apply ev_d2 | apply ev_d1 | apply ev_dN | apply ev_dCall | apply ev_dTup | apply ev_dLst | apply ev_dLoc | apply ev_sl | exact ev_oNo | apply ev_oSo | apply ev_ch2b | apply ev_ch3b | apply ev_tB | apply ev_tTru | apply ev_tNo | apply ev_no | apply ev_dML | exact ev_tAll | apply ev_gTu | exact ev_gsN | apply ev_gsC | apply ev_gSb | apply ev_gNm | (simp only [List.length_cons, List.length_nil]; exact len_le (by decide)) | exact decide_eq_true (by omega) | exact decide_eq_false (by omega) | exact ne_t (by omega) | exact ne_f (by omega) | apply lt_ii | apply le_ii | apply gt_ii | apply ge_ii | apply eq_ii | apply ne_ii | apply eq_ss | apply mul_ii | exact okMul_small (by omega) (by omega) | exact mod_ii (by omega) | exact fdiv_ii (by omega) (by omega) | exact mod_ni (by omega) | exact fdiv_ni (by omega) (by omega) | exact pow_ii (by omega) (by omega) (by omega) | apply ix_tup | apply ix_lst | (simp only [List.set_cons_succ, List.set_cons_zero]; rfl) | exact rfl))
    · refine ⟨k, by omega, ?_⟩
      apply ev_sIf_f
      case h => exact ev_sNil
      apply ev_tAn_t
      case h => (repeat' first | exact ev_var rfl | exact ev_K | exact h0 | exact (show some (!(s.cells.map PV.int).isEmpty) = _ from by rw [hb]) | exact ev_aNil | apply ev_aCons | apply ev_d2 | apply ev_d1 | apply ev_dN | apply ev_dCall | apply ev_dTup | apply ev_dLst | apply ev_dLoc | apply ev_sl | exact ev_oNo | apply ev_oSo | apply ev_ch2b | apply ev_ch3b | apply ev_tB | apply ev_tTru | apply ev_tNo | apply ev_no | apply ev_dML | exact ev_tAll | apply ev_gTu | exact ev_gsN | apply ev_gsC | apply ev_gSb | apply ev_gNm | (simp only [List.length_cons, List.length_nil]; exact len_le (by decide)) | exact decide_eq_true (by omega) | exact decide_eq_false (by omega) | exact ne_t (by omega) | exact ne_f (by omega) | apply lt_ii | apply le_ii | apply gt_ii | apply ge_ii | apply eq_ii | apply ne_ii | apply eq_ss | apply mul_ii | exact okMul_small (by omega) (by omega) | exact mod_ii (by omega) | exact fdiv_ii (by omega) (by omega) | exact mod_ni (by omega) | exact fdiv_ni (by omega) (by omega) | exact pow_ii (by omega) (by omega) (by omega) | apply ix_tup | apply ix_lst | (simp only [List.set_cons_succ, List.set_cons_zero]; rfl) | exact rfl)
      (repeat' first | exact ev_var rfl | exact ev_K | exact h0 | exact h1 | exact ev_aNil | apply ev_aCons | apply ev_d2 | apply ev_d1 | apply ev_dN | apply ev_dCall | apply ev_dTup | apply ev_dLst | apply ev_dLoc | apply ev_sl | exact ev_oNo | apply ev_oSo | apply ev_ch2b | apply ev_ch3b | apply ev_tB | apply ev_tTru | apply ev_tNo | apply ev_no | apply ev_dML | exact ev_tAll | apply ev_gTu | exact ev_gsN | apply ev_gsC | apply ev_gSb | apply ev_gNm | (simp only [List.length_cons, List.length_nil]; exact len_le (by decide)) | exact decide_eq_true (by omega) | exact decide_eq_false (by omega) | exact ne_t (by omega) | exact ne_f (by omega) | apply lt_ii | apply le_ii | apply gt_ii | apply ge_ii | apply eq_ii | apply ne_ii | apply eq_ss | apply mul_ii | exact okMul_small (by omega) (by omega) | exact mod_ii (by omega) | exact fdiv_ii (by omega) (by omega) | exact mod_ni (by omega) | exact fdiv_ni (by omega) (by omega) | exact pow_ii (by omega) (by omega) (by omega) | apply ix_tup | apply ix_lst | (simp only [List.set_cons_succ, List.set_cons_zero]; rfl) | exact rfl)
theorem fill_ok {s : Dr} {n : Nat} {μ : Sto} {l : Nat} (ok : s.Ok (n + 1)) (h : μ[l]? = some s.ob) : ∃ (k : Int) (s' : Dr), s'.Ok n ∧ dFill [some (.loc l), none] μ = some (.rt (.int k) (μ.set l s'.ob)) := by
  have h3 := dr_ix3 h
  have ht := ok.t0
  have ht2 := ok.tn
  have hi := ok.i0
  let s1 : Dr := { s with turn := s.turn + 1 }
  have e1 := dr_set3 (v := s.turn + 1) h
  have g1 : (μ.set l s1.ob)[l]? = some s1.ob := dr_get h
  have g10 := dr_ix0 g1; have g11 := dr_ix1 g1; have g13 := dr_ix3 g1
  have ok1 : s1.Ok n := ⟨hi, by show 0 ≤ s.turn + 1; omega, by show s.turn + 1 + n ≤ _; omega, ok.cl⟩
  have hlen : ((s.cells.map PV.int).length : Int) = s.cells.length := by rw [List.length_map]
  have hs1 : s1.turn = s.turn + 1 := rfl
  by_cases hg : s.i < (s.cells.length : Int)
  · obtain ⟨z, hz⟩ : ∃ z : Int, L2.atI (s.cells.map PV.int) s.i = some (.int z) := by
      obtain ⟨m, hm⟩ := Int.eq_ofNat_of_zero_le hi
      rw [hm]
      refine ⟨s.cells[m], atI_nat ?_⟩
      rw [List.getElem?_map, List.getElem?_eq_getElem (by omega)]
      rfl
    have g1z : f_ix (.lst (s1.cells.map PV.int)) (.int s1.i) (μ.set l s1.ob) = some (.int z, μ.set l s1.ob) := ix_lst hz
    let s2 : Dr := { s1 with i := s.i + 1 }
    have e2 : f_set (.loc l) (.int 1) (.int (s1.i + 1)) (μ.set l s1.ob) = some (μ.set l s2.ob) := by
      have := dr_set1 (v := s1.i + 1) g1
      rw [List.set_set] at this
      exact this
    have g2 : (μ.set l s2.ob)[l]? = some s2.ob := dr_get h
    have ok2 : s2.Ok n := ⟨by show 0 ≤ s.i + 1; omega, ok1.t0, ok1.tn, ok1.cl⟩
    have hlt : decide (s1.i < ((s1.cells.map PV.int).length : Int)) = true := decide_eq_true (by rw [List.length_map]; exact hg)
    let k : Int := if z < 0 then 0 - 1 - z else z
    have hpow : ((10 : Int) ^ (18 : Int).toNat) = 1000000000000000000 := by decide
    have step : sIf (tB1 (d2 f_lt (cVar 1) (cK (.int 0)))) (sAsg (d2 f_sub (d2 f_sub (cK (.int 0)) (cK (.int 1))) (cVar 1)) (gNm 1)) sNil [some (.loc l), some (.int z)] (μ.set l s2.ob) = some (.nx [some (.loc l), some (.int k)] (μ.set l s2.ob)) := by
      by_cases hn : z < 0
      · have hk : k = 0 - 1 - z := if_pos hn
        rw [hk]
        (apply ev_sIf_t; case' hc => (repeat' first | exact ev_var rfl | exact ev_K | exact ev_aNil | apply ev_aCons | apply ev_d2 | apply ev_d1 | apply ev_dN | apply ev_dCall | apply ev_dTup | apply ev_dLst | apply ev_dLoc | apply ev_sl | exact ev_oNo | apply ev_oSo | apply ev_ch2b | apply ev_ch3b | apply ev_tB | apply ev_tTru | apply ev_tNo | apply ev_no | apply ev_dML | exact ev_tAll | apply ev_gTu | exact ev_gsN | apply ev_gsC | apply ev_gSb | apply ev_gNm | (simp only [List.length_cons, List.length_nil]; exact len_le (by decide)) | exact decide_eq_true (by omega) | exact decide_eq_false (by omega) | exact ne_t (by omega) | exact ne_f (by omega) | apply lt_ii | apply le_ii | apply gt_ii | apply ge_ii | apply eq_ii | apply ne_ii | apply eq_ss | apply mul_ii | exact okMul_small (by omega) (by omega) | exact mod_ii (by omega) | exact fdiv_ii (by omega) (by omega) | exact mod_ni (by omega) | exact fdiv_ni (by omega) (by omega) | exact pow_ii (by omega) (by omega) (by omega) | apply ix_tup | apply ix_lst | (simp only [List.set_cons_succ, List.set_cons_zero]; rfl) | exact rfl))
        ((first | apply ev_set | apply ev_par | apply ev_par3 | apply ev_asg | apply ev_ex | apply ev_ret | exact ev_sNil | apply ev_aug) <;> (repeat' first | exact ev_var rfl | exact ev_K | exact ev_aNil | apply ev_aCons | apply ev_d2 | apply ev_d1 | apply ev_dN | apply ev_dCall | apply ev_dTup | apply ev_dLst | apply ev_dLoc | apply ev_sl | exact ev_oNo | apply ev_oSo | apply ev_ch2b | apply ev_ch3b | apply ev_tB | apply ev_tTru | apply ev_tNo | apply ev_no | apply ev_dML | exact ev_tAll | apply ev_gTu | exact ev_gsN | apply ev_gsC | apply ev_gSb | apply ev_gNm | (simp only [List.length_cons, List.length_nil]; exact len_le (by decide)) | exact decide_eq_true (by omega) | exact decide_eq_false (by omega) | exact ne_t (by omega) | exact ne_f (by omega) | apply lt_ii | apply le_ii | apply gt_ii | apply ge_ii | apply eq_ii | apply ne_ii | apply eq_ss | apply mul_ii | exact okMul_small (by omega) (by omega) | exact mod_ii (by omega) | exact fdiv_ii (by omega) (by omega) | exact mod_ni (by omega) | exact fdiv_ni (by omega) (by omega) | exact pow_ii (by omega) (by omega) (by omega) | apply ix_tup | apply ix_lst | (simp only [List.set_cons_succ, List.set_cons_zero]; rfl) | exact rfl))
      · have hk : k = z := if_neg hn
        rw [hk]
        (apply ev_sIf_f; case' hc => (repeat' first | exact ev_var rfl | exact ev_K | exact ev_aNil | apply ev_aCons | apply ev_d2 | apply ev_d1 | apply ev_dN | apply ev_dCall | apply ev_dTup | apply ev_dLst | apply ev_dLoc | apply ev_sl | exact ev_oNo | apply ev_oSo | apply ev_ch2b | apply ev_ch3b | apply ev_tB | apply ev_tTru | apply ev_tNo | apply ev_no | apply ev_dML | exact ev_tAll | apply ev_gTu | exact ev_gsN | apply ev_gsC | apply ev_gSb | apply ev_gNm | (simp only [List.length_cons, List.length_nil]; exact len_le (by decide)) | exact decide_eq_true (by omega) | exact decide_eq_false (by omega) | exact ne_t (by omega) | exact ne_f (by omega) | apply lt_ii | apply le_ii | apply gt_ii | apply ge_ii | apply eq_ii | apply ne_ii | apply eq_ss | apply mul_ii | exact okMul_small (by omega) (by omega) | exact mod_ii (by omega) | exact fdiv_ii (by omega) (by omega) | exact mod_ni (by omega) | exact fdiv_ni (by omega) (by omega) | exact pow_ii (by omega) (by omega) (by omega) | apply ix_tup | apply ix_lst | (simp only [List.set_cons_succ, List.set_cons_zero]; rfl) | exact rfl))
        ((first | apply ev_set | apply ev_par | apply ev_par3 | apply ev_asg | apply ev_ex | apply ev_ret | exact ev_sNil | apply ev_aug) <;> (repeat' first | exact ev_var rfl | exact ev_K | exact ev_aNil | apply ev_aCons | apply ev_d2 | apply ev_d1 | apply ev_dN | apply ev_dCall | apply ev_dTup | apply ev_dLst | apply ev_dLoc | apply ev_sl | exact ev_oNo | apply ev_oSo | apply ev_ch2b | apply ev_ch3b | apply ev_tB | apply ev_tTru | apply ev_tNo | apply ev_no | apply ev_dML | exact ev_tAll | apply ev_gTu | exact ev_gsN | apply ev_gsC | apply ev_gSb | apply ev_gNm | (simp only [List.length_cons, List.length_nil]; exact len_le (by decide)) | exact decide_eq_true (by omega) | exact decide_eq_false (by omega) | exact ne_t (by omega) | exact ne_f (by omega) | apply lt_ii | apply le_ii | apply gt_ii | apply ge_ii | apply eq_ii | apply ne_ii | apply eq_ss | apply mul_ii | exact okMul_small (by omega) (by omega) | exact mod_ii (by omega) | exact fdiv_ii (by omega) (by omega) | exact mod_ni (by omega) | exact fdiv_ni (by omega) (by omega) | exact pow_ii (by omega) (by omega) (by omega) | apply ix_tup | apply ix_lst | (simp only [List.set_cons_succ, List.set_cons_zero]; rfl) | exact rfl))
    by_cases hb : 1000000000000000000 ≤ k
    · refine ⟨k, s2, ok2, ?_⟩
      (apply ev_seq; case' ha => ((first | apply ev_set | apply ev_par | apply ev_par3 | apply ev_asg | apply ev_ex | apply ev_ret | exact ev_sNil | apply ev_aug) <;> (repeat' first | exact ev_var rfl | exact ev_K | exact h3 | exact e1 | exact ev_aNil | apply ev_aCons | apply ev_d2 | apply ev_d1 | apply ev_dN | apply ev_dCall | apply ev_dTup | apply ev_dLst | apply ev_dLoc | apply ev_sl | exact ev_oNo | apply ev_oSo | apply ev_ch2b | apply ev_ch3b | apply ev_tB | apply ev_tTru | apply ev_tNo | apply ev_no | apply ev_dML | exact ev_tAll | apply ev_gTu | exact ev_gsN | apply ev_gsC | apply ev_gSb | apply ev_gNm | (simp only [List.length_cons, List.length_nil]; exact len_le (by decide)) | exact decide_eq_true (by omega) | exact decide_eq_false (by omega) | exact ne_t (by omega) | exact ne_f (by omega) | apply lt_ii | apply le_ii | apply gt_ii | apply ge_ii | apply eq_ii | apply ne_ii | apply eq_ss | apply mul_ii | exact okMul_small (by omega) (by omega) | exact mod_ii (by omega) | exact fdiv_ii (by omega) (by omega) | exact mod_ni (by omega) | exact fdiv_ni (by omega) (by omega) | exact pow_ii (by omega) (by omega) (by omega) | apply ix_tup | apply ix_lst | (simp only [List.set_cons_succ, List.set_cons_zero]; rfl) | exact rfl)))
      (apply ev_seq; case' ha => ((first | apply ev_set | apply ev_par | apply ev_par3 | apply ev_asg | apply ev_ex | apply ev_ret | exact ev_sNil | apply ev_aug) <;> (repeat' first | exact ev_var rfl | exact ev_K | exact g13 | exact ev_aNil | apply ev_aCons | apply ev_d2 | apply ev_d1 | apply ev_dN | apply ev_dCall | apply ev_dTup | apply ev_dLst | apply ev_dLoc | apply ev_sl | exact ev_oNo | apply ev_oSo | apply ev_ch2b | apply ev_ch3b | apply ev_tB | apply ev_tTru | apply ev_tNo | apply ev_no | apply ev_dML | exact ev_tAll | apply ev_gTu | exact ev_gsN | apply ev_gsC | apply ev_gSb | apply ev_gNm | (simp only [List.length_cons, List.length_nil]; exact len_le (by decide)) | exact decide_eq_true (by omega) | exact decide_eq_false (by omega) | exact ne_t (by omega) | exact ne_f (by omega) | apply lt_ii | apply le_ii | apply gt_ii | apply ge_ii | apply eq_ii | apply ne_ii | apply eq_ss | apply mul_ii | exact okMul_small (by omega) (by omega) | exact mod_ii (by omega) | exact fdiv_ii (by omega) (by omega) | exact mod_ni (by omega) | exact fdiv_ni (by omega) (by omega) | exact pow_ii (by omega) (by omega) (by omega) | apply ix_tup | apply ix_lst | (simp only [List.set_cons_succ, List.set_cons_zero]; rfl) | exact rfl)))
      apply ev_seq_rt
      (apply ev_sIf_t; case' hc => (repeat' first | exact ev_var rfl | exact ev_K | exact g10 | exact g11 | exact hlt | exact lenL | exact ev_aNil | apply ev_aCons | apply ev_d2 | apply ev_d1 | apply ev_dN | apply ev_dCall | apply ev_dTup | apply ev_dLst | apply ev_dLoc | apply ev_sl | exact ev_oNo | apply ev_oSo | apply ev_ch2b | apply ev_ch3b | apply ev_tB | apply ev_tTru | apply ev_tNo | apply ev_no | apply ev_dML | exact ev_tAll | apply ev_gTu | exact ev_gsN | apply ev_gsC | apply ev_gSb | apply ev_gNm | (simp only [List.length_cons, List.length_nil]; exact len_le (by decide)) | exact decide_eq_true (by omega) | exact decide_eq_false (by omega) | exact ne_t (by omega) | exact ne_f (by omega) | apply lt_ii | apply le_ii | apply gt_ii | apply ge_ii | apply eq_ii | apply ne_ii | apply eq_ss | apply mul_ii | exact okMul_small (by omega) (by omega) | exact mod_ii (by omega) | exact fdiv_ii (by omega) (by omega) | exact mod_ni (by omega) | exact fdiv_ni (by omega) (by omega) | exact pow_ii (by omega) (by omega) (by omega) | apply ix_tup | apply ix_lst | (simp only [List.set_cons_succ, List.set_cons_zero]; rfl) | exact rfl))
      (apply ev_seq; case' ha => ((first | apply ev_set | apply ev_par | apply ev_par3 | apply ev_asg | apply ev_ex | apply ev_ret | exact ev_sNil | apply ev_aug) <;> (repeat' first | exact ev_var rfl | exact ev_K | exact g10 | exact g11 | exact g1z | exact ev_aNil | apply ev_aCons | apply ev_d2 | apply ev_d1 | apply ev_dN | apply ev_dCall | apply ev_dTup | apply ev_dLst | apply ev_dLoc | apply ev_sl | exact ev_oNo | apply ev_oSo | apply ev_ch2b | apply ev_ch3b | apply ev_tB | apply ev_tTru | apply ev_tNo | apply ev_no | apply ev_dML | exact ev_tAll | apply ev_gTu | exact ev_gsN | apply ev_gsC | apply ev_gSb | apply ev_gNm | (simp only [List.length_cons, List.length_nil]; exact len_le (by decide)) | exact decide_eq_true (by omega) | exact decide_eq_false (by omega) | exact ne_t (by omega) | exact ne_f (by omega) | apply lt_ii | apply le_ii | apply gt_ii | apply ge_ii | apply eq_ii | apply ne_ii | apply eq_ss | apply mul_ii | exact okMul_small (by omega) (by omega) | exact mod_ii (by omega) | exact fdiv_ii (by omega) (by omega) | exact mod_ni (by omega) | exact fdiv_ni (by omega) (by omega) | exact pow_ii (by omega) (by omega) (by omega) | apply ix_tup | apply ix_lst | (simp only [List.set_cons_succ, List.set_cons_zero]; rfl) | exact rfl)))
      (apply ev_seq; case' ha => ((first | apply ev_set | apply ev_par | apply ev_par3 | apply ev_asg | apply ev_ex | apply ev_ret | exact ev_sNil | apply ev_aug) <;> (repeat' first | exact ev_var rfl | exact ev_K | exact g11 | exact e2 | exact ev_aNil | apply ev_aCons | apply ev_d2 | apply ev_d1 | apply ev_dN | apply ev_dCall | apply ev_dTup | apply ev_dLst | apply ev_dLoc | apply ev_sl | exact ev_oNo | apply ev_oSo | apply ev_ch2b | apply ev_ch3b | apply ev_tB | apply ev_tTru | apply ev_tNo | apply ev_no | apply ev_dML | exact ev_tAll | apply ev_gTu | exact ev_gsN | apply ev_gsC | apply ev_gSb | apply ev_gNm | (simp only [List.length_cons, List.length_nil]; exact len_le (by decide)) | exact decide_eq_true (by omega) | exact decide_eq_false (by omega) | exact ne_t (by omega) | exact ne_f (by omega) | apply lt_ii | apply le_ii | apply gt_ii | apply ge_ii | apply eq_ii | apply ne_ii | apply eq_ss | apply mul_ii | exact okMul_small (by omega) (by omega) | exact mod_ii (by omega) | exact fdiv_ii (by omega) (by omega) | exact mod_ni (by omega) | exact fdiv_ni (by omega) (by omega) | exact pow_ii (by omega) (by omega) (by omega) | apply ix_tup | apply ix_lst | (simp only [List.set_cons_succ, List.set_cons_zero]; rfl) | exact rfl)))
      apply ev_seq step
      apply ev_sIf_t
      case hc => (repeat' first | exact ev_var rfl | exact ev_K | exact decide_eq_true (by rw [hpow]; omega) | exact ev_aNil | apply ev_aCons | apply ev_d2 | apply ev_d1 | apply ev_dN | apply ev_dCall | apply ev_dTup | apply ev_dLst | apply ev_dLoc | apply ev_sl | exact ev_oNo | apply ev_oSo | apply ev_ch2b | apply ev_ch3b | apply ev_tB | apply ev_tTru | apply ev_tNo | apply ev_no | apply ev_dML | exact ev_tAll | apply ev_gTu | exact ev_gsN | apply ev_gsC | apply ev_gSb | apply ev_gNm | (simp only [List.length_cons, List.length_nil]; exact len_le (by decide)) | exact decide_eq_true (by omega) | exact decide_eq_false (by omega) | exact ne_t (by omega) | exact ne_f (by omega) | apply lt_ii | apply le_ii | apply gt_ii | apply ge_ii | apply eq_ii | apply ne_ii | apply eq_ss | apply mul_ii | exact okMul_small (by omega) (by omega) | exact mod_ii (by omega) | exact fdiv_ii (by omega) (by omega) | exact mod_ni (by omega) | exact fdiv_ni (by omega) (by omega) | exact pow_ii (by omega) (by omega) (by omega) | apply ix_tup | apply ix_lst | (simp only [List.set_cons_succ, List.set_cons_zero]; rfl) | exact rfl)
      ((first | apply ev_set | apply ev_par | apply ev_par3 | apply ev_asg | apply ev_ex | apply ev_ret | exact ev_sNil | apply ev_aug) <;> (repeat' first | exact ev_var rfl | exact ev_K | exact ev_aNil | apply ev_aCons | apply ev_d2 | apply ev_d1 | apply ev_dN | apply ev_dCall | apply ev_dTup | apply ev_dLst | apply ev_dLoc | apply ev_sl | exact ev_oNo | apply ev_oSo | apply ev_ch2b | apply ev_ch3b | apply ev_tB | apply ev_tTru | apply ev_tNo | apply ev_no | apply ev_dML | exact ev_tAll | apply ev_gTu | exact ev_gsN | apply ev_gsC | apply ev_gSb | apply ev_gNm | (simp only [List.length_cons, List.length_nil]; exact len_le (by decide)) | exact decide_eq_true (by omega) | exact decide_eq_false (by omega) | exact ne_t (by omega) | exact ne_f (by omega) | apply lt_ii | apply le_ii | apply gt_ii | apply ge_ii | apply eq_ii | apply ne_ii | apply eq_ss | apply mul_ii | exact okMul_small (by omega) (by omega) | exact mod_ii (by omega) | exact fdiv_ii (by omega) (by omega) | exact mod_ni (by omega) | exact fdiv_ni (by omega) (by omega) | exact pow_ii (by omega) (by omega) (by omega) | apply ix_tup | apply ix_lst | (simp only [List.set_cons_succ, List.set_cons_zero]; rfl) | exact rfl))
    · have hk : k.natAbs < 2 ^ 100 := by
        show (if z < 0 then 0 - 1 - z else z).natAbs < _
        have hb : ¬ 1000000000000000000 ≤ (if z < 0 then 0 - 1 - z else z) := hb
        split at hb <;> split <;> omega
      obtain ⟨r, hr⟩ := fillR_ok ok2 g2 hk
      refine ⟨r, s2, ok2, ?_⟩
      (apply ev_seq; case' ha => ((first | apply ev_set | apply ev_par | apply ev_par3 | apply ev_asg | apply ev_ex | apply ev_ret | exact ev_sNil | apply ev_aug) <;> (repeat' first | exact ev_var rfl | exact ev_K | exact h3 | exact e1 | exact ev_aNil | apply ev_aCons | apply ev_d2 | apply ev_d1 | apply ev_dN | apply ev_dCall | apply ev_dTup | apply ev_dLst | apply ev_dLoc | apply ev_sl | exact ev_oNo | apply ev_oSo | apply ev_ch2b | apply ev_ch3b | apply ev_tB | apply ev_tTru | apply ev_tNo | apply ev_no | apply ev_dML | exact ev_tAll | apply ev_gTu | exact ev_gsN | apply ev_gsC | apply ev_gSb | apply ev_gNm | (simp only [List.length_cons, List.length_nil]; exact len_le (by decide)) | exact decide_eq_true (by omega) | exact decide_eq_false (by omega) | exact ne_t (by omega) | exact ne_f (by omega) | apply lt_ii | apply le_ii | apply gt_ii | apply ge_ii | apply eq_ii | apply ne_ii | apply eq_ss | apply mul_ii | exact okMul_small (by omega) (by omega) | exact mod_ii (by omega) | exact fdiv_ii (by omega) (by omega) | exact mod_ni (by omega) | exact fdiv_ni (by omega) (by omega) | exact pow_ii (by omega) (by omega) (by omega) | apply ix_tup | apply ix_lst | (simp only [List.set_cons_succ, List.set_cons_zero]; rfl) | exact rfl)))
      (apply ev_seq; case' ha => ((first | apply ev_set | apply ev_par | apply ev_par3 | apply ev_asg | apply ev_ex | apply ev_ret | exact ev_sNil | apply ev_aug) <;> (repeat' first | exact ev_var rfl | exact ev_K | exact g13 | exact ev_aNil | apply ev_aCons | apply ev_d2 | apply ev_d1 | apply ev_dN | apply ev_dCall | apply ev_dTup | apply ev_dLst | apply ev_dLoc | apply ev_sl | exact ev_oNo | apply ev_oSo | apply ev_ch2b | apply ev_ch3b | apply ev_tB | apply ev_tTru | apply ev_tNo | apply ev_no | apply ev_dML | exact ev_tAll | apply ev_gTu | exact ev_gsN | apply ev_gsC | apply ev_gSb | apply ev_gNm | (simp only [List.length_cons, List.length_nil]; exact len_le (by decide)) | exact decide_eq_true (by omega) | exact decide_eq_false (by omega) | exact ne_t (by omega) | exact ne_f (by omega) | apply lt_ii | apply le_ii | apply gt_ii | apply ge_ii | apply eq_ii | apply ne_ii | apply eq_ss | apply mul_ii | exact okMul_small (by omega) (by omega) | exact mod_ii (by omega) | exact fdiv_ii (by omega) (by omega) | exact mod_ni (by omega) | exact fdiv_ni (by omega) (by omega) | exact pow_ii (by omega) (by omega) (by omega) | apply ix_tup | apply ix_lst | (simp only [List.set_cons_succ, List.set_cons_zero]; rfl) | exact rfl)))
      apply ev_seq
      case hb => exact hr
      (apply ev_sIf_t; case' hc => (repeat' first | exact ev_var rfl | exact ev_K | exact g10 | exact g11 | exact hlt | exact lenL | exact ev_aNil | apply ev_aCons | apply ev_d2 | apply ev_d1 | apply ev_dN | apply ev_dCall | apply ev_dTup | apply ev_dLst | apply ev_dLoc | apply ev_sl | exact ev_oNo | apply ev_oSo | apply ev_ch2b | apply ev_ch3b | apply ev_tB | apply ev_tTru | apply ev_tNo | apply ev_no | apply ev_dML | exact ev_tAll | apply ev_gTu | exact ev_gsN | apply ev_gsC | apply ev_gSb | apply ev_gNm | (simp only [List.length_cons, List.length_nil]; exact len_le (by decide)) | exact decide_eq_true (by omega) | exact decide_eq_false (by omega) | exact ne_t (by omega) | exact ne_f (by omega) | apply lt_ii | apply le_ii | apply gt_ii | apply ge_ii | apply eq_ii | apply ne_ii | apply eq_ss | apply mul_ii | exact okMul_small (by omega) (by omega) | exact mod_ii (by omega) | exact fdiv_ii (by omega) (by omega) | exact mod_ni (by omega) | exact fdiv_ni (by omega) (by omega) | exact pow_ii (by omega) (by omega) (by omega) | apply ix_tup | apply ix_lst | (simp only [List.set_cons_succ, List.set_cons_zero]; rfl) | exact rfl))
      (apply ev_seq; case' ha => ((first | apply ev_set | apply ev_par | apply ev_par3 | apply ev_asg | apply ev_ex | apply ev_ret | exact ev_sNil | apply ev_aug) <;> (repeat' first | exact ev_var rfl | exact ev_K | exact g10 | exact g11 | exact g1z | exact ev_aNil | apply ev_aCons | apply ev_d2 | apply ev_d1 | apply ev_dN | apply ev_dCall | apply ev_dTup | apply ev_dLst | apply ev_dLoc | apply ev_sl | exact ev_oNo | apply ev_oSo | apply ev_ch2b | apply ev_ch3b | apply ev_tB | apply ev_tTru | apply ev_tNo | apply ev_no | apply ev_dML | exact ev_tAll | apply ev_gTu | exact ev_gsN | apply ev_gsC | apply ev_gSb | apply ev_gNm | (simp only [List.length_cons, List.length_nil]; exact len_le (by decide)) | exact decide_eq_true (by omega) | exact decide_eq_false (by omega) | exact ne_t (by omega) | exact ne_f (by omega) | apply lt_ii | apply le_ii | apply gt_ii | apply ge_ii | apply eq_ii | apply ne_ii | apply eq_ss | apply mul_ii | exact okMul_small (by omega) (by omega) | exact mod_ii (by omega) | exact fdiv_ii (by omega) (by omega) | exact mod_ni (by omega) | exact fdiv_ni (by omega) (by omega) | exact pow_ii (by omega) (by omega) (by omega) | apply ix_tup | apply ix_lst | (simp only [List.set_cons_succ, List.set_cons_zero]; rfl) | exact rfl)))
      (apply ev_seq; case' ha => ((first | apply ev_set | apply ev_par | apply ev_par3 | apply ev_asg | apply ev_ex | apply ev_ret | exact ev_sNil | apply ev_aug) <;> (repeat' first | exact ev_var rfl | exact ev_K | exact g11 | exact e2 | exact ev_aNil | apply ev_aCons | apply ev_d2 | apply ev_d1 | apply ev_dN | apply ev_dCall | apply ev_dTup | apply ev_dLst | apply ev_dLoc | apply ev_sl | exact ev_oNo | apply ev_oSo | apply ev_ch2b | apply ev_ch3b | apply ev_tB | apply ev_tTru | apply ev_tNo | apply ev_no | apply ev_dML | exact ev_tAll | apply ev_gTu | exact ev_gsN | apply ev_gsC | apply ev_gSb | apply ev_gNm | (simp only [List.length_cons, List.length_nil]; exact len_le (by decide)) | exact decide_eq_true (by omega) | exact decide_eq_false (by omega) | exact ne_t (by omega) | exact ne_f (by omega) | apply lt_ii | apply le_ii | apply gt_ii | apply ge_ii | apply eq_ii | apply ne_ii | apply eq_ss | apply mul_ii | exact okMul_small (by omega) (by omega) | exact mod_ii (by omega) | exact fdiv_ii (by omega) (by omega) | exact mod_ni (by omega) | exact fdiv_ni (by omega) (by omega) | exact pow_ii (by omega) (by omega) (by omega) | apply ix_tup | apply ix_lst | (simp only [List.set_cons_succ, List.set_cons_zero]; rfl) | exact rfl)))
      apply ev_seq step
      apply ev_sIf_f
      case hc => (repeat' first | exact ev_var rfl | exact ev_K | exact decide_eq_false (by rw [hpow]; omega) | exact ev_aNil | apply ev_aCons | apply ev_d2 | apply ev_d1 | apply ev_dN | apply ev_dCall | apply ev_dTup | apply ev_dLst | apply ev_dLoc | apply ev_sl | exact ev_oNo | apply ev_oSo | apply ev_ch2b | apply ev_ch3b | apply ev_tB | apply ev_tTru | apply ev_tNo | apply ev_no | apply ev_dML | exact ev_tAll | apply ev_gTu | exact ev_gsN | apply ev_gsC | apply ev_gSb | apply ev_gNm | (simp only [List.length_cons, List.length_nil]; exact len_le (by decide)) | exact decide_eq_true (by omega) | exact decide_eq_false (by omega) | exact ne_t (by omega) | exact ne_f (by omega) | apply lt_ii | apply le_ii | apply gt_ii | apply ge_ii | apply eq_ii | apply ne_ii | apply eq_ss | apply mul_ii | exact okMul_small (by omega) (by omega) | exact mod_ii (by omega) | exact fdiv_ii (by omega) (by omega) | exact mod_ni (by omega) | exact fdiv_ni (by omega) (by omega) | exact pow_ii (by omega) (by omega) (by omega) | apply ix_tup | apply ix_lst | (simp only [List.set_cons_succ, List.set_cons_zero]; rfl) | exact rfl)
      exact ev_sNil
  · have hlt : decide (s1.i < ((s1.cells.map PV.int).length : Int)) = false := decide_eq_false (by rw [List.length_map]; exact hg)
    obtain ⟨r, hr⟩ := fillR_ok (k := s1.turn * 69621 + 12345) ok1 g1 (by omega)
    refine ⟨r, s1, ok1, ?_⟩
    (apply ev_seq; case' ha => ((first | apply ev_set | apply ev_par | apply ev_par3 | apply ev_asg | apply ev_ex | apply ev_ret | exact ev_sNil | apply ev_aug) <;> (repeat' first | exact ev_var rfl | exact ev_K | exact h3 | exact e1 | exact ev_aNil | apply ev_aCons | apply ev_d2 | apply ev_d1 | apply ev_dN | apply ev_dCall | apply ev_dTup | apply ev_dLst | apply ev_dLoc | apply ev_sl | exact ev_oNo | apply ev_oSo | apply ev_ch2b | apply ev_ch3b | apply ev_tB | apply ev_tTru | apply ev_tNo | apply ev_no | apply ev_dML | exact ev_tAll | apply ev_gTu | exact ev_gsN | apply ev_gsC | apply ev_gSb | apply ev_gNm | (simp only [List.length_cons, List.length_nil]; exact len_le (by decide)) | exact decide_eq_true (by omega) | exact decide_eq_false (by omega) | exact ne_t (by omega) | exact ne_f (by omega) | apply lt_ii | apply le_ii | apply gt_ii | apply ge_ii | apply eq_ii | apply ne_ii | apply eq_ss | apply mul_ii | exact okMul_small (by omega) (by omega) | exact mod_ii (by omega) | exact fdiv_ii (by omega) (by omega) | exact mod_ni (by omega) | exact fdiv_ni (by omega) (by omega) | exact pow_ii (by omega) (by omega) (by omega) | apply ix_tup | apply ix_lst | (simp only [List.set_cons_succ, List.set_cons_zero]; rfl) | exact rfl)))
    (apply ev_seq; case' ha => ((first | apply ev_set | apply ev_par | apply ev_par3 | apply ev_asg | apply ev_ex | apply ev_ret | exact ev_sNil | apply ev_aug) <;> (repeat' first | exact ev_var rfl | exact ev_K | exact g13 | exact ev_aNil | apply ev_aCons | apply ev_d2 | apply ev_d1 | apply ev_dN | apply ev_dCall | apply ev_dTup | apply ev_dLst | apply ev_dLoc | apply ev_sl | exact ev_oNo | apply ev_oSo | apply ev_ch2b | apply ev_ch3b | apply ev_tB | apply ev_tTru | apply ev_tNo | apply ev_no | apply ev_dML | exact ev_tAll | apply ev_gTu | exact ev_gsN | apply ev_gsC | apply ev_gSb | apply ev_gNm | (simp only [List.length_cons, List.length_nil]; exact len_le (by decide)) | exact decide_eq_true (by omega) | exact decide_eq_false (by omega) | exact ne_t (by omega) | exact ne_f (by omega) | apply lt_ii | apply le_ii | apply gt_ii | apply ge_ii | apply eq_ii | apply ne_ii | apply eq_ss | apply mul_ii | exact okMul_small (by omega) (by omega) | exact mod_ii (by omega) | exact fdiv_ii (by omega) (by omega) | exact mod_ni (by omega) | exact fdiv_ni (by omega) (by omega) | exact pow_ii (by omega) (by omega) (by omega) | apply ix_tup | apply ix_lst | (simp only [List.set_cons_succ, List.set_cons_zero]; rfl) | exact rfl)))
    apply ev_seq
    case hb => exact hr
    (apply ev_sIf_f; case' hc => (repeat' first | exact ev_var rfl | exact ev_K | exact g10 | exact g11 | exact hlt | exact lenL | exact ev_aNil | apply ev_aCons | apply ev_d2 | apply ev_d1 | apply ev_dN | apply ev_dCall | apply ev_dTup | apply ev_dLst | apply ev_dLoc | apply ev_sl | exact ev_oNo | apply ev_oSo | apply ev_ch2b | apply ev_ch3b | apply ev_tB | apply ev_tTru | apply ev_tNo | apply ev_no | apply ev_dML | exact ev_tAll | apply ev_gTu | exact ev_gsN | apply ev_gsC | apply ev_gSb | apply ev_gNm | (simp only [List.length_cons, List.length_nil]; exact len_le (by decide)) | exact decide_eq_true (by omega) | exact decide_eq_false (by omega) | exact ne_t (by omega) | exact ne_f (by omega) | apply lt_ii | apply le_ii | apply gt_ii | apply ge_ii | apply eq_ii | apply ne_ii | apply eq_ss | apply mul_ii | exact okMul_small (by omega) (by omega) | exact mod_ii (by omega) | exact fdiv_ii (by omega) (by omega) | exact mod_ni (by omega) | exact fdiv_ni (by omega) (by omega) | exact pow_ii (by omega) (by omega) (by omega) | apply ix_tup | apply ix_lst | (simp only [List.set_cons_succ, List.set_cons_zero]; rfl) | exact rfl))
    exact ev_sNil

/-- the other wording -/
def dFill2 : DenS :=
  (sSeq (sAsg (d2 f_add (d2 f_ix (cVar 0) (cK (.int 3))) (cK (.int 1))) (gSb (cVar 0) (cK (.int 3))))
  (sSeq (sAsg (d2 f_add (d2 f_mul (d2 f_ix (cVar 0) (cK (.int 3))) (cK (.int 69621))) (cK (.int 12345))) (gNm 1))
  (sSeq (sIf (tB1 (d2 f_lt (d2 f_ix (cVar 0) (cK (.int 1))) (dN f_len (aCons (d2 f_ix (cVar 0) (cK (.int 0))) aNil)))) (sSeq (sAsg (dN f_max2 (aCons (d2 f_ix (d2 f_ix (cVar 0) (cK (.int 0))) (d2 f_ix (cVar 0) (cK (.int 1)))) (aCons (d2 f_sub (d2 f_sub (cK (.int 0)) (cK (.int 1))) (d2 f_ix (d2 f_ix (cVar 0) (cK (.int 0))) (d2 f_ix (cVar 0) (cK (.int 1))))) aNil))) (gNm 1))
  (sSeq (sAsg (d2 f_add (d2 f_ix (cVar 0) (cK (.int 1))) (cK (.int 1))) (gSb (cVar 0) (cK (.int 1))))
  (sIf (tB1 (d2 f_ge (cVar 1) (d2 f_pow (cK (.int 10)) (cK (.int 18))))) (sRet (cVar 1)) sNil))) sNil)
  dFillR)))
theorem fill2_ok {s : Dr} {n : Nat} {μ : Sto} {l : Nat} (ok : s.Ok (n + 1)) (h : μ[l]? = some s.ob) : ∃ (k : Int) (s' : Dr), s'.Ok n ∧ dFill2 [some (.loc l), none] μ = some (.rt (.int k) (μ.set l s'.ob)) := by
  have h3 := dr_ix3 h
  have ht := ok.t0
  have ht2 := ok.tn
  have hi := ok.i0
  let s1 : Dr := { s with turn := s.turn + 1 }
  have e1 := dr_set3 (v := s.turn + 1) h
  have g1 : (μ.set l s1.ob)[l]? = some s1.ob := dr_get h
  have g10 := dr_ix0 g1; have g11 := dr_ix1 g1; have g13 := dr_ix3 g1
  have ok1 : s1.Ok n := ⟨hi, by show 0 ≤ s.turn + 1; omega, by show s.turn + 1 + n ≤ _; omega, ok.cl⟩
  have hlen : ((s.cells.map PV.int).length : Int) = s.cells.length := by rw [List.length_map]
  have hs1 : s1.turn = s.turn + 1 := rfl
  by_cases hg : s.i < (s.cells.length : Int)
  · obtain ⟨z, hz⟩ : ∃ z : Int, L2.atI (s.cells.map PV.int) s.i = some (.int z) := by
      obtain ⟨m, hm⟩ := Int.eq_ofNat_of_zero_le hi
      rw [hm]
      refine ⟨s.cells[m], atI_nat ?_⟩
      rw [List.getElem?_map, List.getElem?_eq_getElem (by omega)]
      rfl
    have g1z : f_ix (.lst (s1.cells.map PV.int)) (.int s1.i) (μ.set l s1.ob) = some (.int z, μ.set l s1.ob) := ix_lst hz
    let s2 : Dr := { s1 with i := s.i + 1 }
    have e2 : f_set (.loc l) (.int 1) (.int (s1.i + 1)) (μ.set l s1.ob) = some (μ.set l s2.ob) := by
      have := dr_set1 (v := s1.i + 1) g1
      rw [List.set_set] at this
      exact this
    have g2 : (μ.set l s2.ob)[l]? = some s2.ob := dr_get h
    have ok2 : s2.Ok n := ⟨by show 0 ≤ s.i + 1; omega, ok1.t0, ok1.tn, ok1.cl⟩
    have hlt : decide (s1.i < ((s1.cells.map PV.int).length : Int)) = true := decide_eq_true (by rw [List.length_map]; exact hg)
    let k : Int := if 0 - 1 - z > z then 0 - 1 - z else z
    have hpow : ((10 : Int) ^ (18 : Int).toNat) = 1000000000000000000 := by decide
    have hmax : f_max2 [.int z, .int (0 - 1 - z)] (μ.set l s1.ob) = some (.int k, μ.set l s1.ob) := rfl
    by_cases hb : 1000000000000000000 ≤ k
    · refine ⟨k, s2, ok2, ?_⟩
      (apply ev_seq; case' ha => ((first | apply ev_set | apply ev_par | apply ev_par3 | apply ev_asg | apply ev_ex | apply ev_ret | exact ev_sNil | apply ev_aug) <;> (repeat' first | exact ev_var rfl | exact ev_K | exact h3 | exact e1 | exact ev_aNil | apply ev_aCons | apply ev_d2 | apply ev_d1 | apply ev_dN | apply ev_dCall | apply ev_dTup | apply ev_dLst | apply ev_dLoc | apply ev_sl | exact ev_oNo | apply ev_oSo | apply ev_ch2b | apply ev_ch3b | apply ev_tB | apply ev_tTru | apply ev_tNo | apply ev_no | apply ev_dML | exact ev_tAll | apply ev_gTu | exact ev_gsN | apply ev_gsC | apply ev_gSb | apply ev_gNm | (simp only [List.length_cons, List.length_nil]; exact len_le (by decide)) | exact decide_eq_true (by omega) | exact decide_eq_false (by omega) | exact ne_t (by omega) | exact ne_f (by omega) | apply lt_ii | apply le_ii | apply gt_ii | apply ge_ii | apply eq_ii | apply ne_ii | apply eq_ss | apply mul_ii | exact okMul_small (by omega) (by omega) | exact mod_ii (by omega) | exact fdiv_ii (by omega) (by omega) | exact mod_ni (by omega) | exact fdiv_ni (by omega) (by omega) | exact pow_ii (by omega) (by omega) (by omega) | apply ix_tup | apply ix_lst | (simp only [List.set_cons_succ, List.set_cons_zero]; rfl) | exact rfl)))
      (apply ev_seq; case' ha => ((first | apply ev_set | apply ev_par | apply ev_par3 | apply ev_asg | apply ev_ex | apply ev_ret | exact ev_sNil | apply ev_aug) <;> (repeat' first | exact ev_var rfl | exact ev_K | exact g13 | exact ev_aNil | apply ev_aCons | apply ev_d2 | apply ev_d1 | apply ev_dN | apply ev_dCall | apply ev_dTup | apply ev_dLst | apply ev_dLoc | apply ev_sl | exact ev_oNo | apply ev_oSo | apply ev_ch2b | apply ev_ch3b | apply ev_tB | apply ev_tTru | apply ev_tNo | apply ev_no | apply ev_dML | exact ev_tAll | apply ev_gTu | exact ev_gsN | apply ev_gsC | apply ev_gSb | apply ev_gNm | (simp only [List.length_cons, List.length_nil]; exact len_le (by decide)) | exact decide_eq_true (by omega) | exact decide_eq_false (by omega) | exact ne_t (by omega) | exact ne_f (by omega) | apply lt_ii | apply le_ii | apply gt_ii | apply ge_ii | apply eq_ii | apply ne_ii | apply eq_ss | apply mul_ii | exact okMul_small (by omega) (by omega) | exact mod_ii (by omega) | exact fdiv_ii (by omega) (by omega) | exact mod_ni (by omega) | exact fdiv_ni (by omega) (by omega) | exact pow_ii (by omega) (by omega) (by omega) | apply ix_tup | apply ix_lst | (simp only [List.set_cons_succ, List.set_cons_zero]; rfl) | exact rfl)))
      apply ev_seq_rt
      (apply ev_sIf_t; case' hc => (repeat' first | exact ev_var rfl | exact ev_K | exact g10 | exact g11 | exact hlt | exact lenL | exact ev_aNil | apply ev_aCons | apply ev_d2 | apply ev_d1 | apply ev_dN | apply ev_dCall | apply ev_dTup | apply ev_dLst | apply ev_dLoc | apply ev_sl | exact ev_oNo | apply ev_oSo | apply ev_ch2b | apply ev_ch3b | apply ev_tB | apply ev_tTru | apply ev_tNo | apply ev_no | apply ev_dML | exact ev_tAll | apply ev_gTu | exact ev_gsN | apply ev_gsC | apply ev_gSb | apply ev_gNm | (simp only [List.length_cons, List.length_nil]; exact len_le (by decide)) | exact decide_eq_true (by omega) | exact decide_eq_false (by omega) | exact ne_t (by omega) | exact ne_f (by omega) | apply lt_ii | apply le_ii | apply gt_ii | apply ge_ii | apply eq_ii | apply ne_ii | apply eq_ss | apply mul_ii | exact okMul_small (by omega) (by omega) | exact mod_ii (by omega) | exact fdiv_ii (by omega) (by omega) | exact mod_ni (by omega) | exact fdiv_ni (by omega) (by omega) | exact pow_ii (by omega) (by omega) (by omega) | apply ix_tup | apply ix_lst | (simp only [List.set_cons_succ, List.set_cons_zero]; rfl) | exact rfl))
      (apply ev_seq; case' ha => ((first | apply ev_set | apply ev_par | apply ev_par3 | apply ev_asg | apply ev_ex | apply ev_ret | exact ev_sNil | apply ev_aug) <;> (repeat' first | exact ev_var rfl | exact ev_K | exact g10 | exact g11 | exact g1z | exact hmax | exact ev_aNil | apply ev_aCons | apply ev_d2 | apply ev_d1 | apply ev_dN | apply ev_dCall | apply ev_dTup | apply ev_dLst | apply ev_dLoc | apply ev_sl | exact ev_oNo | apply ev_oSo | apply ev_ch2b | apply ev_ch3b | apply ev_tB | apply ev_tTru | apply ev_tNo | apply ev_no | apply ev_dML | exact ev_tAll | apply ev_gTu | exact ev_gsN | apply ev_gsC | apply ev_gSb | apply ev_gNm | (simp only [List.length_cons, List.length_nil]; exact len_le (by decide)) | exact decide_eq_true (by omega) | exact decide_eq_false (by omega) | exact ne_t (by omega) | exact ne_f (by omega) | apply lt_ii | apply le_ii | apply gt_ii | apply ge_ii | apply eq_ii | apply ne_ii | apply eq_ss | apply mul_ii | exact okMul_small (by omega) (by omega) | exact mod_ii (by omega) | exact fdiv_ii (by omega) (by omega) | exact mod_ni (by omega) | exact fdiv_ni (by omega) (by omega) | exact pow_ii (by omega) (by omega) (by omega) | apply ix_tup | apply ix_lst | (simp only [List.set_cons_succ, List.set_cons_zero]; rfl) | exact rfl)))
      (apply ev_seq; case' ha => ((first | apply ev_set | apply ev_par | apply ev_par3 | apply ev_asg | apply ev_ex | apply ev_ret | exact ev_sNil | apply ev_aug) <;> (repeat' first | exact ev_var rfl | exact ev_K | exact g11 | exact e2 | exact ev_aNil | apply ev_aCons | apply ev_d2 | apply ev_d1 | apply ev_dN | apply ev_dCall | apply ev_dTup | apply ev_dLst | apply ev_dLoc | apply ev_sl | exact ev_oNo | apply ev_oSo | apply ev_ch2b | apply ev_ch3b | apply ev_tB | apply ev_tTru | apply ev_tNo | apply ev_no | apply ev_dML | exact ev_tAll | apply ev_gTu | exact ev_gsN | apply ev_gsC | apply ev_gSb | apply ev_gNm | (simp only [List.length_cons, List.length_nil]; exact len_le (by decide)) | exact decide_eq_true (by omega) | exact decide_eq_false (by omega) | exact ne_t (by omega) | exact ne_f (by omega) | apply lt_ii | apply le_ii | apply gt_ii | apply ge_ii | apply eq_ii | apply ne_ii | apply eq_ss | apply mul_ii | exact okMul_small (by omega) (by omega) | exact mod_ii (by omega) | exact fdiv_ii (by omega) (by omega) | exact mod_ni (by omega) | exact fdiv_ni (by omega) (by omega) | exact pow_ii (by omega) (by omega) (by omega) | apply ix_tup | apply ix_lst | (simp only [List.set_cons_succ, List.set_cons_zero]; rfl) | exact rfl)))
      apply ev_sIf_t
      case hc => (repeat' first | exact ev_var rfl | exact ev_K | exact decide_eq_true (by rw [hpow]; omega) | exact ev_aNil | apply ev_aCons | apply ev_d2 | apply ev_d1 | apply ev_dN | apply ev_dCall | apply ev_dTup | apply ev_dLst | apply ev_dLoc | apply ev_sl | exact ev_oNo | apply ev_oSo | apply ev_ch2b | apply ev_ch3b | apply ev_tB | apply ev_tTru | apply ev_tNo | apply ev_no | apply ev_dML | exact ev_tAll | apply ev_gTu | exact ev_gsN | apply ev_gsC | apply ev_gSb | apply ev_gNm | (simp only [List.length_cons, List.length_nil]; exact len_le (by decide)) | exact decide_eq_true (by omega) | exact decide_eq_false (by omega) | exact ne_t (by omega) | exact ne_f (by omega) | apply lt_ii | apply le_ii | apply gt_ii | apply ge_ii | apply eq_ii | apply ne_ii | apply eq_ss | apply mul_ii | exact okMul_small (by omega) (by omega) | exact mod_ii (by omega) | exact fdiv_ii (by omega) (by omega) | exact mod_ni (by omega) | exact fdiv_ni (by omega) (by omega) | exact pow_ii (by omega) (by omega) (by omega) | apply ix_tup | apply ix_lst | (simp only [List.set_cons_succ, List.set_cons_zero]; rfl) | exact rfl)
      ((first | apply ev_set | apply ev_par | apply ev_par3 | apply ev_asg | apply ev_ex | apply ev_ret | exact ev_sNil | apply ev_aug) <;> (repeat' first | exact ev_var rfl | exact ev_K | exact ev_aNil | apply ev_aCons | apply ev_d2 | apply ev_d1 | apply ev_dN | apply ev_dCall | apply ev_dTup | apply ev_dLst | apply ev_dLoc | apply ev_sl | exact ev_oNo | apply ev_oSo | apply ev_ch2b | apply ev_ch3b | apply ev_tB | apply ev_tTru | apply ev_tNo | apply ev_no | apply ev_dML | exact ev_tAll | apply ev_gTu | exact ev_gsN | apply ev_gsC | apply ev_gSb | apply ev_gNm | (simp only [List.length_cons, List.length_nil]; exact len_le (by decide)) | exact decide_eq_true (by omega) | exact decide_eq_false (by omega) | exact ne_t (by omega) | exact ne_f (by omega) | apply lt_ii | apply le_ii | apply gt_ii | apply ge_ii | apply eq_ii | apply ne_ii | apply eq_ss | apply mul_ii | exact okMul_small (by omega) (by omega) | exact mod_ii (by omega) | exact fdiv_ii (by omega) (by omega) | exact mod_ni (by omega) | exact fdiv_ni (by omega) (by omega) | exact pow_ii (by omega) (by omega) (by omega) | apply ix_tup | apply ix_lst | (simp only [List.set_cons_succ, List.set_cons_zero]; rfl) | exact rfl))
    · have hk : k.natAbs < 2 ^ 100 := by
        show (if 0 - 1 - z > z then 0 - 1 - z else z).natAbs < _
        have hb : ¬ 1000000000000000000 ≤ (if 0 - 1 - z > z then 0 - 1 - z else z) := hb
        split at hb <;> split <;> omega
      obtain ⟨r, hr⟩ := fillR_ok ok2 g2 hk
      refine ⟨r, s2, ok2, ?_⟩
      (apply ev_seq; case' ha => ((first | apply ev_set | apply ev_par | apply ev_par3 | apply ev_asg | apply ev_ex | apply ev_ret | exact ev_sNil | apply ev_aug) <;> (repeat' first | exact ev_var rfl | exact ev_K | exact h3 | exact e1 | exact ev_aNil | apply ev_aCons | apply ev_d2 | apply ev_d1 | apply ev_dN | apply ev_dCall | apply ev_dTup | apply ev_dLst | apply ev_dLoc | apply ev_sl | exact ev_oNo | apply ev_oSo | apply ev_ch2b | apply ev_ch3b | apply ev_tB | apply ev_tTru | apply ev_tNo | apply ev_no | apply ev_dML | exact ev_tAll | apply ev_gTu | exact ev_gsN | apply ev_gsC | apply ev_gSb | apply ev_gNm | (simp only [List.length_cons, List.length_nil]; exact len_le (by decide)) | exact decide_eq_true (by omega) | exact decide_eq_false (by omega) | exact ne_t (by omega) | exact ne_f (by omega) | apply lt_ii | apply le_ii | apply gt_ii | apply ge_ii | apply eq_ii | apply ne_ii | apply eq_ss | apply mul_ii | exact okMul_small (by omega) (by omega) | exact mod_ii (by omega) | exact fdiv_ii (by omega) (by omega) | exact mod_ni (by omega) | exact fdiv_ni (by omega) (by omega) | exact pow_ii (by omega) (by omega) (by omega) | apply ix_tup | apply ix_lst | (simp only [List.set_cons_succ, List.set_cons_zero]; rfl) | exact rfl)))
      (apply ev_seq; case' ha => ((first | apply ev_set | apply ev_par | apply ev_par3 | apply ev_asg | apply ev_ex | apply ev_ret | exact ev_sNil | apply ev_aug) <;> (repeat' first | exact ev_var rfl | exact ev_K | exact g13 | exact ev_aNil | apply ev_aCons | apply ev_d2 | apply ev_d1 | apply ev_dN | apply ev_dCall | apply ev_dTup | apply ev_dLst | apply ev_dLoc | apply ev_sl | exact ev_oNo | apply ev_oSo | apply ev_ch2b | apply ev_ch3b | apply ev_tB | apply ev_tTru | apply ev_tNo | apply ev_no | apply ev_dML | exact ev_tAll | apply ev_gTu | exact ev_gsN | apply ev_gsC | apply ev_gSb | apply ev_gNm | (simp only [List.length_cons, List.length_nil]; exact len_le (by decide)) | exact decide_eq_true (by omega) | exact decide_eq_false (by omega) | exact ne_t (by omega) | exact ne_f (by omega) | apply lt_ii | apply le_ii | apply gt_ii | apply ge_ii | apply eq_ii | apply ne_ii | apply eq_ss | apply mul_ii | exact okMul_small (by omega) (by omega) | exact mod_ii (by omega) | exact fdiv_ii (by omega) (by omega) | exact mod_ni (by omega) | exact fdiv_ni (by omega) (by omega) | exact pow_ii (by omega) (by omega) (by omega) | apply ix_tup | apply ix_lst | (simp only [List.set_cons_succ, List.set_cons_zero]; rfl) | exact rfl)))
      apply ev_seq
      case hb => exact hr
      (apply ev_sIf_t; case' hc => (repeat' first | exact ev_var rfl | exact ev_K | exact g10 | exact g11 | exact hlt | exact lenL | exact ev_aNil | apply ev_aCons | apply ev_d2 | apply ev_d1 | apply ev_dN | apply ev_dCall | apply ev_dTup | apply ev_dLst | apply ev_dLoc | apply ev_sl | exact ev_oNo | apply ev_oSo | apply ev_ch2b | apply ev_ch3b | apply ev_tB | apply ev_tTru | apply ev_tNo | apply ev_no | apply ev_dML | exact ev_tAll | apply ev_gTu | exact ev_gsN | apply ev_gsC | apply ev_gSb | apply ev_gNm | (simp only [List.length_cons, List.length_nil]; exact len_le (by decide)) | exact decide_eq_true (by omega) | exact decide_eq_false (by omega) | exact ne_t (by omega) | exact ne_f (by omega) | apply lt_ii | apply le_ii | apply gt_ii | apply ge_ii | apply eq_ii | apply ne_ii | apply eq_ss | apply mul_ii | exact okMul_small (by omega) (by omega) | exact mod_ii (by omega) | exact fdiv_ii (by omega) (by omega) | exact mod_ni (by omega) | exact fdiv_ni (by omega) (by omega) | exact pow_ii (by omega) (by omega) (by omega) | apply ix_tup | apply ix_lst | (simp only [List.set_cons_succ, List.set_cons_zero]; rfl) | exact rfl))
      (apply ev_seq; case' ha => ((first | apply ev_set | apply ev_par | apply ev_par3 | apply ev_asg | apply ev_ex | apply ev_ret | exact ev_sNil | apply ev_aug) <;> (repeat' first | exact ev_var rfl | exact ev_K | exact g10 | exact g11 | exact g1z | exact hmax | exact ev_aNil | apply ev_aCons | apply ev_d2 | apply ev_d1 | apply ev_dN | apply ev_dCall | apply ev_dTup | apply ev_dLst | apply ev_dLoc | apply ev_sl | exact ev_oNo | apply ev_oSo | apply ev_ch2b | apply ev_ch3b | apply ev_tB | apply ev_tTru | apply ev_tNo | apply ev_no | apply ev_dML | exact ev_tAll | apply ev_gTu | exact ev_gsN | apply ev_gsC | apply ev_gSb | apply ev_gNm | (simp only [List.length_cons, List.length_nil]; exact len_le (by decide)) | exact decide_eq_true (by omega) | exact decide_eq_false (by omega) | exact ne_t (by omega) | exact ne_f (by omega) | apply lt_ii | apply le_ii | apply gt_ii | apply ge_ii | apply eq_ii | apply ne_ii | apply eq_ss | apply mul_ii | exact okMul_small (by omega) (by omega) | exact mod_ii (by omega) | exact fdiv_ii (by omega) (by omega) | exact mod_ni (by omega) | exact fdiv_ni (by omega) (by omega) | exact pow_ii (by omega) (by omega) (by omega) | apply ix_tup | apply ix_lst | (simp only [List.set_cons_succ, List.set_cons_zero]; rfl) | exact rfl)))
      (apply ev_seq; case' ha => ((first | apply ev_set | apply ev_par | apply ev_par3 | apply ev_asg | apply ev_ex | apply ev_ret | exact ev_sNil | apply ev_aug) <;> (repeat' first | exact ev_var rfl | exact ev_K | exact g11 | exact e2 | exact ev_aNil | apply ev_aCons | apply ev_d2 | apply ev_d1 | apply ev_dN | apply ev_dCall | apply ev_dTup | apply ev_dLst | apply ev_dLoc | apply ev_sl | exact ev_oNo | apply ev_oSo | apply ev_ch2b | apply ev_ch3b | apply ev_tB | apply ev_tTru | apply ev_tNo | apply ev_no | apply ev_dML | exact ev_tAll | apply ev_gTu | exact ev_gsN | apply ev_gsC | apply ev_gSb | apply ev_gNm | (simp only [List.length_cons, List.length_nil]; exact len_le (by decide)) | exact decide_eq_true (by omega) | exact decide_eq_false (by omega) | exact ne_t (by omega) | exact ne_f (by omega) | apply lt_ii | apply le_ii | apply gt_ii | apply ge_ii | apply eq_ii | apply ne_ii | apply eq_ss | apply mul_ii | exact okMul_small (by omega) (by omega) | exact mod_ii (by omega) | exact fdiv_ii (by omega) (by omega) | exact mod_ni (by omega) | exact fdiv_ni (by omega) (by omega) | exact pow_ii (by omega) (by omega) (by omega) | apply ix_tup | apply ix_lst | (simp only [List.set_cons_succ, List.set_cons_zero]; rfl) | exact rfl)))
      apply ev_sIf_f
      case hc => (repeat' first | exact ev_var rfl | exact ev_K | exact decide_eq_false (by rw [hpow]; omega) | exact ev_aNil | apply ev_aCons | apply ev_d2 | apply ev_d1 | apply ev_dN | apply ev_dCall | apply ev_dTup | apply ev_dLst | apply ev_dLoc | apply ev_sl | exact ev_oNo | apply ev_oSo | apply ev_ch2b | apply ev_ch3b | apply ev_tB | apply ev_tTru | apply ev_tNo | apply ev_no | apply ev_dML | exact ev_tAll | apply ev_gTu | exact ev_gsN | apply ev_gsC | apply ev_gSb | apply ev_gNm | (simp only [List.length_cons, List.length_nil]; exact len_le (by decide)) | exact decide_eq_true (by omega) | exact decide_eq_false (by omega) | exact ne_t (by omega) | exact ne_f (by omega) | apply lt_ii | apply le_ii | apply gt_ii | apply ge_ii | apply eq_ii | apply ne_ii | apply eq_ss | apply mul_ii | exact okMul_small (by omega) (by omega) | exact mod_ii (by omega) | exact fdiv_ii (by omega) (by omega) | exact mod_ni (by omega) | exact fdiv_ni (by omega) (by omega) | exact pow_ii (by omega) (by omega) (by omega) | apply ix_tup | apply ix_lst | (simp only [List.set_cons_succ, List.set_cons_zero]; rfl) | exact rfl)
      exact ev_sNil
  · have hlt : decide (s1.i < ((s1.cells.map PV.int).length : Int)) = false := decide_eq_false (by rw [List.length_map]; exact hg)
    obtain ⟨r, hr⟩ := fillR_ok (k := s1.turn * 69621 + 12345) ok1 g1 (by omega)
    refine ⟨r, s1, ok1, ?_⟩
    (apply ev_seq; case' ha => ((first | apply ev_set | apply ev_par | apply ev_par3 | apply ev_asg | apply ev_ex | apply ev_ret | exact ev_sNil | apply ev_aug) <;> (repeat' first | exact ev_var rfl | exact ev_K | exact h3 | exact e1 | exact ev_aNil | apply ev_aCons | apply ev_d2 | apply ev_d1 | apply ev_dN | apply ev_dCall | apply ev_dTup | apply ev_dLst | apply ev_dLoc | apply ev_sl | exact ev_oNo | apply ev_oSo | apply ev_ch2b | apply ev_ch3b | apply ev_tB | apply ev_tTru | apply ev_tNo | apply ev_no | apply ev_dML | exact ev_tAll | apply ev_gTu | exact ev_gsN | apply ev_gsC | apply ev_gSb | apply ev_gNm | (simp only [List.length_cons, List.length_nil]; exact len_le (by decide)) | exact decide_eq_true (by omega) | exact decide_eq_false (by omega) | exact ne_t (by omega) | exact ne_f (by omega) | apply lt_ii | apply le_ii | apply gt_ii | apply ge_ii | apply eq_ii | apply ne_ii | apply eq_ss | apply mul_ii | exact okMul_small (by omega) (by omega) | exact mod_ii (by omega) | exact fdiv_ii (by omega) (by omega) | exact mod_ni (by omega) | exact fdiv_ni (by omega) (by omega) | exact pow_ii (by omega) (by omega) (by omega) | apply ix_tup | apply ix_lst | (simp only [List.set_cons_succ, List.set_cons_zero]; rfl) | exact rfl)))
    (apply ev_seq; case' ha => ((first | apply ev_set | apply ev_par | apply ev_par3 | apply ev_asg | apply ev_ex | apply ev_ret | exact ev_sNil | apply ev_aug) <;> (repeat' first | exact ev_var rfl | exact ev_K | exact g13 | exact ev_aNil | apply ev_aCons | apply ev_d2 | apply ev_d1 | apply ev_dN | apply ev_dCall | apply ev_dTup | apply ev_dLst | apply ev_dLoc | apply ev_sl | exact ev_oNo | apply ev_oSo | apply ev_ch2b | apply ev_ch3b | apply ev_tB | apply ev_tTru | apply ev_tNo | apply ev_no | apply ev_dML | exact ev_tAll | apply ev_gTu | exact ev_gsN | apply ev_gsC | apply ev_gSb | apply ev_gNm | (simp only [List.length_cons, List.length_nil]; exact len_le (by decide)) | exact decide_eq_true (by omega) | exact decide_eq_false (by omega) | exact ne_t (by omega) | exact ne_f (by omega) | apply lt_ii | apply le_ii | apply gt_ii | apply ge_ii | apply eq_ii | apply ne_ii | apply eq_ss | apply mul_ii | exact okMul_small (by omega) (by omega) | exact mod_ii (by omega) | exact fdiv_ii (by omega) (by omega) | exact mod_ni (by omega) | exact fdiv_ni (by omega) (by omega) | exact pow_ii (by omega) (by omega) (by omega) | apply ix_tup | apply ix_lst | (simp only [List.set_cons_succ, List.set_cons_zero]; rfl) | exact rfl)))
    apply ev_seq
    case hb => exact hr
    (apply ev_sIf_f; case' hc => (repeat' first | exact ev_var rfl | exact ev_K | exact g10 | exact g11 | exact hlt | exact lenL | exact ev_aNil | apply ev_aCons | apply ev_d2 | apply ev_d1 | apply ev_dN | apply ev_dCall | apply ev_dTup | apply ev_dLst | apply ev_dLoc | apply ev_sl | exact ev_oNo | apply ev_oSo | apply ev_ch2b | apply ev_ch3b | apply ev_tB | apply ev_tTru | apply ev_tNo | apply ev_no | apply ev_dML | exact ev_tAll | apply ev_gTu | exact ev_gsN | apply ev_gsC | apply ev_gSb | apply ev_gNm | (simp only [List.length_cons, List.length_nil]; exact len_le (by decide)) | exact decide_eq_true (by omega) | exact decide_eq_false (by omega) | exact ne_t (by omega) | exact ne_f (by omega) | apply lt_ii | apply le_ii | apply gt_ii | apply ge_ii | apply eq_ii | apply ne_ii | apply eq_ss | apply mul_ii | exact okMul_small (by omega) (by omega) | exact mod_ii (by omega) | exact fdiv_ii (by omega) (by omega) | exact mod_ni (by omega) | exact fdiv_ni (by omega) (by omega) | exact pow_ii (by omega) (by omega) (by omega) | apply ix_tup | apply ix_lst | (simp only [List.set_cons_succ, List.set_cons_zero]; rfl) | exact rfl))
    exact ev_sNil
/-! ### take -/
def FillOk (p : Fn) : Prop := ∀ (s : Dr) (n : Nat) (μ : Sto) (l : Nat), s.Ok (n + 1) → μ[l]? = some s.ob → ∃ (k : Int) (s' : Dr), s'.Ok n ∧ p [.loc l] μ = some (.int k, μ.set l s'.ob)
theorem fillOk1 : FillOk (runF 2 dFill) := fun s n μ l ok h => by
  obtain ⟨k, s', ok', e⟩ := fill_ok ok h
  exact ⟨k, s', ok', runF_rt rfl e⟩
theorem fillOk2 : FillOk (runF 2 dFill2) := fun s n μ l ok h => by
  obtain ⟨k, s', ok', e⟩ := fill2_ok ok h
  exact ⟨k, s', ok', runF_rt rfl e⟩
def dTake (p__law_fill : Fn) : DenS :=
  (sSeq (sIf (tB1 (d2 f_lt (d2 f_ix (cVar 0) (cK (.int 2))) (cVar 1))) (sAsg (dCall 1 p__law_fill (aCons (cVar 0) aNil)) (gSb (cVar 0) (cK (.int 2)))) sNil)
  (sSeq (sAsg (d2 f_mod (dN f_int (aCons (d2 f_ix (cVar 0) (cK (.int 2))) aNil)) (cVar 1)) (gNm 2))
  (sSeq (sAsg (d2 f_fdiv (d2 f_ix (cVar 0) (cK (.int 2))) (cVar 1)) (gSb (cVar 0) (cK (.int 2))))
  (sRet (cVar 2)))))
/-- what a drawing gives: some digit, the list in its place turned on -/
def TakeOk (p : Fn) : Prop := ∀ (s : Dr) (n : Nat) (μ : Sto) (l : Nat) (many : Int), s.Ok (n + 1) → μ[l]? = some s.ob → 0 < many → many < 2 ^ 99 → ∃ (d : Int) (s' : Dr), 0 ≤ d ∧ d < many ∧ s'.Ok n ∧ p [.loc l, .int many] μ = some (.int d, μ.set l s'.ob)
theorem takeOk {p : Fn} (hp : FillOk p) : TakeOk (runF 3 (dTake p)) := fun s n μ l many ok h hm hm2 => by
  have h2 := dr_ix2 h
  suffices hh : ∃ s1 : Dr, s1.Ok n ∧ sIf (tB1 (d2 f_lt (d2 f_ix (cVar 0) (cK (.int 2))) (cVar 1))) (sAsg (dCall 1 p (aCons (cVar 0) aNil)) (gSb (cVar 0) (cK (.int 2)))) sNil [some (.loc l), some (.int many), none] μ = some (.nx [some (.loc l), some (.int many), none] (μ.set l s1.ob)) by
    obtain ⟨s1, ok1, e⟩ := hh
    have g : (μ.set l s1.ob)[l]? = some s1.ob := dr_get h
    have g2 := dr_ix2 g
    let s2 : Dr := { s1 with acc := s1.acc / many }
    have e2 : f_set (.loc l) (.int 2) (.int (s1.acc / many)) (μ.set l s1.ob) = some (μ.set l s2.ob) := by
      have := dr_set2 (v := s1.acc / many) g
      rw [List.set_set] at this
      exact this
    refine ⟨s1.acc % many, s2, Int.emod_nonneg _ (by omega), Int.emod_lt_of_pos _ hm, ⟨ok1.i0, ok1.t0, ok1.tn, ok1.cl⟩, ?_⟩
    refine runF_rt (ρ := [some (.loc l), some (.int many), none]) rfl ?_
    apply ev_seq e
    (apply ev_seq; case' ha => ((first | apply ev_set | apply ev_par | apply ev_par3 | apply ev_asg | apply ev_ex | apply ev_ret | exact ev_sNil | apply ev_aug) <;> (repeat' first | exact ev_var rfl | exact ev_K | exact g2 | exact ev_aNil | apply ev_aCons | apply ev_d2 | apply ev_d1 | apply ev_dN | apply ev_dCall | apply ev_dTup | apply ev_dLst | apply ev_dLoc | apply ev_sl | exact ev_oNo | apply ev_oSo | apply ev_ch2b | apply ev_ch3b | apply ev_tB | apply ev_tTru | apply ev_tNo | apply ev_no | apply ev_dML | exact ev_tAll | apply ev_gTu | exact ev_gsN | apply ev_gsC | apply ev_gSb | apply ev_gNm | (simp only [List.length_cons, List.length_nil]; exact len_le (by decide)) | exact decide_eq_true (by omega) | exact decide_eq_false (by omega) | exact ne_t (by omega) | exact ne_f (by omega) | apply lt_ii | apply le_ii | apply gt_ii | apply ge_ii | apply eq_ii | apply ne_ii | apply eq_ss | apply mul_ii | exact okMul_small (by omega) (by omega) | exact mod_ii (by omega) | exact fdiv_ii (by omega) (by omega) | exact mod_ni (by omega) | exact fdiv_ni (by omega) (by omega) | exact pow_ii (by omega) (by omega) (by omega) | apply ix_tup | apply ix_lst | (simp only [List.set_cons_succ, List.set_cons_zero]; rfl) | exact rfl)))
    (apply ev_seq; case' ha => ((first | apply ev_set | apply ev_par | apply ev_par3 | apply ev_asg | apply ev_ex | apply ev_ret | exact ev_sNil | apply ev_aug) <;> (repeat' first | exact ev_var rfl | exact ev_K | exact g2 | exact e2 | exact ev_aNil | apply ev_aCons | apply ev_d2 | apply ev_d1 | apply ev_dN | apply ev_dCall | apply ev_dTup | apply ev_dLst | apply ev_dLoc | apply ev_sl | exact ev_oNo | apply ev_oSo | apply ev_ch2b | apply ev_ch3b | apply ev_tB | apply ev_tTru | apply ev_tNo | apply ev_no | apply ev_dML | exact ev_tAll | apply ev_gTu | exact ev_gsN | apply ev_gsC | apply ev_gSb | apply ev_gNm | (simp only [List.length_cons, List.length_nil]; exact len_le (by decide)) | exact decide_eq_true (by omega) | exact decide_eq_false (by omega) | exact ne_t (by omega) | exact ne_f (by omega) | apply lt_ii | apply le_ii | apply gt_ii | apply ge_ii | apply eq_ii | apply ne_ii | apply eq_ss | apply mul_ii | exact okMul_small (by omega) (by omega) | exact mod_ii (by omega) | exact fdiv_ii (by omega) (by omega) | exact mod_ni (by omega) | exact fdiv_ni (by omega) (by omega) | exact pow_ii (by omega) (by omega) (by omega) | apply ix_tup | apply ix_lst | (simp only [List.set_cons_succ, List.set_cons_zero]; rfl) | exact rfl)))
    ((first | apply ev_set | apply ev_par | apply ev_par3 | apply ev_asg | apply ev_ex | apply ev_ret | exact ev_sNil | apply ev_aug) <;> (repeat' first | exact ev_var rfl | exact ev_K | exact ev_aNil | apply ev_aCons | apply ev_d2 | apply ev_d1 | apply ev_dN | apply ev_dCall | apply ev_dTup | apply ev_dLst | apply ev_dLoc | apply ev_sl | exact ev_oNo | apply ev_oSo | apply ev_ch2b | apply ev_ch3b | apply ev_tB | apply ev_tTru | apply ev_tNo | apply ev_no | apply ev_dML | exact ev_tAll | apply ev_gTu | exact ev_gsN | apply ev_gsC | apply ev_gSb | apply ev_gNm | (simp only [List.length_cons, List.length_nil]; exact len_le (by decide)) | exact decide_eq_true (by omega) | exact decide_eq_false (by omega) | exact ne_t (by omega) | exact ne_f (by omega) | apply lt_ii | apply le_ii | apply gt_ii | apply ge_ii | apply eq_ii | apply ne_ii | apply eq_ss | apply mul_ii | exact okMul_small (by omega) (by omega) | exact mod_ii (by omega) | exact fdiv_ii (by omega) (by omega) | exact mod_ni (by omega) | exact fdiv_ni (by omega) (by omega) | exact pow_ii (by omega) (by omega) (by omega) | apply ix_tup | apply ix_lst | (simp only [List.set_cons_succ, List.set_cons_zero]; rfl) | exact rfl))
  by_cases hlt : s.acc < many
  · obtain ⟨k, s1, ok1, e⟩ := hp s n μ l ok h
    have g : (μ.set l s1.ob)[l]? = some s1.ob := dr_get h
    let s2 : Dr := { s1 with acc := k }
    have e2 : f_set (.loc l) (.int 2) (.int k) (μ.set l s1.ob) = some (μ.set l s2.ob) := by
      have := dr_set2 (v := k) g
      rw [List.set_set] at this
      exact this
    refine ⟨s2, ⟨ok1.i0, ok1.t0, ok1.tn, ok1.cl⟩, ?_⟩
    (apply ev_sIf_t; case' hc => (repeat' first | exact ev_var rfl | exact ev_K | exact h2 | exact ev_aNil | apply ev_aCons | apply ev_d2 | apply ev_d1 | apply ev_dN | apply ev_dCall | apply ev_dTup | apply ev_dLst | apply ev_dLoc | apply ev_sl | exact ev_oNo | apply ev_oSo | apply ev_ch2b | apply ev_ch3b | apply ev_tB | apply ev_tTru | apply ev_tNo | apply ev_no | apply ev_dML | exact ev_tAll | apply ev_gTu | exact ev_gsN | apply ev_gsC | apply ev_gSb | apply ev_gNm | (simp only [List.length_cons, List.length_nil]; exact len_le (by decide)) | exact decide_eq_true (by omega) | exact decide_eq_false (by omega) | exact ne_t (by omega) | exact ne_f (by omega) | apply lt_ii | apply le_ii | apply gt_ii | apply ge_ii | apply eq_ii | apply ne_ii | apply eq_ss | apply mul_ii | exact okMul_small (by omega) (by omega) | exact mod_ii (by omega) | exact fdiv_ii (by omega) (by omega) | exact mod_ni (by omega) | exact fdiv_ni (by omega) (by omega) | exact pow_ii (by omega) (by omega) (by omega) | apply ix_tup | apply ix_lst | (simp only [List.set_cons_succ, List.set_cons_zero]; rfl) | exact rfl))
    ((first | apply ev_set | apply ev_par | apply ev_par3 | apply ev_asg | apply ev_ex | apply ev_ret | exact ev_sNil | apply ev_aug) <;> (repeat' first | exact ev_var rfl | exact ev_K | exact e | exact e2 | exact ev_aNil | apply ev_aCons | apply ev_d2 | apply ev_d1 | apply ev_dN | apply ev_dCall | apply ev_dTup | apply ev_dLst | apply ev_dLoc | apply ev_sl | exact ev_oNo | apply ev_oSo | apply ev_ch2b | apply ev_ch3b | apply ev_tB | apply ev_tTru | apply ev_tNo | apply ev_no | apply ev_dML | exact ev_tAll | apply ev_gTu | exact ev_gsN | apply ev_gsC | apply ev_gSb | apply ev_gNm | (simp only [List.length_cons, List.length_nil]; exact len_le (by decide)) | exact decide_eq_true (by omega) | exact decide_eq_false (by omega) | exact ne_t (by omega) | exact ne_f (by omega) | apply lt_ii | apply le_ii | apply gt_ii | apply ge_ii | apply eq_ii | apply ne_ii | apply eq_ss | apply mul_ii | exact okMul_small (by omega) (by omega) | exact mod_ii (by omega) | exact fdiv_ii (by omega) (by omega) | exact mod_ni (by omega) | exact fdiv_ni (by omega) (by omega) | exact pow_ii (by omega) (by omega) (by omega) | apply ix_tup | apply ix_lst | (simp only [List.set_cons_succ, List.set_cons_zero]; rfl) | exact rfl))
  · refine ⟨s, ok.le (by omega), ?_⟩
    have : μ.set l s.ob = μ := by
      apply List.ext_getElem?
      intro i
      by_cases hi : l = i
      · subst hi; rw [dr_get h, h]
      · rw [List.getElem?_set_ne hi]
    rw [this]
    (apply ev_sIf_f; case' hc => (repeat' first | exact ev_var rfl | exact ev_K | exact h2 | exact ev_aNil | apply ev_aCons | apply ev_d2 | apply ev_d1 | apply ev_dN | apply ev_dCall | apply ev_dTup | apply ev_dLst | apply ev_dLoc | apply ev_sl | exact ev_oNo | apply ev_oSo | apply ev_ch2b | apply ev_ch3b | apply ev_tB | apply ev_tTru | apply ev_tNo | apply ev_no | apply ev_dML | exact ev_tAll | apply ev_gTu | exact ev_gsN | apply ev_gsC | apply ev_gSb | apply ev_gNm | (simp only [List.length_cons, List.length_nil]; exact len_le (by decide)) | exact decide_eq_true (by omega) | exact decide_eq_false (by omega) | exact ne_t (by omega) | exact ne_f (by omega) | apply lt_ii | apply le_ii | apply gt_ii | apply ge_ii | apply eq_ii | apply ne_ii | apply eq_ss | apply mul_ii | exact okMul_small (by omega) (by omega) | exact mod_ii (by omega) | exact fdiv_ii (by omega) (by omega) | exact mod_ni (by omega) | exact fdiv_ni (by omega) (by omega) | exact pow_ii (by omega) (by omega) (by omega) | apply ix_tup | apply ix_lst | (simp only [List.set_cons_succ, List.set_cons_zero]; rfl) | exact rfl))
    exact ev_sNil
/-! ### start -/
noncomputable def dStart : DenS :=
  (sRet (dLoc (aCons (dLc [1] (itSeq (dSl (cVar 0) oNo (oSo (cK (.int 63))))) (gNm 1) tAll (dN f_int (aCons (cVar 1) aNil))) (aCons (cK (.int 0)) (aCons (cK (.int 0)) (aCons (cK (.int 0)) (aCons (cK (.int 20)) aNil)))))))
theorem start_ok {ns : List Int} {μ : Sto} (hn : ns.length ≤ 63) : ∃ s : Dr, s.Ok (2 ^ 59) ∧ runF 2 dStart [.scr ns] μ = some (.loc μ.length, μ ++ [s.ob]) := by
  let cs : List Int := cutP ns none (some 63)
  have hc : cs.length ≤ 63 := by
    show (cutP ns none (some 63)).length ≤ 63
    unfold cutP
    rw [List.length_take, List.length_drop]
    omega
  have hit : itSeq (dSl (cVar 0) oNo (oSo (cK (.int 63)))) [some (.scr ns), none] μ = some ((cs.map PV.int, []), μ) := by
    apply it_lst
    (repeat' first | exact ev_var rfl | exact ev_K | exact ev_aNil | apply ev_aCons | apply ev_d2 | apply ev_d1 | apply ev_dN | apply ev_dCall | apply ev_dTup | apply ev_dLst | apply ev_dLoc | apply ev_sl | exact ev_oNo | apply ev_oSo | apply ev_ch2b | apply ev_ch3b | apply ev_tB | apply ev_tTru | apply ev_tNo | apply ev_no | apply ev_dML | exact ev_tAll | apply ev_gTu | exact ev_gsN | apply ev_gsC | apply ev_gSb | apply ev_gNm | (simp only [List.length_cons, List.length_nil]; exact len_le (by decide)) | exact decide_eq_true (by omega) | exact decide_eq_false (by omega) | exact ne_t (by omega) | exact ne_f (by omega) | apply lt_ii | apply le_ii | apply gt_ii | apply ge_ii | apply eq_ii | apply ne_ii | apply eq_ss | apply mul_ii | exact okMul_small (by omega) (by omega) | exact mod_ii (by omega) | exact fdiv_ii (by omega) (by omega) | exact mod_ni (by omega) | exact fdiv_ni (by omega) (by omega) | exact pow_ii (by omega) (by omega) (by omega) | apply ix_tup | apply ix_lst | (simp only [List.set_cons_succ, List.set_cons_zero]; rfl) | exact rfl)
  have hl : dLc [1] (itSeq (dSl (cVar 0) oNo (oSo (cK (.int 63))))) (gNm 1) tAll (dN f_int (aCons (cVar 1) aNil)) [some (.scr ns), none] μ = some (.lst (cs.map PV.int), μ) := by
    refine ev_lc hit rfl ?_
    have := lc_all (ρ := wipeE [some (.scr ns), none] [1]) (μ := μ) (g := gNm 1) (t := tAll) (e := dN f_int (aCons (cVar 1) aNil)) (ch := []) (fun _ => true) id (cs.map PV.int) [] chk_nil (Nat.le_of_lt (small1000 (by rw [List.length_map]; show 0 + _ ≤ _; omega))) (fun x hx => by
      obtain ⟨i, _, rfl⟩ := List.mem_map.mp hx
      exact ⟨[some (.scr ns), some (.int i)], rfl, rfl, fun _ => rfl⟩)
    rw [this, List.filter_eq_self.mpr (fun _ _ => rfl), List.map_id, List.nil_append]
  refine ⟨⟨cs, 0, 0, 0⟩, ⟨Int.le_refl _, Int.le_refl _, by show (0 : Int) + ((2 ^ 59 : Nat) : Int) ≤ 2 ^ 60; decide, hc⟩, ?_⟩
  refine runF_rt (ρ := [some (.scr ns), none]) rfl ?_
  ((first | apply ev_set | apply ev_par | apply ev_par3 | apply ev_asg | apply ev_ex | apply ev_ret | exact ev_sNil | apply ev_aug) <;> (repeat' first | exact ev_var rfl | exact ev_K | exact hl | exact ev_aNil | apply ev_aCons | apply ev_d2 | apply ev_d1 | apply ev_dN | apply ev_dCall | apply ev_dTup | apply ev_dLst | apply ev_dLoc | apply ev_sl | exact ev_oNo | apply ev_oSo | apply ev_ch2b | apply ev_ch3b | apply ev_tB | apply ev_tTru | apply ev_tNo | apply ev_no | apply ev_dML | exact ev_tAll | apply ev_gTu | exact ev_gsN | apply ev_gsC | apply ev_gSb | apply ev_gNm | (simp only [List.length_cons, List.length_nil]; exact len_le (by decide)) | exact decide_eq_true (by omega) | exact decide_eq_false (by omega) | exact ne_t (by omega) | exact ne_f (by omega) | apply lt_ii | apply le_ii | apply gt_ii | apply ge_ii | apply eq_ii | apply ne_ii | apply eq_ss | apply mul_ii | exact okMul_small (by omega) (by omega) | exact mod_ii (by omega) | exact fdiv_ii (by omega) (by omega) | exact mod_ni (by omega) | exact fdiv_ni (by omega) (by omega) | exact pow_ii (by omega) (by omega) (by omega) | apply ix_tup | apply ix_lst | (simp only [List.set_cons_succ, List.set_cons_zero]; rfl) | exact rfl))
  exact len_ok (n := 5) rfl (by decide)
end Fd

/-! FdM: the laws' own helpers for papers: is_int, alike, spoilt, bent. -/
namespace Fd
open PySem PySem.Spec PyProof.Rows L2
theorem atI_some {α : Type} {xs : List α} {i : Int} (h0 : 0 ≤ i) (h : i < xs.length) : ∃ v ∈ xs, L2.atI xs i = some v := by
  obtain ⟨m, hm⟩ := Int.eq_ofNat_of_zero_le h0
  subst hm
  have hm : m < xs.length := by omega
  exact ⟨xs[m], List.getElem_mem hm, L2.atI_nat (by simp [hm])⟩
theorem set_back {μ : Sto} {l : Nat} {o : Ob} (h : μ[l]? = some o) : μ.set l o = μ := by
  apply List.ext_getElem?
  intro i
  by_cases hi : l = i
  · subst hi; rw [dr_get h, h]
  · rw [List.getElem?_set_ne hi]
/-! ### trees: no places of the store, at most n items each, at most d deep -/
mutual
def tre (n : Nat) : PV → Nat → Bool
  | .non, _ => true
  | .bl _, _ => true
  | .int _, _ => true
  | .str x, _ => PyData.strOk x
  | .tup xs, d => match d with
    | 0 => false
    | d + 1 => decide (xs.length ≤ n) && tres n xs d
  | .lst xs, d => match d with
    | 0 => false
    | d + 1 => decide (xs.length ≤ n) && tres n xs d
  | .loc _, _ => false
  | .scr _, _ => false
def tres (n : Nat) : List PV → Nat → Bool
  | [], _ => true
  | x :: xs, d => tre n x d && tres n xs d
end
theorem tres_iff {n d : Nat} : ∀ {xs : List PV}, tres n xs d = true ↔ ∀ x ∈ xs, tre n x d = true
  | [] => ⟨fun _ => (fun _ h => nomatch h), fun _ => rfl⟩
  | x :: xs => by
    show (tre n x d && tres n xs d) = true ↔ _
    rw [Bool.and_eq_true, tres_iff, List.forall_mem_cons]
theorem tre_tup {n d : Nat} {xs : List PV} : tre n (.tup xs) (d + 1) = true ↔ xs.length ≤ n ∧ ∀ x ∈ xs, tre n x d = true := by
  show (decide (xs.length ≤ n) && tres n xs d) = true ↔ _
  rw [Bool.and_eq_true, tres_iff, decide_eq_true_eq]
theorem tre_lst {n d : Nat} {xs : List PV} : tre n (.lst xs) (d + 1) = true ↔ xs.length ≤ n ∧ ∀ x ∈ xs, tre n x d = true := by
  show (decide (xs.length ≤ n) && tres n xs d) = true ↔ _
  rw [Bool.and_eq_true, tres_iff, decide_eq_true_eq]
mutual
theorem tre_mono {n m : Nat} (h : n ≤ m) : ∀ (x : PV) (d : Nat), tre n x d = true → tre m x d = true
  | .non, _, _ => rfl
  | .bl _, _, _ => rfl
  | .int _, _, _ => rfl
  | .str x, _, q => q
  | .tup xs, 0, q => nomatch q
  | .lst xs, 0, q => nomatch q
  | .tup xs, d + 1, q => by
    have q : (decide (xs.length ≤ n) && tres n xs d) = true := q
    show (decide (xs.length ≤ m) && tres m xs d) = true
    rw [Bool.and_eq_true, decide_eq_true_eq] at q ⊢
    exact ⟨Nat.le_trans q.1 h, tres_mono h xs d q.2⟩
  | .lst xs, d + 1, q => by
    have q : (decide (xs.length ≤ n) && tres n xs d) = true := q
    show (decide (xs.length ≤ m) && tres m xs d) = true
    rw [Bool.and_eq_true, decide_eq_true_eq] at q ⊢
    exact ⟨Nat.le_trans q.1 h, tres_mono h xs d q.2⟩
  | .loc _, _, q => nomatch q
  | .scr _, _, q => nomatch q
theorem tres_mono {n m : Nat} (h : n ≤ m) : ∀ (xs : List PV) (d : Nat), tres n xs d = true → tres m xs d = true
  | [], _, _ => rfl
  | x :: xs, d, q => by
    have q : (tre n x d && tres n xs d) = true := q
    show (tre m x d && tres m xs d) = true
    rw [Bool.and_eq_true] at q ⊢
    exact ⟨tre_mono h x d q.1, tres_mono h xs d q.2⟩
end
mutual
theorem tre_pok {n : Nat} : ∀ (x : PV) (d : Nat), tre n x d = true → pok x d = true
  | .non, _, _ => rfl
  | .bl _, _, _ => rfl
  | .int _, _, _ => rfl
  | .str x, _, q => q
  | .tup xs, 0, q => nomatch q
  | .lst xs, 0, q => nomatch q
  | .tup xs, d + 1, q => by
    have q : (decide (xs.length ≤ n) && tres n xs d) = true := q
    rw [Bool.and_eq_true] at q
    exact tres_pok xs d q.2
  | .lst xs, d + 1, q => by
    have q : (decide (xs.length ≤ n) && tres n xs d) = true := q
    rw [Bool.and_eq_true] at q
    exact tres_pok xs d q.2
  | .loc _, _, q => nomatch q
  | .scr _, _, q => nomatch q
theorem tres_pok {n : Nat} : ∀ (xs : List PV) (d : Nat), tres n xs d = true → poks xs d = true
  | [], _, _ => rfl
  | x :: xs, d, q => by
    have q : (tre n x d && tres n xs d) = true := q
    show (pok x d && poks xs d) = true
    rw [Bool.and_eq_true] at q ⊢
    exact ⟨tre_pok x d q.1, tres_pok xs d q.2⟩
end
mutual
theorem tre_deep {n : Nat} : ∀ (x : PV) (d e : Nat), d ≤ e → tre n x d = true → tre n x e = true
  | .non, _, _, _, _ => rfl
  | .bl _, _, _, _, _ => rfl
  | .int _, _, _, _, _ => rfl
  | .str x, _, _, _, q => q
  | .tup xs, 0, _, _, q => nomatch q
  | .lst xs, 0, _, _, q => nomatch q
  | .tup xs, d + 1, 0, h, _ => absurd h (by omega)
  | .lst xs, d + 1, 0, h, _ => absurd h (by omega)
  | .tup xs, d + 1, e + 1, h, q => by
    have q : (decide (xs.length ≤ n) && tres n xs d) = true := q
    show (decide (xs.length ≤ n) && tres n xs e) = true
    rw [Bool.and_eq_true] at q ⊢
    exact ⟨q.1, tres_deep xs d e (by omega) q.2⟩
  | .lst xs, d + 1, e + 1, h, q => by
    have q : (decide (xs.length ≤ n) && tres n xs d) = true := q
    show (decide (xs.length ≤ n) && tres n xs e) = true
    rw [Bool.and_eq_true] at q ⊢
    exact ⟨q.1, tres_deep xs d e (by omega) q.2⟩
  | .loc _, _, _, _, q => nomatch q
  | .scr _, _, _, _, q => nomatch q
theorem tres_deep {n : Nat} : ∀ (xs : List PV) (d e : Nat), d ≤ e → tres n xs d = true → tres n xs e = true
  | [], _, _, _, _ => rfl
  | x :: xs, d, e, h, q => by
    have q : (tre n x d && tres n xs d) = true := q
    show (tre n x e && tres n xs e) = true
    rw [Bool.and_eq_true] at q ⊢
    exact ⟨tre_deep x d e h q.1, tres_deep xs d e h q.2⟩
end
theorem tre_len {n d : Nat} {xs : List PV} (h : tre n (.tup xs) d = true) : xs.length ≤ n := by
  cases d with
  | zero => cases h
  | succ d => exact (tre_tup.mp h).1
theorem sz {n : Nat} (h : n ≤ 1000) : n ≤ sizeLine := Nat.le_of_lt (small1000 h)
theorem mem_cut {xs : List PV} {lo hi : Option Int} {x : PV} (h : x ∈ cutP xs lo hi) : x ∈ xs := List.mem_of_mem_drop (List.mem_of_mem_take h)
theorem len_cut {xs : List PV} {lo hi : Option Int} : (cutP xs lo hi).length ≤ xs.length := by
  unfold cutP; rw [List.length_take, List.length_drop]; omega
theorem tre_cut {n d : Nat} {xs : List PV} {lo hi : Option Int} (h : tre n (.tup xs) d = true) : tre n (.tup (cutP xs lo hi)) d = true := by
  cases d with
  | zero => cases h
  | succ d =>
    have h := tre_tup.mp h
    exact tre_tup.mpr ⟨Nat.le_trans len_cut h.1, fun x hx => h.2 x (mem_cut hx)⟩
theorem tre_app {n m d : Nat} {xs ys : List PV} (h : tre n (.tup xs) (d + 1) = true) (h2 : ∀ y ∈ ys, tre m y d = true) (hn : n ≤ m) (hl : xs.length + ys.length ≤ m) : tre m (.tup (xs ++ ys)) (d + 1) = true := by
  have h := tre_tup.mp (tre_mono hn _ _ h)
  refine tre_tup.mpr ⟨by rw [List.length_append]; exact hl, fun x hx => ?_⟩
  rcases List.mem_append.mp hx with q | q
  · exact h.2 x q
  · exact h2 x q
theorem add_tt {xs ys : List PV} {μ : Sto} (h : xs.length + ys.length ≤ 1000) : f_add (.tup xs) (.tup ys) μ = some (.tup (xs ++ ys), μ) := by
  show (if _ then _ else _) = _
  rw [if_pos (sz h)]
theorem sl_t {xs : List PV} {lo hi : Option Int} {μ : Sto} : f_sl lo hi (.tup xs) μ = some (.tup (cutP xs lo hi), μ) := rfl

theorem sif_true {c : DenT} {a b : DenS} {ρ : En} {μ μ1 : Sto} (h : c ρ μ = some (true, μ1)) : sIf c a b ρ μ = a ρ μ1 := by unfold sIf; rw [h]; rfl
/-! ### spoilt -/
noncomputable def dSpoilt (p__law_take : Fn) (p__law_spoilt : Fn) : DenS :=
  (sSeq (sIf (tTru (d1 (f_isi .str) (cVar 1))) (sRet (d2 f_ix (dLst (aCons (cK (.str (Str.ofString ""))) (aCons (cK (.str (Str.ofString "joined"))) (aCons (cK (.str (Str.ofString "apart"))) (aCons (cK (.str (Str.ofString "prime"))) (aCons (cK (.str (Str.ofString "factors"))) (aCons (cK (.str (Str.ofString "order"))) (aCons (cK (.str (Str.ofString "none"))) (aCons (cK (.str (Str.ofString "square"))) (aCons (cK (.str (Str.ofString "parts"))) (aCons (cK (.str (Str.ofString "same"))) (aCons (cK (.str (Str.ofString "norm"))) aNil)))))))))))) (dCall 2 p__law_take (aCons (cVar 0) (aCons (cK (.int 11)) aNil))))) sNil)
  (sSeq (sIf (tNo (tTru (d1 (f_isi .tuple) (cVar 1)))) (sRet (d2 f_ix (dLst (aCons (cK (.int 0)) (aCons (cK (.int 1)) (aCons (cK (.int 2)) (aCons (d1 f_neg (cK (.int 1))) (aCons (cK (.bl true)) (aCons (cK .non) (aCons (cK (.int 3)) aNil)))))))) (dCall 2 p__law_take (aCons (cVar 0) (aCons (cK (.int 7)) aNil))))) sNil)
  (sSeq (sIf (tOr' (tNo (tTru (cVar 1))) (tB1 (d2 f_eq (dCall 2 p__law_take (aCons (cVar 0) (aCons (cK (.int 5)) aNil))) (cK (.int 0))))) (sRet (d2 f_ix (dLst (aCons (dSl (cVar 1) (oSo (cK (.int 1))) oNo) (aCons (dSl (cVar 1) oNo (oSo (d1 f_neg (cK (.int 1))))) (aCons (d2 f_add (cVar 1) (dSl (cVar 1) (oSo (d1 f_neg (cK (.int 1)))) oNo)) (aCons (d2 f_rev (cVar 1) (d1 f_neg (cK (.int 1)))) (aCons (dN f_list (aCons (cVar 1) aNil)) (aCons (d2 f_add (cVar 1) (dTup (aCons (cK (.int 0)) aNil))) (aCons (dTup aNil) (aCons (dTup (aCons (cK (.int 1)) (aCons (cK (.int 0)) aNil))) aNil))))))))) (dCall 2 p__law_take (aCons (cVar 0) (aCons (cK (.int 8)) aNil))))) sNil)
  (sSeq (sAsg (dCall 2 p__law_take (aCons (cVar 0) (aCons (dN f_len (aCons (cVar 1) aNil)) aNil))) (gNm 2))
  (sRet (d2 f_add (d2 f_add (dSl (cVar 1) oNo (oSo (cVar 2))) (dTup (aCons (dCall 2 p__law_spoilt (aCons (cVar 0) (aCons (d2 f_ix (cVar 1) (cVar 2)) aNil))) aNil))) (dSl (cVar 1) (oSo (d2 f_add (cVar 2) (cK (.int 1)))) oNo)))))))
noncomputable def pSpoilt (pt : Fn) : Nat → Fn
  | 0 => fun _ _ => none
  | k + 1 => runF 3 (dSpoilt pt (pSpoilt pt k))
def cutStrs : List PV := [.str (Str.ofString ""), .str (Str.ofString "joined"), .str (Str.ofString "apart"), .str (Str.ofString "prime"), .str (Str.ofString "factors"), .str (Str.ofString "order"), .str (Str.ofString "none"), .str (Str.ofString "square"), .str (Str.ofString "parts"), .str (Str.ofString "same"), .str (Str.ofString "norm")]
theorem cutStrs_ok (n d : Nat) : ∀ x ∈ cutStrs, tre n x d = true := by
  rw [← tres_iff]
  simp only [cutStrs, tres, tre, Bool.and_true]
  decide +kernel
theorem spoilt_flat {pt : Fn} (ht : TakeOk pt) (j d n m : Nat) (x : PV) (s : Dr) (μ : Sto) (l : Nat) (hx : tre n x 0 = true) (ok : s.Ok (m + 1)) (h : μ[l]? = some s.ob) :
    ∃ (y : PV) (s' : Dr), tre (2 * n + 2) y d = true ∧ s'.Ok m ∧ pSpoilt pt (j + 1) [.loc l, x] μ = some (y, μ.set l s'.ob) := by
  have atom : tTru (d1 (f_isi .tuple) (cVar 1)) [some (.loc l), some x, none] μ = some (false, μ) → tTru (d1 (f_isi .str) (cVar 1)) [some (.loc l), some x, none] μ = some (false, μ) →
      ∃ (y : PV) (s' : Dr), tre (2 * n + 2) y d = true ∧ s'.Ok m ∧ pSpoilt pt (j + 1) [.loc l, x] μ = some (y, μ.set l s'.ob) := fun h1 h2 => by
    obtain ⟨k, s', k0, k1, ok', e⟩ := ht s m μ l 7 ok h (by decide) (by decide)
    obtain ⟨y, hy, ey⟩ := atI_some (xs := [PV.int 0, .int 1, .int 2, .int (-1), .bl true, .non, .int 3]) k0 k1
    refine ⟨y, s', ?_, ok'.le (by omega), ?_⟩
    · have : ∀ z ∈ [PV.int 0, .int 1, .int 2, .int (-1), .bl true, .non, .int 3], tre (2 * n + 2) z d = true := by rw [← tres_iff]; rfl
      exact this y hy
    · refine runF_rt (ρ := [some (.loc l), some x, none]) rfl ?_
      apply ev_seq
      case ha => exact ev_sIf_f h2 ev_sNil
      apply ev_seq_rt
      apply ev_sIf_t
      case hc => exact ev_tNo h1 rfl
      ((first | apply ev_set | apply ev_par | apply ev_par3 | apply ev_asg | apply ev_ex | apply ev_ret | exact ev_sNil | apply ev_aug) <;> (repeat' first | exact ev_var rfl | exact ev_K | exact e | exact ey | exact ev_aNil | apply ev_aCons | apply ev_d2 | apply ev_d1 | apply ev_dN | apply ev_dCall | apply ev_dTup | apply ev_dLst | apply ev_dLoc | apply ev_sl | exact ev_oNo | apply ev_oSo | apply ev_ch2b | apply ev_ch3b | apply ev_tB | apply ev_tTru | apply ev_tNo | apply ev_no | apply ev_dML | exact ev_tAll | apply ev_gTu | exact ev_gsN | apply ev_gsC | apply ev_gSb | apply ev_gNm | (simp only [List.length_cons, List.length_nil]; exact len_le (by decide)) | exact decide_eq_true (by omega) | exact decide_eq_false (by omega) | exact ne_t (by omega) | exact ne_f (by omega) | apply lt_ii | apply le_ii | apply gt_ii | apply ge_ii | apply eq_ii | apply ne_ii | apply eq_ss | apply mul_ii | exact okMul_small (by omega) (by omega) | exact mod_ii (by omega) | exact fdiv_ii (by omega) (by omega) | exact mod_ni (by omega) | exact fdiv_ni (by omega) (by omega) | exact pow_ii (by omega) (by omega) (by omega) | apply ix_tup | apply ix_lst | (simp only [List.set_cons_succ, List.set_cons_zero]; rfl) | exact rfl))
  cases x with
  | str z =>
    obtain ⟨k, s', k0, k1, ok', e⟩ := ht s m μ l 11 ok h (by decide) (by decide)
    obtain ⟨y, hy, ey⟩ := atI_some (xs := cutStrs) k0 k1
    refine ⟨y, s', cutStrs_ok _ _ y hy, ok'.le (by omega), ?_⟩
    refine runF_rt (ρ := [some (.loc l), some (.str z), none]) rfl ?_
    apply ev_seq_rt
    (apply ev_sIf_t; case' hc => (repeat' first | exact ev_var rfl | exact ev_K | exact ev_aNil | apply ev_aCons | apply ev_d2 | apply ev_d1 | apply ev_dN | apply ev_dCall | apply ev_dTup | apply ev_dLst | apply ev_dLoc | apply ev_sl | exact ev_oNo | apply ev_oSo | apply ev_ch2b | apply ev_ch3b | apply ev_tB | apply ev_tTru | apply ev_tNo | apply ev_no | apply ev_dML | exact ev_tAll | apply ev_gTu | exact ev_gsN | apply ev_gsC | apply ev_gSb | apply ev_gNm | (simp only [List.length_cons, List.length_nil]; exact len_le (by decide)) | exact decide_eq_true (by omega) | exact decide_eq_false (by omega) | exact ne_t (by omega) | exact ne_f (by omega) | apply lt_ii | apply le_ii | apply gt_ii | apply ge_ii | apply eq_ii | apply ne_ii | apply eq_ss | apply mul_ii | exact okMul_small (by omega) (by omega) | exact mod_ii (by omega) | exact fdiv_ii (by omega) (by omega) | exact mod_ni (by omega) | exact fdiv_ni (by omega) (by omega) | exact pow_ii (by omega) (by omega) (by omega) | apply ix_tup | apply ix_lst | (simp only [List.set_cons_succ, List.set_cons_zero]; rfl) | exact rfl))
    ((first | apply ev_set | apply ev_par | apply ev_par3 | apply ev_asg | apply ev_ex | apply ev_ret | exact ev_sNil | apply ev_aug) <;> (repeat' first | exact ev_var rfl | exact ev_K | exact e | exact ey | exact ev_aNil | apply ev_aCons | apply ev_d2 | apply ev_d1 | apply ev_dN | apply ev_dCall | apply ev_dTup | apply ev_dLst | apply ev_dLoc | apply ev_sl | exact ev_oNo | apply ev_oSo | apply ev_ch2b | apply ev_ch3b | apply ev_tB | apply ev_tTru | apply ev_tNo | apply ev_no | apply ev_dML | exact ev_tAll | apply ev_gTu | exact ev_gsN | apply ev_gsC | apply ev_gSb | apply ev_gNm | (simp only [List.length_cons, List.length_nil]; exact len_le (by decide)) | exact decide_eq_true (by omega) | exact decide_eq_false (by omega) | exact ne_t (by omega) | exact ne_f (by omega) | apply lt_ii | apply le_ii | apply gt_ii | apply ge_ii | apply eq_ii | apply ne_ii | apply eq_ss | apply mul_ii | exact okMul_small (by omega) (by omega) | exact mod_ii (by omega) | exact fdiv_ii (by omega) (by omega) | exact mod_ni (by omega) | exact fdiv_ni (by omega) (by omega) | exact pow_ii (by omega) (by omega) (by omega) | apply ix_tup | apply ix_lst | (simp only [List.set_cons_succ, List.set_cons_zero]; rfl) | exact rfl))
  | non => exact atom rfl rfl
  | bl b => exact atom (by cases b <;> rfl) rfl
  | int i => exact atom rfl rfl
  | _ => cases hx
theorem spoilt_ok {pt : Fn} (ht : TakeOk pt) : ∀ (d n m : Nat) (x : PV) (s : Dr) (μ : Sto) (l : Nat), tre n x d = true → n ≤ 300 → s.Ok (m + (2 * d + 2)) → μ[l]? = some s.ob →
    ∃ (y : PV) (s' : Dr), tre (2 * n + 2) y d = true ∧ s'.Ok m ∧ pSpoilt pt (d + 1) [.loc l, x] μ = some (y, μ.set l s'.ob) := by
  intro d
  induction d with
  | zero =>
    intro n m x s μ l hx hn ok h
    exact spoilt_flat ht 0 0 n m x s μ l hx (ok.le (by omega)) h
  | succ d ih =>
    intro n m x s μ l hx hn ok h
    cases x with
    | tup xs =>
      have hl : xs.length ≤ n := tre_len hx
      have hx' := (tre_tup.mp hx).2
      -- the row of eight
      have pick : ∀ (s1 : Dr) (hd : sIf (tOr' (tNo (tTru (cVar 1))) (tB1 (d2 f_eq (dCall 2 pt (aCons (cVar 0) (aCons (cK (.int 5)) aNil))) (cK (.int 0))))) (sRet (d2 f_ix (dLst (aCons (dSl (cVar 1) (oSo (cK (.int 1))) oNo) (aCons (dSl (cVar 1) oNo (oSo (d1 f_neg (cK (.int 1))))) (aCons (d2 f_add (cVar 1) (dSl (cVar 1) (oSo (d1 f_neg (cK (.int 1)))) oNo)) (aCons (d2 f_rev (cVar 1) (d1 f_neg (cK (.int 1)))) (aCons (dN f_list (aCons (cVar 1) aNil)) (aCons (d2 f_add (cVar 1) (dTup (aCons (cK (.int 0)) aNil))) (aCons (dTup aNil) (aCons (dTup (aCons (cK (.int 1)) (aCons (cK (.int 0)) aNil))) aNil))))))))) (dCall 2 pt (aCons (cVar 0) (aCons (cK (.int 8)) aNil))))) sNil [some (.loc l), some (.tup xs), none] μ = 
            (sRet (d2 f_ix (dLst (aCons (dSl (cVar 1) (oSo (cK (.int 1))) oNo) (aCons (dSl (cVar 1) oNo (oSo (d1 f_neg (cK (.int 1))))) (aCons (d2 f_add (cVar 1) (dSl (cVar 1) (oSo (d1 f_neg (cK (.int 1)))) oNo)) (aCons (d2 f_rev (cVar 1) (d1 f_neg (cK (.int 1)))) (aCons (dN f_list (aCons (cVar 1) aNil)) (aCons (d2 f_add (cVar 1) (dTup (aCons (cK (.int 0)) aNil))) (aCons (dTup aNil) (aCons (dTup (aCons (cK (.int 1)) (aCons (cK (.int 0)) aNil))) aNil))))))))) (dCall 2 pt (aCons (cVar 0) (aCons (cK (.int 8)) aNil))))) [some (.loc l), some (.tup xs), none] (μ.set l s1.ob)),
          s1.Ok (m + 1) → ∃ (y : PV) (s' : Dr), tre (2 * n + 2) y (d + 1) = true ∧ s'.Ok m ∧ pSpoilt pt (d + 1 + 1) [.loc l, .tup xs] μ = some (y, μ.set l s'.ob) := fun s1 hd ok1 => by
        have g1 : (μ.set l s1.ob)[l]? = some s1.ob := dr_get h
        obtain ⟨k, s', k0, k1, ok', e⟩ := ht s1 m (μ.set l s1.ob) l 8 ok1 g1 (by decide) (by decide)
        rw [List.set_set] at e
        let ys : List PV := [.tup (cutP xs (some 1) none), .tup (cutP xs none (some (-1))), .tup (xs ++ cutP xs (some (-1)) none), .tup xs.reverse, .lst xs, .tup (xs ++ [.int 0]), .tup [], .tup [.int 1, .int 0]]
        have hlc : (cutP xs (some (-1)) none).length ≤ n := Nat.le_trans len_cut hl
        obtain ⟨y, hy, ey⟩ := atI_some (xs := ys) k0 k1
        have hm : n ≤ 2 * n + 2 := by omega
        have e5 : f_add (.tup xs) (.tup (cutP xs (some (-1)) none)) (μ.set l s1.ob) = some (.tup (xs ++ cutP xs (some (-1)) none), μ.set l s1.ob) := add_tt (by omega)
        have e6 : f_add (.tup xs) (.tup [.int 0]) (μ.set l s1.ob) = some (.tup (xs ++ [.int 0]), μ.set l s1.ob) := add_tt (by simp only [List.length_cons, List.length_nil]; omega)
        have all : ∀ z ∈ ys, tre (2 * n + 2) z (d + 1) = true := by
          intro z hz
          simp only [ys, List.mem_cons, List.not_mem_nil, or_false] at hz
          rcases hz with rfl | rfl | rfl | rfl | rfl | rfl | rfl | rfl
          · exact tre_mono hm _ _ (tre_cut hx)
          · exact tre_mono hm _ _ (tre_cut hx)
          · exact tre_app hx (fun y hy => tre_mono hm _ _ (hx' y (mem_cut hy))) hm (by omega)
          · exact tre_mono hm _ _ (tre_tup.mpr ⟨by rw [List.length_reverse]; exact hl, fun x q => hx' x (List.mem_reverse.mp q)⟩)
          · exact tre_mono hm _ _ (tre_lst.mpr ⟨hl, hx'⟩)
          · refine tre_app hx (fun y hy => ?_) hm (by simp only [List.length_cons, List.length_nil]; omega)
            simp only [List.mem_cons, List.not_mem_nil, or_false] at hy
            subst hy
            rfl
          · exact tre_tup.mpr ⟨Nat.zero_le _, fun _ q => nomatch q⟩
          · refine tre_tup.mpr ⟨by show 2 ≤ _; omega, fun y hy => ?_⟩
            simp only [List.mem_cons, List.not_mem_nil, or_false] at hy
            rcases hy with rfl | rfl <;> rfl
        refine ⟨y, s', all y hy, ok', ?_⟩
        refine runF_rt (ρ := [some (.loc l), some (.tup xs), none]) rfl ?_
        apply ev_seq
        case ha => exact ev_sIf_f (ev_tTru (b := false) rfl rfl) ev_sNil
        apply ev_seq
        case ha => exact ev_sIf_f (ev_tNo (b := true) (ev_tTru (b := true) rfl rfl) rfl) ev_sNil
        apply ev_seq_rt
        rw [hd]
        ((first | apply ev_set | apply ev_par | apply ev_par3 | apply ev_asg | apply ev_ex | apply ev_ret | exact ev_sNil | apply ev_aug) <;> (repeat' first | exact ev_var rfl | exact ev_K | exact e | exact ey | exact e5 | exact e6 | exact ev_aNil | apply ev_aCons | apply ev_d2 | apply ev_d1 | apply ev_dN | apply ev_dCall | apply ev_dTup | apply ev_dLst | apply ev_dLoc | apply ev_sl | exact ev_oNo | apply ev_oSo | apply ev_ch2b | apply ev_ch3b | apply ev_tB | apply ev_tTru | apply ev_tNo | apply ev_no | apply ev_dML | exact ev_tAll | apply ev_gTu | exact ev_gsN | apply ev_gsC | apply ev_gSb | apply ev_gNm | (simp only [List.length_cons, List.length_nil]; exact len_le (by decide)) | exact decide_eq_true (by omega) | exact decide_eq_false (by omega) | exact ne_t (by omega) | exact ne_f (by omega) | apply lt_ii | apply le_ii | apply gt_ii | apply ge_ii | apply eq_ii | apply ne_ii | apply eq_ss | apply mul_ii | exact okMul_small (by omega) (by omega) | exact mod_ii (by omega) | exact fdiv_ii (by omega) (by omega) | exact mod_ni (by omega) | exact fdiv_ni (by omega) (by omega) | exact pow_ii (by omega) (by omega) (by omega) | apply ix_tup | apply ix_lst | (simp only [List.set_cons_succ, List.set_cons_zero]; rfl) | exact rfl))
      by_cases hz : xs = []
      · refine pick s ?_ (ok.le (by omega))
        rw [set_back h]
        exact sif_true (ev_tOr_t (ev_tNo (b := false) (ev_tTru (b := false) rfl (by subst hz; rfl)) rfl))
      · have hb : (!xs.isEmpty) = true := by
          cases e : xs with
          | nil => exact absurd e hz
          | cons a r => rfl
        obtain ⟨k5, s5, k50, k51, ok5, e5⟩ := ht s (m + 1 + (2 * d + 2)) μ l 5 (ok.le (by omega)) h (by decide) (by decide)
        have g5 : (μ.set l s5.ob)[l]? = some s5.ob := dr_get h
        have test : ∀ b, decide (k5 = 0) = b → tOr' (tNo (tTru (cVar 1))) (tB1 (d2 f_eq (dCall 2 pt (aCons (cVar 0) (aCons (cK (.int 5)) aNil))) (cK (.int 0)))) [some (.loc l), some (.tup xs), none] μ = some (b, μ.set l s5.ob) := fun b hb' => by
          apply ev_tOr_f
          case h => exact ev_tNo (b := true) (ev_tTru (b := true) rfl (by show some (!xs.isEmpty) = _; rw [hb])) rfl
          (repeat' first | exact ev_var rfl | exact ev_K | exact e5 | exact hb' | exact ev_aNil | apply ev_aCons | apply ev_d2 | apply ev_d1 | apply ev_dN | apply ev_dCall | apply ev_dTup | apply ev_dLst | apply ev_dLoc | apply ev_sl | exact ev_oNo | apply ev_oSo | apply ev_ch2b | apply ev_ch3b | apply ev_tB | apply ev_tTru | apply ev_tNo | apply ev_no | apply ev_dML | exact ev_tAll | apply ev_gTu | exact ev_gsN | apply ev_gsC | apply ev_gSb | apply ev_gNm | (simp only [List.length_cons, List.length_nil]; exact len_le (by decide)) | exact decide_eq_true (by omega) | exact decide_eq_false (by omega) | exact ne_t (by omega) | exact ne_f (by omega) | apply lt_ii | apply le_ii | apply gt_ii | apply ge_ii | apply eq_ii | apply ne_ii | apply eq_ss | apply mul_ii | exact okMul_small (by omega) (by omega) | exact mod_ii (by omega) | exact fdiv_ii (by omega) (by omega) | exact mod_ni (by omega) | exact fdiv_ni (by omega) (by omega) | exact pow_ii (by omega) (by omega) (by omega) | apply ix_tup | apply ix_lst | (simp only [List.set_cons_succ, List.set_cons_zero]; rfl) | exact rfl)
        by_cases h5 : k5 = 0
        · refine pick s5 ?_ (ok5.le (by omega))
          exact sif_true (test true (decide_eq_true h5))
        · have hp : 0 < xs.length := List.length_pos_iff.mpr hz
          obtain ⟨k, s6, k0, k1, ok6, e6⟩ := ht s5 (m + (2 * d + 2)) (μ.set l s5.ob) l xs.length (ok5.le (by omega)) g5 (by omega) (by omega)
          rw [List.set_set] at e6
          have g6 : (μ.set l s6.ob)[l]? = some s6.ob := dr_get h
          obtain ⟨z, hzm, ez⟩ := atI_some (xs := xs) k0 k1
          obtain ⟨y, s7, ty, ok7, e7⟩ := ih n m z s6 (μ.set l s6.ob) l (hx' z hzm) hn ok6 g6
          rw [List.set_set] at e7
          refine ⟨.tup (cutP xs none (some k) ++ [y] ++ cutP xs (some (k + 1)) none), s7, ?_, ok7, ?_⟩
          · have l1 : (cutP xs none (some k)).length ≤ n := Nat.le_trans len_cut hl
            have l2 : (cutP xs (some (k + 1)) none).length + (cutP xs none (some k)).length ≤ xs.length := by
              unfold cutP
              rw [List.length_take, List.length_take, List.length_drop, List.length_drop]
              have : HT.sIx xs.length xs.length (some k) ≤ HT.sIx xs.length 0 (some (k + 1)) := by
                unfold HT.sIx
                simp only
                split <;> split <;> omega
              have e0 : HT.sIx xs.length 0 none = 0 := rfl
              omega
            refine tre_tup.mpr ⟨by rw [List.length_append, List.length_append]; simp only [List.length_cons, List.length_nil]; omega, fun w hw => ?_⟩
            have hm : n ≤ 2 * n + 2 := by omega
            rcases List.mem_append.mp hw with q | q
            · rcases List.mem_append.mp q with q | q
              · exact tre_mono hm _ _ (hx' w (mem_cut q))
              · rw [List.mem_singleton.mp q]; exact ty
            · exact tre_mono hm _ _ (hx' w (mem_cut q))
          · have l1 : (cutP xs none (some k)).length ≤ n := Nat.le_trans len_cut hl
            have l3 : (cutP xs (some (k + 1)) none).length ≤ n := Nat.le_trans len_cut hl
            have a1 : f_add (.tup (cutP xs none (some k))) (.tup [y]) (μ.set l s7.ob) = some (.tup (cutP xs none (some k) ++ [y]), μ.set l s7.ob) := add_tt (by simp only [List.length_cons, List.length_nil]; omega)
            have a2 : f_add (.tup (cutP xs none (some k) ++ [y])) (.tup (cutP xs (some (k + 1)) none)) (μ.set l s7.ob) = some (.tup (cutP xs none (some k) ++ [y] ++ cutP xs (some (k + 1)) none), μ.set l s7.ob) := add_tt (by rw [List.length_append]; simp only [List.length_cons, List.length_nil]; omega)
            refine runF_rt (ρ := [some (.loc l), some (.tup xs), none]) rfl ?_
            apply ev_seq
            case ha => exact ev_sIf_f (ev_tTru (b := false) rfl rfl) ev_sNil
            apply ev_seq
            case ha => exact ev_sIf_f (ev_tNo (b := true) (ev_tTru (b := true) rfl rfl) rfl) ev_sNil
            apply ev_seq
            case ha => exact ev_sIf_f (test false (decide_eq_false h5)) ev_sNil
            (apply ev_seq; case' ha => ((first | apply ev_set | apply ev_par | apply ev_par3 | apply ev_asg | apply ev_ex | apply ev_ret | exact ev_sNil | apply ev_aug) <;> (repeat' first | exact ev_var rfl | exact ev_K | exact e6 | exact ev_aNil | apply ev_aCons | apply ev_d2 | apply ev_d1 | apply ev_dN | apply ev_dCall | apply ev_dTup | apply ev_dLst | apply ev_dLoc | apply ev_sl | exact ev_oNo | apply ev_oSo | apply ev_ch2b | apply ev_ch3b | apply ev_tB | apply ev_tTru | apply ev_tNo | apply ev_no | apply ev_dML | exact ev_tAll | apply ev_gTu | exact ev_gsN | apply ev_gsC | apply ev_gSb | apply ev_gNm | (simp only [List.length_cons, List.length_nil]; exact len_le (by decide)) | exact decide_eq_true (by omega) | exact decide_eq_false (by omega) | exact ne_t (by omega) | exact ne_f (by omega) | apply lt_ii | apply le_ii | apply gt_ii | apply ge_ii | apply eq_ii | apply ne_ii | apply eq_ss | apply mul_ii | exact okMul_small (by omega) (by omega) | exact mod_ii (by omega) | exact fdiv_ii (by omega) (by omega) | exact mod_ni (by omega) | exact fdiv_ni (by omega) (by omega) | exact pow_ii (by omega) (by omega) (by omega) | apply ix_tup | apply ix_lst | (simp only [List.set_cons_succ, List.set_cons_zero]; rfl) | exact rfl)))
            ((first | apply ev_set | apply ev_par | apply ev_par3 | apply ev_asg | apply ev_ex | apply ev_ret | exact ev_sNil | apply ev_aug) <;> (repeat' first | exact ev_var rfl | exact ev_K | exact e7 | exact a1 | exact a2 | exact ez | exact ev_aNil | apply ev_aCons | apply ev_d2 | apply ev_d1 | apply ev_dN | apply ev_dCall | apply ev_dTup | apply ev_dLst | apply ev_dLoc | apply ev_sl | exact ev_oNo | apply ev_oSo | apply ev_ch2b | apply ev_ch3b | apply ev_tB | apply ev_tTru | apply ev_tNo | apply ev_no | apply ev_dML | exact ev_tAll | apply ev_gTu | exact ev_gsN | apply ev_gsC | apply ev_gSb | apply ev_gNm | (simp only [List.length_cons, List.length_nil]; exact len_le (by decide)) | exact decide_eq_true (by omega) | exact decide_eq_false (by omega) | exact ne_t (by omega) | exact ne_f (by omega) | apply lt_ii | apply le_ii | apply gt_ii | apply ge_ii | apply eq_ii | apply ne_ii | apply eq_ss | apply mul_ii | exact okMul_small (by omega) (by omega) | exact mod_ii (by omega) | exact fdiv_ii (by omega) (by omega) | exact mod_ni (by omega) | exact fdiv_ni (by omega) (by omega) | exact pow_ii (by omega) (by omega) (by omega) | apply ix_tup | apply ix_lst | (simp only [List.set_cons_succ, List.set_cons_zero]; rfl) | exact rfl))
    | lst xs =>
      obtain ⟨k, s', k0, k1, ok', e⟩ := ht s (m + 1) μ l 7 (ok.le (by omega)) h (by decide) (by decide)
      obtain ⟨y, hy, ey⟩ := atI_some (xs := [PV.int 0, .int 1, .int 2, .int (-1), .bl true, .non, .int 3]) k0 k1
      refine ⟨y, s', ?_, ok'.le (by omega), ?_⟩
      · have : ∀ z ∈ [PV.int 0, .int 1, .int 2, .int (-1), .bl true, .non, .int 3], tre (2 * n + 2) z (d + 1) = true := by rw [← tres_iff]; rfl
        exact this y hy
      · refine runF_rt (ρ := [some (.loc l), some (.lst xs), none]) rfl ?_
        apply ev_seq
        case ha => exact ev_sIf_f (ev_tTru (b := false) rfl rfl) ev_sNil
        apply ev_seq_rt
        apply ev_sIf_t
        case hc => exact ev_tNo (b := false) (ev_tTru (b := false) rfl rfl) rfl
        ((first | apply ev_set | apply ev_par | apply ev_par3 | apply ev_asg | apply ev_ex | apply ev_ret | exact ev_sNil | apply ev_aug) <;> (repeat' first | exact ev_var rfl | exact ev_K | exact e | exact ey | exact ev_aNil | apply ev_aCons | apply ev_d2 | apply ev_d1 | apply ev_dN | apply ev_dCall | apply ev_dTup | apply ev_dLst | apply ev_dLoc | apply ev_sl | exact ev_oNo | apply ev_oSo | apply ev_ch2b | apply ev_ch3b | apply ev_tB | apply ev_tTru | apply ev_tNo | apply ev_no | apply ev_dML | exact ev_tAll | apply ev_gTu | exact ev_gsN | apply ev_gsC | apply ev_gSb | apply ev_gNm | (simp only [List.length_cons, List.length_nil]; exact len_le (by decide)) | exact decide_eq_true (by omega) | exact decide_eq_false (by omega) | exact ne_t (by omega) | exact ne_f (by omega) | apply lt_ii | apply le_ii | apply gt_ii | apply ge_ii | apply eq_ii | apply ne_ii | apply eq_ss | apply mul_ii | exact okMul_small (by omega) (by omega) | exact mod_ii (by omega) | exact fdiv_ii (by omega) (by omega) | exact mod_ni (by omega) | exact fdiv_ni (by omega) (by omega) | exact pow_ii (by omega) (by omega) (by omega) | apply ix_tup | apply ix_lst | (simp only [List.set_cons_succ, List.set_cons_zero]; rfl) | exact rfl))
    | loc _ => cases hx
    | scr _ => cases hx
    | str z => exact spoilt_flat ht _ _ n m _ s μ l hx (ok.le (by omega)) h
    | non => exact spoilt_flat ht _ _ n m _ s μ l hx (ok.le (by omega)) h
    | bl b => exact spoilt_flat ht _ _ n m _ s μ l hx (ok.le (by omega)) h
    | int i => exact spoilt_flat ht _ _ n m _ s μ l hx (ok.le (by omega)) h
/-! ### bent -/
noncomputable def dBent (p__law_take : Fn) (p__law_spoilt : Fn) : DenS :=
  (sSeq (sFor (itRg1 (aCons (d2 f_mul (dN f_int (aCons (d2 f_gt (cVar 2) (cK (.int 0))) aNil)) (d2 f_add (cK (.int 1)) (dCall 2 p__law_take (aCons (cVar 0) (aCons (cK (.int 2)) aNil))))) aNil)) (gNm 3) (sAsg (dCall 2 p__law_spoilt (aCons (cVar 0) (aCons (cVar 1) aNil))) (gNm 1)))
  (sRet (cVar 1)))
theorem bent_ok {pt : Fn} (ht : TakeOk pt) (d n m : Nat) (x : PV) (s : Dr) (μ : Sto) (l : Nat) (turn : Int) (hx : tre n x d = true) (hn : n ≤ 100) (ok : s.Ok (m + (4 * d + 5))) (h : μ[l]? = some s.ob) :
    ∃ (y : PV) (s' : Dr), tre (4 * n + 6) y d = true ∧ s'.Ok m ∧ runF 4 (dBent pt (pSpoilt pt (d + 1))) [.loc l, x, .int turn] μ = some (y, μ.set l s'.ob) := by
  obtain ⟨k, s1, k0, k1, ok1, e⟩ := ht s (m + (4 * d + 4)) μ l 2 ok h (by decide) (by decide)
  have g1 : (μ.set l s1.ob)[l]? = some s1.ob := dr_get h
  have fin : ∀ (y : PV) (s' : Dr) (ρ' : En), ρ'[1]? = some (some y) → sFor (itRg1 (aCons (d2 f_mul (dN f_int (aCons (d2 f_gt (cVar 2) (cK (.int 0))) aNil)) (d2 f_add (cK (.int 1)) (dCall 2 pt (aCons (cVar 0) (aCons (cK (.int 2)) aNil))))) aNil)) (gNm 3) (sAsg (dCall 2 (pSpoilt pt (d + 1)) (aCons (cVar 0) (aCons (cVar 1) aNil))) (gNm 1)) [some (.loc l), some x, some (.int turn), none] μ = some (.nx ρ' (μ.set l s'.ob)) →
      runF 4 (dBent pt (pSpoilt pt (d + 1))) [.loc l, x, .int turn] μ = some (y, μ.set l s'.ob) := fun y s' ρ' h1 h2 => by
    refine runF_rt (ρ := [some (.loc l), some x, some (.int turn), none]) rfl ?_
    exact ev_seq h2 (ev_ret (ev_var h1))
  by_cases htu : 0 < turn
  · have hit : ∀ c : Nat, 1 + k = c → itRg1 (aCons (d2 f_mul (dN f_int (aCons (d2 f_gt (cVar 2) (cK (.int 0))) aNil)) (d2 f_add (cK (.int 1)) (dCall 2 pt (aCons (cVar 0) (aCons (cK (.int 2)) aNil))))) aNil) [some (.loc l), some x, some (.int turn), none] μ = some ((rgP 0 c, []), μ.set l s1.ob) := fun c hc => by
      refine it_rg1 (j := 1 * (1 + k)) ?_ (rgIn_of (by omega) (by omega)) (by omega)
      have hi : f_int [.bl true] μ = some (.int 1, μ) := rfl
      (repeat' first | exact ev_var rfl | exact ev_K | exact e | exact hi | exact ev_aNil | apply ev_aCons | apply ev_d2 | apply ev_d1 | apply ev_dN | apply ev_dCall | apply ev_dTup | apply ev_dLst | apply ev_dLoc | apply ev_sl | exact ev_oNo | apply ev_oSo | apply ev_ch2b | apply ev_ch3b | apply ev_tB | apply ev_tTru | apply ev_tNo | apply ev_no | apply ev_dML | exact ev_tAll | apply ev_gTu | exact ev_gsN | apply ev_gsC | apply ev_gSb | apply ev_gNm | (simp only [List.length_cons, List.length_nil]; exact len_le (by decide)) | exact decide_eq_true (by omega) | exact decide_eq_false (by omega) | exact ne_t (by omega) | exact ne_f (by omega) | apply lt_ii | apply le_ii | apply gt_ii | apply ge_ii | apply eq_ii | apply ne_ii | apply eq_ss | apply mul_ii | exact okMul_small (by omega) (by omega) | exact mod_ii (by omega) | exact fdiv_ii (by omega) (by omega) | exact mod_ni (by omega) | exact fdiv_ni (by omega) (by omega) | exact pow_ii (by omega) (by omega) (by omega) | apply ix_tup | apply ix_lst | (simp only [List.set_cons_succ, List.set_cons_zero]; rfl) | exact rfl)
    obtain ⟨y, s2, ty, ok2, e2⟩ := spoilt_ok ht d n (m + (2 * d + 2)) x s1 (μ.set l s1.ob) l hx (by omega) (ok1.le (by omega)) g1
    rw [List.set_set] at e2
    have g2 : (μ.set l s2.ob)[l]? = some s2.ob := dr_get h
    by_cases hk : k = 0
    · refine ⟨y, s2, tre_mono (by omega) _ _ ty, ok2.le (by omega), fin y s2 [some (.loc l), some y, some (.int turn), some (.int 0)] rfl ?_⟩
      refine ev_for (hit 1 (by omega)) ?_
      refine for_step rfl (ρ' := [some (.loc l), some y, some (.int turn), some (.int 0)]) (μ' := μ.set l s2.ob) ?_ chk_nil for_nil
      ((first | apply ev_set | apply ev_par | apply ev_par3 | apply ev_asg | apply ev_ex | apply ev_ret | exact ev_sNil | apply ev_aug) <;> (repeat' first | exact ev_var rfl | exact ev_K | exact e2 | exact ev_aNil | apply ev_aCons | apply ev_d2 | apply ev_d1 | apply ev_dN | apply ev_dCall | apply ev_dTup | apply ev_dLst | apply ev_dLoc | apply ev_sl | exact ev_oNo | apply ev_oSo | apply ev_ch2b | apply ev_ch3b | apply ev_tB | apply ev_tTru | apply ev_tNo | apply ev_no | apply ev_dML | exact ev_tAll | apply ev_gTu | exact ev_gsN | apply ev_gsC | apply ev_gSb | apply ev_gNm | (simp only [List.length_cons, List.length_nil]; exact len_le (by decide)) | exact decide_eq_true (by omega) | exact decide_eq_false (by omega) | exact ne_t (by omega) | exact ne_f (by omega) | apply lt_ii | apply le_ii | apply gt_ii | apply ge_ii | apply eq_ii | apply ne_ii | apply eq_ss | apply mul_ii | exact okMul_small (by omega) (by omega) | exact mod_ii (by omega) | exact fdiv_ii (by omega) (by omega) | exact mod_ni (by omega) | exact fdiv_ni (by omega) (by omega) | exact pow_ii (by omega) (by omega) (by omega) | apply ix_tup | apply ix_lst | (simp only [List.set_cons_succ, List.set_cons_zero]; rfl) | exact rfl))
    · obtain ⟨z, s3, tz, ok3, e3⟩ := spoilt_ok ht d (2 * n + 2) m y s2 (μ.set l s2.ob) l ty (by omega) ok2 g2
      rw [List.set_set] at e3
      refine ⟨z, s3, tre_mono (by omega) _ _ tz, ok3, fin z s3 [some (.loc l), some z, some (.int turn), some (.int 1)] rfl ?_⟩
      refine ev_for (hit 2 (by omega)) ?_
      refine for_step rfl (ρ' := [some (.loc l), some y, some (.int turn), some (.int 0)]) (μ' := μ.set l s2.ob) ?_ chk_nil ?_
      · ((first | apply ev_set | apply ev_par | apply ev_par3 | apply ev_asg | apply ev_ex | apply ev_ret | exact ev_sNil | apply ev_aug) <;> (repeat' first | exact ev_var rfl | exact ev_K | exact e2 | exact ev_aNil | apply ev_aCons | apply ev_d2 | apply ev_d1 | apply ev_dN | apply ev_dCall | apply ev_dTup | apply ev_dLst | apply ev_dLoc | apply ev_sl | exact ev_oNo | apply ev_oSo | apply ev_ch2b | apply ev_ch3b | apply ev_tB | apply ev_tTru | apply ev_tNo | apply ev_no | apply ev_dML | exact ev_tAll | apply ev_gTu | exact ev_gsN | apply ev_gsC | apply ev_gSb | apply ev_gNm | (simp only [List.length_cons, List.length_nil]; exact len_le (by decide)) | exact decide_eq_true (by omega) | exact decide_eq_false (by omega) | exact ne_t (by omega) | exact ne_f (by omega) | apply lt_ii | apply le_ii | apply gt_ii | apply ge_ii | apply eq_ii | apply ne_ii | apply eq_ss | apply mul_ii | exact okMul_small (by omega) (by omega) | exact mod_ii (by omega) | exact fdiv_ii (by omega) (by omega) | exact mod_ni (by omega) | exact fdiv_ni (by omega) (by omega) | exact pow_ii (by omega) (by omega) (by omega) | apply ix_tup | apply ix_lst | (simp only [List.set_cons_succ, List.set_cons_zero]; rfl) | exact rfl))
      refine for_step rfl (ρ' := [some (.loc l), some z, some (.int turn), some (.int 1)]) (μ' := μ.set l s3.ob) ?_ chk_nil for_nil
      ((first | apply ev_set | apply ev_par | apply ev_par3 | apply ev_asg | apply ev_ex | apply ev_ret | exact ev_sNil | apply ev_aug) <;> (repeat' first | exact ev_var rfl | exact ev_K | exact e3 | exact ev_aNil | apply ev_aCons | apply ev_d2 | apply ev_d1 | apply ev_dN | apply ev_dCall | apply ev_dTup | apply ev_dLst | apply ev_dLoc | apply ev_sl | exact ev_oNo | apply ev_oSo | apply ev_ch2b | apply ev_ch3b | apply ev_tB | apply ev_tTru | apply ev_tNo | apply ev_no | apply ev_dML | exact ev_tAll | apply ev_gTu | exact ev_gsN | apply ev_gsC | apply ev_gSb | apply ev_gNm | (simp only [List.length_cons, List.length_nil]; exact len_le (by decide)) | exact decide_eq_true (by omega) | exact decide_eq_false (by omega) | exact ne_t (by omega) | exact ne_f (by omega) | apply lt_ii | apply le_ii | apply gt_ii | apply ge_ii | apply eq_ii | apply ne_ii | apply eq_ss | apply mul_ii | exact okMul_small (by omega) (by omega) | exact mod_ii (by omega) | exact fdiv_ii (by omega) (by omega) | exact mod_ni (by omega) | exact fdiv_ni (by omega) (by omega) | exact pow_ii (by omega) (by omega) (by omega) | apply ix_tup | apply ix_lst | (simp only [List.set_cons_succ, List.set_cons_zero]; rfl) | exact rfl))
  · refine ⟨x, s1, tre_mono (by omega) _ _ hx, ok1.le (by omega), fin x s1 [some (.loc l), some x, some (.int turn), none] rfl ?_⟩
    refine ev_for (xs := []) (ch := []) (μ1 := μ.set l s1.ob) ?_ for_nil
    refine it_rg1 (j := 0 * (1 + k)) (n := 0) ?_ (rgIn_of (by omega) (by omega)) (by omega)
    have hi : f_int [.bl false] μ = some (.int 0, μ) := rfl
    (repeat' first | exact ev_var rfl | exact ev_K | exact e | exact hi | exact ev_aNil | apply ev_aCons | apply ev_d2 | apply ev_d1 | apply ev_dN | apply ev_dCall | apply ev_dTup | apply ev_dLst | apply ev_dLoc | apply ev_sl | exact ev_oNo | apply ev_oSo | apply ev_ch2b | apply ev_ch3b | apply ev_tB | apply ev_tTru | apply ev_tNo | apply ev_no | apply ev_dML | exact ev_tAll | apply ev_gTu | exact ev_gsN | apply ev_gsC | apply ev_gSb | apply ev_gNm | (simp only [List.length_cons, List.length_nil]; exact len_le (by decide)) | exact decide_eq_true (by omega) | exact decide_eq_false (by omega) | exact ne_t (by omega) | exact ne_f (by omega) | apply lt_ii | apply le_ii | apply gt_ii | apply ge_ii | apply eq_ii | apply ne_ii | apply eq_ss | apply mul_ii | exact okMul_small (by omega) (by omega) | exact mod_ii (by omega) | exact fdiv_ii (by omega) (by omega) | exact mod_ni (by omega) | exact fdiv_ni (by omega) (by omega) | exact pow_ii (by omega) (by omega) (by omega) | apply ix_tup | apply ix_lst | (simp only [List.set_cons_succ, List.set_cons_zero]; rfl) | exact rfl)
/-! ### is_int, alike -/
def dIsInt : DenS := (sRet (dAn (d1 (f_isi .int) (cVar 0)) (dNo (d1 (f_isi .bool) (cVar 0)))))
def isIntP : PV → Bool
  | .int _ => true
  | _ => false
theorem isInt_ok {x : PV} {μ : Sto} (hx : ∀ l, x ≠ .loc l) (hs : ∀ l, x ≠ .scr l) : runF 1 dIsInt [x] μ = some (.bl (isIntP x), μ) := by
  refine runF_rt (ρ := [some x]) rfl ?_
  apply ev_ret
  cases x with
  | loc l => exact absurd rfl (hx l)
  | scr l => exact absurd rfl (hs l)
  | _ => rfl
mutual
def plain : PV → Nat → Bool
  | .non, _ => true
  | .int _, _ => true
  | .str _, _ => true
  | .tup xs, d => match d with
    | 0 => false
    | d + 1 => decide (xs.length ≤ 900) && plains xs d
  | _, _ => false
def plains : List PV → Nat → Bool
  | [], _ => true
  | x :: xs, d => plain x d && plains xs d
end
theorem plains_iff {d : Nat} : ∀ {xs : List PV}, plains xs d = true ↔ ∀ x ∈ xs, plain x d = true
  | [] => ⟨fun _ => (fun _ h => nomatch h), fun _ => rfl⟩
  | x :: xs => by
    show (plain x d && plains xs d) = true ↔ _
    rw [Bool.and_eq_true, plains_iff, List.forall_mem_cons]
noncomputable def dAlike (p__law_alike : Fn) : DenS :=
  (sSeq (sIf (tTru (d1 (f_isi .tuple) (cVar 1))) (sRet (dAn (d1 (f_isi .tuple) (cVar 0)) (dAn (d2 f_eq (dN f_len (aCons (cVar 0) aNil)) (dN f_len (aCons (cVar 1) aNil))) (dN f_all (aCons (dLc [2] (itRg1 (aCons (dN f_len (aCons (cVar 1) aNil)) aNil)) (gNm 2) tAll (dCall 2 p__law_alike (aCons (d2 f_ix (cVar 0) (cVar 2)) (aCons (d2 f_ix (cVar 1) (cVar 2)) aNil)))) aNil))))) sNil)
  (sSeq (sIf (tB1 (d2 f_is (cVar 1) (cK .non))) (sRet (d2 f_is (cVar 0) (cK .non))) sNil)
  (sSeq (sIf (tOr' (tTru (d1 (f_isi .bool) (cVar 0))) (tB1 (d2 f_ne (d1 (f_isi .str) (cVar 0)) (d1 (f_isi .str) (cVar 1))))) (sRet (cK (.bl false))) sNil)
  (sRet (dAn (d1 (f_isi2 .int .str) (cVar 0)) (d2 f_eq (cVar 0) (cVar 1)))))))
noncomputable def pAlike : Nat → Fn
  | 0 => fun _ _ => none
  | k + 1 => runF 3 (dAlike (pAlike k))
theorem mem_rgP : ∀ {n : Nat} {lo : Int} {x : PV}, x ∈ rgP lo n → ∃ k : Nat, k < n ∧ x = .int (lo + k)
  | 0, _, _, h => nomatch h
  | n + 1, lo, x, h => by
    rcases List.mem_cons.mp h with e | h
    · exact ⟨0, by omega, by rw [e]; simp⟩
    · obtain ⟨k, hk, e⟩ := mem_rgP h
      exact ⟨k + 1, by omega, by rw [e]; congr 1; push_cast; omega⟩
theorem all_true {l : List PV} {μ : Sto} : f_all [.lst (l.map fun _ => .bl true)] μ = some (.bl true, μ) := by
  have : l.map (fun _ => PV.bl true) = (l.map fun _ => true).map PV.bl := by rw [List.map_map]; rfl
  show Option.map _ ((some (l.map fun _ => PV.bl true)).bind blsP) = _
  rw [this]
  show Option.map _ (blsP _) = _
  rw [blsP_map]
  show some (PV.bl ((l.map fun _ => true).all id), μ) = _
  congr 3
  rw [List.all_eq_true]
  intro x hx
  obtain ⟨_, _, rfl⟩ := List.mem_map.mp hx
  rfl
theorem alike_refl : ∀ (d : Nat) (x : PV) (μ : Sto), plain x d = true → pAlike (d + 1) [x, x] μ = some (.bl true, μ) := by
  intro d
  induction d with
  | zero =>
    intro x μ h
    refine runF_rt (ρ := [some x, some x, none]) rfl ?_
    cases x with
    | non => rfl
    | int i =>
      apply ev_seq
      case ha => exact ev_sIf_f (ev_tTru (b := false) rfl rfl) ev_sNil
      apply ev_seq
      case ha => exact ev_sIf_f (b := sNil) (ev_tB rfl) ev_sNil
      apply ev_seq
      case ha => exact ev_sIf_f (ev_tOr_f (ev_tTru (b := false) rfl rfl) (ev_tB (b := false) rfl)) ev_sNil
      apply ev_ret
      exact ev_an_t (x := .bl true) rfl rfl (ev_d2 rfl rfl (eq_ii (decide_eq_true rfl)))
    | str z =>
      apply ev_seq
      case ha => exact ev_sIf_f (ev_tTru (b := false) rfl rfl) ev_sNil
      apply ev_seq
      case ha => exact ev_sIf_f (b := sNil) (ev_tB rfl) ev_sNil
      apply ev_seq
      case ha => exact ev_sIf_f (ev_tOr_f (ev_tTru (b := false) rfl rfl) (ev_tB (b := false) rfl)) ev_sNil
      apply ev_ret
      exact ev_an_t (x := .bl true) rfl rfl (ev_d2 rfl rfl (eq_ss (decide_eq_true rfl)))
    | _ => cases h
  | succ d ih =>
    intro x μ h
    refine runF_rt (ρ := [some x, some x, none]) rfl ?_
    cases x with
    | non => rfl
    | int i =>
      apply ev_seq
      case ha => exact ev_sIf_f (ev_tTru (b := false) rfl rfl) ev_sNil
      apply ev_seq
      case ha => exact ev_sIf_f (b := sNil) (ev_tB rfl) ev_sNil
      apply ev_seq
      case ha => exact ev_sIf_f (ev_tOr_f (ev_tTru (b := false) rfl rfl) (ev_tB (b := false) rfl)) ev_sNil
      apply ev_ret
      exact ev_an_t (x := .bl true) rfl rfl (ev_d2 rfl rfl (eq_ii (decide_eq_true rfl)))
    | str z =>
      apply ev_seq
      case ha => exact ev_sIf_f (ev_tTru (b := false) rfl rfl) ev_sNil
      apply ev_seq
      case ha => exact ev_sIf_f (b := sNil) (ev_tB rfl) ev_sNil
      apply ev_seq
      case ha => exact ev_sIf_f (ev_tOr_f (ev_tTru (b := false) rfl rfl) (ev_tB (b := false) rfl)) ev_sNil
      apply ev_ret
      exact ev_an_t (x := .bl true) rfl rfl (ev_d2 rfl rfl (eq_ss (decide_eq_true rfl)))
    | tup xs =>
      have h : (decide (xs.length ≤ 900) && plains xs d) = true := h
      rw [Bool.and_eq_true, decide_eq_true_eq, plains_iff] at h
      apply ev_seq_rt
      apply ev_sIf_t
      case hc => exact ev_tTru (b := true) rfl rfl
      apply ev_ret
      apply ev_an_t (x := .bl true) rfl rfl
      apply ev_an_t (x := .bl true) (ev_d2 rfl rfl (eq_ii (decide_eq_true rfl))) rfl
      apply ev_dN (ev_aCons (ev_lc (xs := rgP 0 xs.length) (it_rg1 (j := xs.length) rfl (rgIn_of (by omega) (by omega)) (by omega)) rfl
        (lc_all (fun _ => true) (fun _ => .bl true) _ _ chk_nil (by rw [rgP_length]; exact sz (by show 0 + _ ≤ _; omega)) fun y hy => ?_)) ev_aNil)
      · rw [List.filter_eq_self.mpr (fun _ _ => rfl), List.nil_append]
        exact all_true
      · obtain ⟨k, hk, rfl⟩ := mem_rgP hy
        refine ⟨[some (.tup xs), some (.tup xs), some (.int (0 + k))], rfl, rfl, fun _ => ?_⟩
        have hix : f_ix (.tup xs) (.int (0 + k)) μ = some (xs[k], μ) := ix_tup (by rw [Int.zero_add]; exact L2.atI_nat (by simp [hk]))
        exact ev_dCall (ev_aCons (ev_d2 rfl rfl hix) (ev_aCons (ev_d2 rfl rfl hix) ev_aNil)) (ih _ μ (h.2 _ (List.getElem_mem hk))) rfl
    | _ => cases h
end Fd

/-! Num1: whole numbers: common divisors, joined rests. -/
namespace Nm
/-! ### cofactors -/
theorem wc_math {a B g x : Int} (hg : 0 < g) (hga : g ∣ a) (hgB : g ∣ B) (h : B ∣ a * x - g) : B ∣ a * (x % (B / g)) - g := by
  obtain ⟨a1, rfl⟩ := hga
  obtain ⟨b1, rfl⟩ := hgB
  rw [Int.mul_ediv_cancel_left _ (by omega)]
  have e : x = x % b1 + b1 * (x / b1) := (Int.emod_add_mul_ediv x b1).symm
  have k : g * a1 * (x % b1) - g = (g * a1 * x - g) - g * b1 * (a1 * (x / b1)) := by
    have : g * a1 * x = g * a1 * (x % b1) + g * b1 * (a1 * (x / b1)) := by
      have h2 : g * a1 * x = g * a1 * (x % b1 + b1 * (x / b1)) := congrArg (fun z => g * a1 * z) e
      rw [h2, Int.mul_add]
      congr 1
      ac_rfl
    omega
  rw [k]
  exact Int.dvd_sub h (Int.dvd_mul_right _ _)
/-- one turn of Euclid's steps -/
theorem wc_turn {a B g x r o : Int} (h1 : B ∣ a * x - g) (h2 : B ∣ a * o - r) (t : Int) : B ∣ a * (x - t * o) - (g - t * r) := by
  have e : a * (x - t * o) - (g - t * r) = (a * x - g) - t * (a * o - r) := by
    rw [Int.mul_sub, Int.mul_sub, show a * (t * o) = t * (a * o) by ac_rfl]
    omega
  rw [e]
  exact Int.dvd_sub h1 (Int.dvd_mul_of_dvd_right h2)
theorem gcd_turn (g r : Nat) : Nat.gcd r (g % r) = Nat.gcd g r := by
  rw [Nat.gcd_comm r (g % r), ← Nat.gcd_rec, Nat.gcd_comm]
/-! ### a rest that is the only one -/
theorem eq_of_dvd {n x y : Int} (hx : 0 ≤ x) (hx2 : x < n) (hy : 0 ≤ y) (hy2 : y < n) (h : n ∣ x - y) : x = y := by
  obtain ⟨k, hk⟩ := h
  have h1 : x - y < n := by omega
  have h2 : -n < x - y := by omega
  have hn : 0 < n := by omega
  have : k = 0 := by
    by_cases h0 : k = 0
    · exact h0
    · exfalso
      by_cases hp : 0 < k
      · have : n * 1 ≤ n * k := Int.mul_le_mul_of_nonneg_left (by omega) (by omega)
        omega
      · have : n * k ≤ n * (-1) := Int.mul_le_mul_of_nonneg_left (by omega) (by omega)
        omega
  subst this
  omega
/-- the inverse is the only one -/
theorem inv_uniq {a n x y z : Int} (hx : 0 ≤ x) (hx2 : x < n) (hy : 0 ≤ y) (hy2 : y < n) (h1 : a * x + n * z = 1) (h2 : n ∣ a * y - 1) : y = x := by
  refine eq_of_dvd hy hy2 hx hx2 ?_
  have e : y - x = x * (a * y - 1) + n * (z * y) := by
    have : x * (a * y - 1) = a * x * y - x := by rw [Int.mul_sub, Int.mul_one]; congr 1; ac_rfl
    rw [this]
    have h3 : a * x = 1 - n * z := by omega
    rw [h3, Int.sub_mul, Int.one_mul]
    have : n * z * y = n * (z * y) := by ac_rfl
    omega
  rw [e]
  exact Int.dvd_add (Int.dvd_mul_of_dvd_right h2) (Int.dvd_mul_right _ _)
/-! ### joined rests -/
/-- the least common multiple as the program reckons it -/
def lc (n m : Int) : Int := n / (Int.gcd n m : Int) * m
theorem gcd_pos {n m : Int} (hn : 0 < n) : 0 < (Int.gcd n m : Int) := by
  have : Int.gcd n m ≠ 0 := fun h => by
    have := (Int.gcd_eq_zero_iff.mp h).1
    omega
  omega
theorem lc_pos {n m : Int} (hn : 0 < n) (hm : 0 < m) : 0 < lc n m := by
  unfold lc
  have h1 := gcd_pos (m := m) hn
  obtain ⟨k, hk⟩ := Int.gcd_dvd_left n m
  have e : n / (Int.gcd n m : Int) = k := by
    conv => lhs; lhs; rw [hk]
    exact Int.mul_ediv_cancel_left _ (by omega)
  rw [e]
  have : 0 < k := by
    by_cases h : 0 < k
    · exact h
    · exfalso
      have : (Int.gcd n m : Int) * k ≤ (Int.gcd n m : Int) * 0 := Int.mul_le_mul_of_nonneg_left (by omega) (by omega)
      omega
  exact Int.mul_pos this hm
theorem lc_left {n m : Int} : n ∣ lc n m := by
  unfold lc
  obtain ⟨k, hk⟩ := Int.gcd_dvd_right n m
  have h := Int.ediv_mul_cancel (Int.gcd_dvd_left n m)
  refine ⟨k, ?_⟩
  conv => lhs; rhs; rw [hk]
  rw [← Int.mul_assoc, h]
theorem lc_right {n m : Int} : m ∣ lc n m := Int.dvd_mul_left _ _
theorem lc_least {n m k : Int} (hn : 0 < n) (h1 : n ∣ k) (h2 : m ∣ k) : lc n m ∣ k := by
  have hg := gcd_pos (m := m) hn
  obtain ⟨n1, hn1⟩ := Int.gcd_dvd_left n m
  obtain ⟨m1, hm1⟩ := Int.gcd_dvd_right n m
  have e : lc n m = n1 * m := by
    unfold lc
    have : n / (Int.gcd n m : Int) = n1 := by
      conv => lhs; lhs; rw [hn1]
      exact Int.mul_ediv_cancel_left _ (by omega)
    rw [this]
  rw [e]
  -- gcd * (n1 m) divides k * gcd : n m divides k n and k m
  have a1 : n * m ∣ k * n := by rw [Int.mul_comm k n]; exact Int.mul_dvd_mul_left n h2
  have a2 : n * m ∣ k * m := Int.mul_dvd_mul_right m h1
  have a3 : n * m ∣ (Int.gcd (k * n) (k * m) : Int) := Int.dvd_coe_gcd a1 a2
  rw [Int.gcd_mul_left] at a3
  have a4 : n * m ∣ k * (Int.gcd n m : Int) := by
    have : ((k.natAbs * Int.gcd n m : Nat) : Int) ∣ k * (Int.gcd n m : Int) := by
      rw [Int.natCast_mul]
      exact Int.mul_dvd_mul_right _ (Int.natAbs_dvd.mpr (Int.dvd_refl _))
    exact Int.dvd_trans a3 this
  have a5 : n * m = (Int.gcd n m : Int) * (n1 * m) := by
    conv => lhs; lhs; rw [hn1]
    exact Int.mul_assoc _ _ _
  rw [a5, Int.mul_comm k] at a4
  exact Int.dvd_of_mul_dvd_mul_left (by omega) a4
/-- the greatest common divisor of a least common multiple -/
theorem gcd_lc {n m' m t : Int} (hn : 0 < n) (h1 : (Int.gcd n m : Int) ∣ t) (h2 : (Int.gcd m' m : Int) ∣ t) : (Int.gcd (lc n m') m : Int) ∣ t := by
  have hh : 0 < (Int.gcd (Int.gcd n m') m : Int) := by
    have := gcd_pos (m := m') hn
    exact gcd_pos this
  -- D := gcd (lc n m') m * h divides g1 * g2
  let h : Int := (Int.gcd (Int.gcd n m') m : Int)
  let g1 : Int := (Int.gcd n m : Int)
  let g2 : Int := (Int.gcd m' m : Int)
  let L : Int := lc n m'
  let c : Int := (Int.gcd L m : Int)
  have he : h ∣ (Int.gcd n m' : Int) := Int.gcd_dvd_left _ _
  have hm : h ∣ m := Int.gcd_dvd_right _ _
  have hn' : h ∣ n := Int.dvd_trans he (Int.gcd_dvd_left _ _)
  have hm' : h ∣ m' := Int.dvd_trans he (Int.gcd_dvd_right _ _)
  have cL : c ∣ L := Int.gcd_dvd_left _ _
  have cm : c ∣ m := Int.gcd_dvd_right _ _
  have eL : L * (Int.gcd n m' : Int) = n * m' := by
    show n / (Int.gcd n m' : Int) * m' * (Int.gcd n m' : Int) = n * m'
    have := Int.ediv_mul_cancel (Int.gcd_dvd_left n m')
    rw [show n / (Int.gcd n m' : Int) * m' * (Int.gcd n m' : Int) = n / (Int.gcd n m' : Int) * (Int.gcd n m' : Int) * m' by ac_rfl, this]
  have d1 : c * h ∣ n * m' := by rw [← eL]; exact Int.mul_dvd_mul cL he
  have d2 : c * h ∣ m * m' := Int.mul_dvd_mul cm hm'
  have d3 : c * h ∣ m * n := Int.mul_dvd_mul cm hn'
  have d4 : c * h ∣ m * m := Int.mul_dvd_mul cm hm
  have mulg : ∀ u v z : Int, c * h ∣ z * u → c * h ∣ z * v → c * h ∣ z * (Int.gcd u v : Int) := fun u v z p q => by
    have a := Int.dvd_coe_gcd p q
    rw [Int.gcd_mul_left, Int.natCast_mul] at a
    exact Int.dvd_trans a (Int.mul_dvd_mul_right _ (Int.natAbs_dvd.mpr (Int.dvd_refl _)))
  have e1 : c * h ∣ m' * g1 := mulg n m m' (by rw [Int.mul_comm m' n]; exact d1) (by rw [Int.mul_comm m' m]; exact d2)
  have e2 : c * h ∣ m * g1 := mulg n m m d3 d4
  have e3 : c * h ∣ g1 * g2 := mulg m' m g1 (by rw [Int.mul_comm g1 m']; exact e1) (by rw [Int.mul_comm g1 m]; exact e2)
  -- g1 * g2 divides t * h : both divide t, h = gcd g1 g2
  have hg : h = (Int.gcd g1 g2 : Int) := by
    have x1 : h ∣ (Int.gcd g1 g2 : Int) := Int.dvd_coe_gcd (Int.dvd_coe_gcd hn' hm) (Int.dvd_coe_gcd hm' hm)
    have y1 : (Int.gcd g1 g2 : Int) ∣ g1 := Int.gcd_dvd_left _ _
    have y2 : (Int.gcd g1 g2 : Int) ∣ g2 := Int.gcd_dvd_right _ _
    have x2 : (Int.gcd g1 g2 : Int) ∣ h := Int.dvd_coe_gcd (Int.dvd_coe_gcd (Int.dvd_trans y1 (Int.gcd_dvd_left _ _)) (Int.dvd_trans y2 (Int.gcd_dvd_left _ _))) (Int.dvd_trans y1 (Int.gcd_dvd_right _ _))
    exact Int.dvd_antisymm (by omega) (by omega) x1 x2
  have f : g1 * g2 ∣ t * h := by
    rw [hg]
    have p1 : g1 * g2 ∣ t * g1 := by rw [Int.mul_comm t]; exact Int.mul_dvd_mul_left _ h2
    have p2 : g1 * g2 ∣ t * g2 := Int.mul_dvd_mul_right _ h1
    have a := Int.dvd_coe_gcd p1 p2
    rw [Int.gcd_mul_left, Int.natCast_mul] at a
    exact Int.dvd_trans a (Int.mul_dvd_mul_right _ (Int.natAbs_dvd.mpr (Int.dvd_refl _)))
  have f2 : h * c ∣ h * t := by
    rw [Int.mul_comm h c, Int.mul_comm h t]
    exact Int.dvd_trans e3 f
  exact Int.dvd_of_mul_dvd_mul_left (by omega) f2
end Nm

/-! Num2: joined rests of many pairs. -/
namespace Nm
theorem bezN : ∀ (b a : Nat), ∃ x y : Int, (a : Int) * x + (b : Int) * y = (Nat.gcd a b : Int) := by
  intro b
  induction b using Nat.strongRecOn with
  | ind b ih =>
    intro a
    by_cases hb : b = 0
    · subst hb
      exact ⟨1, 0, by simp⟩
    · obtain ⟨x, y, h⟩ := ih (a % b) (Nat.mod_lt _ (by omega)) b
      refine ⟨y, x - (a / b : Nat) * y, ?_⟩
      rw [← gcd_turn a b, ← h]
      have e : ((a : Nat) : Int) = (b : Int) * ((a / b : Nat) : Int) + ((a % b : Nat) : Int) := by
        have := Nat.div_add_mod a b
        omega
      rw [Int.mul_sub, show (b : Int) * (((a / b : Nat) : Int) * y) = (b : Int) * ((a / b : Nat) : Int) * y by ac_rfl]
      conv => lhs; lhs; lhs; rw [e]
      rw [Int.add_mul]
      omega
theorem bez (a b : Int) : ∃ x y : Int, a * x + b * y = (Int.gcd a b : Int) := by
  obtain ⟨x, y, h⟩ := bezN b.natAbs a.natAbs
  have sg : ∀ c : Int, ∃ e : Int, ∀ z : Int, c * (e * z) = (c.natAbs : Int) * z := fun c => by
    by_cases hc : 0 ≤ c
    · exact ⟨1, fun z => by rw [Int.one_mul, Int.natAbs_of_nonneg hc]⟩
    · refine ⟨-1, fun z => ?_⟩
      have : (c.natAbs : Int) = -c := by omega
      rw [this, Int.neg_mul c z, Int.neg_one_mul, Int.mul_neg]
  obtain ⟨e, he⟩ := sg a
  obtain ⟨f, hf⟩ := sg b
  exact ⟨e * x, f * y, by rw [he, hf]; exact h⟩
/-- u leaves both rests -/
def Fits (r n s m u : Int) : Prop := 0 ≤ u ∧ u < lc n m ∧ n ∣ u - r ∧ m ∣ u - s
theorem Fits.uniq {r n s m u v : Int} (hn : 0 < n) (h : Fits r n s m u) (k : Fits r n s m v) : u = v := by
  refine eq_of_dvd h.1 h.2.1 k.1 k.2.1 (lc_least hn ?_ ?_)
  · have := Int.dvd_sub h.2.2.1 k.2.2.1
    rw [show u - r - (v - r) = u - v by omega] at this
    exact this
  · have := Int.dvd_sub h.2.2.2 k.2.2.2
    rw [show u - s - (v - s) = u - v by omega] at this
    exact this
theorem Fits.gcd {r n s m u : Int} (h : Fits r n s m u) : (Int.gcd n m : Int) ∣ s - r := by
  have h1 := Int.dvd_trans (Int.gcd_dvd_left n m) h.2.2.1
  have h2 := Int.dvd_trans (Int.gcd_dvd_right n m) h.2.2.2
  have := Int.dvd_sub h1 h2
  rw [show u - r - (u - s) = s - r by omega] at this
  exact this
/-- the program's formula -/
theorem Fits.of {r n s m x y : Int} (hn : 0 < n) (hm : 0 < m) (hxy : n * x + m * y = (Int.gcd n m : Int)) (h : (Int.gcd n m : Int) ∣ s - r) : Fits r n s m ((r + n * ((s - r) / (Int.gcd n m : Int) * x)) % lc n m) := by
  have hW := lc_pos hn hm
  refine ⟨Int.emod_nonneg _ (by omega), Int.emod_lt_of_pos _ hW, ?_, ?_⟩
  · have a : lc n m ∣ (r + n * ((s - r) / (Int.gcd n m : Int) * x)) - (r + n * ((s - r) / (Int.gcd n m : Int) * x)) % lc n m := Int.dvd_self_sub_emod
    have b := Int.dvd_trans lc_left a
    have c : n ∣ n * ((s - r) / (Int.gcd n m : Int) * x) := Int.dvd_mul_right _ _
    have d := Int.dvd_sub c b
    rw [show ∀ p q w : Int, p - (r + p - q) = q - r by intros; omega] at d
    · exact d
    · exact 0
  · have a : lc n m ∣ (r + n * ((s - r) / (Int.gcd n m : Int) * x)) - (r + n * ((s - r) / (Int.gcd n m : Int) * x)) % lc n m := Int.dvd_self_sub_emod
    have b := Int.dvd_trans lc_right a
    obtain ⟨k, hk⟩ := h
    have hg := gcd_pos (m := m) hn
    have e : (s - r) / (Int.gcd n m : Int) = k := by rw [hk]; exact Int.mul_ediv_cancel_left _ (by omega)
    have c : m ∣ (r + n * ((s - r) / (Int.gcd n m : Int) * x)) - s := by
      rw [e]
      have : n * (k * x) = k * (n * x) := by ac_rfl
      rw [this, show n * x = (Int.gcd n m : Int) - m * y by omega, Int.mul_sub, show k * (Int.gcd n m : Int) = (Int.gcd n m : Int) * k by ac_rfl, ← hk]
      refine ⟨-(k * y), ?_⟩
      have : k * (m * y) = m * (k * y) := by ac_rfl
      rw [this, Int.mul_neg]
      omega
    have d := Int.dvd_sub c b
    rw [show ∀ p q : Int, p - s - (p - q) = q - s by intros; omega] at d
    exact d
theorem fits_iff {r n s m : Int} (hn : 0 < n) (hm : 0 < m) : (∃ u, Fits r n s m u) ↔ (Int.gcd n m : Int) ∣ s - r := by
  constructor
  · rintro ⟨u, h⟩
    exact h.gcd
  · intro h
    obtain ⟨x, y, e⟩ := bez n m
    exact ⟨_, Fits.of hn hm e h⟩
open Classical in
/-- all pairs joined, one behind another -/
noncomputable def foldJ : List (Int × Int) → Int × Int → Option (Int × Int)
  | [], st => some st
  | q :: ps, st => if h : ∃ u, Fits st.1 st.2 q.1 q.2 u then foldJ ps (Classical.choose h, lc st.2 q.2) else none
theorem foldJ_yes {q : Int × Int} {ps : List (Int × Int)} {r n u : Int} (hn : 0 < n) (h : Fits r n q.1 q.2 u) : foldJ (q :: ps) (r, n) = foldJ ps (u, lc n q.2) := by
  have hh : ∃ u, Fits (r, n).1 (r, n).2 q.1 q.2 u := ⟨u, h⟩
  have e : foldJ (q :: ps) (r, n) = foldJ ps (Classical.choose hh, lc n q.2) := by
    conv => lhs; unfold foldJ
    exact dif_pos hh
  rw [e, Fits.uniq hn (Classical.choose_spec hh) h]
theorem foldJ_no {q : Int × Int} {ps : List (Int × Int)} {r n : Int} (h : ¬ ∃ u, Fits r n q.1 q.2 u) : foldJ (q :: ps) (r, n) = none := by
  unfold foldJ
  exact dif_neg h
def Compat (p q : Int × Int) : Prop := (Int.gcd p.2 q.2 : Int) ∣ p.1 - q.1
structure InvJ (P : List (Int × Int)) (r n : Int) : Prop where
  n0 : 0 < n
  at_ : ∀ p ∈ P, p.2 ∣ n ∧ p.2 ∣ r - p.1
  sup : ∀ k t : Int, (∀ p ∈ P, (Int.gcd p.2 k : Int) ∣ t) → (Int.gcd n k : Int) ∣ t
theorem InvJ.nil : InvJ [] 0 1 := ⟨by decide, fun _ h => (nomatch h), fun k t _ => by simp⟩
theorem InvJ.snoc {P : List (Int × Int)} {r n u : Int} {q : Int × Int} (I : InvJ P r n) (hm : 0 < q.2) (h : Fits r n q.1 q.2 u) : InvJ (P ++ [q]) u (lc n q.2) := by
  refine ⟨lc_pos I.n0 hm, fun p hp => ?_, fun k t ht => ?_⟩
  · rcases List.mem_append.mp hp with hp | hp
    · obtain ⟨a, b⟩ := I.at_ p hp
      refine ⟨Int.dvd_trans a lc_left, ?_⟩
      have := Int.dvd_add (Int.dvd_trans a h.2.2.1) b
      rw [show u - r + (r - p.1) = u - p.1 by omega] at this
      exact this
    · rw [List.mem_singleton.mp hp]
      exact ⟨lc_right, h.2.2.2⟩
  · exact gcd_lc I.n0 (I.sup k t fun p hp => ht p (List.mem_append_left _ hp)) (ht q (List.mem_append_right _ (List.mem_singleton.mpr rfl)))
theorem InvJ.fits_iff {P : List (Int × Int)} {r n : Int} {q : Int × Int} (I : InvJ P r n) (hm : 0 < q.2) : (∃ u, Fits r n q.1 q.2 u) ↔ ∀ p ∈ P, Compat p q := by
  rw [Nm.fits_iff I.n0 hm]
  constructor
  · intro h p hp
    obtain ⟨a, b⟩ := I.at_ p hp
    have h1 : (Int.gcd p.2 q.2 : Int) ∣ (Int.gcd n q.2 : Int) := Int.dvd_coe_gcd (Int.dvd_trans (Int.gcd_dvd_left _ _) a) (Int.gcd_dvd_right _ _)
    have h2 := Int.dvd_trans h1 h
    have h3 := Int.dvd_trans (Int.gcd_dvd_left p.2 q.2) b
    have := Int.dvd_add h2 h3
    rw [show q.1 - r + (r - p.1) = -(p.1 - q.1) by omega] at this
    exact Int.dvd_neg.mp this
  · intro h
    refine I.sup _ _ fun p hp => ?_
    obtain ⟨a, b⟩ := I.at_ p hp
    have h3 := Int.dvd_trans (Int.gcd_dvd_left p.2 q.2) b
    have := Int.dvd_add (h p hp) h3
    rw [show p.1 - q.1 + (r - p.1) = -(q.1 - r) by omega] at this
    exact Int.dvd_neg.mp this
def AllC (P : List (Int × Int)) : List (Int × Int) → Prop
  | [] => True
  | q :: ps => (∀ p ∈ P, Compat p q) ∧ AllC (P ++ [q]) ps
theorem foldJ_iff : ∀ (ps P : List (Int × Int)) (r n : Int), InvJ P r n → (∀ q ∈ ps, 0 < q.2) → ((∃ st, foldJ ps (r, n) = some st) ↔ AllC P ps)
  | [], P, r, n, _, _ => ⟨fun _ => trivial, fun _ => ⟨_, rfl⟩⟩
  | q :: ps, P, r, n, I, hm => by
    have hq := hm q List.mem_cons_self
    by_cases h : ∃ u, Fits r n q.1 q.2 u
    · obtain ⟨u, hu⟩ := h
      rw [foldJ_yes I.n0 hu, foldJ_iff ps (P ++ [q]) u _ (I.snoc hq hu) fun z hz => hm z (List.mem_cons_of_mem _ hz)]
      exact ⟨fun z => ⟨(I.fits_iff hq).mp ⟨u, hu⟩, z⟩, fun z => z.2⟩
    · rw [foldJ_no h]
      refine ⟨fun z => ?_, fun z => absurd ((I.fits_iff hq).mpr z.1) h⟩
      obtain ⟨_, z⟩ := z
      cases z
theorem allC_iff : ∀ (ps P : List (Int × Int)), AllC P ps ↔ ∀ i (hi : i < ps.length), ∀ p ∈ P ++ ps.take i, Compat p ps[i]
  | [], P => ⟨fun _ i hi => absurd hi (by simp), fun _ => trivial⟩
  | q :: ps, P => by
    show ((∀ p ∈ P, Compat p q) ∧ AllC (P ++ [q]) ps) ↔ _
    rw [allC_iff ps (P ++ [q])]
    constructor
    · rintro ⟨h1, h2⟩ i hi p hp
      cases i with
      | zero =>
        simp only [List.take_zero, List.append_nil] at hp
        exact h1 p hp
      | succ i =>
        refine h2 i (by simpa using hi) p ?_
        rw [List.take_succ_cons] at hp
        simpa using hp
    · intro h
      refine ⟨fun p hp => h 0 (by simp) p (by simpa using hp), fun i hi p hp => ?_⟩
      have := h (i + 1) (by simpa using hi) p (by rw [List.take_succ_cons]; simpa using hp)
      exact this
theorem lc_le {n m : Int} (hn : 0 < n) (hm : 0 < m) : lc n m ≤ n * m := by
  unfold lc
  refine Int.mul_le_mul_of_nonneg_right ?_ (by omega)
  exact Int.ediv_le_self _ (by omega)
end Nm

/-! printed by gen.py: the defs of the law's program, their denotations and rule terms -/
namespace K10
open PySem PySem.Spec PyProof.Rows L2 Fd
def topS (i : Nat) : Stmt := PySem.Challenge.pw_primeworth_k10_rests_that_are_joined.main.body.getD i (.Pass ⟨0, 0, 0, 0⟩)
/-- the built-ins' names are free -/
structure MG (mg : Str → Option Value) : Prop where
  abs : mg "abs" = none
  all : mg "all" = none
  bool : mg "bool" = none
  int : mg "int" = none
  isinstance : mg "isinstance" = none
  len : mg "len" = none
  list : mg "list" = none
  range : mg "range" = none
  str : mg "str" = none
  tuple : mg "tuple" = none
/-! ### is_integer -/
def N_is_integer : List Str := ["value"]
abbrev s_is_integer : Stmt := topS 1
theorem sc_is_integer : FnScope N_is_integer ["value"] (defScope s_is_integer) := ⟨rfl, rfl, rfl, by decide +kernel, rfl, by decide +kernel, by decide +kernel⟩
noncomputable def d_is_integer : DenS :=
  (sRet (dAn (d1 (f_isi .int) (cVar 0)) (dNo (d1 (f_isi .bool) (cVar 0)))))
theorem b_is_integer {P : Program} {w : World} {K : Frg} {mg : Str → Option Value} {base : Heap} {j : Nat} (m : MG mg) {qual : Str} {f : Addr} {cdv : Value} {A : Around} {outer : List Env} {s : Shared} {H : Hp} {E : XK} (hr : Room j (A.deeper (envOfC qual (defScope s_is_integer) s.heap.objs.size f cdv))) :
    PSs (cxOf CX0 P w K mg base N_is_integer qual (defScope s_is_integer) f cdv A outer s H E).nox (defBody s_is_integer) (tS K d_is_integer) :=
    have nd := sc_is_integer.nd
    (ss_one (s_ret (e_an (e_isi .int (e_var 0) m.isinstance m.int) (e_one (e_no (e_isi .bool (e_var 0) m.isinstance m.bool))))))
theorem w_is_integer {P : Program} {w : World} {K : Frg} {mg : Str → Option Value} {base : Heap} {j : Nat} (m : MG mg) {f : Addr} {fd : FuncData} (F : L2.Fun K "is_integer" "is_integer" s_is_integer f fd) (hg : mg "is_integer" = some (.ref f)) {ψ : Fn}
    (hψ : Den.Does N_is_integer.length 1 d_is_integer ψ) : Callee P w K mg base (j + 1) "is_integer" 1 ψ :=
  ⟨⟨f, fd, ["value"], fn_ok F sc_is_integer (fun _ _ _ _ _ _ hr => b_is_integer m hr) hψ, hg, F.kp, F.binds fun _ _ _ _ _ _ us hl => match us, hl with | [_], _ => rfl⟩⟩
/-! ### common_divisor -/
def N_common_divisor : List Str := ["a", "b"]
abbrev s_common_divisor : Stmt := topS 2
theorem sc_common_divisor : FnScope N_common_divisor ["a", "b"] (defScope s_common_divisor) := ⟨rfl, rfl, rfl, by decide +kernel, rfl, by decide +kernel, by decide +kernel⟩
noncomputable def d_common_divisor : DenS :=
  (sSeq (sPar 0 1 (aCons (dN f_abs (aCons (cVar 0) aNil)) (aCons (dN f_abs (aCons (cVar 1) aNil)) aNil)))
  (sSeq (sWh (tB1 (d2 f_ne (cVar 1) (cK (.int 0)))) (sPar 0 1 (aCons (cVar 1) (aCons (d2 f_mod (cVar 0) (cVar 1)) aNil))))
  (sRet (cVar 0))))
theorem b_common_divisor {P : Program} {w : World} {K : Frg} {mg : Str → Option Value} {base : Heap} {j : Nat} (m : MG mg) {qual : Str} {f : Addr} {cdv : Value} {A : Around} {outer : List Env} {s : Shared} {H : Hp} {E : XK} (hr : Room j (A.deeper (envOfC qual (defScope s_common_divisor) s.heap.objs.size f cdv))) :
    PSs (cxOf CX0 P w K mg base N_common_divisor qual (defScope s_common_divisor) f cdv A outer s H E).nox (defBody s_common_divisor) (tS K d_common_divisor) :=
    have nd := sc_common_divisor.nd
    (ss_cons (s_par 0 1 rfl nd (a_cons (e_callB call_abs s_abs m.abs (a_cons (e_var 0) a_nil)) (a_cons (e_callB call_abs s_abs m.abs (a_cons (e_var 1) a_nil)) a_nil)))
      (ss_cons (s_wh (x_cmp (o_ne hr.units) s_ne (e_var 1) e_int (nomark _)) (ss_one (s_par 0 1 rfl nd (a_cons (e_var 1) (a_cons (e_op o_mod s_mod (e_var 0) (e_var 1)) a_nil)))))
      (ss_one (s_ret (e_var 0)))))
theorem w_common_divisor {P : Program} {w : World} {K : Frg} {mg : Str → Option Value} {base : Heap} {j : Nat} (m : MG mg) {f : Addr} {fd : FuncData} (F : L2.Fun K "common_divisor" "common_divisor" s_common_divisor f fd) (hg : mg "common_divisor" = some (.ref f)) {ψ : Fn}
    (hψ : Den.Does N_common_divisor.length 2 d_common_divisor ψ) : Callee P w K mg base (j + 1) "common_divisor" 2 ψ :=
  ⟨⟨f, fd, ["a", "b"], fn_ok F sc_common_divisor (fun _ _ _ _ _ _ hr => b_common_divisor m hr) hψ, hg, F.kp, F.binds fun _ _ _ _ _ _ us hl => match us, hl with | [_, _], _ => rfl⟩⟩
/-! ### with_cofactors -/
def N_with_cofactors : List Str := ["a", "b", "g", "x", "rest", "other", "times"]
abbrev s_with_cofactors : Stmt := topS 3
theorem sc_with_cofactors : FnScope N_with_cofactors ["a", "b"] (defScope s_with_cofactors) := ⟨rfl, rfl, rfl, by decide +kernel, rfl, by decide +kernel, by decide +kernel⟩
noncomputable def d_with_cofactors : DenS :=
  (sSeq (sIf (tB1 (d2 f_eq (cVar 1) (cK (.int 0)))) (sRet (dTup (aCons (dN f_abs (aCons (cVar 0) aNil)) (aCons (d2 f_sub (d2 f_gt (cVar 0) (cK (.int 0))) (d2 f_lt (cVar 0) (cK (.int 0)))) (aCons (cK (.int 0)) aNil))))) sNil)
  (sSeq (sPar 2 3 (aCons (dN f_abs (aCons (cVar 1) aNil)) (aCons (cK (.int 0)) aNil)))
  (sSeq (sPar 4 5 (aCons (d2 f_mod (cVar 0) (dN f_abs (aCons (cVar 1) aNil))) (aCons (cK (.int 1)) aNil)))
  (sSeq (sWh (tB1 (d2 f_ne (cVar 4) (cK (.int 0)))) (sSeq (sAsg (d2 f_fdiv (cVar 2) (cVar 4)) (gNm 6))
  (sAsg (dTup (aCons (cVar 4) (aCons (cVar 5) (aCons (d2 f_sub (cVar 2) (d2 f_mul (cVar 6) (cVar 4))) (aCons (d2 f_sub (cVar 3) (d2 f_mul (cVar 6) (cVar 5))) aNil))))) (gTu 4 (gsCons (gNm 2) (gsCons (gNm 3) (gsCons (gNm 4) (gsCons (gNm 5) gsNil))))))))
  (sSeq (sAsg (d2 f_mod (cVar 3) (d2 f_fdiv (dN f_abs (aCons (cVar 1) aNil)) (cVar 2))) (gNm 3))
  (sRet (dTup (aCons (cVar 2) (aCons (cVar 3) (aCons (d2 f_fdiv (d2 f_sub (cVar 2) (d2 f_mul (cVar 0) (cVar 3))) (cVar 1)) aNil))))))))))
theorem b_with_cofactors {P : Program} {w : World} {K : Frg} {mg : Str → Option Value} {base : Heap} {j : Nat} (m : MG mg) {qual : Str} {f : Addr} {cdv : Value} {A : Around} {outer : List Env} {s : Shared} {H : Hp} {E : XK} (hr : Room j (A.deeper (envOfC qual (defScope s_with_cofactors) s.heap.objs.size f cdv))) :
    PSs (cxOf CX0 P w K mg base N_with_cofactors qual (defScope s_with_cofactors) f cdv A outer s H E).nox (defBody s_with_cofactors) (tS K d_with_cofactors) :=
    have nd := sc_with_cofactors.nd
    (ss_cons (s_if (x_cmp (o_eq hr.units) s_eq (e_var 1) e_int (nomark _)) (ss_one (s_ret (e_tup (a_cons (e_callB call_abs s_abs m.abs (a_cons (e_var 0) a_nil)) (a_cons (e_op o_sub s_sub (e_cmp op_gt s_gt (e_var 0) e_int (nomark _)) (e_cmp (o_lt hr.units0) s_lt (e_var 0) e_int (nomark _))) (a_cons e_int a_nil)))))) ss_nil)
      (ss_cons (s_par 2 3 rfl nd (a_cons (e_callB call_abs s_abs m.abs (a_cons (e_var 1) a_nil)) (a_cons e_int a_nil)))
      (ss_cons (s_par 4 5 rfl nd (a_cons (e_op o_mod s_mod (e_var 0) (e_callB call_abs s_abs m.abs (a_cons (e_var 1) a_nil))) (a_cons e_int a_nil)))
      (ss_cons (s_wh (x_cmp (o_ne hr.units) s_ne (e_var 4) e_int (nomark _)) (ss_cons (s_set 6 nd (e_op o_fdiv s_fdiv (e_var 2) (e_var 4)))
      (ss_one (s_asg (e_tup (a_cons (e_var 4) (a_cons (e_var 5) (a_cons (e_op o_sub s_sub (e_var 2) (e_op o_mul s_mul (e_var 6) (e_var 4))) (a_cons (e_op o_sub s_sub (e_var 3) (e_op o_mul s_mul (e_var 6) (e_var 5))) a_nil))))) (g_tu rfl (gs_cons (g_nm 2 nd) (gs_cons (g_nm 3 nd) (gs_cons (g_nm 4 nd) (gs_cons (g_nm 5 nd) gs_nil)))))))))
      (ss_cons (s_set 3 nd (e_op o_mod s_mod (e_var 3) (e_op o_fdiv s_fdiv (e_callB call_abs s_abs m.abs (a_cons (e_var 1) a_nil)) (e_var 2))))
      (ss_one (s_ret (e_tup (a_cons (e_var 2) (a_cons (e_var 3) (a_cons (e_op o_fdiv s_fdiv (e_op o_sub s_sub (e_var 2) (e_op o_mul s_mul (e_var 0) (e_var 3))) (e_var 1)) a_nil)))))))))))
theorem w_with_cofactors {P : Program} {w : World} {K : Frg} {mg : Str → Option Value} {base : Heap} {j : Nat} (m : MG mg) {f : Addr} {fd : FuncData} (F : L2.Fun K "with_cofactors" "with_cofactors" s_with_cofactors f fd) (hg : mg "with_cofactors" = some (.ref f)) {ψ : Fn}
    (hψ : Den.Does N_with_cofactors.length 2 d_with_cofactors ψ) : Callee P w K mg base (j + 1) "with_cofactors" 2 ψ :=
  ⟨⟨f, fd, ["a", "b"], fn_ok F sc_with_cofactors (fun _ _ _ _ _ _ hr => b_with_cofactors m hr) hψ, hg, F.kp, F.binds fun _ _ _ _ _ _ us hl => match us, hl with | [_, _], _ => rfl⟩⟩
/-! ### inverse -/
def N_inverse : List Str := ["a", "n", "g", "x", "y"]
abbrev s_inverse : Stmt := topS 4
theorem sc_inverse : FnScope N_inverse ["a", "n"] (defScope s_inverse) := ⟨rfl, rfl, rfl, by decide +kernel, rfl, by decide +kernel, by decide +kernel⟩
noncomputable def d_inverse (p_with_cofactors : Fn) : DenS :=
  (sSeq (sAsg (dCall 2 p_with_cofactors (aCons (cVar 0) (aCons (cVar 1) aNil))) (gTu 3 (gsCons (gNm 2) (gsCons (gNm 3) (gsCons (gNm 4) gsNil)))))
  (sRet (dIf (tB1 (d2 f_eq (cVar 2) (cK (.int 1)))) (d2 f_mod (cVar 3) (cVar 1)) (cK .non))))
theorem b_inverse {P : Program} {w : World} {K : Frg} {mg : Str → Option Value} {base : Heap} {j : Nat} (m : MG mg) {p_with_cofactors : Fn} (c_with_cofactors : Callee P w K mg base j "with_cofactors" 2 p_with_cofactors) {qual : Str} {f : Addr} {cdv : Value} {A : Around} {outer : List Env} {s : Shared} {H : Hp} {E : XK} (hr : Room j (A.deeper (envOfC qual (defScope s_inverse) s.heap.objs.size f cdv))) :
    PSs (cxOf CX0 P w K mg base N_inverse qual (defScope s_inverse) f cdv A outer s H E).nox (defBody s_inverse) (tS K (d_inverse p_with_cofactors)) :=
    have nd := sc_inverse.nd
    (ss_cons (s_asg (e_call c_with_cofactors hr (a_cons (e_var 0) (a_cons (e_var 1) a_nil))) (g_tu rfl (gs_cons (g_nm 2 nd) (gs_cons (g_nm 3 nd) (gs_cons (g_nm 4 nd) gs_nil)))))
      (ss_one (s_ret (e_if (x_cmp (o_eq hr.units) s_eq (e_var 2) e_int (nomark _)) (e_op o_mod s_mod (e_var 3) (e_var 1)) e_non))))
theorem w_inverse {P : Program} {w : World} {K : Frg} {mg : Str → Option Value} {base : Heap} {j : Nat} (m : MG mg) {p_with_cofactors : Fn} (c_with_cofactors : Callee P w K mg base j "with_cofactors" 2 p_with_cofactors) {f : Addr} {fd : FuncData} (F : L2.Fun K "inverse" "inverse" s_inverse f fd) (hg : mg "inverse" = some (.ref f)) {ψ : Fn}
    (hψ : Den.Does N_inverse.length 2 (d_inverse p_with_cofactors) ψ) : Callee P w K mg base (j + 1) "inverse" 2 ψ :=
  ⟨⟨f, fd, ["a", "n"], fn_ok F sc_inverse (fun _ _ _ _ _ _ hr => b_inverse m c_with_cofactors hr) hψ, hg, F.kp, F.binds fun _ _ _ _ _ _ us hl => match us, hl with | [_, _], _ => rfl⟩⟩
/-! ### power -/
def N_power : List Str := ["a", "k", "n", "found", "base"]
abbrev s_power : Stmt := topS 5
theorem sc_power : FnScope N_power ["a", "k", "n"] (defScope s_power) := ⟨rfl, rfl, rfl, by decide +kernel, rfl, by decide +kernel, by decide +kernel⟩
noncomputable def d_power : DenS :=
  (sSeq (sPar 3 4 (aCons (d2 f_mod (cK (.int 1)) (cVar 2)) (aCons (d2 f_mod (cVar 0) (cVar 2)) aNil)))
  (sSeq (sWh (tB1 (d2 f_gt (cVar 1) (cK (.int 0)))) (sSeq (sIf (tB1 (d2 f_eq (d2 f_mod (cVar 1) (cK (.int 2))) (cK (.int 1)))) (sAsg (d2 f_mod (d2 f_mul (cVar 3) (cVar 4)) (cVar 2)) (gNm 3)) sNil)
  (sSeq (sAsg (d2 f_mod (d2 f_mul (cVar 4) (cVar 4)) (cVar 2)) (gNm 4))
  (sAsg (d2 f_fdiv (cVar 1) (cK (.int 2))) (gNm 1)))))
  (sRet (cVar 3))))
theorem b_power {P : Program} {w : World} {K : Frg} {mg : Str → Option Value} {base : Heap} {j : Nat} (m : MG mg) {qual : Str} {f : Addr} {cdv : Value} {A : Around} {outer : List Env} {s : Shared} {H : Hp} {E : XK} (hr : Room j (A.deeper (envOfC qual (defScope s_power) s.heap.objs.size f cdv))) :
    PSs (cxOf CX0 P w K mg base N_power qual (defScope s_power) f cdv A outer s H E).nox (defBody s_power) (tS K d_power) :=
    have nd := sc_power.nd
    (ss_cons (s_par 3 4 rfl nd (a_cons (e_op o_mod s_mod e_int (e_var 2)) (a_cons (e_op o_mod s_mod (e_var 0) (e_var 2)) a_nil)))
      (ss_cons (s_wh (x_cmp op_gt s_gt (e_var 1) e_int (nomark _)) (ss_cons (s_if (x_cmp (o_eq hr.units) s_eq (e_op o_mod s_mod (e_var 1) e_int) e_int (nomark _)) (ss_one (s_set 3 nd (e_op o_mod s_mod (e_op o_mul s_mul (e_var 3) (e_var 4)) (e_var 2)))) ss_nil)
      (ss_cons (s_set 4 nd (e_op o_mod s_mod (e_op o_mul s_mul (e_var 4) (e_var 4)) (e_var 2)))
      (ss_one (s_set 1 nd (e_op o_fdiv s_fdiv (e_var 1) e_int))))))
      (ss_one (s_ret (e_var 3)))))
theorem w_power {P : Program} {w : World} {K : Frg} {mg : Str → Option Value} {base : Heap} {j : Nat} (m : MG mg) {f : Addr} {fd : FuncData} (F : L2.Fun K "power" "power" s_power f fd) (hg : mg "power" = some (.ref f)) {ψ : Fn}
    (hψ : Den.Does N_power.length 3 d_power ψ) : Callee P w K mg base (j + 1) "power" 3 ψ :=
  ⟨⟨f, fd, ["a", "k", "n"], fn_ok F sc_power (fun _ _ _ _ _ _ hr => b_power m hr) hψ, hg, F.kp, F.binds fun _ _ _ _ _ _ us hl => match us, hl with | [_, _, _], _ => rfl⟩⟩
/-! ### joined_two -/
def N_joined_two : List Str := ["r", "n", "s", "m", "g", "x", "y", "whole"]
abbrev s_joined_two : Stmt := topS 6
theorem sc_joined_two : FnScope N_joined_two ["r", "n", "s", "m"] (defScope s_joined_two) := ⟨rfl, rfl, rfl, by decide +kernel, rfl, by decide +kernel, by decide +kernel⟩
noncomputable def d_joined_two (p_with_cofactors : Fn) : DenS :=
  (sSeq (sAsg (dCall 2 p_with_cofactors (aCons (cVar 1) (aCons (cVar 3) aNil))) (gTu 3 (gsCons (gNm 4) (gsCons (gNm 5) (gsCons (gNm 6) gsNil)))))
  (sSeq (sIf (tB1 (d2 f_ne (d2 f_mod (d2 f_sub (cVar 2) (cVar 0)) (cVar 4)) (cK (.int 0)))) (sRet (cK .non)) sNil)
  (sSeq (sAsg (d2 f_mul (d2 f_fdiv (cVar 1) (cVar 4)) (cVar 3)) (gNm 7))
  (sRet (dTup (aCons (d2 f_mod (d2 f_add (cVar 0) (d2 f_mul (cVar 1) (d2 f_mul (d2 f_fdiv (d2 f_sub (cVar 2) (cVar 0)) (cVar 4)) (cVar 5)))) (cVar 7)) (aCons (cVar 7) aNil)))))))
theorem b_joined_two {P : Program} {w : World} {K : Frg} {mg : Str → Option Value} {base : Heap} {j : Nat} (m : MG mg) {p_with_cofactors : Fn} (c_with_cofactors : Callee P w K mg base j "with_cofactors" 2 p_with_cofactors) {qual : Str} {f : Addr} {cdv : Value} {A : Around} {outer : List Env} {s : Shared} {H : Hp} {E : XK} (hr : Room j (A.deeper (envOfC qual (defScope s_joined_two) s.heap.objs.size f cdv))) :
    PSs (cxOf CX0 P w K mg base N_joined_two qual (defScope s_joined_two) f cdv A outer s H E).nox (defBody s_joined_two) (tS K (d_joined_two p_with_cofactors)) :=
    have nd := sc_joined_two.nd
    (ss_cons (s_asg (e_call c_with_cofactors hr (a_cons (e_var 1) (a_cons (e_var 3) a_nil))) (g_tu rfl (gs_cons (g_nm 4 nd) (gs_cons (g_nm 5 nd) (gs_cons (g_nm 6 nd) gs_nil)))))
      (ss_cons (s_if (x_cmp (o_ne hr.units) s_ne (e_op o_mod s_mod (e_op o_sub s_sub (e_var 2) (e_var 0)) (e_var 4)) e_int (nomark _)) (ss_one (s_ret e_non)) ss_nil)
      (ss_cons (s_set 7 nd (e_op o_mul s_mul (e_op o_fdiv s_fdiv (e_var 1) (e_var 4)) (e_var 3)))
      (ss_one (s_ret (e_tup (a_cons (e_op o_mod s_mod (e_op o_add s_add (e_var 0) (e_op o_mul s_mul (e_var 1) (e_op o_mul s_mul (e_op o_fdiv s_fdiv (e_op o_sub s_sub (e_var 2) (e_var 0)) (e_var 4)) (e_var 5)))) (e_var 7)) (a_cons (e_var 7) a_nil))))))))
theorem w_joined_two {P : Program} {w : World} {K : Frg} {mg : Str → Option Value} {base : Heap} {j : Nat} (m : MG mg) {p_with_cofactors : Fn} (c_with_cofactors : Callee P w K mg base j "with_cofactors" 2 p_with_cofactors) {f : Addr} {fd : FuncData} (F : L2.Fun K "joined_two" "joined_two" s_joined_two f fd) (hg : mg "joined_two" = some (.ref f)) {ψ : Fn}
    (hψ : Den.Does N_joined_two.length 4 (d_joined_two p_with_cofactors) ψ) : Callee P w K mg base (j + 1) "joined_two" 4 ψ :=
  ⟨⟨f, fd, ["r", "n", "s", "m"], fn_ok F sc_joined_two (fun _ _ _ _ _ _ hr => b_joined_two m c_with_cofactors hr) hψ, hg, F.kp, F.binds fun _ _ _ _ _ _ us hl => match us, hl with | [_, _, _, _], _ => rfl⟩⟩
/-! ### joined_rests -/
def N_joined_rests : List Str := ["pairs", "i", "j", "d", "r", "n", "s", "m"]
abbrev s_joined_rests : Stmt := topS 7
theorem sc_joined_rests : FnScope N_joined_rests ["pairs"] (defScope s_joined_rests) := ⟨rfl, rfl, rfl, by decide +kernel, rfl, by decide +kernel, by decide +kernel⟩
noncomputable def d_joined_rests (p_common_divisor : Fn) (p_joined_two : Fn) : DenS :=
  (sSeq (sFor (itRg1 (aCons (dN f_len (aCons (cVar 0) aNil)) aNil)) (gNm 1) (sFor (itRg1 (aCons (cVar 1) aNil)) (gNm 2) (sSeq (sAsg (dCall 2 p_common_divisor (aCons (d2 f_ix (d2 f_ix (cVar 0) (cVar 1)) (cK (.int 1))) (aCons (d2 f_ix (d2 f_ix (cVar 0) (cVar 2)) (cK (.int 1))) aNil))) (gNm 3))
  (sIf (tB1 (d2 f_ne (d2 f_mod (d2 f_sub (d2 f_ix (d2 f_ix (cVar 0) (cVar 1)) (cK (.int 0))) (d2 f_ix (d2 f_ix (cVar 0) (cVar 2)) (cK (.int 0)))) (cVar 3)) (cK (.int 0)))) (sRet (dTup (aCons (cK (.str (Str.ofString "apart"))) (aCons (cVar 2) (aCons (cVar 1) aNil))))) sNil))))
  (sSeq (sAsg (dTup (aCons (cK (.int 0)) (aCons (cK (.int 1)) aNil))) (gTu 2 (gsCons (gNm 4) (gsCons (gNm 5) gsNil))))
  (sSeq (sFor (itSeq (cVar 0)) (gTu 2 (gsCons (gNm 6) (gsCons (gNm 7) gsNil))) (sAsg (dCall 4 p_joined_two (aCons (cVar 4) (aCons (cVar 5) (aCons (cVar 6) (aCons (cVar 7) aNil))))) (gTu 2 (gsCons (gNm 4) (gsCons (gNm 5) gsNil)))))
  (sRet (dTup (aCons (cK (.str (Str.ofString "joined"))) (aCons (cVar 4) (aCons (cVar 5) aNil))))))))
theorem b_joined_rests {P : Program} {w : World} {K : Frg} {mg : Str → Option Value} {base : Heap} {j : Nat} (m : MG mg) {p_common_divisor : Fn} (c_common_divisor : Callee P w K mg base j "common_divisor" 2 p_common_divisor) {p_joined_two : Fn} (c_joined_two : Callee P w K mg base j "joined_two" 4 p_joined_two) {qual : Str} {f : Addr} {cdv : Value} {A : Around} {outer : List Env} {s : Shared} {H : Hp} {E : XK} (hr : Room j (A.deeper (envOfC qual (defScope s_joined_rests) s.heap.objs.size f cdv))) :
    PSs (cxOf CX0 P w K mg base N_joined_rests qual (defScope s_joined_rests) f cdv A outer s H E).nox (defBody s_joined_rests) (tS K (d_joined_rests p_common_divisor p_joined_two)) :=
    have nd := sc_joined_rests.nd
    (ss_cons (s_for (i_rg1 m.range (a_cons (e_callB call_len s_len m.len (a_cons (e_var 0) a_nil)) a_nil)) (g_nm 1 nd) (ss_one (s_for (i_rg1 m.range (a_cons (e_var 1) a_nil)) (g_nm 2 nd) (ss_cons (s_set 3 nd (e_call c_common_divisor hr (a_cons (e_ix (e_ix (e_var 0) (e_var 1)) e_int) (a_cons (e_ix (e_ix (e_var 0) (e_var 2)) e_int) a_nil))))
      (ss_one (s_if (x_cmp (o_ne hr.units) s_ne (e_op o_mod s_mod (e_op o_sub s_sub (e_ix (e_ix (e_var 0) (e_var 1)) e_int) (e_ix (e_ix (e_var 0) (e_var 2)) e_int)) (e_var 3)) e_int (nomark _)) (ss_one (s_ret (e_tup (a_cons e_str (a_cons (e_var 2) (a_cons (e_var 1) a_nil)))))) ss_nil))) ci_rg1)) ci_rg1)
      (ss_cons (s_asg (e_tup (a_cons e_int (a_cons e_int a_nil))) (g_tu rfl (gs_cons (g_nm 4 nd) (gs_cons (g_nm 5 nd) gs_nil))))
      (ss_cons (s_for (i_seq (e_var 0)) (g_tu rfl (gs_cons (g_nm 6 nd) (gs_cons (g_nm 7 nd) gs_nil))) (ss_one (s_asg (e_call c_joined_two hr (a_cons (e_var 4) (a_cons (e_var 5) (a_cons (e_var 6) (a_cons (e_var 7) a_nil))))) (g_tu rfl (gs_cons (g_nm 4 nd) (gs_cons (g_nm 5 nd) gs_nil))))) ci_seq)
      (ss_one (s_ret (e_tup (a_cons e_str (a_cons (e_var 4) (a_cons (e_var 5) a_nil)))))))))
theorem w_joined_rests {P : Program} {w : World} {K : Frg} {mg : Str → Option Value} {base : Heap} {j : Nat} (m : MG mg) {p_common_divisor : Fn} (c_common_divisor : Callee P w K mg base j "common_divisor" 2 p_common_divisor) {p_joined_two : Fn} (c_joined_two : Callee P w K mg base j "joined_two" 4 p_joined_two) {f : Addr} {fd : FuncData} (F : L2.Fun K "joined_rests" "joined_rests" s_joined_rests f fd) (hg : mg "joined_rests" = some (.ref f)) {ψ : Fn}
    (hψ : Den.Does N_joined_rests.length 1 (d_joined_rests p_common_divisor p_joined_two) ψ) : Callee P w K mg base (j + 1) "joined_rests" 1 ψ :=
  ⟨⟨f, fd, ["pairs"], fn_ok F sc_joined_rests (fun _ _ _ _ _ _ hr => b_joined_rests m c_common_divisor c_joined_two hr) hψ, hg, F.kp, F.binds fun _ _ _ _ _ _ us hl => match us, hl with | [_], _ => rfl⟩⟩
/-! ### judge_joined -/
def N_judge_joined : List Str := ["pairs", "value", "i", "j", "one"]
abbrev s_judge_joined : Stmt := topS 8
theorem sc_judge_joined : FnScope N_judge_joined ["pairs", "value"] (defScope s_judge_joined) := ⟨rfl, rfl, rfl, by decide +kernel, rfl, by decide +kernel, by decide +kernel⟩
noncomputable def d_judge_joined (p_is_integer : Fn) (p_common_divisor : Fn) (p_joined_rests : Fn) : DenS :=
  (sSeq (sIf (tOr' (tNo (tTru (d1 (f_isi .tuple) (cVar 1)))) (tOr' (tB1 (d2 f_ne (dN f_len (aCons (cVar 1) aNil)) (cK (.int 3)))) (tNo (tTru (d1 (f_isi .str) (d2 f_ix (cVar 1) (cK (.int 0)))))))) (sRet (cK (.bl false))) sNil)
  (sSeq (sIf (tNo (tTru (dN f_all (aCons (dLc [4] (itSeq (dSl (cVar 1) (oSo (cK (.int 1))) oNo)) (gNm 4) tAll (dCall 1 p_is_integer (aCons (cVar 4) aNil))) aNil)))) (sRet (cK (.bl false))) sNil)
  (sSeq (sIf (tB1 (d2 f_eq (d2 f_ix (cVar 1) (cK (.int 0))) (cK (.str (Str.ofString "apart"))))) (sSeq (sAsg (dSl (cVar 1) (oSo (cK (.int 1))) oNo) (gTu 2 (gsCons (gNm 2) (gsCons (gNm 3) gsNil))))
  (sSeq (sIf (tNo (tB1 (dCh3 f_le f_lt f_lt (cK (.int 0)) (cVar 2) (cVar 3) (dN f_len (aCons (cVar 0) aNil))))) (sRet (cK (.bl false))) sNil)
  (sRet (d2 f_ne (d2 f_mod (d2 f_sub (d2 f_ix (d2 f_ix (cVar 0) (cVar 2)) (cK (.int 0))) (d2 f_ix (d2 f_ix (cVar 0) (cVar 3)) (cK (.int 0)))) (dCall 2 p_common_divisor (aCons (d2 f_ix (d2 f_ix (cVar 0) (cVar 2)) (cK (.int 1))) (aCons (d2 f_ix (d2 f_ix (cVar 0) (cVar 3)) (cK (.int 1))) aNil)))) (cK (.int 0)))))) sNil)
  (sRet (dAn (d2 f_eq (d2 f_ix (cVar 1) (cK (.int 0))) (cK (.str (Str.ofString "joined")))) (d2 f_eq (cVar 1) (dCall 1 p_joined_rests (aCons (cVar 0) aNil))))))))
theorem b_judge_joined {P : Program} {w : World} {K : Frg} {mg : Str → Option Value} {base : Heap} {j : Nat} (m : MG mg) {p_is_integer : Fn} (c_is_integer : Callee P w K mg base j "is_integer" 1 p_is_integer) {p_common_divisor : Fn} (c_common_divisor : Callee P w K mg base j "common_divisor" 2 p_common_divisor) {p_joined_rests : Fn} (c_joined_rests : Callee P w K mg base j "joined_rests" 1 p_joined_rests) {qual : Str} {f : Addr} {cdv : Value} {A : Around} {outer : List Env} {s : Shared} {H : Hp} {E : XK} (hr : Room j (A.deeper (envOfC qual (defScope s_judge_joined) s.heap.objs.size f cdv))) :
    PSs (cxOf CX0 P w K mg base N_judge_joined qual (defScope s_judge_joined) f cdv A outer s H E).nox (defBody s_judge_joined) (tS K (d_judge_joined p_is_integer p_common_divisor p_joined_rests)) :=
    have nd := sc_judge_joined.nd
    (ss_cons (s_if (x_or (x_no (x_tru (e_isi .tuple (e_var 1) m.isinstance m.tuple))) (x_or (x_cmp (o_ne hr.units) s_ne (e_callB call_len s_len m.len (a_cons (e_var 1) a_nil)) e_int (nomark _)) (x_or1 (x_no (x_tru (e_isi .str (e_ix (e_var 1) e_int) m.isinstance m.str)))))).pt (ss_one (s_ret e_bl)) ss_nil)
      (ss_cons (s_if (x_no (x_tru (e_callB (cr_all (by rfl)) s_all m.all (a_cons (e_lc (own := [("one", 4)]) nd (i_seq (e_sl (e_var 1) (o_so e_int) o_no)) ci_seq (blkOk_by (own := [("one", 4)]) (N := N_judge_joined) (sc := defScope s_judge_joined) (by decide +kernel)) (gin_nm 4) (fun _ _ _ _ _ => pg_name (i := 4) nd rfl (Or.inl rfl)) (fun _ _ _ _ _ => x_nil) (fun _ _ _ _ _ => (e_call c_is_integer hr (a_cons (e_var 4) a_nil)))) a_nil)))) (ss_one (s_ret e_bl)) ss_nil)
      (ss_cons (s_if (x_cmp (o_eq hr.units) s_eq (e_ix (e_var 1) e_int) e_str (nomark _)) (ss_cons (s_asg (e_sl (e_var 1) (o_so e_int) o_no) (g_tu rfl (gs_cons (g_nm 2 nd) (gs_cons (g_nm 3 nd) gs_nil))))
      (ss_cons (s_if (x_no (x_ch3 op_le s_le (o_lt hr.units0) s_lt (o_lt hr.units0) s_lt e_int (e_var 2) (e_var 3) (e_callB call_len s_len m.len (a_cons (e_var 0) a_nil)))) (ss_one (s_ret e_bl)) ss_nil)
      (ss_one (s_ret (e_cmp (o_ne hr.units) s_ne (e_op o_mod s_mod (e_op o_sub s_sub (e_ix (e_ix (e_var 0) (e_var 2)) e_int) (e_ix (e_ix (e_var 0) (e_var 3)) e_int)) (e_call c_common_divisor hr (a_cons (e_ix (e_ix (e_var 0) (e_var 2)) e_int) (a_cons (e_ix (e_ix (e_var 0) (e_var 3)) e_int) a_nil)))) e_int (nomark _)))))) ss_nil)
      (ss_one (s_ret (e_an (e_cmp (o_eq hr.units) s_eq (e_ix (e_var 1) e_int) e_str (nomark _)) (e_one (e_cmp (o_eq hr.units) s_eq (e_var 1) (e_call c_joined_rests hr (a_cons (e_var 0) a_nil)) (nomark _)))))))))
theorem w_judge_joined {P : Program} {w : World} {K : Frg} {mg : Str → Option Value} {base : Heap} {j : Nat} (m : MG mg) {p_is_integer : Fn} (c_is_integer : Callee P w K mg base j "is_integer" 1 p_is_integer) {p_common_divisor : Fn} (c_common_divisor : Callee P w K mg base j "common_divisor" 2 p_common_divisor) {p_joined_rests : Fn} (c_joined_rests : Callee P w K mg base j "joined_rests" 1 p_joined_rests) {f : Addr} {fd : FuncData} (F : L2.Fun K "judge_joined" "judge_joined" s_judge_joined f fd) (hg : mg "judge_joined" = some (.ref f)) {ψ : Fn}
    (hψ : Den.Does N_judge_joined.length 2 (d_judge_joined p_is_integer p_common_divisor p_joined_rests) ψ) : Callee P w K mg base (j + 1) "judge_joined" 2 ψ :=
  ⟨⟨f, fd, ["pairs", "value"], fn_ok F sc_judge_joined (fun _ _ _ _ _ _ hr => b_judge_joined m c_is_integer c_common_divisor c_joined_rests hr) hψ, hg, F.kp, F.binds fun _ _ _ _ _ _ us hl => match us, hl with | [_, _], _ => rfl⟩⟩
/-! ### _law_start -/
def N__law_start : List Str := ["script", "cell"]
abbrev s__law_start : Stmt := topS 10
theorem sc__law_start : FnScope N__law_start ["script"] (defScope s__law_start) := ⟨rfl, rfl, rfl, by decide +kernel, rfl, by decide +kernel, by decide +kernel⟩
noncomputable def d__law_start : DenS :=
  (sRet (dLoc (aCons (dLc [1] (itSeq (dSl (cVar 0) oNo (oSo (cK (.int 63))))) (gNm 1) tAll (dN f_int (aCons (cVar 1) aNil))) (aCons (cK (.int 0)) (aCons (cK (.int 0)) (aCons (cK (.int 0)) (aCons (cK (.int 20)) aNil)))))))
theorem b__law_start {P : Program} {w : World} {K : Frg} {mg : Str → Option Value} {base : Heap} {j : Nat} (m : MG mg) {qual : Str} {f : Addr} {cdv : Value} {A : Around} {outer : List Env} {s : Shared} {H : Hp} {E : XK} (hr : Room j (A.deeper (envOfC qual (defScope s__law_start) s.heap.objs.size f cdv))) :
    PSs (cxOf CX0 P w K mg base N__law_start qual (defScope s__law_start) f cdv A outer s H E).nox (defBody s__law_start) (tS K d__law_start) :=
    have nd := sc__law_start.nd
    (ss_one (s_ret (e_loc (a_cons (e_lc (own := [("cell", 1)]) nd (i_seq (e_sl (e_var 0) o_no (o_so e_int))) ci_seq (blkOk_by (own := [("cell", 1)]) (N := N__law_start) (sc := defScope s__law_start) (by decide +kernel)) (gin_nm 1) (fun _ _ _ _ _ => pg_name (i := 1) nd rfl (Or.inl rfl)) (fun _ _ _ _ _ => x_nil) (fun _ _ _ _ _ => (e_callTy call_int1 s_int m.int (a_cons (e_var 1) a_nil)))) (a_cons e_int (a_cons e_int (a_cons e_int (a_cons e_int a_nil))))))))
theorem w__law_start {P : Program} {w : World} {K : Frg} {mg : Str → Option Value} {base : Heap} {j : Nat} (m : MG mg) {f : Addr} {fd : FuncData} (F : L2.Fun K "_law_start" "_law_start" s__law_start f fd) (hg : mg "_law_start" = some (.ref f)) {ψ : Fn}
    (hψ : Den.Does N__law_start.length 1 d__law_start ψ) : Callee P w K mg base (j + 1) "_law_start" 1 ψ :=
  ⟨⟨f, fd, ["script"], fn_ok F sc__law_start (fun _ _ _ _ _ _ hr => b__law_start m hr) hψ, hg, F.kp, F.binds fun _ _ _ _ _ _ us hl => match us, hl with | [_], _ => rfl⟩⟩
/-! ### _law_fill -/
def N__law_fill : List Str := ["c", "number"]
abbrev s__law_fill : Stmt := topS 11
theorem sc__law_fill : FnScope N__law_fill ["c"] (defScope s__law_fill) := ⟨rfl, rfl, rfl, by decide +kernel, rfl, by decide +kernel, by decide +kernel⟩
noncomputable def d__law_fill : DenS :=
  (sSeq (sAsg (d2 f_add (d2 f_ix (cVar 0) (cK (.int 3))) (cK (.int 1))) (gSb (cVar 0) (cK (.int 3))))
  (sSeq (sAsg (d2 f_add (d2 f_mul (d2 f_ix (cVar 0) (cK (.int 3))) (cK (.int 69621))) (cK (.int 12345))) (gNm 1))
  (sSeq (sIf (tB1 (d2 f_lt (d2 f_ix (cVar 0) (cK (.int 1))) (dN f_len (aCons (d2 f_ix (cVar 0) (cK (.int 0))) aNil)))) (sSeq (sAsg (d2 f_ix (d2 f_ix (cVar 0) (cK (.int 0))) (d2 f_ix (cVar 0) (cK (.int 1)))) (gNm 1))
  (sSeq (sAsg (d2 f_add (d2 f_ix (cVar 0) (cK (.int 1))) (cK (.int 1))) (gSb (cVar 0) (cK (.int 1))))
  (sSeq (sIf (tB1 (d2 f_lt (cVar 1) (cK (.int 0)))) (sAsg (d2 f_sub (d2 f_sub (cK (.int 0)) (cK (.int 1))) (cVar 1)) (gNm 1)) sNil)
  (sIf (tB1 (d2 f_ge (cVar 1) (d2 f_pow (cK (.int 10)) (cK (.int 18))))) (sRet (cVar 1)) sNil)))) sNil)
  (sSeq (sIf (tAn (tTru (d2 f_ix (cVar 0) (cK (.int 0)))) (tB1 (d2 f_ge (d2 f_ix (cVar 0) (cK (.int 1))) (dN f_len (aCons (d2 f_ix (cVar 0) (cK (.int 0))) aNil))))) (sAsg (d2 f_add (cVar 1) (d2 f_mod (dN f_int (aCons (d2 f_ix (d2 f_ix (cVar 0) (cK (.int 0))) (d1 f_neg (cK (.int 1)))) aNil)) (cK (.int 1000003)))) (gNm 1)) sNil)
  (sSeq (sAsg (d2 f_mod (dN f_int (aCons (d2 f_add (d2 f_mul (cVar 1) (cK (.int 48271))) (d2 f_mul (d2 f_ix (cVar 0) (cK (.int 3))) (cK (.int 69621)))) aNil)) (cK (.int 2147483647))) (gNm 1))
  (sRet (d2 f_add (d2 f_fdiv (dN f_int (aCons (d2 f_add (d2 f_add (d2 f_mul (cVar 1) (cVar 1)) (d2 f_mul (d2 f_ix (cVar 0) (cK (.int 3))) (cK (.int 7919)))) (cK (.int 11))) aNil)) (cK (.int 64))) (cK (.int 36028797018963968)))))))))
theorem b__law_fill {P : Program} {w : World} {K : Frg} {mg : Str → Option Value} {base : Heap} {j : Nat} (m : MG mg) {qual : Str} {f : Addr} {cdv : Value} {A : Around} {outer : List Env} {s : Shared} {H : Hp} {E : XK} (hr : Room j (A.deeper (envOfC qual (defScope s__law_fill) s.heap.objs.size f cdv))) :
    PSs (cxOf CX0 P w K mg base N__law_fill qual (defScope s__law_fill) f cdv A outer s H E).nox (defBody s__law_fill) (tS K d__law_fill) :=
    have nd := sc__law_fill.nd
    (ss_cons (s_asg (e_op o_add s_add (e_ix (e_var 0) e_int) e_int) (g_sb (e_var 0) e_int))
      (ss_cons (s_set 1 nd (e_op o_add s_add (e_op o_mul s_mul (e_ix (e_var 0) e_int) e_int) e_int))
      (ss_cons (s_if (x_cmp (o_lt hr.units0) s_lt (e_ix (e_var 0) e_int) (e_callB call_len s_len m.len (a_cons (e_ix (e_var 0) e_int) a_nil)) (nomark _)) (ss_cons (s_set 1 nd (e_ix (e_ix (e_var 0) e_int) (e_ix (e_var 0) e_int)))
      (ss_cons (s_asg (e_op o_add s_add (e_ix (e_var 0) e_int) e_int) (g_sb (e_var 0) e_int))
      (ss_cons (s_if (x_cmp (o_lt hr.units0) s_lt (e_var 1) e_int (nomark _)) (ss_one (s_set 1 nd (e_op o_sub s_sub (e_op o_sub s_sub e_int e_int) (e_var 1)))) ss_nil)
      (ss_one (s_if (x_cmp op_ge s_ge (e_var 1) (e_op op_pow s_pow e_int e_int) (nomark _)) (ss_one (s_ret (e_var 1))) ss_nil))))) ss_nil)
      (ss_cons (s_if (x_an (x_tru (e_ix (e_var 0) e_int)) (x_an1 (x_cmp op_ge s_ge (e_ix (e_var 0) e_int) (e_callB call_len s_len m.len (a_cons (e_ix (e_var 0) e_int) a_nil)) (nomark _)))).pt (ss_one (s_set 1 nd (e_op o_add s_add (e_var 1) (e_op o_mod s_mod (e_callTy call_int1 s_int m.int (a_cons (e_ix (e_ix (e_var 0) e_int) (e_un un_neg s_neg e_int)) a_nil)) e_int)))) ss_nil)
      (ss_cons (s_set 1 nd (e_op o_mod s_mod (e_callTy call_int1 s_int m.int (a_cons (e_op o_add s_add (e_op o_mul s_mul (e_var 1) e_int) (e_op o_mul s_mul (e_ix (e_var 0) e_int) e_int)) a_nil)) e_int))
      (ss_one (s_ret (e_op o_add s_add (e_op o_fdiv s_fdiv (e_callTy call_int1 s_int m.int (a_cons (e_op o_add s_add (e_op o_add s_add (e_op o_mul s_mul (e_var 1) (e_var 1)) (e_op o_mul s_mul (e_ix (e_var 0) e_int) e_int)) e_int) a_nil)) e_int) e_int))))))))
theorem w__law_fill {P : Program} {w : World} {K : Frg} {mg : Str → Option Value} {base : Heap} {j : Nat} (m : MG mg) {f : Addr} {fd : FuncData} (F : L2.Fun K "_law_fill" "_law_fill" s__law_fill f fd) (hg : mg "_law_fill" = some (.ref f)) {ψ : Fn}
    (hψ : Den.Does N__law_fill.length 1 d__law_fill ψ) : Callee P w K mg base (j + 1) "_law_fill" 1 ψ :=
  ⟨⟨f, fd, ["c"], fn_ok F sc__law_fill (fun _ _ _ _ _ _ hr => b__law_fill m hr) hψ, hg, F.kp, F.binds fun _ _ _ _ _ _ us hl => match us, hl with | [_], _ => rfl⟩⟩
/-! ### _law_take -/
def N__law_take : List Str := ["c", "many", "digit"]
abbrev s__law_take : Stmt := topS 12
theorem sc__law_take : FnScope N__law_take ["c", "many"] (defScope s__law_take) := ⟨rfl, rfl, rfl, by decide +kernel, rfl, by decide +kernel, by decide +kernel⟩
noncomputable def d__law_take (p__law_fill : Fn) : DenS :=
  (sSeq (sIf (tB1 (d2 f_lt (d2 f_ix (cVar 0) (cK (.int 2))) (cVar 1))) (sAsg (dCall 1 p__law_fill (aCons (cVar 0) aNil)) (gSb (cVar 0) (cK (.int 2)))) sNil)
  (sSeq (sAsg (d2 f_mod (dN f_int (aCons (d2 f_ix (cVar 0) (cK (.int 2))) aNil)) (cVar 1)) (gNm 2))
  (sSeq (sAsg (d2 f_fdiv (d2 f_ix (cVar 0) (cK (.int 2))) (cVar 1)) (gSb (cVar 0) (cK (.int 2))))
  (sRet (cVar 2)))))
theorem b__law_take {P : Program} {w : World} {K : Frg} {mg : Str → Option Value} {base : Heap} {j : Nat} (m : MG mg) {p__law_fill : Fn} (c__law_fill : Callee P w K mg base j "_law_fill" 1 p__law_fill) {qual : Str} {f : Addr} {cdv : Value} {A : Around} {outer : List Env} {s : Shared} {H : Hp} {E : XK} (hr : Room j (A.deeper (envOfC qual (defScope s__law_take) s.heap.objs.size f cdv))) :
    PSs (cxOf CX0 P w K mg base N__law_take qual (defScope s__law_take) f cdv A outer s H E).nox (defBody s__law_take) (tS K (d__law_take p__law_fill)) :=
    have nd := sc__law_take.nd
    (ss_cons (s_if (x_cmp (o_lt hr.units0) s_lt (e_ix (e_var 0) e_int) (e_var 1) (nomark _)) (ss_one (s_asg (e_call c__law_fill hr (a_cons (e_var 0) a_nil)) (g_sb (e_var 0) e_int))) ss_nil)
      (ss_cons (s_set 2 nd (e_op o_mod s_mod (e_callTy call_int1 s_int m.int (a_cons (e_ix (e_var 0) e_int) a_nil)) (e_var 1)))
      (ss_cons (s_asg (e_op o_fdiv s_fdiv (e_ix (e_var 0) e_int) (e_var 1)) (g_sb (e_var 0) e_int))
      (ss_one (s_ret (e_var 2))))))
theorem w__law_take {P : Program} {w : World} {K : Frg} {mg : Str → Option Value} {base : Heap} {j : Nat} (m : MG mg) {p__law_fill : Fn} (c__law_fill : Callee P w K mg base j "_law_fill" 1 p__law_fill) {f : Addr} {fd : FuncData} (F : L2.Fun K "_law_take" "_law_take" s__law_take f fd) (hg : mg "_law_take" = some (.ref f)) {ψ : Fn}
    (hψ : Den.Does N__law_take.length 2 (d__law_take p__law_fill) ψ) : Callee P w K mg base (j + 1) "_law_take" 2 ψ :=
  ⟨⟨f, fd, ["c", "many"], fn_ok F sc__law_take (fun _ _ _ _ _ _ hr => b__law_take m c__law_fill hr) hψ, hg, F.kp, F.binds fun _ _ _ _ _ _ us hl => match us, hl with | [_, _], _ => rfl⟩⟩
/-! ### _law_is_int -/
def N__law_is_int : List Str := ["value"]
abbrev s__law_is_int : Stmt := topS 13
theorem sc__law_is_int : FnScope N__law_is_int ["value"] (defScope s__law_is_int) := ⟨rfl, rfl, rfl, by decide +kernel, rfl, by decide +kernel, by decide +kernel⟩
noncomputable def d__law_is_int : DenS :=
  (sRet (dAn (d1 (f_isi .int) (cVar 0)) (dNo (d1 (f_isi .bool) (cVar 0)))))
theorem b__law_is_int {P : Program} {w : World} {K : Frg} {mg : Str → Option Value} {base : Heap} {j : Nat} (m : MG mg) {qual : Str} {f : Addr} {cdv : Value} {A : Around} {outer : List Env} {s : Shared} {H : Hp} {E : XK} (hr : Room j (A.deeper (envOfC qual (defScope s__law_is_int) s.heap.objs.size f cdv))) :
    PSs (cxOf CX0 P w K mg base N__law_is_int qual (defScope s__law_is_int) f cdv A outer s H E).nox (defBody s__law_is_int) (tS K d__law_is_int) :=
    have nd := sc__law_is_int.nd
    (ss_one (s_ret (e_an (e_isi .int (e_var 0) m.isinstance m.int) (e_one (e_no (e_isi .bool (e_var 0) m.isinstance m.bool))))))
theorem w__law_is_int {P : Program} {w : World} {K : Frg} {mg : Str → Option Value} {base : Heap} {j : Nat} (m : MG mg) {f : Addr} {fd : FuncData} (F : L2.Fun K "_law_is_int" "_law_is_int" s__law_is_int f fd) (hg : mg "_law_is_int" = some (.ref f)) {ψ : Fn}
    (hψ : Den.Does N__law_is_int.length 1 d__law_is_int ψ) : Callee P w K mg base (j + 1) "_law_is_int" 1 ψ :=
  ⟨⟨f, fd, ["value"], fn_ok F sc__law_is_int (fun _ _ _ _ _ _ hr => b__law_is_int m hr) hψ, hg, F.kp, F.binds fun _ _ _ _ _ _ us hl => match us, hl with | [_], _ => rfl⟩⟩
/-! ### _law_alike -/
def N__law_alike : List Str := ["value", "due", "k"]
abbrev s__law_alike : Stmt := topS 14
theorem sc__law_alike : FnScope N__law_alike ["value", "due"] (defScope s__law_alike) := ⟨rfl, rfl, rfl, by decide +kernel, rfl, by decide +kernel, by decide +kernel⟩
noncomputable def d__law_alike (p__law_alike : Fn) : DenS :=
  (sSeq (sIf (tTru (d1 (f_isi .tuple) (cVar 1))) (sRet (dAn (d1 (f_isi .tuple) (cVar 0)) (dAn (d2 f_eq (dN f_len (aCons (cVar 0) aNil)) (dN f_len (aCons (cVar 1) aNil))) (dN f_all (aCons (dLc [2] (itRg1 (aCons (dN f_len (aCons (cVar 1) aNil)) aNil)) (gNm 2) tAll (dCall 2 p__law_alike (aCons (d2 f_ix (cVar 0) (cVar 2)) (aCons (d2 f_ix (cVar 1) (cVar 2)) aNil)))) aNil))))) sNil)
  (sSeq (sIf (tB1 (d2 f_is (cVar 1) (cK .non))) (sRet (d2 f_is (cVar 0) (cK .non))) sNil)
  (sSeq (sIf (tOr' (tTru (d1 (f_isi .bool) (cVar 0))) (tB1 (d2 f_ne (d1 (f_isi .str) (cVar 0)) (d1 (f_isi .str) (cVar 1))))) (sRet (cK (.bl false))) sNil)
  (sRet (dAn (d1 (f_isi2 .int .str) (cVar 0)) (d2 f_eq (cVar 0) (cVar 1)))))))
theorem b__law_alike {P : Program} {w : World} {K : Frg} {mg : Str → Option Value} {base : Heap} {j : Nat} (m : MG mg) {p__law_alike : Fn} (c__law_alike : Callee P w K mg base j "_law_alike" 2 p__law_alike) {qual : Str} {f : Addr} {cdv : Value} {A : Around} {outer : List Env} {s : Shared} {H : Hp} {E : XK} (hr : Room j (A.deeper (envOfC qual (defScope s__law_alike) s.heap.objs.size f cdv))) :
    PSs (cxOf CX0 P w K mg base N__law_alike qual (defScope s__law_alike) f cdv A outer s H E).nox (defBody s__law_alike) (tS K (d__law_alike p__law_alike)) :=
    have nd := sc__law_alike.nd
    (ss_cons (s_if (x_tru (e_isi .tuple (e_var 1) m.isinstance m.tuple)) (ss_one (s_ret (e_an (e_isi .tuple (e_var 0) m.isinstance m.tuple) (e_an (e_cmp (o_eq hr.units) s_eq (e_callB call_len s_len m.len (a_cons (e_var 0) a_nil)) (e_callB call_len s_len m.len (a_cons (e_var 1) a_nil)) (nomark _)) (e_one (e_callB (cr_all (by rfl)) s_all m.all (a_cons (e_lc (own := [("k", 2)]) nd (i_rg1 m.range (a_cons (e_callB call_len s_len m.len (a_cons (e_var 1) a_nil)) a_nil)) ci_rg1 (blkOk_by (own := [("k", 2)]) (N := N__law_alike) (sc := defScope s__law_alike) (by decide +kernel)) (gin_nm 2) (fun _ _ _ _ _ => pg_name (i := 2) nd rfl (Or.inl rfl)) (fun _ _ _ _ _ => x_nil) (fun _ _ _ _ _ => (e_call c__law_alike hr (a_cons (e_ix (e_var 0) (e_var 2)) (a_cons (e_ix (e_var 1) (e_var 2)) a_nil))))) a_nil))))))) ss_nil)
      (ss_cons (s_if (x_cmp o_is s_is (e_var 1) e_non (nomark _)) (ss_one (s_ret (e_cmp o_is s_is (e_var 0) e_non (nomark _)))) ss_nil)
      (ss_cons (s_if (x_or (x_tru (e_isi .bool (e_var 0) m.isinstance m.bool)) (x_or1 (x_cmp (o_ne hr.units) s_ne (e_isi .str (e_var 0) m.isinstance m.str) (e_isi .str (e_var 1) m.isinstance m.str) (nomark _)))).pt (ss_one (s_ret e_bl)) ss_nil)
      (ss_one (s_ret (e_an (e_isi2 .int .str (e_var 0) m.isinstance m.int m.str) (e_one (e_cmp (o_eq hr.units) s_eq (e_var 0) (e_var 1) (nomark _)))))))))
theorem w__law_alike {P : Program} {w : World} {K : Frg} {mg : Str → Option Value} {base : Heap} {j : Nat} (m : MG mg) {p__law_alike : Fn} (c__law_alike : Callee P w K mg base j "_law_alike" 2 p__law_alike) {f : Addr} {fd : FuncData} (F : L2.Fun K "_law_alike" "_law_alike" s__law_alike f fd) (hg : mg "_law_alike" = some (.ref f)) {ψ : Fn}
    (hψ : Den.Does N__law_alike.length 2 (d__law_alike p__law_alike) ψ) : Callee P w K mg base (j + 1) "_law_alike" 2 ψ :=
  ⟨⟨f, fd, ["value", "due"], fn_ok F sc__law_alike (fun _ _ _ _ _ _ hr => b__law_alike m c__law_alike hr) hψ, hg, F.kp, F.binds fun _ _ _ _ _ _ us hl => match us, hl with | [_, _], _ => rfl⟩⟩
/-! ### _law_spoilt -/
def N__law_spoilt : List Str := ["c", "value", "k"]
abbrev s__law_spoilt : Stmt := topS 15
theorem sc__law_spoilt : FnScope N__law_spoilt ["c", "value"] (defScope s__law_spoilt) := ⟨rfl, rfl, rfl, by decide +kernel, rfl, by decide +kernel, by decide +kernel⟩
noncomputable def d__law_spoilt (p__law_take : Fn) (p__law_spoilt : Fn) : DenS :=
  (sSeq (sIf (tTru (d1 (f_isi .str) (cVar 1))) (sRet (d2 f_ix (dLst (aCons (cK (.str (Str.ofString ""))) (aCons (cK (.str (Str.ofString "joined"))) (aCons (cK (.str (Str.ofString "apart"))) (aCons (cK (.str (Str.ofString "prime"))) (aCons (cK (.str (Str.ofString "factors"))) (aCons (cK (.str (Str.ofString "order"))) (aCons (cK (.str (Str.ofString "none"))) (aCons (cK (.str (Str.ofString "square"))) (aCons (cK (.str (Str.ofString "parts"))) (aCons (cK (.str (Str.ofString "same"))) (aCons (cK (.str (Str.ofString "norm"))) aNil)))))))))))) (dCall 2 p__law_take (aCons (cVar 0) (aCons (cK (.int 11)) aNil))))) sNil)
  (sSeq (sIf (tNo (tTru (d1 (f_isi .tuple) (cVar 1)))) (sRet (d2 f_ix (dLst (aCons (cK (.int 0)) (aCons (cK (.int 1)) (aCons (cK (.int 2)) (aCons (d1 f_neg (cK (.int 1))) (aCons (cK (.bl true)) (aCons (cK .non) (aCons (cK (.int 3)) aNil)))))))) (dCall 2 p__law_take (aCons (cVar 0) (aCons (cK (.int 7)) aNil))))) sNil)
  (sSeq (sIf (tOr' (tNo (tTru (cVar 1))) (tB1 (d2 f_eq (dCall 2 p__law_take (aCons (cVar 0) (aCons (cK (.int 5)) aNil))) (cK (.int 0))))) (sRet (d2 f_ix (dLst (aCons (dSl (cVar 1) (oSo (cK (.int 1))) oNo) (aCons (dSl (cVar 1) oNo (oSo (d1 f_neg (cK (.int 1))))) (aCons (d2 f_add (cVar 1) (dSl (cVar 1) (oSo (d1 f_neg (cK (.int 1)))) oNo)) (aCons (d2 f_rev (cVar 1) (d1 f_neg (cK (.int 1)))) (aCons (dN f_list (aCons (cVar 1) aNil)) (aCons (d2 f_add (cVar 1) (dTup (aCons (cK (.int 0)) aNil))) (aCons (dTup aNil) (aCons (dTup (aCons (cK (.int 1)) (aCons (cK (.int 0)) aNil))) aNil))))))))) (dCall 2 p__law_take (aCons (cVar 0) (aCons (cK (.int 8)) aNil))))) sNil)
  (sSeq (sAsg (dCall 2 p__law_take (aCons (cVar 0) (aCons (dN f_len (aCons (cVar 1) aNil)) aNil))) (gNm 2))
  (sRet (d2 f_add (d2 f_add (dSl (cVar 1) oNo (oSo (cVar 2))) (dTup (aCons (dCall 2 p__law_spoilt (aCons (cVar 0) (aCons (d2 f_ix (cVar 1) (cVar 2)) aNil))) aNil))) (dSl (cVar 1) (oSo (d2 f_add (cVar 2) (cK (.int 1)))) oNo)))))))
theorem b__law_spoilt {P : Program} {w : World} {K : Frg} {mg : Str → Option Value} {base : Heap} {j : Nat} (m : MG mg) {p__law_take : Fn} (c__law_take : Callee P w K mg base j "_law_take" 2 p__law_take) {p__law_spoilt : Fn} (c__law_spoilt : Callee P w K mg base j "_law_spoilt" 2 p__law_spoilt) {qual : Str} {f : Addr} {cdv : Value} {A : Around} {outer : List Env} {s : Shared} {H : Hp} {E : XK} (hr : Room j (A.deeper (envOfC qual (defScope s__law_spoilt) s.heap.objs.size f cdv))) :
    PSs (cxOf CX0 P w K mg base N__law_spoilt qual (defScope s__law_spoilt) f cdv A outer s H E).nox (defBody s__law_spoilt) (tS K (d__law_spoilt p__law_take p__law_spoilt)) :=
    have nd := sc__law_spoilt.nd
    (ss_cons (s_if (x_tru (e_isi .str (e_var 1) m.isinstance m.str)) (ss_one (s_ret (e_ix (e_lst (a_cons e_str (a_cons e_str (a_cons e_str (a_cons e_str (a_cons e_str (a_cons e_str (a_cons e_str (a_cons e_str (a_cons e_str (a_cons e_str (a_cons e_str a_nil)))))))))))) (e_call c__law_take hr (a_cons (e_var 0) (a_cons e_int a_nil)))))) ss_nil)
      (ss_cons (s_if (x_no (x_tru (e_isi .tuple (e_var 1) m.isinstance m.tuple))) (ss_one (s_ret (e_ix (e_lst (a_cons e_int (a_cons e_int (a_cons e_int (a_cons (e_un un_neg s_neg e_int) (a_cons e_bl (a_cons e_non (a_cons e_int a_nil)))))))) (e_call c__law_take hr (a_cons (e_var 0) (a_cons e_int a_nil)))))) ss_nil)
      (ss_cons (s_if (x_or (x_no (x_tru (e_var 1))) (x_or1 (x_cmp (o_eq hr.units) s_eq (e_call c__law_take hr (a_cons (e_var 0) (a_cons e_int a_nil))) e_int (nomark _)))).pt (ss_one (s_ret (e_ix (e_lst (a_cons (e_sl (e_var 1) (o_so e_int) o_no) (a_cons (e_sl (e_var 1) o_no (o_so (e_un un_neg s_neg e_int))) (a_cons (e_op o_add s_add (e_var 1) (e_sl (e_var 1) (o_so (e_un un_neg s_neg e_int)) o_no)) (a_cons (e_rev (e_var 1) (e_un un_neg s_neg e_int)) (a_cons (e_callTy call_list_of s_list m.list (a_cons (e_var 1) a_nil)) (a_cons (e_op o_add s_add (e_var 1) (e_tup (a_cons e_int a_nil))) (a_cons (e_tup a_nil) (a_cons (e_tup (a_cons e_int (a_cons e_int a_nil))) a_nil))))))))) (e_call c__law_take hr (a_cons (e_var 0) (a_cons e_int a_nil)))))) ss_nil)
      (ss_cons (s_set 2 nd (e_call c__law_take hr (a_cons (e_var 0) (a_cons (e_callB call_len s_len m.len (a_cons (e_var 1) a_nil)) a_nil))))
      (ss_one (s_ret (e_op o_add s_add (e_op o_add s_add (e_sl (e_var 1) o_no (o_so (e_var 2))) (e_tup (a_cons (e_call c__law_spoilt hr (a_cons (e_var 0) (a_cons (e_ix (e_var 1) (e_var 2)) a_nil))) a_nil))) (e_sl (e_var 1) (o_so (e_op o_add s_add (e_var 2) e_int)) o_no))))))))
theorem w__law_spoilt {P : Program} {w : World} {K : Frg} {mg : Str → Option Value} {base : Heap} {j : Nat} (m : MG mg) {p__law_take : Fn} (c__law_take : Callee P w K mg base j "_law_take" 2 p__law_take) {p__law_spoilt : Fn} (c__law_spoilt : Callee P w K mg base j "_law_spoilt" 2 p__law_spoilt) {f : Addr} {fd : FuncData} (F : L2.Fun K "_law_spoilt" "_law_spoilt" s__law_spoilt f fd) (hg : mg "_law_spoilt" = some (.ref f)) {ψ : Fn}
    (hψ : Den.Does N__law_spoilt.length 2 (d__law_spoilt p__law_take p__law_spoilt) ψ) : Callee P w K mg base (j + 1) "_law_spoilt" 2 ψ :=
  ⟨⟨f, fd, ["c", "value"], fn_ok F sc__law_spoilt (fun _ _ _ _ _ _ hr => b__law_spoilt m c__law_take c__law_spoilt hr) hψ, hg, F.kp, F.binds fun _ _ _ _ _ _ us hl => match us, hl with | [_, _], _ => rfl⟩⟩
/-! ### _law_bent -/
def N__law_bent : List Str := ["c", "value", "turn", "k"]
abbrev s__law_bent : Stmt := topS 16
theorem sc__law_bent : FnScope N__law_bent ["c", "value", "turn"] (defScope s__law_bent) := ⟨rfl, rfl, rfl, by decide +kernel, rfl, by decide +kernel, by decide +kernel⟩
noncomputable def d__law_bent (p__law_take : Fn) (p__law_spoilt : Fn) : DenS :=
  (sSeq (sFor (itRg1 (aCons (d2 f_mul (dN f_int (aCons (d2 f_gt (cVar 2) (cK (.int 0))) aNil)) (d2 f_add (cK (.int 1)) (dCall 2 p__law_take (aCons (cVar 0) (aCons (cK (.int 2)) aNil))))) aNil)) (gNm 3) (sAsg (dCall 2 p__law_spoilt (aCons (cVar 0) (aCons (cVar 1) aNil))) (gNm 1)))
  (sRet (cVar 1)))
theorem b__law_bent {P : Program} {w : World} {K : Frg} {mg : Str → Option Value} {base : Heap} {j : Nat} (m : MG mg) {p__law_take : Fn} (c__law_take : Callee P w K mg base j "_law_take" 2 p__law_take) {p__law_spoilt : Fn} (c__law_spoilt : Callee P w K mg base j "_law_spoilt" 2 p__law_spoilt) {qual : Str} {f : Addr} {cdv : Value} {A : Around} {outer : List Env} {s : Shared} {H : Hp} {E : XK} (hr : Room j (A.deeper (envOfC qual (defScope s__law_bent) s.heap.objs.size f cdv))) :
    PSs (cxOf CX0 P w K mg base N__law_bent qual (defScope s__law_bent) f cdv A outer s H E).nox (defBody s__law_bent) (tS K (d__law_bent p__law_take p__law_spoilt)) :=
    have nd := sc__law_bent.nd
    (ss_cons (s_for (i_rg1 m.range (a_cons (e_op o_mul s_mul (e_callTy call_int1 s_int m.int (a_cons (e_cmp op_gt s_gt (e_var 2) e_int (nomark _)) a_nil)) (e_op o_add s_add e_int (e_call c__law_take hr (a_cons (e_var 0) (a_cons e_int a_nil))))) a_nil)) (g_nm 3 nd) (ss_one (s_set 1 nd (e_call c__law_spoilt hr (a_cons (e_var 0) (a_cons (e_var 1) a_nil))))) ci_rg1)
      (ss_one (s_ret (e_var 1))))
theorem w__law_bent {P : Program} {w : World} {K : Frg} {mg : Str → Option Value} {base : Heap} {j : Nat} (m : MG mg) {p__law_take : Fn} (c__law_take : Callee P w K mg base j "_law_take" 2 p__law_take) {p__law_spoilt : Fn} (c__law_spoilt : Callee P w K mg base j "_law_spoilt" 2 p__law_spoilt) {f : Addr} {fd : FuncData} (F : L2.Fun K "_law_bent" "_law_bent" s__law_bent f fd) (hg : mg "_law_bent" = some (.ref f)) {ψ : Fn}
    (hψ : Den.Does N__law_bent.length 3 (d__law_bent p__law_take p__law_spoilt) ψ) : Callee P w K mg base (j + 1) "_law_bent" 3 ψ :=
  ⟨⟨f, fd, ["c", "value", "turn"], fn_ok F sc__law_bent (fun _ _ _ _ _ _ hr => b__law_bent m c__law_take c__law_spoilt hr) hψ, hg, F.kp, F.binds fun _ _ _ _ _ _ us hl => match us, hl with | [_, _, _], _ => rfl⟩⟩
/-! ### _law_gcd -/
def N__law_gcd : List Str := ["a", "b"]
abbrev s__law_gcd : Stmt := topS 17
theorem sc__law_gcd : FnScope N__law_gcd ["a", "b"] (defScope s__law_gcd) := ⟨rfl, rfl, rfl, by decide +kernel, rfl, by decide +kernel, by decide +kernel⟩
noncomputable def d__law_gcd : DenS :=
  (sSeq (sPar 0 1 (aCons (dN f_abs (aCons (cVar 0) aNil)) (aCons (dN f_abs (aCons (cVar 1) aNil)) aNil)))
  (sSeq (sWh (tB1 (d2 f_ne (cVar 1) (cK (.int 0)))) (sPar 0 1 (aCons (cVar 1) (aCons (d2 f_mod (cVar 0) (cVar 1)) aNil))))
  (sRet (cVar 0))))
theorem b__law_gcd {P : Program} {w : World} {K : Frg} {mg : Str → Option Value} {base : Heap} {j : Nat} (m : MG mg) {qual : Str} {f : Addr} {cdv : Value} {A : Around} {outer : List Env} {s : Shared} {H : Hp} {E : XK} (hr : Room j (A.deeper (envOfC qual (defScope s__law_gcd) s.heap.objs.size f cdv))) :
    PSs (cxOf CX0 P w K mg base N__law_gcd qual (defScope s__law_gcd) f cdv A outer s H E).nox (defBody s__law_gcd) (tS K d__law_gcd) :=
    have nd := sc__law_gcd.nd
    (ss_cons (s_par 0 1 rfl nd (a_cons (e_callB call_abs s_abs m.abs (a_cons (e_var 0) a_nil)) (a_cons (e_callB call_abs s_abs m.abs (a_cons (e_var 1) a_nil)) a_nil)))
      (ss_cons (s_wh (x_cmp (o_ne hr.units) s_ne (e_var 1) e_int (nomark _)) (ss_one (s_par 0 1 rfl nd (a_cons (e_var 1) (a_cons (e_op o_mod s_mod (e_var 0) (e_var 1)) a_nil)))))
      (ss_one (s_ret (e_var 0)))))
theorem w__law_gcd {P : Program} {w : World} {K : Frg} {mg : Str → Option Value} {base : Heap} {j : Nat} (m : MG mg) {f : Addr} {fd : FuncData} (F : L2.Fun K "_law_gcd" "_law_gcd" s__law_gcd f fd) (hg : mg "_law_gcd" = some (.ref f)) {ψ : Fn}
    (hψ : Den.Does N__law_gcd.length 2 d__law_gcd ψ) : Callee P w K mg base (j + 1) "_law_gcd" 2 ψ :=
  ⟨⟨f, fd, ["a", "b"], fn_ok F sc__law_gcd (fun _ _ _ _ _ _ hr => b__law_gcd m hr) hψ, hg, F.kp, F.binds fun _ _ _ _ _ _ us hl => match us, hl with | [_, _], _ => rfl⟩⟩
/-! ### _law_power -/
def N__law_power : List Str := ["a", "k", "n", "found", "base"]
abbrev s__law_power : Stmt := topS 18
theorem sc__law_power : FnScope N__law_power ["a", "k", "n"] (defScope s__law_power) := ⟨rfl, rfl, rfl, by decide +kernel, rfl, by decide +kernel, by decide +kernel⟩
noncomputable def d__law_power : DenS :=
  (sSeq (sPar 3 4 (aCons (d2 f_mod (cK (.int 1)) (cVar 2)) (aCons (d2 f_mod (cVar 0) (cVar 2)) aNil)))
  (sSeq (sWh (tB1 (d2 f_gt (cVar 1) (cK (.int 0)))) (sSeq (sIf (tB1 (d2 f_eq (d2 f_mod (cVar 1) (cK (.int 2))) (cK (.int 1)))) (sAsg (d2 f_mod (d2 f_mul (cVar 3) (cVar 4)) (cVar 2)) (gNm 3)) sNil)
  (sPar 4 1 (aCons (d2 f_mod (d2 f_mul (cVar 4) (cVar 4)) (cVar 2)) (aCons (d2 f_fdiv (cVar 1) (cK (.int 2))) aNil)))))
  (sRet (cVar 3))))
theorem b__law_power {P : Program} {w : World} {K : Frg} {mg : Str → Option Value} {base : Heap} {j : Nat} (m : MG mg) {qual : Str} {f : Addr} {cdv : Value} {A : Around} {outer : List Env} {s : Shared} {H : Hp} {E : XK} (hr : Room j (A.deeper (envOfC qual (defScope s__law_power) s.heap.objs.size f cdv))) :
    PSs (cxOf CX0 P w K mg base N__law_power qual (defScope s__law_power) f cdv A outer s H E).nox (defBody s__law_power) (tS K d__law_power) :=
    have nd := sc__law_power.nd
    (ss_cons (s_par 3 4 rfl nd (a_cons (e_op o_mod s_mod e_int (e_var 2)) (a_cons (e_op o_mod s_mod (e_var 0) (e_var 2)) a_nil)))
      (ss_cons (s_wh (x_cmp op_gt s_gt (e_var 1) e_int (nomark _)) (ss_cons (s_if (x_cmp (o_eq hr.units) s_eq (e_op o_mod s_mod (e_var 1) e_int) e_int (nomark _)) (ss_one (s_set 3 nd (e_op o_mod s_mod (e_op o_mul s_mul (e_var 3) (e_var 4)) (e_var 2)))) ss_nil)
      (ss_one (s_par 4 1 rfl nd (a_cons (e_op o_mod s_mod (e_op o_mul s_mul (e_var 4) (e_var 4)) (e_var 2)) (a_cons (e_op o_fdiv s_fdiv (e_var 1) e_int) a_nil))))))
      (ss_one (s_ret (e_var 3)))))
theorem w__law_power {P : Program} {w : World} {K : Frg} {mg : Str → Option Value} {base : Heap} {j : Nat} (m : MG mg) {f : Addr} {fd : FuncData} (F : L2.Fun K "_law_power" "_law_power" s__law_power f fd) (hg : mg "_law_power" = some (.ref f)) {ψ : Fn}
    (hψ : Den.Does N__law_power.length 3 d__law_power ψ) : Callee P w K mg base (j + 1) "_law_power" 3 ψ :=
  ⟨⟨f, fd, ["a", "k", "n"], fn_ok F sc__law_power (fun _ _ _ _ _ _ hr => b__law_power m hr) hψ, hg, F.kp, F.binds fun _ _ _ _ _ _ us hl => match us, hl with | [_, _, _], _ => rfl⟩⟩
/-! ### _law_primes -/
def N__law_primes : List Str := ["n", "found", "p", "e"]
abbrev s__law_primes : Stmt := topS 19
theorem sc__law_primes : FnScope N__law_primes ["n"] (defScope s__law_primes) := ⟨rfl, rfl, rfl, by decide +kernel, rfl, by decide +kernel, by decide +kernel⟩
noncomputable def d__law_primes : DenS :=
  (sSeq (sPar 1 2 (aCons (dLoc aNil) (aCons (cK (.int 2)) aNil)))
  (sSeq (sWh (tB1 (d2 f_le (d2 f_mul (cVar 2) (cVar 2)) (cVar 0))) (sSeq (sAsg (cK (.int 0)) (gNm 3))
  (sSeq (sWh (tB1 (d2 f_eq (d2 f_mod (cVar 0) (cVar 2)) (cK (.int 0)))) (sPar 0 3 (aCons (d2 f_fdiv (cVar 0) (cVar 2)) (aCons (d2 f_add (cVar 3) (cK (.int 1))) aNil))))
  (sSeq (sIf (tB1 (d2 f_gt (cVar 3) (cK (.int 0)))) (sEx (dML f_app (cVar 1) (aCons (dTup (aCons (cVar 2) (aCons (cVar 3) aNil))) aNil))) sNil)
  (sAsg (d2 f_add (cVar 2) (cK (.int 1))) (gNm 2))))))
  (sRet (d2 f_add (cVar 1) (dIf (tB1 (d2 f_gt (cVar 0) (cK (.int 1)))) (dLst (aCons (dTup (aCons (cVar 0) (aCons (cK (.int 1)) aNil))) aNil)) (dLst aNil))))))
theorem b__law_primes {P : Program} {w : World} {K : Frg} {mg : Str → Option Value} {base : Heap} {j : Nat} (m : MG mg) {qual : Str} {f : Addr} {cdv : Value} {A : Around} {outer : List Env} {s : Shared} {H : Hp} {E : XK} (hr : Room j (A.deeper (envOfC qual (defScope s__law_primes) s.heap.objs.size f cdv))) :
    PSs (cxOf CX0 P w K mg base N__law_primes qual (defScope s__law_primes) f cdv A outer s H E).nox (defBody s__law_primes) (tS K d__law_primes) :=
    have nd := sc__law_primes.nd
    (ss_cons (s_par 1 2 rfl nd (a_cons (e_loc a_nil) (a_cons e_int a_nil)))
      (ss_cons (s_wh (x_cmp op_le s_le (e_op o_mul s_mul (e_var 2) (e_var 2)) (e_var 0) (nomark _)) (ss_cons (s_set 3 nd e_int)
      (ss_cons (s_wh (x_cmp (o_eq hr.units) s_eq (e_op o_mod s_mod (e_var 0) (e_var 2)) e_int (nomark _)) (ss_one (s_par 0 3 rfl nd (a_cons (e_op o_fdiv s_fdiv (e_var 0) (e_var 2)) (a_cons (e_op o_add s_add (e_var 3) e_int) a_nil)))))
      (ss_cons (s_if (x_cmp op_gt s_gt (e_var 3) e_int (nomark _)) (ss_one (s_ex (e_bm PySem.F.plainAttrs_list PySem.F.slot_list_append PySem.F.type_list_append mt_append s_app (e_var 1) (a_cons (e_tup (a_cons (e_var 2) (a_cons (e_var 3) a_nil))) a_nil)))) ss_nil)
      (ss_one (s_set 2 nd (e_op o_add s_add (e_var 2) e_int)))))))
      (ss_one (s_ret (e_op o_add s_add (e_var 1) (e_if (x_cmp op_gt s_gt (e_var 0) e_int (nomark _)) (e_lst (a_cons (e_tup (a_cons (e_var 0) (a_cons e_int a_nil))) a_nil)) (e_lst a_nil)))))))
theorem w__law_primes {P : Program} {w : World} {K : Frg} {mg : Str → Option Value} {base : Heap} {j : Nat} (m : MG mg) {f : Addr} {fd : FuncData} (F : L2.Fun K "_law_primes" "_law_primes" s__law_primes f fd) (hg : mg "_law_primes" = some (.ref f)) {ψ : Fn}
    (hψ : Den.Does N__law_primes.length 1 d__law_primes ψ) : Callee P w K mg base (j + 1) "_law_primes" 1 ψ :=
  ⟨⟨f, fd, ["n"], fn_ok F sc__law_primes (fun _ _ _ _ _ _ hr => b__law_primes m hr) hψ, hg, F.kp, F.binds fun _ _ _ _ _ _ us hl => match us, hl with | [_], _ => rfl⟩⟩
/-! ### _law_is_prime -/
def N__law_is_prime : List Str := ["n"]
abbrev s__law_is_prime : Stmt := topS 20
theorem sc__law_is_prime : FnScope N__law_is_prime ["n"] (defScope s__law_is_prime) := ⟨rfl, rfl, rfl, by decide +kernel, rfl, by decide +kernel, by decide +kernel⟩
noncomputable def d__law_is_prime (p__law_primes : Fn) : DenS :=
  (sRet (dAn (d2 f_gt (cVar 0) (cK (.int 1))) (d2 f_eq (dCall 1 p__law_primes (aCons (cVar 0) aNil)) (dLst (aCons (dTup (aCons (cVar 0) (aCons (cK (.int 1)) aNil))) aNil)))))
theorem b__law_is_prime {P : Program} {w : World} {K : Frg} {mg : Str → Option Value} {base : Heap} {j : Nat} (m : MG mg) {p__law_primes : Fn} (c__law_primes : Callee P w K mg base j "_law_primes" 1 p__law_primes) {qual : Str} {f : Addr} {cdv : Value} {A : Around} {outer : List Env} {s : Shared} {H : Hp} {E : XK} (hr : Room j (A.deeper (envOfC qual (defScope s__law_is_prime) s.heap.objs.size f cdv))) :
    PSs (cxOf CX0 P w K mg base N__law_is_prime qual (defScope s__law_is_prime) f cdv A outer s H E).nox (defBody s__law_is_prime) (tS K (d__law_is_prime p__law_primes)) :=
    have nd := sc__law_is_prime.nd
    (ss_one (s_ret (e_an (e_cmp op_gt s_gt (e_var 0) e_int (nomark _)) (e_one (e_cmp (o_eq hr.units) s_eq (e_call c__law_primes hr (a_cons (e_var 0) a_nil)) (e_lst (a_cons (e_tup (a_cons (e_var 0) (a_cons e_int a_nil))) a_nil)) (nomark _))))))
theorem w__law_is_prime {P : Program} {w : World} {K : Frg} {mg : Str → Option Value} {base : Heap} {j : Nat} (m : MG mg) {p__law_primes : Fn} (c__law_primes : Callee P w K mg base j "_law_primes" 1 p__law_primes) {f : Addr} {fd : FuncData} (F : L2.Fun K "_law_is_prime" "_law_is_prime" s__law_is_prime f fd) (hg : mg "_law_is_prime" = some (.ref f)) {ψ : Fn}
    (hψ : Den.Does N__law_is_prime.length 1 (d__law_is_prime p__law_primes) ψ) : Callee P w K mg base (j + 1) "_law_is_prime" 1 ψ :=
  ⟨⟨f, fd, ["n"], fn_ok F sc__law_is_prime (fun _ _ _ _ _ _ hr => b__law_is_prime m c__law_primes hr) hψ, hg, F.kp, F.binds fun _ _ _ _ _ _ us hl => match us, hl with | [_], _ => rfl⟩⟩
/-! ### _law_integer -/
def N__law_integer : List Str := ["c", "kind", "found"]
abbrev s__law_integer : Stmt := topS 21
theorem sc__law_integer : FnScope N__law_integer ["c"] (defScope s__law_integer) := ⟨rfl, rfl, rfl, by decide +kernel, rfl, by decide +kernel, by decide +kernel⟩
noncomputable def d__law_integer (p__law_take : Fn) : DenS :=
  (sSeq (sAsg (dCall 2 p__law_take (aCons (cVar 0) (aCons (cK (.int 6)) aNil))) (gNm 1))
  (sSeq (sAsg (d2 f_ix (dLst (aCons (dCall 2 p__law_take (aCons (cVar 0) (aCons (cK (.int 20)) aNil))) (aCons (cK (.int 0)) (aCons (cK (.int 1)) (aCons (dCall 2 p__law_take (aCons (cVar 0) (aCons (d2 f_add (d2 f_pow (cK (.int 10)) (cK (.int 9))) (cK (.int 1))) aNil))) (aCons (d2 f_mul (cK (.int 720720)) (dCall 2 p__law_take (aCons (cVar 0) (aCons (cK (.int 1000)) aNil)))) (aCons (d2 f_ix (dLst (aCons (cK (.int 1)) (aCons (cK (.int 2)) (aCons (cK (.int 1024)) (aCons (d2 f_pow (cK (.int 2)) (cK (.int 20))) (aCons (d2 f_pow (cK (.int 2)) (cK (.int 29))) aNil)))))) (dCall 2 p__law_take (aCons (cVar 0) (aCons (cK (.int 5)) aNil)))) aNil))))))) (cVar 1)) (gNm 2))
  (sRet (dIf (tB1 (d2 f_eq (dCall 2 p__law_take (aCons (cVar 0) (aCons (cK (.int 3)) aNil))) (cK (.int 0)))) (d2 f_sub (cK (.int 0)) (cVar 2)) (cVar 2)))))
theorem b__law_integer {P : Program} {w : World} {K : Frg} {mg : Str → Option Value} {base : Heap} {j : Nat} (m : MG mg) {p__law_take : Fn} (c__law_take : Callee P w K mg base j "_law_take" 2 p__law_take) {qual : Str} {f : Addr} {cdv : Value} {A : Around} {outer : List Env} {s : Shared} {H : Hp} {E : XK} (hr : Room j (A.deeper (envOfC qual (defScope s__law_integer) s.heap.objs.size f cdv))) :
    PSs (cxOf CX0 P w K mg base N__law_integer qual (defScope s__law_integer) f cdv A outer s H E).nox (defBody s__law_integer) (tS K (d__law_integer p__law_take)) :=
    have nd := sc__law_integer.nd
    (ss_cons (s_set 1 nd (e_call c__law_take hr (a_cons (e_var 0) (a_cons e_int a_nil))))
      (ss_cons (s_set 2 nd (e_ix (e_lst (a_cons (e_call c__law_take hr (a_cons (e_var 0) (a_cons e_int a_nil))) (a_cons e_int (a_cons e_int (a_cons (e_call c__law_take hr (a_cons (e_var 0) (a_cons (e_op o_add s_add (e_op op_pow s_pow e_int e_int) e_int) a_nil))) (a_cons (e_op o_mul s_mul e_int (e_call c__law_take hr (a_cons (e_var 0) (a_cons e_int a_nil)))) (a_cons (e_ix (e_lst (a_cons e_int (a_cons e_int (a_cons e_int (a_cons (e_op op_pow s_pow e_int e_int) (a_cons (e_op op_pow s_pow e_int e_int) a_nil)))))) (e_call c__law_take hr (a_cons (e_var 0) (a_cons e_int a_nil)))) a_nil))))))) (e_var 1)))
      (ss_one (s_ret (e_if (x_cmp (o_eq hr.units) s_eq (e_call c__law_take hr (a_cons (e_var 0) (a_cons e_int a_nil))) e_int (nomark _)) (e_op o_sub s_sub e_int (e_var 2)) (e_var 2))))))
theorem w__law_integer {P : Program} {w : World} {K : Frg} {mg : Str → Option Value} {base : Heap} {j : Nat} (m : MG mg) {p__law_take : Fn} (c__law_take : Callee P w K mg base j "_law_take" 2 p__law_take) {f : Addr} {fd : FuncData} (F : L2.Fun K "_law_integer" "_law_integer" s__law_integer f fd) (hg : mg "_law_integer" = some (.ref f)) {ψ : Fn}
    (hψ : Den.Does N__law_integer.length 1 (d__law_integer p__law_take) ψ) : Callee P w K mg base (j + 1) "_law_integer" 1 ψ :=
  ⟨⟨f, fd, ["c"], fn_ok F sc__law_integer (fun _ _ _ _ _ _ hr => b__law_integer m c__law_take hr) hψ, hg, F.kp, F.binds fun _ _ _ _ _ _ us hl => match us, hl with | [_], _ => rfl⟩⟩
/-! ### _law_joined -/
def N__law_joined : List Str := ["pairs", "r", "n", "s", "m", "g"]
abbrev s__law_joined : Stmt := topS 22
theorem sc__law_joined : FnScope N__law_joined ["pairs"] (defScope s__law_joined) := ⟨rfl, rfl, rfl, by decide +kernel, rfl, by decide +kernel, by decide +kernel⟩
noncomputable def d__law_joined (p__law_gcd : Fn) : DenS :=
  (sSeq (sAsg (dTup (aCons (cK (.int 0)) (aCons (cK (.int 1)) aNil))) (gTu 2 (gsCons (gNm 1) (gsCons (gNm 2) gsNil))))
  (sSeq (sFor (itSeq (cVar 0)) (gTu 2 (gsCons (gNm 3) (gsCons (gNm 4) gsNil))) (sSeq (sAsg (dCall 2 p__law_gcd (aCons (cVar 2) (aCons (cVar 4) aNil))) (gNm 5))
  (sSeq (sIf (tB1 (d2 f_ne (d2 f_mod (d2 f_sub (cVar 3) (cVar 1)) (cVar 5)) (cK (.int 0)))) (sRet (cK .non)) sNil)
  (sSeq (sWh (tB1 (d2 f_ne (d2 f_mod (d2 f_sub (cVar 1) (cVar 3)) (cVar 4)) (cK (.int 0)))) (sAsg (d2 f_add (cVar 1) (cVar 2)) (gNm 1)))
  (sSeq (sAsg (d2 f_mul (d2 f_fdiv (cVar 2) (cVar 5)) (cVar 4)) (gNm 2))
  (sAsg (d2 f_mod (cVar 1) (cVar 2)) (gNm 1)))))))
  (sRet (dTup (aCons (cVar 1) (aCons (cVar 2) aNil))))))
theorem b__law_joined {P : Program} {w : World} {K : Frg} {mg : Str → Option Value} {base : Heap} {j : Nat} (m : MG mg) {p__law_gcd : Fn} (c__law_gcd : Callee P w K mg base j "_law_gcd" 2 p__law_gcd) {qual : Str} {f : Addr} {cdv : Value} {A : Around} {outer : List Env} {s : Shared} {H : Hp} {E : XK} (hr : Room j (A.deeper (envOfC qual (defScope s__law_joined) s.heap.objs.size f cdv))) :
    PSs (cxOf CX0 P w K mg base N__law_joined qual (defScope s__law_joined) f cdv A outer s H E).nox (defBody s__law_joined) (tS K (d__law_joined p__law_gcd)) :=
    have nd := sc__law_joined.nd
    (ss_cons (s_asg (e_tup (a_cons e_int (a_cons e_int a_nil))) (g_tu rfl (gs_cons (g_nm 1 nd) (gs_cons (g_nm 2 nd) gs_nil))))
      (ss_cons (s_for (i_seq (e_var 0)) (g_tu rfl (gs_cons (g_nm 3 nd) (gs_cons (g_nm 4 nd) gs_nil))) (ss_cons (s_set 5 nd (e_call c__law_gcd hr (a_cons (e_var 2) (a_cons (e_var 4) a_nil))))
      (ss_cons (s_if (x_cmp (o_ne hr.units) s_ne (e_op o_mod s_mod (e_op o_sub s_sub (e_var 3) (e_var 1)) (e_var 5)) e_int (nomark _)) (ss_one (s_ret e_non)) ss_nil)
      (ss_cons (s_wh (x_cmp (o_ne hr.units) s_ne (e_op o_mod s_mod (e_op o_sub s_sub (e_var 1) (e_var 3)) (e_var 4)) e_int (nomark _)) (ss_one (s_set 1 nd (e_op o_add s_add (e_var 1) (e_var 2)))))
      (ss_cons (s_set 2 nd (e_op o_mul s_mul (e_op o_fdiv s_fdiv (e_var 2) (e_var 5)) (e_var 4)))
      (ss_one (s_set 1 nd (e_op o_mod s_mod (e_var 1) (e_var 2)))))))) ci_seq)
      (ss_one (s_ret (e_tup (a_cons (e_var 1) (a_cons (e_var 2) a_nil)))))))
theorem w__law_joined {P : Program} {w : World} {K : Frg} {mg : Str → Option Value} {base : Heap} {j : Nat} (m : MG mg) {p__law_gcd : Fn} (c__law_gcd : Callee P w K mg base j "_law_gcd" 2 p__law_gcd) {f : Addr} {fd : FuncData} (F : L2.Fun K "_law_joined" "_law_joined" s__law_joined f fd) (hg : mg "_law_joined" = some (.ref f)) {ψ : Fn}
    (hψ : Den.Does N__law_joined.length 1 (d__law_joined p__law_gcd) ψ) : Callee P w K mg base (j + 1) "_law_joined" 1 ψ :=
  ⟨⟨f, fd, ["pairs"], fn_ok F sc__law_joined (fun _ _ _ _ _ _ hr => b__law_joined m c__law_gcd hr) hψ, hg, F.kp, F.binds fun _ _ _ _ _ _ us hl => match us, hl with | [_], _ => rfl⟩⟩
/-! ### _law_apart -/
def N__law_apart : List Str := ["pairs", "found", "j", "i"]
abbrev s__law_apart : Stmt := topS 23
theorem sc__law_apart : FnScope N__law_apart ["pairs"] (defScope s__law_apart) := ⟨rfl, rfl, rfl, by decide +kernel, rfl, by decide +kernel, by decide +kernel⟩
noncomputable def d__law_apart (p__law_gcd : Fn) : DenS :=
  (sSeq (sAsg (dLoc aNil) (gNm 1))
  (sSeq (sFor (itRg1 (aCons (dN f_len (aCons (cVar 0) aNil)) aNil)) (gNm 2) (sFor (itRg1 (aCons (cVar 2) aNil)) (gNm 3) (sIf (tB1 (d2 f_ne (d2 f_mod (d2 f_sub (d2 f_ix (d2 f_ix (cVar 0) (cVar 3)) (cK (.int 0))) (d2 f_ix (d2 f_ix (cVar 0) (cVar 2)) (cK (.int 0)))) (dCall 2 p__law_gcd (aCons (d2 f_ix (d2 f_ix (cVar 0) (cVar 3)) (cK (.int 1))) (aCons (d2 f_ix (d2 f_ix (cVar 0) (cVar 2)) (cK (.int 1))) aNil)))) (cK (.int 0)))) (sEx (dML f_app (cVar 1) (aCons (dTup (aCons (cVar 2) (aCons (cVar 3) aNil))) aNil))) sNil)))
  (sRet (cVar 1))))
theorem b__law_apart {P : Program} {w : World} {K : Frg} {mg : Str → Option Value} {base : Heap} {j : Nat} (m : MG mg) {p__law_gcd : Fn} (c__law_gcd : Callee P w K mg base j "_law_gcd" 2 p__law_gcd) {qual : Str} {f : Addr} {cdv : Value} {A : Around} {outer : List Env} {s : Shared} {H : Hp} {E : XK} (hr : Room j (A.deeper (envOfC qual (defScope s__law_apart) s.heap.objs.size f cdv))) :
    PSs (cxOf CX0 P w K mg base N__law_apart qual (defScope s__law_apart) f cdv A outer s H E).nox (defBody s__law_apart) (tS K (d__law_apart p__law_gcd)) :=
    have nd := sc__law_apart.nd
    (ss_cons (s_set 1 nd (e_loc a_nil))
      (ss_cons (s_for (i_rg1 m.range (a_cons (e_callB call_len s_len m.len (a_cons (e_var 0) a_nil)) a_nil)) (g_nm 2 nd) (ss_one (s_for (i_rg1 m.range (a_cons (e_var 2) a_nil)) (g_nm 3 nd) (ss_one (s_if (x_cmp (o_ne hr.units) s_ne (e_op o_mod s_mod (e_op o_sub s_sub (e_ix (e_ix (e_var 0) (e_var 3)) e_int) (e_ix (e_ix (e_var 0) (e_var 2)) e_int)) (e_call c__law_gcd hr (a_cons (e_ix (e_ix (e_var 0) (e_var 3)) e_int) (a_cons (e_ix (e_ix (e_var 0) (e_var 2)) e_int) a_nil)))) e_int (nomark _)) (ss_one (s_ex (e_bm PySem.F.plainAttrs_list PySem.F.slot_list_append PySem.F.type_list_append mt_append s_app (e_var 1) (a_cons (e_tup (a_cons (e_var 2) (a_cons (e_var 3) a_nil))) a_nil)))) ss_nil)) ci_rg1)) ci_rg1)
      (ss_one (s_ret (e_var 1)))))
theorem w__law_apart {P : Program} {w : World} {K : Frg} {mg : Str → Option Value} {base : Heap} {j : Nat} (m : MG mg) {p__law_gcd : Fn} (c__law_gcd : Callee P w K mg base j "_law_gcd" 2 p__law_gcd) {f : Addr} {fd : FuncData} (F : L2.Fun K "_law_apart" "_law_apart" s__law_apart f fd) (hg : mg "_law_apart" = some (.ref f)) {ψ : Fn}
    (hψ : Den.Does N__law_apart.length 1 (d__law_apart p__law_gcd) ψ) : Callee P w K mg base (j + 1) "_law_apart" 1 ψ :=
  ⟨⟨f, fd, ["pairs"], fn_ok F sc__law_apart (fun _ _ _ _ _ _ hr => b__law_apart m c__law_gcd hr) hψ, hg, F.kp, F.binds fun _ _ _ _ _ _ us hl => match us, hl with | [_], _ => rfl⟩⟩
/-! ### _law_is_paper -/
def N__law_is_paper : List Str := ["pairs", "value", "i", "j"]
abbrev s__law_is_paper : Stmt := topS 24
theorem sc__law_is_paper : FnScope N__law_is_paper ["pairs", "value"] (defScope s__law_is_paper) := ⟨rfl, rfl, rfl, by decide +kernel, rfl, by decide +kernel, by decide +kernel⟩
noncomputable def d__law_is_paper (p__law_is_int : Fn) (p__law_joined : Fn) (p__law_gcd : Fn) : DenS :=
  (sSeq (sIf (tOr' (tNo (tTru (d1 (f_isi .tuple) (cVar 1)))) (tOr' (tB1 (d2 f_ne (dN f_len (aCons (cVar 1) aNil)) (cK (.int 3)))) (tNo (tTru (d1 (f_isi .str) (d2 f_ix (cVar 1) (cK (.int 0)))))))) (sRet (cK (.bl false))) sNil)
  (sSeq (sIf (tOr' (tNo (tTru (dCall 1 p__law_is_int (aCons (d2 f_ix (cVar 1) (cK (.int 1))) aNil)))) (tNo (tTru (dCall 1 p__law_is_int (aCons (d2 f_ix (cVar 1) (cK (.int 2))) aNil))))) (sRet (cK (.bl false))) sNil)
  (sSeq (sIf (tB1 (d2 f_eq (d2 f_ix (cVar 1) (cK (.int 0))) (cK (.str (Str.ofString "joined"))))) (sRet (d2 f_eq (dSl (cVar 1) (oSo (cK (.int 1))) oNo) (dCall 1 p__law_joined (aCons (cVar 0) aNil)))) sNil)
  (sSeq (sAsg (dSl (cVar 1) (oSo (cK (.int 1))) oNo) (gTu 2 (gsCons (gNm 2) (gsCons (gNm 3) gsNil))))
  (sSeq (sIf (tOr' (tB1 (d2 f_ne (d2 f_ix (cVar 1) (cK (.int 0))) (cK (.str (Str.ofString "apart"))))) (tNo (tB1 (dCh3 f_le f_lt f_lt (cK (.int 0)) (cVar 2) (cVar 3) (dN f_len (aCons (cVar 0) aNil)))))) (sRet (cK (.bl false))) sNil)
  (sRet (d2 f_ne (d2 f_mod (d2 f_sub (d2 f_ix (d2 f_ix (cVar 0) (cVar 2)) (cK (.int 0))) (d2 f_ix (d2 f_ix (cVar 0) (cVar 3)) (cK (.int 0)))) (dCall 2 p__law_gcd (aCons (d2 f_ix (d2 f_ix (cVar 0) (cVar 2)) (cK (.int 1))) (aCons (d2 f_ix (d2 f_ix (cVar 0) (cVar 3)) (cK (.int 1))) aNil)))) (cK (.int 0)))))))))
theorem b__law_is_paper {P : Program} {w : World} {K : Frg} {mg : Str → Option Value} {base : Heap} {j : Nat} (m : MG mg) {p__law_is_int : Fn} (c__law_is_int : Callee P w K mg base j "_law_is_int" 1 p__law_is_int) {p__law_joined : Fn} (c__law_joined : Callee P w K mg base j "_law_joined" 1 p__law_joined) {p__law_gcd : Fn} (c__law_gcd : Callee P w K mg base j "_law_gcd" 2 p__law_gcd) {qual : Str} {f : Addr} {cdv : Value} {A : Around} {outer : List Env} {s : Shared} {H : Hp} {E : XK} (hr : Room j (A.deeper (envOfC qual (defScope s__law_is_paper) s.heap.objs.size f cdv))) :
    PSs (cxOf CX0 P w K mg base N__law_is_paper qual (defScope s__law_is_paper) f cdv A outer s H E).nox (defBody s__law_is_paper) (tS K (d__law_is_paper p__law_is_int p__law_joined p__law_gcd)) :=
    have nd := sc__law_is_paper.nd
    (ss_cons (s_if (x_or (x_no (x_tru (e_isi .tuple (e_var 1) m.isinstance m.tuple))) (x_or (x_cmp (o_ne hr.units) s_ne (e_callB call_len s_len m.len (a_cons (e_var 1) a_nil)) e_int (nomark _)) (x_or1 (x_no (x_tru (e_isi .str (e_ix (e_var 1) e_int) m.isinstance m.str)))))).pt (ss_one (s_ret e_bl)) ss_nil)
      (ss_cons (s_if (x_or (x_no (x_tru (e_call c__law_is_int hr (a_cons (e_ix (e_var 1) e_int) a_nil)))) (x_or1 (x_no (x_tru (e_call c__law_is_int hr (a_cons (e_ix (e_var 1) e_int) a_nil)))))).pt (ss_one (s_ret e_bl)) ss_nil)
      (ss_cons (s_if (x_cmp (o_eq hr.units) s_eq (e_ix (e_var 1) e_int) e_str (nomark _)) (ss_one (s_ret (e_cmp (o_eq hr.units) s_eq (e_sl (e_var 1) (o_so e_int) o_no) (e_call c__law_joined hr (a_cons (e_var 0) a_nil)) (nomark _)))) ss_nil)
      (ss_cons (s_asg (e_sl (e_var 1) (o_so e_int) o_no) (g_tu rfl (gs_cons (g_nm 2 nd) (gs_cons (g_nm 3 nd) gs_nil))))
      (ss_cons (s_if (x_or (x_cmp (o_ne hr.units) s_ne (e_ix (e_var 1) e_int) e_str (nomark _)) (x_or1 (x_no (x_ch3 op_le s_le (o_lt hr.units0) s_lt (o_lt hr.units0) s_lt e_int (e_var 2) (e_var 3) (e_callB call_len s_len m.len (a_cons (e_var 0) a_nil)))))).pt (ss_one (s_ret e_bl)) ss_nil)
      (ss_one (s_ret (e_cmp (o_ne hr.units) s_ne (e_op o_mod s_mod (e_op o_sub s_sub (e_ix (e_ix (e_var 0) (e_var 2)) e_int) (e_ix (e_ix (e_var 0) (e_var 3)) e_int)) (e_call c__law_gcd hr (a_cons (e_ix (e_ix (e_var 0) (e_var 2)) e_int) (a_cons (e_ix (e_ix (e_var 0) (e_var 3)) e_int) a_nil)))) e_int (nomark _)))))))))
theorem w__law_is_paper {P : Program} {w : World} {K : Frg} {mg : Str → Option Value} {base : Heap} {j : Nat} (m : MG mg) {p__law_is_int : Fn} (c__law_is_int : Callee P w K mg base j "_law_is_int" 1 p__law_is_int) {p__law_joined : Fn} (c__law_joined : Callee P w K mg base j "_law_joined" 1 p__law_joined) {p__law_gcd : Fn} (c__law_gcd : Callee P w K mg base j "_law_gcd" 2 p__law_gcd) {f : Addr} {fd : FuncData} (F : L2.Fun K "_law_is_paper" "_law_is_paper" s__law_is_paper f fd) (hg : mg "_law_is_paper" = some (.ref f)) {ψ : Fn}
    (hψ : Den.Does N__law_is_paper.length 2 (d__law_is_paper p__law_is_int p__law_joined p__law_gcd) ψ) : Callee P w K mg base (j + 1) "_law_is_paper" 2 ψ :=
  ⟨⟨f, fd, ["pairs", "value"], fn_ok F sc__law_is_paper (fun _ _ _ _ _ _ hr => b__law_is_paper m c__law_is_int c__law_joined c__law_gcd hr) hψ, hg, F.kp, F.binds fun _ _ _ _ _ _ us hl => match us, hl with | [_, _], _ => rfl⟩⟩
/-! ### law -/
def N_law : List Str := ["script", "c", "turn", "a", "b", "g", "told", "n", "k", "due", "goal", "pairs", "kind", "r", "paper", "fits", "bent", "s", "m", "x"]
abbrev s_law : Stmt := topS 25
theorem sc_law : FnScope N_law ["script"] (defScope s_law) := ⟨rfl, rfl, rfl, by decide +kernel, rfl, by decide +kernel, by decide +kernel⟩
noncomputable def d_law (p__law_start : Fn) (p__law_integer : Fn) (p__law_take : Fn) (p__law_gcd : Fn) (p_with_cofactors : Fn) (p__law_alike : Fn) (p_common_divisor : Fn) (p_inverse : Fn) (p__law_power : Fn) (p_power : Fn) (p_joined_rests : Fn) (p__law_joined : Fn) (p__law_apart : Fn) (p__law_bent : Fn) (p_judge_joined : Fn) (p__law_is_paper : Fn) (p_joined_two : Fn) : DenS :=
  (sSeq (sAsg (dCall 1 p__law_start (aCons (cVar 0) aNil)) (gNm 1))
  (sSeq (sFor (itRg1 (aCons (cK (.int 4)) aNil)) (gNm 2) (sSeq (sAsg (dTup (aCons (dCall 1 p__law_integer (aCons (cVar 1) aNil)) (aCons (dCall 1 p__law_integer (aCons (cVar 1) aNil)) aNil))) (gTu 2 (gsCons (gNm 3) (gsCons (gNm 4) gsNil))))
  (sSeq (sIf (tB1 (d2 f_eq (cVar 2) (cK (.int 3)))) (sAsg (d2 f_mul (cVar 3) (dCall 2 p__law_take (aCons (cVar 1) (aCons (cK (.int 4)) aNil)))) (gNm 4)) sNil)
  (sSeq (sPar 5 6 (aCons (dCall 2 p__law_gcd (aCons (cVar 3) (aCons (cVar 4) aNil))) (aCons (dCall 2 p_with_cofactors (aCons (cVar 3) (aCons (cVar 4) aNil))) aNil)))
  (sSeq (sIf (tOr' (tNo (tTru (dCall 2 p__law_alike (aCons (d2 f_ix (cVar 6) (cK (.int 0))) (aCons (cVar 5) aNil))))) (tOr' (tB1 (d2 f_ne (dCall 2 p_common_divisor (aCons (cVar 3) (aCons (cVar 4) aNil))) (cVar 5))) (tB1 (d2 f_ne (d2 f_add (d2 f_mul (cVar 3) (d2 f_ix (cVar 6) (cK (.int 1)))) (d2 f_mul (cVar 4) (d2 f_ix (cVar 6) (cK (.int 2))))) (cVar 5))))) (sRet (cK (.bl false))) sNil)
  (sSeq (sIf (tOr' (tAn (tB1 (d2 f_ne (cVar 4) (cK (.int 0)))) (tNo (tB1 (dCh2 f_le f_lt (cK (.int 0)) (d2 f_ix (cVar 6) (cK (.int 1))) (d2 f_fdiv (dN f_abs (aCons (cVar 4) aNil)) (cVar 5)))))) (tAn (tB1 (d2 f_eq (cVar 4) (cK (.int 0)))) (tB1 (d2 f_ne (dSl (cVar 6) (oSo (cK (.int 1))) oNo) (dTup (aCons (d2 f_sub (d2 f_gt (cVar 3) (cK (.int 0))) (d2 f_lt (cVar 3) (cK (.int 0)))) (aCons (cK (.int 0)) aNil))))))) (sRet (cK (.bl false))) sNil)
  (sSeq (sAsg (dTup (aCons (d2 f_add (cK (.int 1)) (d2 f_mod (dN f_abs (aCons (cVar 4) aNil)) (cK (.int 10007)))) (aCons (d2 f_ix (dLst (aCons (dCall 2 p__law_take (aCons (cVar 1) (aCons (cK (.int 9)) aNil))) (aCons (dN f_abs (aCons (cVar 3) aNil)) (aCons (d2 f_pow (dN f_abs (aCons (cVar 3) aNil)) (cK (.int 3))) aNil)))) (dCall 2 p__law_take (aCons (cVar 1) (aCons (cK (.int 3)) aNil)))) aNil))) (gTu 2 (gsCons (gNm 7) (gsCons (gNm 8) gsNil))))
  (sSeq (sAsg (dIf (tB1 (d2 f_eq (dCall 2 p__law_gcd (aCons (cVar 3) (aCons (cVar 7) aNil))) (cK (.int 1)))) (dLc [19] (itRg1 (aCons (cVar 7) aNil)) (gNm 19) (tB1 (d2 f_eq (d2 f_mod (d2 f_mul (cVar 3) (cVar 19)) (cVar 7)) (d2 f_mod (cK (.int 1)) (cVar 7)))) (cVar 19)) (dLst aNil)) (gNm 9))
  (sIf (tOr' (tNo (tTru (dCall 2 p__law_alike (aCons (dCall 2 p_inverse (aCons (cVar 3) (aCons (cVar 7) aNil))) (aCons (dIf (tTru (cVar 9)) (d2 f_ix (cVar 9) (cK (.int 0))) (cK .non)) aNil))))) (tNo (tTru (dCall 2 p__law_alike (aCons (dCall 3 p_power (aCons (cVar 3) (aCons (cVar 8) (aCons (cVar 7) aNil)))) (aCons (dCall 3 p__law_power (aCons (cVar 3) (aCons (cVar 8) (aCons (cVar 7) aNil)))) aNil)))))) (sRet (cK (.bl false))) sNil)))))))))
  (sSeq (sPar 10 11 (aCons (dCall 2 p__law_take (aCons (cVar 1) (aCons (cK (.int 5000)) aNil))) (aCons (dLoc aNil) aNil)))
  (sSeq (sAsg (dCall 2 p__law_take (aCons (cVar 1) (aCons (cK (.int 3)) aNil))) (gNm 12))
  (sSeq (sFor (itRg1 (aCons (dCall 2 p__law_take (aCons (cVar 1) (aCons (cK (.int 6)) aNil))) aNil)) (gNm 2) (sSeq (sAsg (d2 f_ix (dLst (aCons (d2 f_add (cK (.int 1)) (dCall 2 p__law_take (aCons (cVar 1) (aCons (cK (.int 12)) aNil)))) (aCons (cK (.int 8)) (aCons (cK (.int 60)) (aCons (cK (.int 1)) aNil))))) (dCall 2 p__law_take (aCons (cVar 1) (aCons (cK (.int 4)) aNil)))) (gNm 7))
  (sSeq (sAsg (dIf (tB1 (d2 f_gt (cVar 12) (cK (.int 0)))) (d2 f_add (cVar 10) (d2 f_mul (cVar 7) (d2 f_sub (dCall 2 p__law_take (aCons (cVar 1) (aCons (cK (.int 5)) aNil))) (cK (.int 2))))) (d2 f_sub (dCall 2 p__law_take (aCons (cVar 1) (aCons (cK (.int 30)) aNil))) (cK (.int 10)))) (gNm 13))
  (sEx (dML f_app (cVar 11) (aCons (dTup (aCons (cVar 13) (aCons (cVar 7) aNil))) aNil))))))
  (sSeq (sIf (tAn (tB1 (d2 f_eq (cVar 12) (cK (.int 1)))) (tTru (cVar 11))) (sSeq (sAsg (d2 f_ix (cVar 11) (d1 f_neg (cK (.int 1)))) (gTu 2 (gsCons (gNm 13) (gsCons (gNm 7) gsNil))))
  (sAsg (dTup (aCons (d2 f_add (cVar 13) (cK (.int 1))) (aCons (cVar 7) aNil))) (gSb (cVar 11) (d1 f_neg (cK (.int 1)))))) sNil)
  (sSeq (sAsg (dN f_tuple (aCons (cVar 11) aNil)) (gNm 11))
  (sSeq (sAsg (dCall 1 p_joined_rests (aCons (cVar 11) aNil)) (gNm 14))
  (sSeq (sAsg (dCall 1 p__law_joined (aCons (cVar 11) aNil)) (gNm 9))
  (sSeq (sIf (tB1 (d2 f_is (cVar 9) (cK .non))) (sSeq (sAsg (dCall 1 p__law_apart (aCons (cVar 11) aNil)) (gNm 15))
  (sIf (tNo (tTru (dCall 2 p__law_alike (aCons (cVar 14) (aCons (dTup (aCons (cK (.str (Str.ofString "apart"))) (aCons (d2 f_ix (d2 f_ix (cVar 15) (cK (.int 0))) (cK (.int 1))) (aCons (d2 f_ix (d2 f_ix (cVar 15) (cK (.int 0))) (cK (.int 0))) aNil)))) aNil))))) (sRet (cK (.bl false))) sNil)) (sIf (tNo (tTru (dCall 2 p__law_alike (aCons (cVar 14) (aCons (dTup (aCons (cK (.str (Str.ofString "joined"))) (aCons (d2 f_ix (cVar 9) (cK (.int 0))) (aCons (d2 f_ix (cVar 9) (cK (.int 1))) aNil)))) aNil))))) (sRet (cK (.bl false))) sNil))
  (sSeq (sFor (itRg1 (aCons (cK (.int 7)) aNil)) (gNm 2) (sSeq (sAsg (dCall 3 p__law_bent (aCons (cVar 1) (aCons (cVar 14) (aCons (cVar 2) aNil)))) (gNm 16))
  (sSeq (sIf (tB1 (d2 f_eq (cVar 2) (cK (.int 6)))) (sAsg (dTup (aCons (cK (.str (Str.ofString "apart"))) (aCons (dCall 2 p__law_take (aCons (cVar 1) (aCons (cK (.int 4)) aNil))) (aCons (dCall 2 p__law_take (aCons (cVar 1) (aCons (cK (.int 5)) aNil))) aNil)))) (gNm 16)) sNil)
  (sSeq (sAsg (dCall 2 p_judge_joined (aCons (cVar 11) (aCons (cVar 16) aNil))) (gNm 6))
  (sIf (tOr' (tNo (tTru (d1 (f_isi .bool) (cVar 6)))) (tB1 (d2 f_ne (cVar 6) (dCall 2 p__law_is_paper (aCons (cVar 11) (aCons (cVar 16) aNil)))))) (sRet (cK (.bl false))) sNil)))))
  (sSeq (sIf (tB1 (d2 f_gt (dN f_len (aCons (cVar 11) aNil)) (cK (.int 1)))) (sSeq (sAsg (dSl (cVar 11) oNo (oSo (cK (.int 2)))) (gTu 2 (gsCons (gTu 2 (gsCons (gNm 13) (gsCons (gNm 7) gsNil))) (gsCons (gTu 2 (gsCons (gNm 17) (gsCons (gNm 18) gsNil))) gsNil))))
  (sRet (dCall 2 p__law_alike (aCons (dCall 4 p_joined_two (aCons (cVar 13) (aCons (cVar 7) (aCons (cVar 17) (aCons (cVar 18) aNil))))) (aCons (dCall 1 p__law_joined (aCons (dSl (cVar 11) oNo (oSo (cK (.int 2)))) aNil)) aNil))))) sNil)
  (sRet (cK (.bl true)))))))))))))))
theorem b_law {P : Program} {w : World} {K : Frg} {mg : Str → Option Value} {base : Heap} {j : Nat} (m : MG mg) {p__law_start : Fn} (c__law_start : Callee P w K mg base j "_law_start" 1 p__law_start) {p__law_integer : Fn} (c__law_integer : Callee P w K mg base j "_law_integer" 1 p__law_integer) {p__law_take : Fn} (c__law_take : Callee P w K mg base j "_law_take" 2 p__law_take) {p__law_gcd : Fn} (c__law_gcd : Callee P w K mg base j "_law_gcd" 2 p__law_gcd) {p_with_cofactors : Fn} (c_with_cofactors : Callee P w K mg base j "with_cofactors" 2 p_with_cofactors) {p__law_alike : Fn} (c__law_alike : Callee P w K mg base j "_law_alike" 2 p__law_alike) {p_common_divisor : Fn} (c_common_divisor : Callee P w K mg base j "common_divisor" 2 p_common_divisor) {p_inverse : Fn} (c_inverse : Callee P w K mg base j "inverse" 2 p_inverse) {p__law_power : Fn} (c__law_power : Callee P w K mg base j "_law_power" 3 p__law_power) {p_power : Fn} (c_power : Callee P w K mg base j "power" 3 p_power) {p_joined_rests : Fn} (c_joined_rests : Callee P w K mg base j "joined_rests" 1 p_joined_rests) {p__law_joined : Fn} (c__law_joined : Callee P w K mg base j "_law_joined" 1 p__law_joined) {p__law_apart : Fn} (c__law_apart : Callee P w K mg base j "_law_apart" 1 p__law_apart) {p__law_bent : Fn} (c__law_bent : Callee P w K mg base j "_law_bent" 3 p__law_bent) {p_judge_joined : Fn} (c_judge_joined : Callee P w K mg base j "judge_joined" 2 p_judge_joined) {p__law_is_paper : Fn} (c__law_is_paper : Callee P w K mg base j "_law_is_paper" 2 p__law_is_paper) {p_joined_two : Fn} (c_joined_two : Callee P w K mg base j "joined_two" 4 p_joined_two) {qual : Str} {f : Addr} {cdv : Value} {A : Around} {outer : List Env} {s : Shared} {H : Hp} {E : XK} (hr : Room j (A.deeper (envOfC qual (defScope s_law) s.heap.objs.size f cdv))) :
    PSs (cxOf CX0 P w K mg base N_law qual (defScope s_law) f cdv A outer s H E).nox (defBody s_law) (tS K (d_law p__law_start p__law_integer p__law_take p__law_gcd p_with_cofactors p__law_alike p_common_divisor p_inverse p__law_power p_power p_joined_rests p__law_joined p__law_apart p__law_bent p_judge_joined p__law_is_paper p_joined_two)) :=
    have nd := sc_law.nd
    (ss_cons (s_set 1 nd (e_call c__law_start hr (a_cons (e_var 0) a_nil)))
      (ss_cons (s_for (i_rg1 m.range (a_cons e_int a_nil)) (g_nm 2 nd) (ss_cons (s_asg (e_tup (a_cons (e_call c__law_integer hr (a_cons (e_var 1) a_nil)) (a_cons (e_call c__law_integer hr (a_cons (e_var 1) a_nil)) a_nil))) (g_tu rfl (gs_cons (g_nm 3 nd) (gs_cons (g_nm 4 nd) gs_nil))))
      (ss_cons (s_if (x_cmp (o_eq hr.units) s_eq (e_var 2) e_int (nomark _)) (ss_one (s_set 4 nd (e_op o_mul s_mul (e_var 3) (e_call c__law_take hr (a_cons (e_var 1) (a_cons e_int a_nil)))))) ss_nil)
      (ss_cons (s_par 5 6 rfl nd (a_cons (e_call c__law_gcd hr (a_cons (e_var 3) (a_cons (e_var 4) a_nil))) (a_cons (e_call c_with_cofactors hr (a_cons (e_var 3) (a_cons (e_var 4) a_nil))) a_nil)))
      (ss_cons (s_if (x_or (x_no (x_tru (e_call c__law_alike hr (a_cons (e_ix (e_var 6) e_int) (a_cons (e_var 5) a_nil))))) (x_or (x_cmp (o_ne hr.units) s_ne (e_call c_common_divisor hr (a_cons (e_var 3) (a_cons (e_var 4) a_nil))) (e_var 5) (nomark _)) (x_or1 (x_cmp (o_ne hr.units) s_ne (e_op o_add s_add (e_op o_mul s_mul (e_var 3) (e_ix (e_var 6) e_int)) (e_op o_mul s_mul (e_var 4) (e_ix (e_var 6) e_int))) (e_var 5) (nomark _))))).pt (ss_one (s_ret e_bl)) ss_nil)
      (ss_cons (s_if (x_or (x_an (x_cmp (o_ne hr.units) s_ne (e_var 4) e_int (nomark _)) (x_an1 (x_no (x_ch2 op_le s_le (o_lt hr.units0) s_lt e_int (e_ix (e_var 6) e_int) (e_op o_fdiv s_fdiv (e_callB call_abs s_abs m.abs (a_cons (e_var 4) a_nil)) (e_var 5)))))).pt (x_or1 (x_an (x_cmp (o_eq hr.units) s_eq (e_var 4) e_int (nomark _)) (x_an1 (x_cmp (o_ne hr.units) s_ne (e_sl (e_var 6) (o_so e_int) o_no) (e_tup (a_cons (e_op o_sub s_sub (e_cmp op_gt s_gt (e_var 3) e_int (nomark _)) (e_cmp (o_lt hr.units0) s_lt (e_var 3) e_int (nomark _))) (a_cons e_int a_nil))) (nomark _)))).pt)).pt (ss_one (s_ret e_bl)) ss_nil)
      (ss_cons (s_asg (e_tup (a_cons (e_op o_add s_add e_int (e_op o_mod s_mod (e_callB call_abs s_abs m.abs (a_cons (e_var 4) a_nil)) e_int)) (a_cons (e_ix (e_lst (a_cons (e_call c__law_take hr (a_cons (e_var 1) (a_cons e_int a_nil))) (a_cons (e_callB call_abs s_abs m.abs (a_cons (e_var 3) a_nil)) (a_cons (e_op op_pow s_pow (e_callB call_abs s_abs m.abs (a_cons (e_var 3) a_nil)) e_int) a_nil)))) (e_call c__law_take hr (a_cons (e_var 1) (a_cons e_int a_nil)))) a_nil))) (g_tu rfl (gs_cons (g_nm 7 nd) (gs_cons (g_nm 8 nd) gs_nil))))
      (ss_cons (s_set 9 nd (e_if (x_cmp (o_eq hr.units) s_eq (e_call c__law_gcd hr (a_cons (e_var 3) (a_cons (e_var 7) a_nil))) e_int (nomark _)) (e_lc (own := [("x", 19)]) nd (i_rg1 m.range (a_cons (e_var 7) a_nil)) ci_rg1 (blkOk_by (own := [("x", 19)]) (N := N_law) (sc := defScope s_law) (by decide +kernel)) (gin_nm 19) (fun _ _ _ _ _ => pg_name (i := 19) nd rfl (Or.inl rfl)) (fun _ _ _ _ _ => (x_one (x_cmp (o_eq hr.units) s_eq (e_op o_mod s_mod (e_op o_mul s_mul (e_var 3) (e_var 19)) (e_var 7)) (e_op o_mod s_mod e_int (e_var 7)) (nomark _)))) (fun _ _ _ _ _ => (e_var 19))) (e_lst a_nil)))
      (ss_one (s_if (x_or (x_no (x_tru (e_call c__law_alike hr (a_cons (e_call c_inverse hr (a_cons (e_var 3) (a_cons (e_var 7) a_nil))) (a_cons (e_if (x_tru (e_var 9)) (e_ix (e_var 9) e_int) e_non) a_nil))))) (x_or1 (x_no (x_tru (e_call c__law_alike hr (a_cons (e_call c_power hr (a_cons (e_var 3) (a_cons (e_var 8) (a_cons (e_var 7) a_nil)))) (a_cons (e_call c__law_power hr (a_cons (e_var 3) (a_cons (e_var 8) (a_cons (e_var 7) a_nil)))) a_nil))))))).pt (ss_one (s_ret e_bl)) ss_nil))))))))) ci_rg1)
      (ss_cons (s_par 10 11 rfl nd (a_cons (e_call c__law_take hr (a_cons (e_var 1) (a_cons e_int a_nil))) (a_cons (e_loc a_nil) a_nil)))
      (ss_cons (s_set 12 nd (e_call c__law_take hr (a_cons (e_var 1) (a_cons e_int a_nil))))
      (ss_cons (s_for (i_rg1 m.range (a_cons (e_call c__law_take hr (a_cons (e_var 1) (a_cons e_int a_nil))) a_nil)) (g_nm 2 nd) (ss_cons (s_set 7 nd (e_ix (e_lst (a_cons (e_op o_add s_add e_int (e_call c__law_take hr (a_cons (e_var 1) (a_cons e_int a_nil)))) (a_cons e_int (a_cons e_int (a_cons e_int a_nil))))) (e_call c__law_take hr (a_cons (e_var 1) (a_cons e_int a_nil)))))
      (ss_cons (s_set 13 nd (e_if (x_cmp op_gt s_gt (e_var 12) e_int (nomark _)) (e_op o_add s_add (e_var 10) (e_op o_mul s_mul (e_var 7) (e_op o_sub s_sub (e_call c__law_take hr (a_cons (e_var 1) (a_cons e_int a_nil))) e_int))) (e_op o_sub s_sub (e_call c__law_take hr (a_cons (e_var 1) (a_cons e_int a_nil))) e_int)))
      (ss_one (s_ex (e_bm PySem.F.plainAttrs_list PySem.F.slot_list_append PySem.F.type_list_append mt_append s_app (e_var 11) (a_cons (e_tup (a_cons (e_var 13) (a_cons (e_var 7) a_nil))) a_nil)))))) ci_rg1)
      (ss_cons (s_if (x_an (x_cmp (o_eq hr.units) s_eq (e_var 12) e_int (nomark _)) (x_an1 (x_tru (e_var 11)))).pt (ss_cons (s_asg (e_ix (e_var 11) (e_un un_neg s_neg e_int)) (g_tu rfl (gs_cons (g_nm 13 nd) (gs_cons (g_nm 7 nd) gs_nil))))
      (ss_one (s_asg (e_tup (a_cons (e_op o_add s_add (e_var 13) e_int) (a_cons (e_var 7) a_nil))) (g_sb (e_var 11) (e_un un_neg s_neg e_int))))) ss_nil)
      (ss_cons (s_set 11 nd (e_callTy call_tuple_of s_tuple m.tuple (a_cons (e_var 11) a_nil)))
      (ss_cons (s_set 14 nd (e_call c_joined_rests hr (a_cons (e_var 11) a_nil)))
      (ss_cons (s_set 9 nd (e_call c__law_joined hr (a_cons (e_var 11) a_nil)))
      (ss_cons (s_if (x_cmp o_is s_is (e_var 9) e_non (nomark _)) (ss_cons (s_set 15 nd (e_call c__law_apart hr (a_cons (e_var 11) a_nil)))
      (ss_one (s_if (x_no (x_tru (e_call c__law_alike hr (a_cons (e_var 14) (a_cons (e_tup (a_cons e_str (a_cons (e_ix (e_ix (e_var 15) e_int) e_int) (a_cons (e_ix (e_ix (e_var 15) e_int) e_int) a_nil)))) a_nil))))) (ss_one (s_ret e_bl)) ss_nil))) (ss_one (s_if (x_no (x_tru (e_call c__law_alike hr (a_cons (e_var 14) (a_cons (e_tup (a_cons e_str (a_cons (e_ix (e_var 9) e_int) (a_cons (e_ix (e_var 9) e_int) a_nil)))) a_nil))))) (ss_one (s_ret e_bl)) ss_nil)))
      (ss_cons (s_for (i_rg1 m.range (a_cons e_int a_nil)) (g_nm 2 nd) (ss_cons (s_set 16 nd (e_call c__law_bent hr (a_cons (e_var 1) (a_cons (e_var 14) (a_cons (e_var 2) a_nil)))))
      (ss_cons (s_if (x_cmp (o_eq hr.units) s_eq (e_var 2) e_int (nomark _)) (ss_one (s_set 16 nd (e_tup (a_cons e_str (a_cons (e_call c__law_take hr (a_cons (e_var 1) (a_cons e_int a_nil))) (a_cons (e_call c__law_take hr (a_cons (e_var 1) (a_cons e_int a_nil))) a_nil)))))) ss_nil)
      (ss_cons (s_set 6 nd (e_call c_judge_joined hr (a_cons (e_var 11) (a_cons (e_var 16) a_nil))))
      (ss_one (s_if (x_or (x_no (x_tru (e_isi .bool (e_var 6) m.isinstance m.bool))) (x_or1 (x_cmp (o_ne hr.units) s_ne (e_var 6) (e_call c__law_is_paper hr (a_cons (e_var 11) (a_cons (e_var 16) a_nil))) (nomark _)))).pt (ss_one (s_ret e_bl)) ss_nil))))) ci_rg1)
      (ss_cons (s_if (x_cmp op_gt s_gt (e_callB call_len s_len m.len (a_cons (e_var 11) a_nil)) e_int (nomark _)) (ss_cons (s_asg (e_sl (e_var 11) o_no (o_so e_int)) (g_tu rfl (gs_cons (g_tu rfl (gs_cons (g_nm 13 nd) (gs_cons (g_nm 7 nd) gs_nil))) (gs_cons (g_tu rfl (gs_cons (g_nm 17 nd) (gs_cons (g_nm 18 nd) gs_nil))) gs_nil))))
      (ss_one (s_ret (e_call c__law_alike hr (a_cons (e_call c_joined_two hr (a_cons (e_var 13) (a_cons (e_var 7) (a_cons (e_var 17) (a_cons (e_var 18) a_nil))))) (a_cons (e_call c__law_joined hr (a_cons (e_sl (e_var 11) o_no (o_so e_int)) a_nil)) a_nil)))))) ss_nil)
      (ss_one (s_ret e_bl))))))))))))))
theorem w_law {P : Program} {w : World} {K : Frg} {mg : Str → Option Value} {base : Heap} {j : Nat} (m : MG mg) {p__law_start : Fn} (c__law_start : Callee P w K mg base j "_law_start" 1 p__law_start) {p__law_integer : Fn} (c__law_integer : Callee P w K mg base j "_law_integer" 1 p__law_integer) {p__law_take : Fn} (c__law_take : Callee P w K mg base j "_law_take" 2 p__law_take) {p__law_gcd : Fn} (c__law_gcd : Callee P w K mg base j "_law_gcd" 2 p__law_gcd) {p_with_cofactors : Fn} (c_with_cofactors : Callee P w K mg base j "with_cofactors" 2 p_with_cofactors) {p__law_alike : Fn} (c__law_alike : Callee P w K mg base j "_law_alike" 2 p__law_alike) {p_common_divisor : Fn} (c_common_divisor : Callee P w K mg base j "common_divisor" 2 p_common_divisor) {p_inverse : Fn} (c_inverse : Callee P w K mg base j "inverse" 2 p_inverse) {p__law_power : Fn} (c__law_power : Callee P w K mg base j "_law_power" 3 p__law_power) {p_power : Fn} (c_power : Callee P w K mg base j "power" 3 p_power) {p_joined_rests : Fn} (c_joined_rests : Callee P w K mg base j "joined_rests" 1 p_joined_rests) {p__law_joined : Fn} (c__law_joined : Callee P w K mg base j "_law_joined" 1 p__law_joined) {p__law_apart : Fn} (c__law_apart : Callee P w K mg base j "_law_apart" 1 p__law_apart) {p__law_bent : Fn} (c__law_bent : Callee P w K mg base j "_law_bent" 3 p__law_bent) {p_judge_joined : Fn} (c_judge_joined : Callee P w K mg base j "judge_joined" 2 p_judge_joined) {p__law_is_paper : Fn} (c__law_is_paper : Callee P w K mg base j "_law_is_paper" 2 p__law_is_paper) {p_joined_two : Fn} (c_joined_two : Callee P w K mg base j "joined_two" 4 p_joined_two) {f : Addr} {fd : FuncData} (F : L2.Fun K "law" "law" s_law f fd) (hg : mg "law" = some (.ref f)) {ψ : Fn}
    (hψ : Den.Does N_law.length 1 (d_law p__law_start p__law_integer p__law_take p__law_gcd p_with_cofactors p__law_alike p_common_divisor p_inverse p__law_power p_power p_joined_rests p__law_joined p__law_apart p__law_bent p_judge_joined p__law_is_paper p_joined_two) ψ) : Callee P w K mg base (j + 1) "law" 1 ψ :=
  ⟨⟨f, fd, ["script"], fn_ok F sc_law (fun _ _ _ _ _ _ hr => b_law m c__law_start c__law_integer c__law_take c__law_gcd c_with_cofactors c__law_alike c_common_divisor c_inverse c__law_power c_power c_joined_rests c__law_joined c__law_apart c__law_bent c_judge_joined c__law_is_paper c_joined_two hr) hψ, hg, F.kp, F.binds fun _ _ _ _ _ _ us hl => match us, hl with | [_], _ => rfl⟩⟩
end K10

/-! K10b: what the defs of k10 reckon. -/
namespace K10
open PySem PySem.Spec PyProof.Rows L2 Fd Nm
theorem abs_i {i : Int} {μ : Sto} : f_abs [.int i] μ = some (.int (i.natAbs : Int), μ) := by
  show some (PV.int (if i < 0 then -i else i), μ) = _
  congr 3
  split <;> omega
/-! ### common divisors -/
theorem gcd_loop (μ : Sto) : ∀ (b a : Nat), sWh (tB1 (d2 f_ne (cVar 1) (cK (.int 0)))) (sPar 0 1 (aCons (cVar 1) (aCons (d2 f_mod (cVar 0) (cVar 1)) aNil))) [some (.int a), some (.int b)] μ = some (.nx [some (.int (Nat.gcd a b : Nat)), some (.int 0)] μ) := by
  intro b
  induction b using Nat.strongRecOn with
  | ind b ih =>
    intro a
    by_cases hb : b = 0
    · subst hb
      rw [Nat.gcd_zero_right]
      apply wh_done
      (repeat' first | exact ev_var rfl | exact ev_K | exact ev_aNil | apply ev_aCons | apply ev_d2 | apply ev_d1 | apply ev_dN | apply ev_dCall | apply ev_dTup | apply ev_dLst | apply ev_dLoc | apply ev_sl | exact ev_oNo | apply ev_oSo | apply ev_ch2b | apply ev_ch3b | apply ev_tB | apply ev_tTru | apply ev_tNo | apply ev_no | apply ev_dML | exact ev_tAll | apply ev_gTu | exact ev_gsN | apply ev_gsC | apply ev_gSb | apply ev_gNm | (simp only [List.length_cons, List.length_nil]; exact len_le (by decide)) | exact decide_eq_true (by omega) | exact decide_eq_false (by omega) | exact ne_t (by omega) | exact ne_f (by omega) | apply lt_ii | apply le_ii | apply gt_ii | apply ge_ii | apply eq_ii | apply ne_ii | apply eq_ss | apply mul_ii | exact okMul_small (by omega) (by omega) | exact mod_ii (by omega) | exact fdiv_ii (by omega) (by omega) | exact mod_ni (by omega) | exact fdiv_ni (by omega) (by omega) | exact pow_ii (by omega) (by omega) (by omega) | apply ix_tup | apply ix_lst | (simp only [List.set_cons_succ, List.set_cons_zero]; rfl) | exact rfl)
    · have e := ih (a % b) (Nat.mod_lt _ (by omega)) b
      rw [gcd_turn] at e
      refine wh_step (ρ' := [some (.int b), some (.int (a % b : Nat))]) (μ1 := μ) (μ' := μ) ?_ ?_ e
      · (repeat' first | exact ev_var rfl | exact ev_K | exact ev_aNil | apply ev_aCons | apply ev_d2 | apply ev_d1 | apply ev_dN | apply ev_dCall | apply ev_dTup | apply ev_dLst | apply ev_dLoc | apply ev_sl | exact ev_oNo | apply ev_oSo | apply ev_ch2b | apply ev_ch3b | apply ev_tB | apply ev_tTru | apply ev_tNo | apply ev_no | apply ev_dML | exact ev_tAll | apply ev_gTu | exact ev_gsN | apply ev_gsC | apply ev_gSb | apply ev_gNm | (simp only [List.length_cons, List.length_nil]; exact len_le (by decide)) | exact decide_eq_true (by omega) | exact decide_eq_false (by omega) | exact ne_t (by omega) | exact ne_f (by omega) | apply lt_ii | apply le_ii | apply gt_ii | apply ge_ii | apply eq_ii | apply ne_ii | apply eq_ss | apply mul_ii | exact okMul_small (by omega) (by omega) | exact mod_ii (by omega) | exact fdiv_ii (by omega) (by omega) | exact mod_ni (by omega) | exact fdiv_ni (by omega) (by omega) | exact pow_ii (by omega) (by omega) (by omega) | apply ix_tup | apply ix_lst | (simp only [List.set_cons_succ, List.set_cons_zero]; rfl) | exact rfl)
      · have hm : f_mod (.int a) (.int b) μ = some (.int ((a % b : Nat) : Int), μ) := by rw [mod_ii (by omega)]; rfl
        ((first | apply ev_set | apply ev_par | apply ev_par3 | apply ev_asg | apply ev_ex | apply ev_ret | exact ev_sNil | apply ev_aug) <;> (repeat' first | exact ev_var rfl | exact ev_K | exact hm | exact ev_aNil | apply ev_aCons | apply ev_d2 | apply ev_d1 | apply ev_dN | apply ev_dCall | apply ev_dTup | apply ev_dLst | apply ev_dLoc | apply ev_sl | exact ev_oNo | apply ev_oSo | apply ev_ch2b | apply ev_ch3b | apply ev_tB | apply ev_tTru | apply ev_tNo | apply ev_no | apply ev_dML | exact ev_tAll | apply ev_gTu | exact ev_gsN | apply ev_gsC | apply ev_gSb | apply ev_gNm | (simp only [List.length_cons, List.length_nil]; exact len_le (by decide)) | exact decide_eq_true (by omega) | exact decide_eq_false (by omega) | exact ne_t (by omega) | exact ne_f (by omega) | apply lt_ii | apply le_ii | apply gt_ii | apply ge_ii | apply eq_ii | apply ne_ii | apply eq_ss | apply mul_ii | exact okMul_small (by omega) (by omega) | exact mod_ii (by omega) | exact fdiv_ii (by omega) (by omega) | exact mod_ni (by omega) | exact fdiv_ni (by omega) (by omega) | exact pow_ii (by omega) (by omega) (by omega) | apply ix_tup | apply ix_lst | (simp only [List.set_cons_succ, List.set_cons_zero]; rfl) | exact rfl))
noncomputable def p_gcd : Fn := runF 2 d_common_divisor
theorem p_gcd_eq : runF 2 d__law_gcd = p_gcd := rfl
theorem gcd_ok (a b : Int) (μ : Sto) : p_gcd [.int a, .int b] μ = some (.int (Int.gcd a b : Int), μ) := by
  refine runF_rt (ρ := [some (.int a), some (.int b)]) rfl ?_
  (apply ev_seq; case' ha => ((first | apply ev_set | apply ev_par | apply ev_par3 | apply ev_asg | apply ev_ex | apply ev_ret | exact ev_sNil | apply ev_aug) <;> (repeat' first | exact ev_var rfl | exact ev_K | exact abs_i | exact ev_aNil | apply ev_aCons | apply ev_d2 | apply ev_d1 | apply ev_dN | apply ev_dCall | apply ev_dTup | apply ev_dLst | apply ev_dLoc | apply ev_sl | exact ev_oNo | apply ev_oSo | apply ev_ch2b | apply ev_ch3b | apply ev_tB | apply ev_tTru | apply ev_tNo | apply ev_no | apply ev_dML | exact ev_tAll | apply ev_gTu | exact ev_gsN | apply ev_gsC | apply ev_gSb | apply ev_gNm | (simp only [List.length_cons, List.length_nil]; exact len_le (by decide)) | exact decide_eq_true (by omega) | exact decide_eq_false (by omega) | exact ne_t (by omega) | exact ne_f (by omega) | apply lt_ii | apply le_ii | apply gt_ii | apply ge_ii | apply eq_ii | apply ne_ii | apply eq_ss | apply mul_ii | exact okMul_small (by omega) (by omega) | exact mod_ii (by omega) | exact fdiv_ii (by omega) (by omega) | exact mod_ni (by omega) | exact fdiv_ni (by omega) (by omega) | exact pow_ii (by omega) (by omega) (by omega) | apply ix_tup | apply ix_lst | (simp only [List.set_cons_succ, List.set_cons_zero]; rfl) | exact rfl)))
  apply ev_seq (gcd_loop μ b.natAbs a.natAbs)
  ((first | apply ev_set | apply ev_par | apply ev_par3 | apply ev_asg | apply ev_ex | apply ev_ret | exact ev_sNil | apply ev_aug) <;> (repeat' first | exact ev_var rfl | exact ev_K | exact ev_aNil | apply ev_aCons | apply ev_d2 | apply ev_d1 | apply ev_dN | apply ev_dCall | apply ev_dTup | apply ev_dLst | apply ev_dLoc | apply ev_sl | exact ev_oNo | apply ev_oSo | apply ev_ch2b | apply ev_ch3b | apply ev_tB | apply ev_tTru | apply ev_tNo | apply ev_no | apply ev_dML | exact ev_tAll | apply ev_gTu | exact ev_gsN | apply ev_gsC | apply ev_gSb | apply ev_gNm | (simp only [List.length_cons, List.length_nil]; exact len_le (by decide)) | exact decide_eq_true (by omega) | exact decide_eq_false (by omega) | exact ne_t (by omega) | exact ne_f (by omega) | apply lt_ii | apply le_ii | apply gt_ii | apply ge_ii | apply eq_ii | apply ne_ii | apply eq_ss | apply mul_ii | exact okMul_small (by omega) (by omega) | exact mod_ii (by omega) | exact fdiv_ii (by omega) (by omega) | exact mod_ni (by omega) | exact fdiv_ni (by omega) (by omega) | exact pow_ii (by omega) (by omega) (by omega) | apply ix_tup | apply ix_lst | (simp only [List.set_cons_succ, List.set_cons_zero]; rfl) | exact rfl))
/-! ### cofactors -/
noncomputable def p_wc : Fn := runF 7 d_with_cofactors
def wcBody : DenS := (sSeq (sAsg (d2 f_fdiv (cVar 2) (cVar 4)) (gNm 6))
  (sAsg (dTup (aCons (cVar 4) (aCons (cVar 5) (aCons (d2 f_sub (cVar 2) (d2 f_mul (cVar 6) (cVar 4))) (aCons (d2 f_sub (cVar 3) (d2 f_mul (cVar 6) (cVar 5))) aNil))))) (gTu 4 (gsCons (gNm 2) (gsCons (gNm 3) (gsCons (gNm 4) (gsCons (gNm 5) gsNil)))))))
structure WcI (a B : Int) (G : Nat) (g x r o X O : Int) : Prop where
  g0 : 0 < g
  gB : g ≤ B
  r0 : 0 ≤ r
  rg : r < g
  h1 : B ∣ a * x - g
  h2 : B ∣ a * o - r
  hG : Nat.gcd g.natAbs r.natAbs = G
  x1 : -X ≤ x
  x2 : x ≤ X
  o1 : -O ≤ o
  o2 : o ≤ O
  XB : X ≤ B
  O0 : 0 ≤ O
  X0 : 0 ≤ X
  sm : X * r + O * g ≤ B
theorem WcI.O_le {a B : Int} {G : Nat} {g x r o X O : Int} (I : WcI a B G g x r o X O) : O ≤ B := by
  have h := I.sm
  have h1 : O * 1 ≤ O * g := Int.mul_le_mul_of_nonneg_left (by have := I.g0; omega) I.O0
  have h2 : 0 ≤ X * r := Int.mul_nonneg I.X0 I.r0
  omega
theorem mul_small {i j : Int} {B : Int} (h0 : 0 ≤ i) (h : i ≤ B) (j1 : -B ≤ j) (j2 : j ≤ B) (hB : B < 2 ^ 95) : okMul i j = true := okMul_small (by omega) (by omega)
theorem WcI.step {a B : Int} {G : Nat} {g x r o X O : Int} (I : WcI a B G g x r o X O) (hr : r ≠ 0) : WcI a B G r o (g - g / r * r) (x - g / r * o) O (X + g / r * O) := by
  have r0 := I.r0
  have g0 := I.g0
  have rg := I.rg
  have gB := I.gB
  have hrp : 0 < r := by omega
  have e : g - g / r * r = g % r := by
    have := Int.emod_add_mul_ediv g r
    rw [Int.mul_comm r] at this
    omega
  have t0 : 0 ≤ g / r := Int.ediv_nonneg (by omega) (by omega)
  have hto1 : -(g / r * O) ≤ g / r * o := by rw [← Int.mul_neg]; exact Int.mul_le_mul_of_nonneg_left I.o1 t0
  have hto2 : g / r * o ≤ g / r * O := Int.mul_le_mul_of_nonneg_left I.o2 t0
  have htO : 0 ≤ g / r * O := Int.mul_nonneg t0 I.O0
  have x1 := I.x1; have x2 := I.x2; have X0 := I.X0
  refine ⟨hrp, by omega, ?_, ?_, I.h2, wc_turn I.h1 I.h2 _, ?_, I.o1, I.o2, by omega, by omega, I.O_le, by omega, I.O0, ?_⟩
  · rw [e]; exact Int.emod_nonneg _ (by omega)
  · rw [e]; exact Int.emod_lt_of_pos _ hrp
  · rw [e, ← I.hG, ← gcd_turn g.natAbs r.natAbs]
    obtain ⟨g', rfl⟩ := Int.eq_ofNat_of_zero_le (show 0 ≤ g by omega)
    obtain ⟨r', rfl⟩ := Int.eq_ofNat_of_zero_le r0
    rfl
  · have h := I.sm
    have q : O * (g - g / r * r) + (X + g / r * O) * r = X * r + O * g := by
      rw [Int.mul_sub, Int.add_mul, show O * (g / r * r) = g / r * O * r by ac_rfl]
      omega
    omega
theorem wc_loop (a b B : Int) (G : Nat) (hB : B < 2 ^ 95) (μ : Sto) : ∀ (n : Nat) (g x r o X O : Int) (t : Option PV), r.natAbs = n → WcI a B G g x r o X O →
    ∃ (x' o' : Int) (t' : Option PV), B ∣ a * x' - G ∧ -B ≤ x' ∧ x' ≤ B ∧ sWh (tB1 (d2 f_ne (cVar 4) (cK (.int 0)))) wcBody [some (.int a), some (.int b), some (.int g), some (.int x), some (.int r), some (.int o), t] μ =
      some (.nx [some (.int a), some (.int b), some (.int G), some (.int x'), some (.int 0), some (.int o'), t'] μ) := by
  intro n
  induction n using Nat.strongRecOn with
  | ind n ih =>
    intro g x r o X O t hn I
    have r0 := I.r0
    have g0 := I.g0
    have rg := I.rg
    have gB := I.gB
    have x1 := I.x1; have x2 := I.x2; have X0 := I.X0; have XB := I.XB
    have o1 := I.o1; have o2 := I.o2; have OB := I.O_le
    by_cases hr : r = 0
    · have hg : (G : Int) = g := by
        have := I.hG
        rw [hr, Int.natAbs_zero, Nat.gcd_zero_right] at this
        omega
      refine ⟨x, o, t, by rw [hg]; exact I.h1, by omega, by omega, ?_⟩
      rw [hg, hr]
      apply wh_done
      (repeat' first | exact ev_var rfl | exact ev_K | exact ev_aNil | apply ev_aCons | apply ev_d2 | apply ev_d1 | apply ev_dN | apply ev_dCall | apply ev_dTup | apply ev_dLst | apply ev_dLoc | apply ev_sl | exact ev_oNo | apply ev_oSo | apply ev_ch2b | apply ev_ch3b | apply ev_tB | apply ev_tTru | apply ev_tNo | apply ev_no | apply ev_dML | exact ev_tAll | apply ev_gTu | exact ev_gsN | apply ev_gsC | apply ev_gSb | apply ev_gNm | (simp only [List.length_cons, List.length_nil]; exact len_le (by decide)) | exact decide_eq_true (by omega) | exact decide_eq_false (by omega) | exact ne_t (by omega) | exact ne_f (by omega) | apply lt_ii | apply le_ii | apply gt_ii | apply ge_ii | apply eq_ii | apply ne_ii | apply eq_ss | apply mul_ii | exact okMul_small (by omega) (by omega) | exact mod_ii (by omega) | exact fdiv_ii (by omega) (by omega) | exact mod_ni (by omega) | exact fdiv_ni (by omega) (by omega) | exact pow_ii (by omega) (by omega) (by omega) | apply ix_tup | apply ix_lst | (simp only [List.set_cons_succ, List.set_cons_zero]; rfl) | exact rfl)
    · have I2 := I.step hr
      have hlt : (g - g / r * r).natAbs < n := by have := I2.r0; have := I2.rg; omega
      obtain ⟨x', o', t', k1, k2, k3, k4⟩ := ih _ hlt r o (g - g / r * r) (x - g / r * o) _ _ (some (.int (g / r))) rfl I2
      refine ⟨x', o', t', k1, k2, k3, ?_⟩
      have t0 : 0 ≤ g / r := Int.ediv_nonneg (by omega) (by omega)
      have tg : g / r ≤ g := Int.ediv_le_self _ (by omega)
      refine wh_step (μ1 := μ) (μ' := μ) ?_ ?_ k4
      · (repeat' first | exact ev_var rfl | exact ev_K | exact ev_aNil | apply ev_aCons | apply ev_d2 | apply ev_d1 | apply ev_dN | apply ev_dCall | apply ev_dTup | apply ev_dLst | apply ev_dLoc | apply ev_sl | exact ev_oNo | apply ev_oSo | apply ev_ch2b | apply ev_ch3b | apply ev_tB | apply ev_tTru | apply ev_tNo | apply ev_no | apply ev_dML | exact ev_tAll | apply ev_gTu | exact ev_gsN | apply ev_gsC | apply ev_gSb | apply ev_gNm | (simp only [List.length_cons, List.length_nil]; exact len_le (by decide)) | exact decide_eq_true (by omega) | exact decide_eq_false (by omega) | exact ne_t (by omega) | exact ne_f (by omega) | apply lt_ii | apply le_ii | apply gt_ii | apply ge_ii | apply eq_ii | apply ne_ii | apply eq_ss | apply mul_ii | exact okMul_small (by omega) (by omega) | exact mod_ii (by omega) | exact fdiv_ii (by omega) (by omega) | exact mod_ni (by omega) | exact fdiv_ni (by omega) (by omega) | exact pow_ii (by omega) (by omega) (by omega) | apply ix_tup | apply ix_lst | (simp only [List.set_cons_succ, List.set_cons_zero]; rfl) | exact rfl)
      · have m1 : f_mul (.int (g / r)) (.int r) μ = some (.int (g / r * r), μ) := mul_ii (mul_small t0 (by omega) (by omega) (by omega) hB)
        have m2 : f_mul (.int (g / r)) (.int o) μ = some (.int (g / r * o), μ) := mul_ii (mul_small t0 (by omega) (by omega) (by omega) hB)
        (apply ev_seq; case' ha => ((first | apply ev_set | apply ev_par | apply ev_par3 | apply ev_asg | apply ev_ex | apply ev_ret | exact ev_sNil | apply ev_aug) <;> (repeat' first | exact ev_var rfl | exact ev_K | exact ev_aNil | apply ev_aCons | apply ev_d2 | apply ev_d1 | apply ev_dN | apply ev_dCall | apply ev_dTup | apply ev_dLst | apply ev_dLoc | apply ev_sl | exact ev_oNo | apply ev_oSo | apply ev_ch2b | apply ev_ch3b | apply ev_tB | apply ev_tTru | apply ev_tNo | apply ev_no | apply ev_dML | exact ev_tAll | apply ev_gTu | exact ev_gsN | apply ev_gsC | apply ev_gSb | apply ev_gNm | (simp only [List.length_cons, List.length_nil]; exact len_le (by decide)) | exact decide_eq_true (by omega) | exact decide_eq_false (by omega) | exact ne_t (by omega) | exact ne_f (by omega) | apply lt_ii | apply le_ii | apply gt_ii | apply ge_ii | apply eq_ii | apply ne_ii | apply eq_ss | apply mul_ii | exact okMul_small (by omega) (by omega) | exact mod_ii (by omega) | exact fdiv_ii (by omega) (by omega) | exact mod_ni (by omega) | exact fdiv_ni (by omega) (by omega) | exact pow_ii (by omega) (by omega) (by omega) | apply ix_tup | apply ix_lst | (simp only [List.set_cons_succ, List.set_cons_zero]; rfl) | exact rfl)))
        ((first | apply ev_set | apply ev_par | apply ev_par3 | apply ev_asg | apply ev_ex | apply ev_ret | exact ev_sNil | apply ev_aug) <;> (repeat' first | exact ev_var rfl | exact ev_K | exact m1 | exact m2 | exact ev_aNil | apply ev_aCons | apply ev_d2 | apply ev_d1 | apply ev_dN | apply ev_dCall | apply ev_dTup | apply ev_dLst | apply ev_dLoc | apply ev_sl | exact ev_oNo | apply ev_oSo | apply ev_ch2b | apply ev_ch3b | apply ev_tB | apply ev_tTru | apply ev_tNo | apply ev_no | apply ev_dML | exact ev_tAll | apply ev_gTu | exact ev_gsN | apply ev_gsC | apply ev_gSb | apply ev_gNm | (simp only [List.length_cons, List.length_nil]; exact len_le (by decide)) | exact decide_eq_true (by omega) | exact decide_eq_false (by omega) | exact ne_t (by omega) | exact ne_f (by omega) | apply lt_ii | apply le_ii | apply gt_ii | apply ge_ii | apply eq_ii | apply ne_ii | apply eq_ss | apply mul_ii | exact okMul_small (by omega) (by omega) | exact mod_ii (by omega) | exact fdiv_ii (by omega) (by omega) | exact mod_ni (by omega) | exact fdiv_ni (by omega) (by omega) | exact pow_ii (by omega) (by omega) (by omega) | apply ix_tup | apply ix_lst | (simp only [List.set_cons_succ, List.set_cons_zero]; rfl) | exact rfl))
/-- a * x + b * y = g, x the least -/
theorem wc_ok {a b : Int} (hb : b ≠ 0) (ha : a.natAbs < 2 ^ 90) (hb2 : b.natAbs < 2 ^ 90) (μ : Sto) : ∃ x y : Int, a * x + b * y = (Int.gcd a b : Int) ∧ 0 ≤ x ∧ x < (b.natAbs : Int) / (Int.gcd a b : Int) ∧ p_wc [.int a, .int b] μ = some (.tup [.int (Int.gcd a b : Int), .int x, .int y], μ) := by
  have hB0 : (0 : Int) < b.natAbs := by omega
  have hB : (b.natAbs : Int) < 2 ^ 95 := by omega
  have hr0 : 0 ≤ a % (b.natAbs : Int) := Int.emod_nonneg _ (by omega)
  have hr1 : a % (b.natAbs : Int) < (b.natAbs : Int) := Int.emod_lt_of_pos _ hB0
  have hG : Nat.gcd (b.natAbs : Int).natAbs (a % (b.natAbs : Int)).natAbs = Int.gcd a b := by
    have e : (Int.gcd (a % b.natAbs) b.natAbs : Nat) = Int.gcd a b.natAbs := by
      apply Nat.dvd_antisymm
      · refine Int.dvd_gcd ?_ (Int.gcd_dvd_right _ _)
        have h1 := Int.gcd_dvd_left (a % b.natAbs) (b.natAbs : Int)
        have h2 := Int.gcd_dvd_right (a % b.natAbs) (b.natAbs : Int)
        have h3 := Int.emod_add_mul_ediv a (b.natAbs : Int)
        have h4 := Int.dvd_add h1 (Int.dvd_trans h2 (Int.dvd_mul_right (b.natAbs : Int) (a / (b.natAbs : Int))))
        rw [h3] at h4
        exact h4
      · refine Int.dvd_gcd ?_ (Int.gcd_dvd_right _ _)
        have h1 := Int.gcd_dvd_left a (b.natAbs : Int)
        have h2 := Int.gcd_dvd_right a (b.natAbs : Int)
        have h3 := Int.emod_add_mul_ediv a (b.natAbs : Int)
        have h4 := Int.dvd_sub h1 (Int.dvd_trans h2 (Int.dvd_mul_right (b.natAbs : Int) (a / (b.natAbs : Int))))
        rw [show a - (b.natAbs : Int) * (a / (b.natAbs : Int)) = a % (b.natAbs : Int) by omega] at h4
        exact h4
    rw [Nat.gcd_comm]
    exact e.trans rfl
  have I : WcI a b.natAbs (Int.gcd a b) b.natAbs 0 (a % b.natAbs) 1 0 1 := by
    refine ⟨hB0, Int.le_refl _, hr0, hr1, ?_, ?_, hG, by decide, by decide, by decide, by decide, by omega, by decide, by decide, by omega⟩
    · rw [Int.mul_zero, Int.zero_sub]; exact Int.dvd_neg.mpr (Int.dvd_refl _)
    · rw [Int.mul_one]; exact Int.dvd_self_sub_emod
  obtain ⟨x, o, t, k1, k2, k3, k4⟩ := wc_loop a b _ _ hB μ _ _ _ _ _ _ _ none rfl I
  have hg0 : 0 < (Int.gcd a b : Int) := by rw [Int.gcd_comm]; exact (by
    have : Int.gcd b a ≠ 0 := fun h => hb (Int.gcd_eq_zero_iff.mp h).1
    omega)
  have hgB : (Int.gcd a b : Int) ∣ (b.natAbs : Int) := Int.dvd_natAbs.mpr (Int.gcd_dvd_right _ _)
  have hga := Int.gcd_dvd_left a b
  have hgle : (Int.gcd a b : Int) ≤ b.natAbs := Int.le_of_dvd hB0 hgB
  have hq : 0 < (b.natAbs : Int) / (Int.gcd a b : Int) := Int.ediv_pos_of_pos_of_dvd hB0 (by omega) hgB
  have hq2 : (b.natAbs : Int) / (Int.gcd a b : Int) ≤ b.natAbs := Int.ediv_le_self _ (by omega)
  have x0 : 0 ≤ x % ((b.natAbs : Int) / (Int.gcd a b : Int)) := Int.emod_nonneg _ (by omega)
  have x1 : x % ((b.natAbs : Int) / (Int.gcd a b : Int)) < (b.natAbs : Int) / (Int.gcd a b : Int) := Int.emod_lt_of_pos _ hq
  have d := wc_math hg0 hga hgB k1
  have f1 : f_fdiv (.int b.natAbs) (.int (Int.gcd a b : Int)) μ = some (.int ((b.natAbs : Int) / (Int.gcd a b : Int)), μ) := fdiv_ii hg0 (by omega)
  have f2 : f_mod (.int x) (.int ((b.natAbs : Int) / (Int.gcd a b : Int))) μ = some (.int (x % ((b.natAbs : Int) / (Int.gcd a b : Int))), μ) := mod_ii hq
  generalize x % ((b.natAbs : Int) / (Int.gcd a b : Int)) = x' at x0 x1 d f2
  have hbd : b ∣ (Int.gcd a b : Int) - a * x' := by
    have := Int.dvd_neg.mpr (Int.natAbs_dvd.mp d)
    rw [show -(a * x' - (Int.gcd a b : Int)) = (Int.gcd a b : Int) - a * x' by omega] at this
    exact this
  have f3 : f_fdiv (.int ((Int.gcd a b : Int) - a * x')) (.int b) μ = some (.int (((Int.gcd a b : Int) - a * x').fdiv b), μ) := by
    by_cases hp : 0 < b
    · rw [fdiv_ii hp (by omega), Int.fdiv_eq_ediv_of_nonneg _ (by omega)]
    · exact fdiv_ni (by omega) (by omega)
  have f4 : f_mul (.int a) (.int x') μ = some (.int (a * x'), μ) := mul_ii (okMul_small (by omega) (by omega))
  refine ⟨x', ((Int.gcd a b : Int) - a * x').fdiv b, ?_, x0, x1, ?_⟩
  · have := Int.fdiv_mul_cancel hbd
    rw [Int.mul_comm b]
    omega
  · refine runF_rt (ρ := [some (.int a), some (.int b), none, none, none, none, none]) rfl ?_
    apply ev_seq
    case ha =>
      (apply ev_sIf_f; case' hc => (repeat' first | exact ev_var rfl | exact ev_K | exact ev_aNil | apply ev_aCons | apply ev_d2 | apply ev_d1 | apply ev_dN | apply ev_dCall | apply ev_dTup | apply ev_dLst | apply ev_dLoc | apply ev_sl | exact ev_oNo | apply ev_oSo | apply ev_ch2b | apply ev_ch3b | apply ev_tB | apply ev_tTru | apply ev_tNo | apply ev_no | apply ev_dML | exact ev_tAll | apply ev_gTu | exact ev_gsN | apply ev_gsC | apply ev_gSb | apply ev_gNm | (simp only [List.length_cons, List.length_nil]; exact len_le (by decide)) | exact decide_eq_true (by omega) | exact decide_eq_false (by omega) | exact ne_t (by omega) | exact ne_f (by omega) | apply lt_ii | apply le_ii | apply gt_ii | apply ge_ii | apply eq_ii | apply ne_ii | apply eq_ss | apply mul_ii | exact okMul_small (by omega) (by omega) | exact mod_ii (by omega) | exact fdiv_ii (by omega) (by omega) | exact mod_ni (by omega) | exact fdiv_ni (by omega) (by omega) | exact pow_ii (by omega) (by omega) (by omega) | apply ix_tup | apply ix_lst | (simp only [List.set_cons_succ, List.set_cons_zero]; rfl) | exact rfl))
      exact ev_sNil
    (apply ev_seq; case' ha => ((first | apply ev_set | apply ev_par | apply ev_par3 | apply ev_asg | apply ev_ex | apply ev_ret | exact ev_sNil | apply ev_aug) <;> (repeat' first | exact ev_var rfl | exact ev_K | exact abs_i | exact ev_aNil | apply ev_aCons | apply ev_d2 | apply ev_d1 | apply ev_dN | apply ev_dCall | apply ev_dTup | apply ev_dLst | apply ev_dLoc | apply ev_sl | exact ev_oNo | apply ev_oSo | apply ev_ch2b | apply ev_ch3b | apply ev_tB | apply ev_tTru | apply ev_tNo | apply ev_no | apply ev_dML | exact ev_tAll | apply ev_gTu | exact ev_gsN | apply ev_gsC | apply ev_gSb | apply ev_gNm | (simp only [List.length_cons, List.length_nil]; exact len_le (by decide)) | exact decide_eq_true (by omega) | exact decide_eq_false (by omega) | exact ne_t (by omega) | exact ne_f (by omega) | apply lt_ii | apply le_ii | apply gt_ii | apply ge_ii | apply eq_ii | apply ne_ii | apply eq_ss | apply mul_ii | exact okMul_small (by omega) (by omega) | exact mod_ii (by omega) | exact fdiv_ii (by omega) (by omega) | exact mod_ni (by omega) | exact fdiv_ni (by omega) (by omega) | exact pow_ii (by omega) (by omega) (by omega) | apply ix_tup | apply ix_lst | (simp only [List.set_cons_succ, List.set_cons_zero]; rfl) | exact rfl)))
    (apply ev_seq; case' ha => ((first | apply ev_set | apply ev_par | apply ev_par3 | apply ev_asg | apply ev_ex | apply ev_ret | exact ev_sNil | apply ev_aug) <;> (repeat' first | exact ev_var rfl | exact ev_K | exact abs_i | exact ev_aNil | apply ev_aCons | apply ev_d2 | apply ev_d1 | apply ev_dN | apply ev_dCall | apply ev_dTup | apply ev_dLst | apply ev_dLoc | apply ev_sl | exact ev_oNo | apply ev_oSo | apply ev_ch2b | apply ev_ch3b | apply ev_tB | apply ev_tTru | apply ev_tNo | apply ev_no | apply ev_dML | exact ev_tAll | apply ev_gTu | exact ev_gsN | apply ev_gsC | apply ev_gSb | apply ev_gNm | (simp only [List.length_cons, List.length_nil]; exact len_le (by decide)) | exact decide_eq_true (by omega) | exact decide_eq_false (by omega) | exact ne_t (by omega) | exact ne_f (by omega) | apply lt_ii | apply le_ii | apply gt_ii | apply ge_ii | apply eq_ii | apply ne_ii | apply eq_ss | apply mul_ii | exact okMul_small (by omega) (by omega) | exact mod_ii (by omega) | exact fdiv_ii (by omega) (by omega) | exact mod_ni (by omega) | exact fdiv_ni (by omega) (by omega) | exact pow_ii (by omega) (by omega) (by omega) | apply ix_tup | apply ix_lst | (simp only [List.set_cons_succ, List.set_cons_zero]; rfl) | exact rfl)))
    apply ev_seq k4
    (apply ev_seq; case' ha => ((first | apply ev_set | apply ev_par | apply ev_par3 | apply ev_asg | apply ev_ex | apply ev_ret | exact ev_sNil | apply ev_aug) <;> (repeat' first | exact ev_var rfl | exact ev_K | exact abs_i | exact f1 | exact f2 | exact ev_aNil | apply ev_aCons | apply ev_d2 | apply ev_d1 | apply ev_dN | apply ev_dCall | apply ev_dTup | apply ev_dLst | apply ev_dLoc | apply ev_sl | exact ev_oNo | apply ev_oSo | apply ev_ch2b | apply ev_ch3b | apply ev_tB | apply ev_tTru | apply ev_tNo | apply ev_no | apply ev_dML | exact ev_tAll | apply ev_gTu | exact ev_gsN | apply ev_gsC | apply ev_gSb | apply ev_gNm | (simp only [List.length_cons, List.length_nil]; exact len_le (by decide)) | exact decide_eq_true (by omega) | exact decide_eq_false (by omega) | exact ne_t (by omega) | exact ne_f (by omega) | apply lt_ii | apply le_ii | apply gt_ii | apply ge_ii | apply eq_ii | apply ne_ii | apply eq_ss | apply mul_ii | exact okMul_small (by omega) (by omega) | exact mod_ii (by omega) | exact fdiv_ii (by omega) (by omega) | exact mod_ni (by omega) | exact fdiv_ni (by omega) (by omega) | exact pow_ii (by omega) (by omega) (by omega) | apply ix_tup | apply ix_lst | (simp only [List.set_cons_succ, List.set_cons_zero]; rfl) | exact rfl)))
    ((first | apply ev_set | apply ev_par | apply ev_par3 | apply ev_asg | apply ev_ex | apply ev_ret | exact ev_sNil | apply ev_aug) <;> (repeat' first | exact ev_var rfl | exact ev_K | exact f4 | exact f3 | exact ev_aNil | apply ev_aCons | apply ev_d2 | apply ev_d1 | apply ev_dN | apply ev_dCall | apply ev_dTup | apply ev_dLst | apply ev_dLoc | apply ev_sl | exact ev_oNo | apply ev_oSo | apply ev_ch2b | apply ev_ch3b | apply ev_tB | apply ev_tTru | apply ev_tNo | apply ev_no | apply ev_dML | exact ev_tAll | apply ev_gTu | exact ev_gsN | apply ev_gsC | apply ev_gSb | apply ev_gNm | (simp only [List.length_cons, List.length_nil]; exact len_le (by decide)) | exact decide_eq_true (by omega) | exact decide_eq_false (by omega) | exact ne_t (by omega) | exact ne_f (by omega) | apply lt_ii | apply le_ii | apply gt_ii | apply ge_ii | apply eq_ii | apply ne_ii | apply eq_ss | apply mul_ii | exact okMul_small (by omega) (by omega) | exact mod_ii (by omega) | exact fdiv_ii (by omega) (by omega) | exact mod_ni (by omega) | exact fdiv_ni (by omega) (by omega) | exact pow_ii (by omega) (by omega) (by omega) | apply ix_tup | apply ix_lst | (simp only [List.set_cons_succ, List.set_cons_zero]; rfl) | exact rfl))
theorem wc_zero (a : Int) (μ : Sto) : p_wc [.int a, .int 0] μ = some (.tup [.int (Int.gcd a 0 : Int), .int (b2 (decide (0 < a)) - b2 (decide (a < 0))), .int 0], μ) := by
  refine runF_rt (ρ := [some (.int a), some (.int 0), none, none, none, none, none]) rfl ?_
  apply ev_seq_rt
  (apply ev_sIf_t; case' hc => (repeat' first | exact ev_var rfl | exact ev_K | exact ev_aNil | apply ev_aCons | apply ev_d2 | apply ev_d1 | apply ev_dN | apply ev_dCall | apply ev_dTup | apply ev_dLst | apply ev_dLoc | apply ev_sl | exact ev_oNo | apply ev_oSo | apply ev_ch2b | apply ev_ch3b | apply ev_tB | apply ev_tTru | apply ev_tNo | apply ev_no | apply ev_dML | exact ev_tAll | apply ev_gTu | exact ev_gsN | apply ev_gsC | apply ev_gSb | apply ev_gNm | (simp only [List.length_cons, List.length_nil]; exact len_le (by decide)) | exact decide_eq_true (by omega) | exact decide_eq_false (by omega) | exact ne_t (by omega) | exact ne_f (by omega) | apply lt_ii | apply le_ii | apply gt_ii | apply ge_ii | apply eq_ii | apply ne_ii | apply eq_ss | apply mul_ii | exact okMul_small (by omega) (by omega) | exact mod_ii (by omega) | exact fdiv_ii (by omega) (by omega) | exact mod_ni (by omega) | exact fdiv_ni (by omega) (by omega) | exact pow_ii (by omega) (by omega) (by omega) | apply ix_tup | apply ix_lst | (simp only [List.set_cons_succ, List.set_cons_zero]; rfl) | exact rfl))
  have : (Int.gcd a 0 : Int) = a.natAbs := by rw [Int.gcd_zero_right]
  rw [this]
  have h1 : f_gt (.int a) (.int 0) μ = some (.bl (decide (0 < a)), μ) := rfl
  have h2 : f_lt (.int a) (.int 0) μ = some (.bl (decide (a < 0)), μ) := rfl
  ((first | apply ev_set | apply ev_par | apply ev_par3 | apply ev_asg | apply ev_ex | apply ev_ret | exact ev_sNil | apply ev_aug) <;> (repeat' first | exact ev_var rfl | exact ev_K | exact abs_i | exact h1 | exact h2 | exact ev_aNil | apply ev_aCons | apply ev_d2 | apply ev_d1 | apply ev_dN | apply ev_dCall | apply ev_dTup | apply ev_dLst | apply ev_dLoc | apply ev_sl | exact ev_oNo | apply ev_oSo | apply ev_ch2b | apply ev_ch3b | apply ev_tB | apply ev_tTru | apply ev_tNo | apply ev_no | apply ev_dML | exact ev_tAll | apply ev_gTu | exact ev_gsN | apply ev_gsC | apply ev_gSb | apply ev_gNm | (simp only [List.length_cons, List.length_nil]; exact len_le (by decide)) | exact decide_eq_true (by omega) | exact decide_eq_false (by omega) | exact ne_t (by omega) | exact ne_f (by omega) | apply lt_ii | apply le_ii | apply gt_ii | apply ge_ii | apply eq_ii | apply ne_ii | apply eq_ss | apply mul_ii | exact okMul_small (by omega) (by omega) | exact mod_ii (by omega) | exact fdiv_ii (by omega) (by omega) | exact mod_ni (by omega) | exact fdiv_ni (by omega) (by omega) | exact pow_ii (by omega) (by omega) (by omega) | apply ix_tup | apply ix_lst | (simp only [List.set_cons_succ, List.set_cons_zero]; rfl) | exact rfl))
/-! ### inverses -/
noncomputable def p_inv : Fn := runF 5 (d_inverse p_wc)
theorem inv_ok {a n : Int} (hn : 0 < n) (ha : a.natAbs < 2 ^ 90) (hn2 : n.natAbs < 2 ^ 90) (μ : Sto) :
    (Int.gcd a n = 1 → ∃ x y : Int, 0 ≤ x ∧ x < n ∧ a * x + n * y = 1 ∧ p_inv [.int a, .int n] μ = some (.int x, μ)) ∧ (Int.gcd a n ≠ 1 → p_inv [.int a, .int n] μ = some (.non, μ)) := by
  obtain ⟨x, y, e, x0, x1, h⟩ := wc_ok (b := n) (by omega) ha hn2 μ
  constructor
  · intro hg
    rw [hg] at e x1
    have x1 : x < n := by
      have : (n.natAbs : Int) / ((1 : Nat) : Int) = n := by rw [show ((1 : Nat) : Int) = 1 from rfl, Int.ediv_one]; omega
      omega
    refine ⟨x, y, x0, x1, e, ?_⟩
    have hx : f_mod (.int x) (.int n) μ = some (.int x, μ) := by rw [mod_ii hn, Int.emod_eq_of_lt x0 x1]
    refine runF_rt (ρ := [some (.int a), some (.int n), none, none, none]) rfl ?_
    (apply ev_seq; case' ha => ((first | apply ev_set | apply ev_par | apply ev_par3 | apply ev_asg | apply ev_ex | apply ev_ret | exact ev_sNil | apply ev_aug) <;> (repeat' first | exact ev_var rfl | exact ev_K | exact h | exact ev_aNil | apply ev_aCons | apply ev_d2 | apply ev_d1 | apply ev_dN | apply ev_dCall | apply ev_dTup | apply ev_dLst | apply ev_dLoc | apply ev_sl | exact ev_oNo | apply ev_oSo | apply ev_ch2b | apply ev_ch3b | apply ev_tB | apply ev_tTru | apply ev_tNo | apply ev_no | apply ev_dML | exact ev_tAll | apply ev_gTu | exact ev_gsN | apply ev_gsC | apply ev_gSb | apply ev_gNm | (simp only [List.length_cons, List.length_nil]; exact len_le (by decide)) | exact decide_eq_true (by omega) | exact decide_eq_false (by omega) | exact ne_t (by omega) | exact ne_f (by omega) | apply lt_ii | apply le_ii | apply gt_ii | apply ge_ii | apply eq_ii | apply ne_ii | apply eq_ss | apply mul_ii | exact okMul_small (by omega) (by omega) | exact mod_ii (by omega) | exact fdiv_ii (by omega) (by omega) | exact mod_ni (by omega) | exact fdiv_ni (by omega) (by omega) | exact pow_ii (by omega) (by omega) (by omega) | apply ix_tup | apply ix_lst | (simp only [List.set_cons_succ, List.set_cons_zero]; rfl) | exact rfl)))
    apply ev_ret
    apply ev_if_t
    case hc => (repeat' first | exact ev_var rfl | exact ev_K | exact decide_eq_true (by rw [hg]; rfl) | exact ev_aNil | apply ev_aCons | apply ev_d2 | apply ev_d1 | apply ev_dN | apply ev_dCall | apply ev_dTup | apply ev_dLst | apply ev_dLoc | apply ev_sl | exact ev_oNo | apply ev_oSo | apply ev_ch2b | apply ev_ch3b | apply ev_tB | apply ev_tTru | apply ev_tNo | apply ev_no | apply ev_dML | exact ev_tAll | apply ev_gTu | exact ev_gsN | apply ev_gsC | apply ev_gSb | apply ev_gNm | (simp only [List.length_cons, List.length_nil]; exact len_le (by decide)) | exact decide_eq_true (by omega) | exact decide_eq_false (by omega) | exact ne_t (by omega) | exact ne_f (by omega) | apply lt_ii | apply le_ii | apply gt_ii | apply ge_ii | apply eq_ii | apply ne_ii | apply eq_ss | apply mul_ii | exact okMul_small (by omega) (by omega) | exact mod_ii (by omega) | exact fdiv_ii (by omega) (by omega) | exact mod_ni (by omega) | exact fdiv_ni (by omega) (by omega) | exact pow_ii (by omega) (by omega) (by omega) | apply ix_tup | apply ix_lst | (simp only [List.set_cons_succ, List.set_cons_zero]; rfl) | exact rfl)
    (repeat' first | exact ev_var rfl | exact ev_K | exact hx | exact ev_aNil | apply ev_aCons | apply ev_d2 | apply ev_d1 | apply ev_dN | apply ev_dCall | apply ev_dTup | apply ev_dLst | apply ev_dLoc | apply ev_sl | exact ev_oNo | apply ev_oSo | apply ev_ch2b | apply ev_ch3b | apply ev_tB | apply ev_tTru | apply ev_tNo | apply ev_no | apply ev_dML | exact ev_tAll | apply ev_gTu | exact ev_gsN | apply ev_gsC | apply ev_gSb | apply ev_gNm | (simp only [List.length_cons, List.length_nil]; exact len_le (by decide)) | exact decide_eq_true (by omega) | exact decide_eq_false (by omega) | exact ne_t (by omega) | exact ne_f (by omega) | apply lt_ii | apply le_ii | apply gt_ii | apply ge_ii | apply eq_ii | apply ne_ii | apply eq_ss | apply mul_ii | exact okMul_small (by omega) (by omega) | exact mod_ii (by omega) | exact fdiv_ii (by omega) (by omega) | exact mod_ni (by omega) | exact fdiv_ni (by omega) (by omega) | exact pow_ii (by omega) (by omega) (by omega) | apply ix_tup | apply ix_lst | (simp only [List.set_cons_succ, List.set_cons_zero]; rfl) | exact rfl)
  · intro hg
    refine runF_rt (ρ := [some (.int a), some (.int n), none, none, none]) rfl ?_
    (apply ev_seq; case' ha => ((first | apply ev_set | apply ev_par | apply ev_par3 | apply ev_asg | apply ev_ex | apply ev_ret | exact ev_sNil | apply ev_aug) <;> (repeat' first | exact ev_var rfl | exact ev_K | exact h | exact ev_aNil | apply ev_aCons | apply ev_d2 | apply ev_d1 | apply ev_dN | apply ev_dCall | apply ev_dTup | apply ev_dLst | apply ev_dLoc | apply ev_sl | exact ev_oNo | apply ev_oSo | apply ev_ch2b | apply ev_ch3b | apply ev_tB | apply ev_tTru | apply ev_tNo | apply ev_no | apply ev_dML | exact ev_tAll | apply ev_gTu | exact ev_gsN | apply ev_gsC | apply ev_gSb | apply ev_gNm | (simp only [List.length_cons, List.length_nil]; exact len_le (by decide)) | exact decide_eq_true (by omega) | exact decide_eq_false (by omega) | exact ne_t (by omega) | exact ne_f (by omega) | apply lt_ii | apply le_ii | apply gt_ii | apply ge_ii | apply eq_ii | apply ne_ii | apply eq_ss | apply mul_ii | exact okMul_small (by omega) (by omega) | exact mod_ii (by omega) | exact fdiv_ii (by omega) (by omega) | exact mod_ni (by omega) | exact fdiv_ni (by omega) (by omega) | exact pow_ii (by omega) (by omega) (by omega) | apply ix_tup | apply ix_lst | (simp only [List.set_cons_succ, List.set_cons_zero]; rfl) | exact rfl)))
    apply ev_ret
    apply ev_if_f
    case hc => (repeat' first | exact ev_var rfl | exact ev_K | exact decide_eq_false (by omega) | exact ev_aNil | apply ev_aCons | apply ev_d2 | apply ev_d1 | apply ev_dN | apply ev_dCall | apply ev_dTup | apply ev_dLst | apply ev_dLoc | apply ev_sl | exact ev_oNo | apply ev_oSo | apply ev_ch2b | apply ev_ch3b | apply ev_tB | apply ev_tTru | apply ev_tNo | apply ev_no | apply ev_dML | exact ev_tAll | apply ev_gTu | exact ev_gsN | apply ev_gsC | apply ev_gSb | apply ev_gNm | (simp only [List.length_cons, List.length_nil]; exact len_le (by decide)) | exact decide_eq_true (by omega) | exact decide_eq_false (by omega) | exact ne_t (by omega) | exact ne_f (by omega) | apply lt_ii | apply le_ii | apply gt_ii | apply ge_ii | apply eq_ii | apply ne_ii | apply eq_ss | apply mul_ii | exact okMul_small (by omega) (by omega) | exact mod_ii (by omega) | exact fdiv_ii (by omega) (by omega) | exact mod_ni (by omega) | exact fdiv_ni (by omega) (by omega) | exact pow_ii (by omega) (by omega) (by omega) | apply ix_tup | apply ix_lst | (simp only [List.set_cons_succ, List.set_cons_zero]; rfl) | exact rfl)
    (repeat' first | exact ev_var rfl | exact ev_K | exact ev_aNil | apply ev_aCons | apply ev_d2 | apply ev_d1 | apply ev_dN | apply ev_dCall | apply ev_dTup | apply ev_dLst | apply ev_dLoc | apply ev_sl | exact ev_oNo | apply ev_oSo | apply ev_ch2b | apply ev_ch3b | apply ev_tB | apply ev_tTru | apply ev_tNo | apply ev_no | apply ev_dML | exact ev_tAll | apply ev_gTu | exact ev_gsN | apply ev_gsC | apply ev_gSb | apply ev_gNm | (simp only [List.length_cons, List.length_nil]; exact len_le (by decide)) | exact decide_eq_true (by omega) | exact decide_eq_false (by omega) | exact ne_t (by omega) | exact ne_f (by omega) | apply lt_ii | apply le_ii | apply gt_ii | apply ge_ii | apply eq_ii | apply ne_ii | apply eq_ss | apply mul_ii | exact okMul_small (by omega) (by omega) | exact mod_ii (by omega) | exact fdiv_ii (by omega) (by omega) | exact mod_ni (by omega) | exact fdiv_ni (by omega) (by omega) | exact pow_ii (by omega) (by omega) (by omega) | apply ix_tup | apply ix_lst | (simp only [List.set_cons_succ, List.set_cons_zero]; rfl) | exact rfl)
/-! ### powers -/
noncomputable def p_pow : Fn := runF 5 d_power
noncomputable def p_lpow : Fn := runF 5 d__law_power
def pwA : DenS := (sSeq (sIf (tB1 (d2 f_eq (d2 f_mod (cVar 1) (cK (.int 2))) (cK (.int 1)))) (sAsg (d2 f_mod (d2 f_mul (cVar 3) (cVar 4)) (cVar 2)) (gNm 3)) sNil)
  (sSeq (sAsg (d2 f_mod (d2 f_mul (cVar 4) (cVar 4)) (cVar 2)) (gNm 4))
  (sAsg (d2 f_fdiv (cVar 1) (cK (.int 2))) (gNm 1))))
def pwB : DenS := (sSeq (sIf (tB1 (d2 f_eq (d2 f_mod (cVar 1) (cK (.int 2))) (cK (.int 1)))) (sAsg (d2 f_mod (d2 f_mul (cVar 3) (cVar 4)) (cVar 2)) (gNm 3)) sNil)
  (sPar 4 1 (aCons (d2 f_mod (d2 f_mul (cVar 4) (cVar 4)) (cVar 2)) (aCons (d2 f_fdiv (cVar 1) (cK (.int 2))) aNil))))
theorem pow_loop {a n : Int} (hn : 0 < n) (hn2 : n < 2 ^ 90) (μ : Sto) : ∀ (c : Nat) (k f b : Int), k.toNat = c → 0 ≤ k → 0 ≤ f → f < n → 0 ≤ b → b < n → ∃ f' b' : Int,
    sWh (tB1 (d2 f_gt (cVar 1) (cK (.int 0)))) pwA [some (.int a), some (.int k), some (.int n), some (.int f), some (.int b)] μ = some (.nx [some (.int a), some (.int 0), some (.int n), some (.int f'), some (.int b')] μ) ∧
    sWh (tB1 (d2 f_gt (cVar 1) (cK (.int 0)))) pwB [some (.int a), some (.int k), some (.int n), some (.int f), some (.int b)] μ = some (.nx [some (.int a), some (.int 0), some (.int n), some (.int f'), some (.int b')] μ) := by
  intro c
  induction c using Nat.strongRecOn with
  | ind c ih =>
    intro k f b hk k0 f0 f1 b0 b1
    by_cases hz : k = 0
    · subst hz
      refine ⟨f, b, ?_, ?_⟩ <;> (apply wh_done; (repeat' first | exact ev_var rfl | exact ev_K | exact ev_aNil | apply ev_aCons | apply ev_d2 | apply ev_d1 | apply ev_dN | apply ev_dCall | apply ev_dTup | apply ev_dLst | apply ev_dLoc | apply ev_sl | exact ev_oNo | apply ev_oSo | apply ev_ch2b | apply ev_ch3b | apply ev_tB | apply ev_tTru | apply ev_tNo | apply ev_no | apply ev_dML | exact ev_tAll | apply ev_gTu | exact ev_gsN | apply ev_gsC | apply ev_gSb | apply ev_gNm | (simp only [List.length_cons, List.length_nil]; exact len_le (by decide)) | exact decide_eq_true (by omega) | exact decide_eq_false (by omega) | exact ne_t (by omega) | exact ne_f (by omega) | apply lt_ii | apply le_ii | apply gt_ii | apply ge_ii | apply eq_ii | apply ne_ii | apply eq_ss | apply mul_ii | exact okMul_small (by omega) (by omega) | exact mod_ii (by omega) | exact fdiv_ii (by omega) (by omega) | exact mod_ni (by omega) | exact fdiv_ni (by omega) (by omega) | exact pow_ii (by omega) (by omega) (by omega) | apply ix_tup | apply ix_lst | (simp only [List.set_cons_succ, List.set_cons_zero]; rfl) | exact rfl))
    · have bb : f_mul (.int b) (.int b) μ = some (.int (b * b), μ) := mul_ii (okMul_small (by omega) (by omega))
      have fb : f_mul (.int f) (.int b) μ = some (.int (f * b), μ) := mul_ii (okMul_small (by omega) (by omega))
      have m1 : f_mod (.int (b * b)) (.int n) μ = some (.int (b * b % n), μ) := mod_ii hn
      have m2 : f_mod (.int (f * b)) (.int n) μ = some (.int (f * b % n), μ) := mod_ii hn
      have n0 : 0 ≤ b * b % n := Int.emod_nonneg _ (by omega)
      have n1 : b * b % n < n := Int.emod_lt_of_pos _ hn
      have p0 : 0 ≤ f * b % n := Int.emod_nonneg _ (by omega)
      have p1 : f * b % n < n := Int.emod_lt_of_pos _ hn
      by_cases hodd : k % 2 = 1
      · obtain ⟨f', b', e1, e2⟩ := ih (k / 2).toNat (by omega) (k / 2) (f * b % n) (b * b % n) rfl (by omega) p0 p1 n0 n1
        have test : sIf (tB1 (d2 f_eq (d2 f_mod (cVar 1) (cK (.int 2))) (cK (.int 1)))) (sAsg (d2 f_mod (d2 f_mul (cVar 3) (cVar 4)) (cVar 2)) (gNm 3)) sNil [some (.int a), some (.int k), some (.int n), some (.int f), some (.int b)] μ = some (.nx [some (.int a), some (.int k), some (.int n), some (.int (f * b % n)), some (.int b)] μ) := by
          (apply ev_sIf_t; case' hc => (repeat' first | exact ev_var rfl | exact ev_K | exact ev_aNil | apply ev_aCons | apply ev_d2 | apply ev_d1 | apply ev_dN | apply ev_dCall | apply ev_dTup | apply ev_dLst | apply ev_dLoc | apply ev_sl | exact ev_oNo | apply ev_oSo | apply ev_ch2b | apply ev_ch3b | apply ev_tB | apply ev_tTru | apply ev_tNo | apply ev_no | apply ev_dML | exact ev_tAll | apply ev_gTu | exact ev_gsN | apply ev_gsC | apply ev_gSb | apply ev_gNm | (simp only [List.length_cons, List.length_nil]; exact len_le (by decide)) | exact decide_eq_true (by omega) | exact decide_eq_false (by omega) | exact ne_t (by omega) | exact ne_f (by omega) | apply lt_ii | apply le_ii | apply gt_ii | apply ge_ii | apply eq_ii | apply ne_ii | apply eq_ss | apply mul_ii | exact okMul_small (by omega) (by omega) | exact mod_ii (by omega) | exact fdiv_ii (by omega) (by omega) | exact mod_ni (by omega) | exact fdiv_ni (by omega) (by omega) | exact pow_ii (by omega) (by omega) (by omega) | apply ix_tup | apply ix_lst | (simp only [List.set_cons_succ, List.set_cons_zero]; rfl) | exact rfl))
          ((first | apply ev_set | apply ev_par | apply ev_par3 | apply ev_asg | apply ev_ex | apply ev_ret | exact ev_sNil | apply ev_aug) <;> (repeat' first | exact ev_var rfl | exact ev_K | exact fb | exact m2 | exact ev_aNil | apply ev_aCons | apply ev_d2 | apply ev_d1 | apply ev_dN | apply ev_dCall | apply ev_dTup | apply ev_dLst | apply ev_dLoc | apply ev_sl | exact ev_oNo | apply ev_oSo | apply ev_ch2b | apply ev_ch3b | apply ev_tB | apply ev_tTru | apply ev_tNo | apply ev_no | apply ev_dML | exact ev_tAll | apply ev_gTu | exact ev_gsN | apply ev_gsC | apply ev_gSb | apply ev_gNm | (simp only [List.length_cons, List.length_nil]; exact len_le (by decide)) | exact decide_eq_true (by omega) | exact decide_eq_false (by omega) | exact ne_t (by omega) | exact ne_f (by omega) | apply lt_ii | apply le_ii | apply gt_ii | apply ge_ii | apply eq_ii | apply ne_ii | apply eq_ss | apply mul_ii | exact okMul_small (by omega) (by omega) | exact mod_ii (by omega) | exact fdiv_ii (by omega) (by omega) | exact mod_ni (by omega) | exact fdiv_ni (by omega) (by omega) | exact pow_ii (by omega) (by omega) (by omega) | apply ix_tup | apply ix_lst | (simp only [List.set_cons_succ, List.set_cons_zero]; rfl) | exact rfl))
        refine ⟨f', b', wh_step (μ1 := μ) (μ' := μ) ?_ ?_ e1, wh_step (μ1 := μ) (μ' := μ) ?_ ?_ e2⟩
        · (repeat' first | exact ev_var rfl | exact ev_K | exact ev_aNil | apply ev_aCons | apply ev_d2 | apply ev_d1 | apply ev_dN | apply ev_dCall | apply ev_dTup | apply ev_dLst | apply ev_dLoc | apply ev_sl | exact ev_oNo | apply ev_oSo | apply ev_ch2b | apply ev_ch3b | apply ev_tB | apply ev_tTru | apply ev_tNo | apply ev_no | apply ev_dML | exact ev_tAll | apply ev_gTu | exact ev_gsN | apply ev_gsC | apply ev_gSb | apply ev_gNm | (simp only [List.length_cons, List.length_nil]; exact len_le (by decide)) | exact decide_eq_true (by omega) | exact decide_eq_false (by omega) | exact ne_t (by omega) | exact ne_f (by omega) | apply lt_ii | apply le_ii | apply gt_ii | apply ge_ii | apply eq_ii | apply ne_ii | apply eq_ss | apply mul_ii | exact okMul_small (by omega) (by omega) | exact mod_ii (by omega) | exact fdiv_ii (by omega) (by omega) | exact mod_ni (by omega) | exact fdiv_ni (by omega) (by omega) | exact pow_ii (by omega) (by omega) (by omega) | apply ix_tup | apply ix_lst | (simp only [List.set_cons_succ, List.set_cons_zero]; rfl) | exact rfl)
        · apply ev_seq test
          (apply ev_seq; case' ha => ((first | apply ev_set | apply ev_par | apply ev_par3 | apply ev_asg | apply ev_ex | apply ev_ret | exact ev_sNil | apply ev_aug) <;> (repeat' first | exact ev_var rfl | exact ev_K | exact bb | exact m1 | exact ev_aNil | apply ev_aCons | apply ev_d2 | apply ev_d1 | apply ev_dN | apply ev_dCall | apply ev_dTup | apply ev_dLst | apply ev_dLoc | apply ev_sl | exact ev_oNo | apply ev_oSo | apply ev_ch2b | apply ev_ch3b | apply ev_tB | apply ev_tTru | apply ev_tNo | apply ev_no | apply ev_dML | exact ev_tAll | apply ev_gTu | exact ev_gsN | apply ev_gsC | apply ev_gSb | apply ev_gNm | (simp only [List.length_cons, List.length_nil]; exact len_le (by decide)) | exact decide_eq_true (by omega) | exact decide_eq_false (by omega) | exact ne_t (by omega) | exact ne_f (by omega) | apply lt_ii | apply le_ii | apply gt_ii | apply ge_ii | apply eq_ii | apply ne_ii | apply eq_ss | apply mul_ii | exact okMul_small (by omega) (by omega) | exact mod_ii (by omega) | exact fdiv_ii (by omega) (by omega) | exact mod_ni (by omega) | exact fdiv_ni (by omega) (by omega) | exact pow_ii (by omega) (by omega) (by omega) | apply ix_tup | apply ix_lst | (simp only [List.set_cons_succ, List.set_cons_zero]; rfl) | exact rfl)))
          ((first | apply ev_set | apply ev_par | apply ev_par3 | apply ev_asg | apply ev_ex | apply ev_ret | exact ev_sNil | apply ev_aug) <;> (repeat' first | exact ev_var rfl | exact ev_K | exact ev_aNil | apply ev_aCons | apply ev_d2 | apply ev_d1 | apply ev_dN | apply ev_dCall | apply ev_dTup | apply ev_dLst | apply ev_dLoc | apply ev_sl | exact ev_oNo | apply ev_oSo | apply ev_ch2b | apply ev_ch3b | apply ev_tB | apply ev_tTru | apply ev_tNo | apply ev_no | apply ev_dML | exact ev_tAll | apply ev_gTu | exact ev_gsN | apply ev_gsC | apply ev_gSb | apply ev_gNm | (simp only [List.length_cons, List.length_nil]; exact len_le (by decide)) | exact decide_eq_true (by omega) | exact decide_eq_false (by omega) | exact ne_t (by omega) | exact ne_f (by omega) | apply lt_ii | apply le_ii | apply gt_ii | apply ge_ii | apply eq_ii | apply ne_ii | apply eq_ss | apply mul_ii | exact okMul_small (by omega) (by omega) | exact mod_ii (by omega) | exact fdiv_ii (by omega) (by omega) | exact mod_ni (by omega) | exact fdiv_ni (by omega) (by omega) | exact pow_ii (by omega) (by omega) (by omega) | apply ix_tup | apply ix_lst | (simp only [List.set_cons_succ, List.set_cons_zero]; rfl) | exact rfl))
        · (repeat' first | exact ev_var rfl | exact ev_K | exact ev_aNil | apply ev_aCons | apply ev_d2 | apply ev_d1 | apply ev_dN | apply ev_dCall | apply ev_dTup | apply ev_dLst | apply ev_dLoc | apply ev_sl | exact ev_oNo | apply ev_oSo | apply ev_ch2b | apply ev_ch3b | apply ev_tB | apply ev_tTru | apply ev_tNo | apply ev_no | apply ev_dML | exact ev_tAll | apply ev_gTu | exact ev_gsN | apply ev_gsC | apply ev_gSb | apply ev_gNm | (simp only [List.length_cons, List.length_nil]; exact len_le (by decide)) | exact decide_eq_true (by omega) | exact decide_eq_false (by omega) | exact ne_t (by omega) | exact ne_f (by omega) | apply lt_ii | apply le_ii | apply gt_ii | apply ge_ii | apply eq_ii | apply ne_ii | apply eq_ss | apply mul_ii | exact okMul_small (by omega) (by omega) | exact mod_ii (by omega) | exact fdiv_ii (by omega) (by omega) | exact mod_ni (by omega) | exact fdiv_ni (by omega) (by omega) | exact pow_ii (by omega) (by omega) (by omega) | apply ix_tup | apply ix_lst | (simp only [List.set_cons_succ, List.set_cons_zero]; rfl) | exact rfl)
        · apply ev_seq test
          ((first | apply ev_set | apply ev_par | apply ev_par3 | apply ev_asg | apply ev_ex | apply ev_ret | exact ev_sNil | apply ev_aug) <;> (repeat' first | exact ev_var rfl | exact ev_K | exact bb | exact m1 | exact ev_aNil | apply ev_aCons | apply ev_d2 | apply ev_d1 | apply ev_dN | apply ev_dCall | apply ev_dTup | apply ev_dLst | apply ev_dLoc | apply ev_sl | exact ev_oNo | apply ev_oSo | apply ev_ch2b | apply ev_ch3b | apply ev_tB | apply ev_tTru | apply ev_tNo | apply ev_no | apply ev_dML | exact ev_tAll | apply ev_gTu | exact ev_gsN | apply ev_gsC | apply ev_gSb | apply ev_gNm | (simp only [List.length_cons, List.length_nil]; exact len_le (by decide)) | exact decide_eq_true (by omega) | exact decide_eq_false (by omega) | exact ne_t (by omega) | exact ne_f (by omega) | apply lt_ii | apply le_ii | apply gt_ii | apply ge_ii | apply eq_ii | apply ne_ii | apply eq_ss | apply mul_ii | exact okMul_small (by omega) (by omega) | exact mod_ii (by omega) | exact fdiv_ii (by omega) (by omega) | exact mod_ni (by omega) | exact fdiv_ni (by omega) (by omega) | exact pow_ii (by omega) (by omega) (by omega) | apply ix_tup | apply ix_lst | (simp only [List.set_cons_succ, List.set_cons_zero]; rfl) | exact rfl))
      · obtain ⟨f', b', e1, e2⟩ := ih (k / 2).toNat (by omega) (k / 2) f (b * b % n) rfl (by omega) f0 f1 n0 n1
        have test : sIf (tB1 (d2 f_eq (d2 f_mod (cVar 1) (cK (.int 2))) (cK (.int 1)))) (sAsg (d2 f_mod (d2 f_mul (cVar 3) (cVar 4)) (cVar 2)) (gNm 3)) sNil [some (.int a), some (.int k), some (.int n), some (.int f), some (.int b)] μ = some (.nx [some (.int a), some (.int k), some (.int n), some (.int f), some (.int b)] μ) := by
          (apply ev_sIf_f; case' hc => (repeat' first | exact ev_var rfl | exact ev_K | exact ev_aNil | apply ev_aCons | apply ev_d2 | apply ev_d1 | apply ev_dN | apply ev_dCall | apply ev_dTup | apply ev_dLst | apply ev_dLoc | apply ev_sl | exact ev_oNo | apply ev_oSo | apply ev_ch2b | apply ev_ch3b | apply ev_tB | apply ev_tTru | apply ev_tNo | apply ev_no | apply ev_dML | exact ev_tAll | apply ev_gTu | exact ev_gsN | apply ev_gsC | apply ev_gSb | apply ev_gNm | (simp only [List.length_cons, List.length_nil]; exact len_le (by decide)) | exact decide_eq_true (by omega) | exact decide_eq_false (by omega) | exact ne_t (by omega) | exact ne_f (by omega) | apply lt_ii | apply le_ii | apply gt_ii | apply ge_ii | apply eq_ii | apply ne_ii | apply eq_ss | apply mul_ii | exact okMul_small (by omega) (by omega) | exact mod_ii (by omega) | exact fdiv_ii (by omega) (by omega) | exact mod_ni (by omega) | exact fdiv_ni (by omega) (by omega) | exact pow_ii (by omega) (by omega) (by omega) | apply ix_tup | apply ix_lst | (simp only [List.set_cons_succ, List.set_cons_zero]; rfl) | exact rfl))
          exact ev_sNil
        refine ⟨f', b', wh_step (μ1 := μ) (μ' := μ) ?_ ?_ e1, wh_step (μ1 := μ) (μ' := μ) ?_ ?_ e2⟩
        · (repeat' first | exact ev_var rfl | exact ev_K | exact ev_aNil | apply ev_aCons | apply ev_d2 | apply ev_d1 | apply ev_dN | apply ev_dCall | apply ev_dTup | apply ev_dLst | apply ev_dLoc | apply ev_sl | exact ev_oNo | apply ev_oSo | apply ev_ch2b | apply ev_ch3b | apply ev_tB | apply ev_tTru | apply ev_tNo | apply ev_no | apply ev_dML | exact ev_tAll | apply ev_gTu | exact ev_gsN | apply ev_gsC | apply ev_gSb | apply ev_gNm | (simp only [List.length_cons, List.length_nil]; exact len_le (by decide)) | exact decide_eq_true (by omega) | exact decide_eq_false (by omega) | exact ne_t (by omega) | exact ne_f (by omega) | apply lt_ii | apply le_ii | apply gt_ii | apply ge_ii | apply eq_ii | apply ne_ii | apply eq_ss | apply mul_ii | exact okMul_small (by omega) (by omega) | exact mod_ii (by omega) | exact fdiv_ii (by omega) (by omega) | exact mod_ni (by omega) | exact fdiv_ni (by omega) (by omega) | exact pow_ii (by omega) (by omega) (by omega) | apply ix_tup | apply ix_lst | (simp only [List.set_cons_succ, List.set_cons_zero]; rfl) | exact rfl)
        · apply ev_seq test
          (apply ev_seq; case' ha => ((first | apply ev_set | apply ev_par | apply ev_par3 | apply ev_asg | apply ev_ex | apply ev_ret | exact ev_sNil | apply ev_aug) <;> (repeat' first | exact ev_var rfl | exact ev_K | exact bb | exact m1 | exact ev_aNil | apply ev_aCons | apply ev_d2 | apply ev_d1 | apply ev_dN | apply ev_dCall | apply ev_dTup | apply ev_dLst | apply ev_dLoc | apply ev_sl | exact ev_oNo | apply ev_oSo | apply ev_ch2b | apply ev_ch3b | apply ev_tB | apply ev_tTru | apply ev_tNo | apply ev_no | apply ev_dML | exact ev_tAll | apply ev_gTu | exact ev_gsN | apply ev_gsC | apply ev_gSb | apply ev_gNm | (simp only [List.length_cons, List.length_nil]; exact len_le (by decide)) | exact decide_eq_true (by omega) | exact decide_eq_false (by omega) | exact ne_t (by omega) | exact ne_f (by omega) | apply lt_ii | apply le_ii | apply gt_ii | apply ge_ii | apply eq_ii | apply ne_ii | apply eq_ss | apply mul_ii | exact okMul_small (by omega) (by omega) | exact mod_ii (by omega) | exact fdiv_ii (by omega) (by omega) | exact mod_ni (by omega) | exact fdiv_ni (by omega) (by omega) | exact pow_ii (by omega) (by omega) (by omega) | apply ix_tup | apply ix_lst | (simp only [List.set_cons_succ, List.set_cons_zero]; rfl) | exact rfl)))
          ((first | apply ev_set | apply ev_par | apply ev_par3 | apply ev_asg | apply ev_ex | apply ev_ret | exact ev_sNil | apply ev_aug) <;> (repeat' first | exact ev_var rfl | exact ev_K | exact ev_aNil | apply ev_aCons | apply ev_d2 | apply ev_d1 | apply ev_dN | apply ev_dCall | apply ev_dTup | apply ev_dLst | apply ev_dLoc | apply ev_sl | exact ev_oNo | apply ev_oSo | apply ev_ch2b | apply ev_ch3b | apply ev_tB | apply ev_tTru | apply ev_tNo | apply ev_no | apply ev_dML | exact ev_tAll | apply ev_gTu | exact ev_gsN | apply ev_gsC | apply ev_gSb | apply ev_gNm | (simp only [List.length_cons, List.length_nil]; exact len_le (by decide)) | exact decide_eq_true (by omega) | exact decide_eq_false (by omega) | exact ne_t (by omega) | exact ne_f (by omega) | apply lt_ii | apply le_ii | apply gt_ii | apply ge_ii | apply eq_ii | apply ne_ii | apply eq_ss | apply mul_ii | exact okMul_small (by omega) (by omega) | exact mod_ii (by omega) | exact fdiv_ii (by omega) (by omega) | exact mod_ni (by omega) | exact fdiv_ni (by omega) (by omega) | exact pow_ii (by omega) (by omega) (by omega) | apply ix_tup | apply ix_lst | (simp only [List.set_cons_succ, List.set_cons_zero]; rfl) | exact rfl))
        · (repeat' first | exact ev_var rfl | exact ev_K | exact ev_aNil | apply ev_aCons | apply ev_d2 | apply ev_d1 | apply ev_dN | apply ev_dCall | apply ev_dTup | apply ev_dLst | apply ev_dLoc | apply ev_sl | exact ev_oNo | apply ev_oSo | apply ev_ch2b | apply ev_ch3b | apply ev_tB | apply ev_tTru | apply ev_tNo | apply ev_no | apply ev_dML | exact ev_tAll | apply ev_gTu | exact ev_gsN | apply ev_gsC | apply ev_gSb | apply ev_gNm | (simp only [List.length_cons, List.length_nil]; exact len_le (by decide)) | exact decide_eq_true (by omega) | exact decide_eq_false (by omega) | exact ne_t (by omega) | exact ne_f (by omega) | apply lt_ii | apply le_ii | apply gt_ii | apply ge_ii | apply eq_ii | apply ne_ii | apply eq_ss | apply mul_ii | exact okMul_small (by omega) (by omega) | exact mod_ii (by omega) | exact fdiv_ii (by omega) (by omega) | exact mod_ni (by omega) | exact fdiv_ni (by omega) (by omega) | exact pow_ii (by omega) (by omega) (by omega) | apply ix_tup | apply ix_lst | (simp only [List.set_cons_succ, List.set_cons_zero]; rfl) | exact rfl)
        · apply ev_seq test
          ((first | apply ev_set | apply ev_par | apply ev_par3 | apply ev_asg | apply ev_ex | apply ev_ret | exact ev_sNil | apply ev_aug) <;> (repeat' first | exact ev_var rfl | exact ev_K | exact bb | exact m1 | exact ev_aNil | apply ev_aCons | apply ev_d2 | apply ev_d1 | apply ev_dN | apply ev_dCall | apply ev_dTup | apply ev_dLst | apply ev_dLoc | apply ev_sl | exact ev_oNo | apply ev_oSo | apply ev_ch2b | apply ev_ch3b | apply ev_tB | apply ev_tTru | apply ev_tNo | apply ev_no | apply ev_dML | exact ev_tAll | apply ev_gTu | exact ev_gsN | apply ev_gsC | apply ev_gSb | apply ev_gNm | (simp only [List.length_cons, List.length_nil]; exact len_le (by decide)) | exact decide_eq_true (by omega) | exact decide_eq_false (by omega) | exact ne_t (by omega) | exact ne_f (by omega) | apply lt_ii | apply le_ii | apply gt_ii | apply ge_ii | apply eq_ii | apply ne_ii | apply eq_ss | apply mul_ii | exact okMul_small (by omega) (by omega) | exact mod_ii (by omega) | exact fdiv_ii (by omega) (by omega) | exact mod_ni (by omega) | exact fdiv_ni (by omega) (by omega) | exact pow_ii (by omega) (by omega) (by omega) | apply ix_tup | apply ix_lst | (simp only [List.set_cons_succ, List.set_cons_zero]; rfl) | exact rfl))
theorem pow_ok {a k n : Int} (hn : 0 < n) (hn2 : n < 2 ^ 90) (hk : 0 ≤ k) (μ : Sto) : ∃ v : Int, p_pow [.int a, .int k, .int n] μ = some (.int v, μ) ∧ p_lpow [.int a, .int k, .int n] μ = some (.int v, μ) := by
  have m1 : f_mod (.int 1) (.int n) μ = some (.int (1 % n), μ) := mod_ii hn
  have m2 : f_mod (.int a) (.int n) μ = some (.int (a % n), μ) := mod_ii hn
  obtain ⟨f', b', e1, e2⟩ := pow_loop (a := a) hn hn2 μ _ k (1 % n) (a % n) rfl hk (Int.emod_nonneg _ (by omega)) (Int.emod_lt_of_pos _ hn) (Int.emod_nonneg _ (by omega)) (Int.emod_lt_of_pos _ hn)
  refine ⟨f', ?_, ?_⟩
  · refine runF_rt (ρ := [some (.int a), some (.int k), some (.int n), none, none]) rfl ?_
    (apply ev_seq; case' ha => ((first | apply ev_set | apply ev_par | apply ev_par3 | apply ev_asg | apply ev_ex | apply ev_ret | exact ev_sNil | apply ev_aug) <;> (repeat' first | exact ev_var rfl | exact ev_K | exact m1 | exact m2 | exact ev_aNil | apply ev_aCons | apply ev_d2 | apply ev_d1 | apply ev_dN | apply ev_dCall | apply ev_dTup | apply ev_dLst | apply ev_dLoc | apply ev_sl | exact ev_oNo | apply ev_oSo | apply ev_ch2b | apply ev_ch3b | apply ev_tB | apply ev_tTru | apply ev_tNo | apply ev_no | apply ev_dML | exact ev_tAll | apply ev_gTu | exact ev_gsN | apply ev_gsC | apply ev_gSb | apply ev_gNm | (simp only [List.length_cons, List.length_nil]; exact len_le (by decide)) | exact decide_eq_true (by omega) | exact decide_eq_false (by omega) | exact ne_t (by omega) | exact ne_f (by omega) | apply lt_ii | apply le_ii | apply gt_ii | apply ge_ii | apply eq_ii | apply ne_ii | apply eq_ss | apply mul_ii | exact okMul_small (by omega) (by omega) | exact mod_ii (by omega) | exact fdiv_ii (by omega) (by omega) | exact mod_ni (by omega) | exact fdiv_ni (by omega) (by omega) | exact pow_ii (by omega) (by omega) (by omega) | apply ix_tup | apply ix_lst | (simp only [List.set_cons_succ, List.set_cons_zero]; rfl) | exact rfl)))
    apply ev_seq e1
    ((first | apply ev_set | apply ev_par | apply ev_par3 | apply ev_asg | apply ev_ex | apply ev_ret | exact ev_sNil | apply ev_aug) <;> (repeat' first | exact ev_var rfl | exact ev_K | exact ev_aNil | apply ev_aCons | apply ev_d2 | apply ev_d1 | apply ev_dN | apply ev_dCall | apply ev_dTup | apply ev_dLst | apply ev_dLoc | apply ev_sl | exact ev_oNo | apply ev_oSo | apply ev_ch2b | apply ev_ch3b | apply ev_tB | apply ev_tTru | apply ev_tNo | apply ev_no | apply ev_dML | exact ev_tAll | apply ev_gTu | exact ev_gsN | apply ev_gsC | apply ev_gSb | apply ev_gNm | (simp only [List.length_cons, List.length_nil]; exact len_le (by decide)) | exact decide_eq_true (by omega) | exact decide_eq_false (by omega) | exact ne_t (by omega) | exact ne_f (by omega) | apply lt_ii | apply le_ii | apply gt_ii | apply ge_ii | apply eq_ii | apply ne_ii | apply eq_ss | apply mul_ii | exact okMul_small (by omega) (by omega) | exact mod_ii (by omega) | exact fdiv_ii (by omega) (by omega) | exact mod_ni (by omega) | exact fdiv_ni (by omega) (by omega) | exact pow_ii (by omega) (by omega) (by omega) | apply ix_tup | apply ix_lst | (simp only [List.set_cons_succ, List.set_cons_zero]; rfl) | exact rfl))
  · refine runF_rt (ρ := [some (.int a), some (.int k), some (.int n), none, none]) rfl ?_
    (apply ev_seq; case' ha => ((first | apply ev_set | apply ev_par | apply ev_par3 | apply ev_asg | apply ev_ex | apply ev_ret | exact ev_sNil | apply ev_aug) <;> (repeat' first | exact ev_var rfl | exact ev_K | exact m1 | exact m2 | exact ev_aNil | apply ev_aCons | apply ev_d2 | apply ev_d1 | apply ev_dN | apply ev_dCall | apply ev_dTup | apply ev_dLst | apply ev_dLoc | apply ev_sl | exact ev_oNo | apply ev_oSo | apply ev_ch2b | apply ev_ch3b | apply ev_tB | apply ev_tTru | apply ev_tNo | apply ev_no | apply ev_dML | exact ev_tAll | apply ev_gTu | exact ev_gsN | apply ev_gsC | apply ev_gSb | apply ev_gNm | (simp only [List.length_cons, List.length_nil]; exact len_le (by decide)) | exact decide_eq_true (by omega) | exact decide_eq_false (by omega) | exact ne_t (by omega) | exact ne_f (by omega) | apply lt_ii | apply le_ii | apply gt_ii | apply ge_ii | apply eq_ii | apply ne_ii | apply eq_ss | apply mul_ii | exact okMul_small (by omega) (by omega) | exact mod_ii (by omega) | exact fdiv_ii (by omega) (by omega) | exact mod_ni (by omega) | exact fdiv_ni (by omega) (by omega) | exact pow_ii (by omega) (by omega) (by omega) | apply ix_tup | apply ix_lst | (simp only [List.set_cons_succ, List.set_cons_zero]; rfl) | exact rfl)))
    apply ev_seq e2
    ((first | apply ev_set | apply ev_par | apply ev_par3 | apply ev_asg | apply ev_ex | apply ev_ret | exact ev_sNil | apply ev_aug) <;> (repeat' first | exact ev_var rfl | exact ev_K | exact ev_aNil | apply ev_aCons | apply ev_d2 | apply ev_d1 | apply ev_dN | apply ev_dCall | apply ev_dTup | apply ev_dLst | apply ev_dLoc | apply ev_sl | exact ev_oNo | apply ev_oSo | apply ev_ch2b | apply ev_ch3b | apply ev_tB | apply ev_tTru | apply ev_tNo | apply ev_no | apply ev_dML | exact ev_tAll | apply ev_gTu | exact ev_gsN | apply ev_gsC | apply ev_gSb | apply ev_gNm | (simp only [List.length_cons, List.length_nil]; exact len_le (by decide)) | exact decide_eq_true (by omega) | exact decide_eq_false (by omega) | exact ne_t (by omega) | exact ne_f (by omega) | apply lt_ii | apply le_ii | apply gt_ii | apply ge_ii | apply eq_ii | apply ne_ii | apply eq_ss | apply mul_ii | exact okMul_small (by omega) (by omega) | exact mod_ii (by omega) | exact fdiv_ii (by omega) (by omega) | exact mod_ni (by omega) | exact fdiv_ni (by omega) (by omega) | exact pow_ii (by omega) (by omega) (by omega) | apply ix_tup | apply ix_lst | (simp only [List.set_cons_succ, List.set_cons_zero]; rfl) | exact rfl))
end K10

/-! K10c: joined rests. -/
namespace K10
open PySem PySem.Spec PyProof.Rows L2 Fd Nm
noncomputable def p_jt : Fn := runF 8 (d_joined_two p_wc)
noncomputable def p_jr : Fn := runF 8 (d_joined_rests p_gcd p_jt)
noncomputable def p_lj : Fn := runF 6 (d__law_joined p_gcd)
noncomputable def p_ap : Fn := runZ 4 (d__law_apart p_gcd)
theorem test_g {n m t : Int} (hn : 0 < n) (μ : Sto) : f_mod (.int t) (.int (Int.gcd n m : Int)) μ = some (.int (t % (Int.gcd n m : Int)), μ) := mod_ii (gcd_pos hn)
theorem jt_ok {r n s m : Int} (hn : 0 < n) (hn2 : n < 2 ^ 45) (hm : 0 < m) (hm2 : m < 2 ^ 45) (hr : r.natAbs < 2 ^ 60) (hs : s.natAbs < 2 ^ 60) (μ : Sto) :
    (∀ u, Fits r n s m u → p_jt [.int r, .int n, .int s, .int m] μ = some (.tup [.int u, .int (lc n m)], μ)) ∧ ((¬ ∃ u, Fits r n s m u) → p_jt [.int r, .int n, .int s, .int m] μ = some (.non, μ)) := by
  obtain ⟨x, y, e, x0, x1, h⟩ := wc_ok (a := n) (b := m) (by omega) (by omega) (by omega) μ
  have hg := gcd_pos (m := m) hn
  have t1 := test_g (m := m) (t := s - r) hn μ
  have hgn : (Int.gcd n m : Int) ≤ n := Int.le_of_dvd hn (Int.gcd_dvd_left n m)
  constructor
  · intro u hu
    have hd := hu.gcd
    have hz := Int.emod_eq_zero_of_dvd hd
    have hu2 : u = (r + n * ((s - r) / (Int.gcd n m : Int) * x)) % lc n m := hu.uniq hn (Fits.of hn hm e hd)
    have n1 : n / (Int.gcd n m : Int) ≤ n := Int.ediv_le_self _ (by omega)
    have n0 : 0 ≤ n / (Int.gcd n m : Int) := Int.ediv_nonneg (by omega) (by omega)
    have hxm : x < m := by
      have : (m.natAbs : Int) / (Int.gcd n m : Int) ≤ m.natAbs := Int.ediv_le_self _ (by omega)
      omega
    have d1 : f_fdiv (.int n) (.int (Int.gcd n m : Int)) μ = some (.int (n / (Int.gcd n m : Int)), μ) := fdiv_ii hg (by omega)
    have d2 : f_fdiv (.int (s - r)) (.int (Int.gcd n m : Int)) μ = some (.int ((s - r) / (Int.gcd n m : Int)), μ) := fdiv_ii hg (by omega)
    have q1 : ((s - r) / (Int.gcd n m : Int)).natAbs < 2 ^ 61 := Nat.lt_of_le_of_lt (Int.natAbs_ediv_le_natAbs _ _) (by omega)
    have q2 : ((s - r) / (Int.gcd n m : Int) * x).natAbs < 2 ^ (61 + 45) := wide_lt q1 (by omega)
    have m1 : f_mul (.int (n / (Int.gcd n m : Int))) (.int m) μ = some (.int (lc n m), μ) := mul_ii (okMul_small (by omega) (by omega))
    have m2 : f_mul (.int ((s - r) / (Int.gcd n m : Int))) (.int x) μ = some (.int ((s - r) / (Int.gcd n m : Int) * x), μ) := mul_ii (okMul_small (by omega) (by omega))
    have m3 : f_mul (.int n) (.int ((s - r) / (Int.gcd n m : Int) * x)) μ = some (.int (n * ((s - r) / (Int.gcd n m : Int) * x)), μ) := mul_ii (okMul_small (by omega) (by omega))
    have m4 : f_mod (.int (r + n * ((s - r) / (Int.gcd n m : Int) * x))) (.int (lc n m)) μ = some (.int u, μ) := by rw [hu2]; exact mod_ii (lc_pos hn hm)
    refine runF_rt (ρ := [some (.int r), some (.int n), some (.int s), some (.int m), none, none, none, none]) rfl ?_
    (apply ev_seq; case' ha => ((first | apply ev_set | apply ev_par | apply ev_par3 | apply ev_asg | apply ev_ex | apply ev_ret | exact ev_sNil | apply ev_aug) <;> (repeat' first | exact ev_var rfl | exact ev_K | exact h | exact ev_aNil | apply ev_aCons | apply ev_d2 | apply ev_d1 | apply ev_dN | apply ev_dCall | apply ev_dTup | apply ev_dLst | apply ev_dLoc | apply ev_sl | exact ev_oNo | apply ev_oSo | apply ev_ch2b | apply ev_ch3b | apply ev_tB | apply ev_tTru | apply ev_tNo | apply ev_no | apply ev_dML | exact ev_tAll | apply ev_gTu | exact ev_gsN | apply ev_gsC | apply ev_gSb | apply ev_gNm | (simp only [List.length_cons, List.length_nil]; exact len_le (by decide)) | exact decide_eq_true (by omega) | exact decide_eq_false (by omega) | exact ne_t (by omega) | exact ne_f (by omega) | apply lt_ii | apply le_ii | apply gt_ii | apply ge_ii | apply eq_ii | apply ne_ii | apply eq_ss | apply mul_ii | exact okMul_small (by omega) (by omega) | exact mod_ii (by omega) | exact fdiv_ii (by omega) (by omega) | exact mod_ni (by omega) | exact fdiv_ni (by omega) (by omega) | exact pow_ii (by omega) (by omega) (by omega) | apply ix_tup | apply ix_lst | (simp only [List.set_cons_succ, List.set_cons_zero]; rfl) | exact rfl)))
    apply ev_seq
    case ha =>
      apply ev_sIf_f
      case hc => (repeat' first | exact ev_var rfl | exact ev_K | exact t1 | exact ne_f hz | exact ev_aNil | apply ev_aCons | apply ev_d2 | apply ev_d1 | apply ev_dN | apply ev_dCall | apply ev_dTup | apply ev_dLst | apply ev_dLoc | apply ev_sl | exact ev_oNo | apply ev_oSo | apply ev_ch2b | apply ev_ch3b | apply ev_tB | apply ev_tTru | apply ev_tNo | apply ev_no | apply ev_dML | exact ev_tAll | apply ev_gTu | exact ev_gsN | apply ev_gsC | apply ev_gSb | apply ev_gNm | (simp only [List.length_cons, List.length_nil]; exact len_le (by decide)) | exact decide_eq_true (by omega) | exact decide_eq_false (by omega) | exact ne_t (by omega) | exact ne_f (by omega) | apply lt_ii | apply le_ii | apply gt_ii | apply ge_ii | apply eq_ii | apply ne_ii | apply eq_ss | apply mul_ii | exact okMul_small (by omega) (by omega) | exact mod_ii (by omega) | exact fdiv_ii (by omega) (by omega) | exact mod_ni (by omega) | exact fdiv_ni (by omega) (by omega) | exact pow_ii (by omega) (by omega) (by omega) | apply ix_tup | apply ix_lst | (simp only [List.set_cons_succ, List.set_cons_zero]; rfl) | exact rfl)
      exact ev_sNil
    (apply ev_seq; case' ha => ((first | apply ev_set | apply ev_par | apply ev_par3 | apply ev_asg | apply ev_ex | apply ev_ret | exact ev_sNil | apply ev_aug) <;> (repeat' first | exact ev_var rfl | exact ev_K | exact d1 | exact m1 | exact ev_aNil | apply ev_aCons | apply ev_d2 | apply ev_d1 | apply ev_dN | apply ev_dCall | apply ev_dTup | apply ev_dLst | apply ev_dLoc | apply ev_sl | exact ev_oNo | apply ev_oSo | apply ev_ch2b | apply ev_ch3b | apply ev_tB | apply ev_tTru | apply ev_tNo | apply ev_no | apply ev_dML | exact ev_tAll | apply ev_gTu | exact ev_gsN | apply ev_gsC | apply ev_gSb | apply ev_gNm | (simp only [List.length_cons, List.length_nil]; exact len_le (by decide)) | exact decide_eq_true (by omega) | exact decide_eq_false (by omega) | exact ne_t (by omega) | exact ne_f (by omega) | apply lt_ii | apply le_ii | apply gt_ii | apply ge_ii | apply eq_ii | apply ne_ii | apply eq_ss | apply mul_ii | exact okMul_small (by omega) (by omega) | exact mod_ii (by omega) | exact fdiv_ii (by omega) (by omega) | exact mod_ni (by omega) | exact fdiv_ni (by omega) (by omega) | exact pow_ii (by omega) (by omega) (by omega) | apply ix_tup | apply ix_lst | (simp only [List.set_cons_succ, List.set_cons_zero]; rfl) | exact rfl)))
    ((first | apply ev_set | apply ev_par | apply ev_par3 | apply ev_asg | apply ev_ex | apply ev_ret | exact ev_sNil | apply ev_aug) <;> (repeat' first | exact ev_var rfl | exact ev_K | exact d2 | exact m2 | exact m3 | exact m4 | exact ev_aNil | apply ev_aCons | apply ev_d2 | apply ev_d1 | apply ev_dN | apply ev_dCall | apply ev_dTup | apply ev_dLst | apply ev_dLoc | apply ev_sl | exact ev_oNo | apply ev_oSo | apply ev_ch2b | apply ev_ch3b | apply ev_tB | apply ev_tTru | apply ev_tNo | apply ev_no | apply ev_dML | exact ev_tAll | apply ev_gTu | exact ev_gsN | apply ev_gsC | apply ev_gSb | apply ev_gNm | (simp only [List.length_cons, List.length_nil]; exact len_le (by decide)) | exact decide_eq_true (by omega) | exact decide_eq_false (by omega) | exact ne_t (by omega) | exact ne_f (by omega) | apply lt_ii | apply le_ii | apply gt_ii | apply ge_ii | apply eq_ii | apply ne_ii | apply eq_ss | apply mul_ii | exact okMul_small (by omega) (by omega) | exact mod_ii (by omega) | exact fdiv_ii (by omega) (by omega) | exact mod_ni (by omega) | exact fdiv_ni (by omega) (by omega) | exact pow_ii (by omega) (by omega) (by omega) | apply ix_tup | apply ix_lst | (simp only [List.set_cons_succ, List.set_cons_zero]; rfl) | exact rfl))
  · intro hu
    have hz : (s - r) % (Int.gcd n m : Int) ≠ 0 := fun z => hu ((fits_iff hn hm).mpr (Int.dvd_of_emod_eq_zero z))
    refine runF_rt (ρ := [some (.int r), some (.int n), some (.int s), some (.int m), none, none, none, none]) rfl ?_
    (apply ev_seq; case' ha => ((first | apply ev_set | apply ev_par | apply ev_par3 | apply ev_asg | apply ev_ex | apply ev_ret | exact ev_sNil | apply ev_aug) <;> (repeat' first | exact ev_var rfl | exact ev_K | exact h | exact ev_aNil | apply ev_aCons | apply ev_d2 | apply ev_d1 | apply ev_dN | apply ev_dCall | apply ev_dTup | apply ev_dLst | apply ev_dLoc | apply ev_sl | exact ev_oNo | apply ev_oSo | apply ev_ch2b | apply ev_ch3b | apply ev_tB | apply ev_tTru | apply ev_tNo | apply ev_no | apply ev_dML | exact ev_tAll | apply ev_gTu | exact ev_gsN | apply ev_gsC | apply ev_gSb | apply ev_gNm | (simp only [List.length_cons, List.length_nil]; exact len_le (by decide)) | exact decide_eq_true (by omega) | exact decide_eq_false (by omega) | exact ne_t (by omega) | exact ne_f (by omega) | apply lt_ii | apply le_ii | apply gt_ii | apply ge_ii | apply eq_ii | apply ne_ii | apply eq_ss | apply mul_ii | exact okMul_small (by omega) (by omega) | exact mod_ii (by omega) | exact fdiv_ii (by omega) (by omega) | exact mod_ni (by omega) | exact fdiv_ni (by omega) (by omega) | exact pow_ii (by omega) (by omega) (by omega) | apply ix_tup | apply ix_lst | (simp only [List.set_cons_succ, List.set_cons_zero]; rfl) | exact rfl)))
    apply ev_seq_rt
    apply ev_sIf_t
    case hc => (repeat' first | exact ev_var rfl | exact ev_K | exact t1 | exact ne_t hz | exact ev_aNil | apply ev_aCons | apply ev_d2 | apply ev_d1 | apply ev_dN | apply ev_dCall | apply ev_dTup | apply ev_dLst | apply ev_dLoc | apply ev_sl | exact ev_oNo | apply ev_oSo | apply ev_ch2b | apply ev_ch3b | apply ev_tB | apply ev_tTru | apply ev_tNo | apply ev_no | apply ev_dML | exact ev_tAll | apply ev_gTu | exact ev_gsN | apply ev_gsC | apply ev_gSb | apply ev_gNm | (simp only [List.length_cons, List.length_nil]; exact len_le (by decide)) | exact decide_eq_true (by omega) | exact decide_eq_false (by omega) | exact ne_t (by omega) | exact ne_f (by omega) | apply lt_ii | apply le_ii | apply gt_ii | apply ge_ii | apply eq_ii | apply ne_ii | apply eq_ss | apply mul_ii | exact okMul_small (by omega) (by omega) | exact mod_ii (by omega) | exact fdiv_ii (by omega) (by omega) | exact mod_ni (by omega) | exact fdiv_ni (by omega) (by omega) | exact pow_ii (by omega) (by omega) (by omega) | apply ix_tup | apply ix_lst | (simp only [List.set_cons_succ, List.set_cons_zero]; rfl) | exact rfl)
    ((first | apply ev_set | apply ev_par | apply ev_par3 | apply ev_asg | apply ev_ex | apply ev_ret | exact ev_sNil | apply ev_aug) <;> (repeat' first | exact ev_var rfl | exact ev_K | exact ev_aNil | apply ev_aCons | apply ev_d2 | apply ev_d1 | apply ev_dN | apply ev_dCall | apply ev_dTup | apply ev_dLst | apply ev_dLoc | apply ev_sl | exact ev_oNo | apply ev_oSo | apply ev_ch2b | apply ev_ch3b | apply ev_tB | apply ev_tTru | apply ev_tNo | apply ev_no | apply ev_dML | exact ev_tAll | apply ev_gTu | exact ev_gsN | apply ev_gsC | apply ev_gSb | apply ev_gNm | (simp only [List.length_cons, List.length_nil]; exact len_le (by decide)) | exact decide_eq_true (by omega) | exact decide_eq_false (by omega) | exact ne_t (by omega) | exact ne_f (by omega) | apply lt_ii | apply le_ii | apply gt_ii | apply ge_ii | apply eq_ii | apply ne_ii | apply eq_ss | apply mul_ii | exact okMul_small (by omega) (by omega) | exact mod_ii (by omega) | exact fdiv_ii (by omega) (by omega) | exact mod_ni (by omega) | exact fdiv_ni (by omega) (by omega) | exact pow_ii (by omega) (by omega) (by omega) | apply ix_tup | apply ix_lst | (simp only [List.set_cons_succ, List.set_cons_zero]; rfl) | exact rfl))
/-! ### rows of pairs -/
def pr (p : Int × Int) : PV := .tup [.int p.1, .int p.2]
def prs (ps : List (Int × Int)) : PV := .tup (ps.map pr)
structure PsOk (ps : List (Int × Int)) : Prop where
  len : ps.length ≤ 5
  ok : ∀ p ∈ ps, p.1.natAbs < 2 ^ 40 ∧ 0 < p.2 ∧ p.2 ≤ 60
def ap (p q : Int × Int) : Bool := !decide ((p.1 - q.1) % (Int.gcd p.2 q.2 : Int) = 0)
theorem ap_iff {p q : Int × Int} : ap p q = false ↔ Compat p q := by
  unfold ap Compat
  rw [Bool.not_eq_false', decide_eq_true_eq]
  exact ⟨Int.dvd_of_emod_eq_zero, Int.emod_eq_zero_of_dvd⟩
theorem ap_comm (p q : Int × Int) : ap p q = ap q p := by
  have : Compat p q ↔ Compat q p := by
    unfold Compat
    rw [Int.gcd_comm, show p.1 - q.1 = -(q.1 - p.1) by omega, Int.dvd_neg]
  rw [← ap_iff, ← ap_iff] at this
  cases h1 : ap p q <;> cases h2 : ap q p <;> simp_all
theorem rgP_eq : ∀ (n k : Nat), rgP (k : Int) n = (List.range' k n).map fun (i : Nat) => PV.int (i : Int)
  | 0, _ => rfl
  | n + 1, k => by
    show PV.int (k : Int) :: rgP ((k : Int) + 1) n = _
    rw [List.range'_succ, List.map_cons, show (k : Int) + 1 = ((k + 1 : Nat) : Int) by omega, rgP_eq n (k + 1)]
theorem rg0 (n : Nat) : rgP 0 n = (List.range n).map fun (i : Nat) => PV.int (i : Int) := by
  rw [List.range_eq_range']
  exact rgP_eq n 0
theorem ix_prs {ps : List (Int × Int)} {i : Nat} (h : i < ps.length) {μ : Sto} : f_ix (prs ps) (.int (i : Int)) μ = some (pr ps[i], μ) :=
  ix_tup (L2.atI_nat (by rw [List.getElem?_map, List.getElem?_eq_getElem h]; rfl))
theorem ix_p0 {p : Int × Int} {μ : Sto} : f_ix (pr p) (.int 0) μ = some (.int p.1, μ) := rfl
theorem ix_p1 {p : Int × Int} {μ : Sto} : f_ix (pr p) (.int 1) μ = some (.int p.2, μ) := rfl
def apJ (ps : List (Int × Int)) (p : Int × Int) (j : Nat) : Bool := match ps[j]? with
  | some q => ap p q
  | none => false
/-- the rows apart from row i -/
def rows (ps : List (Int × Int)) (i : Nat) : List (Nat × Nat) := match ps[i]? with
  | some p => ((List.range i).filter (apJ ps p)).map fun j => (i, j)
  | none => []
def jrB (f : Fn) : DenS := (sSeq (sAsg (dCall 2 f (aCons (d2 f_ix (d2 f_ix (cVar 0) (cVar 1)) (cK (.int 1))) (aCons (d2 f_ix (d2 f_ix (cVar 0) (cVar 2)) (cK (.int 1))) aNil))) (gNm 3))
  (sIf (tB1 (d2 f_ne (d2 f_mod (d2 f_sub (d2 f_ix (d2 f_ix (cVar 0) (cVar 1)) (cK (.int 0))) (d2 f_ix (d2 f_ix (cVar 0) (cVar 2)) (cK (.int 0)))) (cVar 3)) (cK (.int 0)))) (sRet (dTup (aCons (cK (.str (Str.ofString "apart"))) (aCons (cVar 2) (aCons (cVar 1) aNil))))) sNil))
theorem jr_inner {ps : List (Int × Int)} (ok : PsOk ps) {i : Nat} (hi : i < ps.length) (μ : Sto) : ∀ (js : List Nat) (oj od : Option PV), (∀ j ∈ js, j < ps.length) →
    (∀ j t, (js.filter (apJ ps ps[i])) = j :: t → forL (gNm 2) (jrB p_gcd) [] (js.map fun (j : Nat) => PV.int (j : Int)) [some (prs ps), some (.int (i : Int)), oj, od, none, none, none, none] μ = some (.rt (.tup [.str (Str.ofString "apart"), .int (j : Int), .int (i : Int)]) μ)) ∧
    ((js.filter (apJ ps ps[i])) = [] → ∃ oj' od', forL (gNm 2) (jrB p_gcd) [] (js.map fun (j : Nat) => PV.int (j : Int)) [some (prs ps), some (.int (i : Int)), oj, od, none, none, none, none] μ = some (.nx [some (prs ps), some (.int (i : Int)), oj', od', none, none, none, none] μ))
  | [], oj, od, _ => ⟨fun j t h => (nomatch h), fun _ => ⟨oj, od, for_nil⟩⟩
  | j :: js, oj, od, hj => by
    have hj0 := hj j List.mem_cons_self
    have ih := jr_inner ok hi μ js (some (.int (j : Int))) (some (.int (Int.gcd ps[i].2 ps[j].2 : Int))) fun z hz => hj z (List.mem_cons_of_mem _ hz)
    have i1 := ix_prs hi (μ := μ)
    have j1 := ix_prs hj0 (μ := μ)
    have p1 := (ok.ok ps[i] (List.getElem_mem hi)).2.1
    have g := gcd_ok ps[i].2 ps[j].2 μ
    have t1 := test_g (m := ps[j].2) (t := ps[i].1 - ps[j].1) p1 μ
    have gj : ps[j]? = some ps[j] := List.getElem?_eq_getElem hj0
    cases hap : ap ps[i] ps[j] with
    | true =>
      have hz : (ps[i].1 - ps[j].1) % (Int.gcd ps[i].2 ps[j].2 : Int) ≠ 0 := fun z => by
        have : ap ps[i] ps[j] = false := ap_iff.mpr (Int.dvd_of_emod_eq_zero z)
        rw [hap] at this
        cases this
      have hf : ((j :: js).filter (apJ ps ps[i])) = j :: (js.filter (apJ ps ps[i])) := by
        rw [List.filter_cons_of_pos]
        unfold apJ
        rw [gj]
        exact hap
      constructor
      · intro j' t h
        rw [hf] at h
        cases h
        refine for_rt rfl ?_
        (apply ev_seq; case' ha => ((first | apply ev_set | apply ev_par | apply ev_par3 | apply ev_asg | apply ev_ex | apply ev_ret | exact ev_sNil | apply ev_aug) <;> (repeat' first | exact ev_var rfl | exact ev_K | exact i1 | exact j1 | exact ix_p1 | exact g | exact ev_aNil | apply ev_aCons | apply ev_d2 | apply ev_d1 | apply ev_dN | apply ev_dCall | apply ev_dTup | apply ev_dLst | apply ev_dLoc | apply ev_sl | exact ev_oNo | apply ev_oSo | apply ev_ch2b | apply ev_ch3b | apply ev_tB | apply ev_tTru | apply ev_tNo | apply ev_no | apply ev_dML | exact ev_tAll | apply ev_gTu | exact ev_gsN | apply ev_gsC | apply ev_gSb | apply ev_gNm | (simp only [List.length_cons, List.length_nil]; exact len_le (by decide)) | exact decide_eq_true (by omega) | exact decide_eq_false (by omega) | exact ne_t (by omega) | exact ne_f (by omega) | apply lt_ii | apply le_ii | apply gt_ii | apply ge_ii | apply eq_ii | apply ne_ii | apply eq_ss | apply mul_ii | exact okMul_small (by omega) (by omega) | exact mod_ii (by omega) | exact fdiv_ii (by omega) (by omega) | exact mod_ni (by omega) | exact fdiv_ni (by omega) (by omega) | exact pow_ii (by omega) (by omega) (by omega) | apply ix_tup | apply ix_lst | (simp only [List.set_cons_succ, List.set_cons_zero]; rfl) | exact rfl)))
        apply ev_sIf_t
        case hc => (repeat' first | exact ev_var rfl | exact ev_K | exact i1 | exact j1 | exact ix_p0 | exact t1 | exact ne_t hz | exact ev_aNil | apply ev_aCons | apply ev_d2 | apply ev_d1 | apply ev_dN | apply ev_dCall | apply ev_dTup | apply ev_dLst | apply ev_dLoc | apply ev_sl | exact ev_oNo | apply ev_oSo | apply ev_ch2b | apply ev_ch3b | apply ev_tB | apply ev_tTru | apply ev_tNo | apply ev_no | apply ev_dML | exact ev_tAll | apply ev_gTu | exact ev_gsN | apply ev_gsC | apply ev_gSb | apply ev_gNm | (simp only [List.length_cons, List.length_nil]; exact len_le (by decide)) | exact decide_eq_true (by omega) | exact decide_eq_false (by omega) | exact ne_t (by omega) | exact ne_f (by omega) | apply lt_ii | apply le_ii | apply gt_ii | apply ge_ii | apply eq_ii | apply ne_ii | apply eq_ss | apply mul_ii | exact okMul_small (by omega) (by omega) | exact mod_ii (by omega) | exact fdiv_ii (by omega) (by omega) | exact mod_ni (by omega) | exact fdiv_ni (by omega) (by omega) | exact pow_ii (by omega) (by omega) (by omega) | apply ix_tup | apply ix_lst | (simp only [List.set_cons_succ, List.set_cons_zero]; rfl) | exact rfl)
        ((first | apply ev_set | apply ev_par | apply ev_par3 | apply ev_asg | apply ev_ex | apply ev_ret | exact ev_sNil | apply ev_aug) <;> (repeat' first | exact ev_var rfl | exact ev_K | exact ev_aNil | apply ev_aCons | apply ev_d2 | apply ev_d1 | apply ev_dN | apply ev_dCall | apply ev_dTup | apply ev_dLst | apply ev_dLoc | apply ev_sl | exact ev_oNo | apply ev_oSo | apply ev_ch2b | apply ev_ch3b | apply ev_tB | apply ev_tTru | apply ev_tNo | apply ev_no | apply ev_dML | exact ev_tAll | apply ev_gTu | exact ev_gsN | apply ev_gsC | apply ev_gSb | apply ev_gNm | (simp only [List.length_cons, List.length_nil]; exact len_le (by decide)) | exact decide_eq_true (by omega) | exact decide_eq_false (by omega) | exact ne_t (by omega) | exact ne_f (by omega) | apply lt_ii | apply le_ii | apply gt_ii | apply ge_ii | apply eq_ii | apply ne_ii | apply eq_ss | apply mul_ii | exact okMul_small (by omega) (by omega) | exact mod_ii (by omega) | exact fdiv_ii (by omega) (by omega) | exact mod_ni (by omega) | exact fdiv_ni (by omega) (by omega) | exact pow_ii (by omega) (by omega) (by omega) | apply ix_tup | apply ix_lst | (simp only [List.set_cons_succ, List.set_cons_zero]; rfl) | exact rfl))
      · intro h
        rw [hf] at h
        cases h
    | false =>
      have hz : (ps[i].1 - ps[j].1) % (Int.gcd ps[i].2 ps[j].2 : Int) = 0 := Int.emod_eq_zero_of_dvd (ap_iff.mp hap)
      have hf : ((j :: js).filter (apJ ps ps[i])) = (js.filter (apJ ps ps[i])) := by
        rw [List.filter_cons_of_neg]
        unfold apJ
        rw [gj]
        show ¬ ap ps[i] ps[j] = true
        rw [hap]
        exact Bool.false_ne_true
      have step : jrB p_gcd [some (prs ps), some (.int (i : Int)), some (.int (j : Int)), od, none, none, none, none] μ = some (.nx [some (prs ps), some (.int (i : Int)), some (.int (j : Int)), some (.int (Int.gcd ps[i].2 ps[j].2 : Int)), none, none, none, none] μ) := by
        (apply ev_seq; case' ha => ((first | apply ev_set | apply ev_par | apply ev_par3 | apply ev_asg | apply ev_ex | apply ev_ret | exact ev_sNil | apply ev_aug) <;> (repeat' first | exact ev_var rfl | exact ev_K | exact i1 | exact j1 | exact ix_p1 | exact g | exact ev_aNil | apply ev_aCons | apply ev_d2 | apply ev_d1 | apply ev_dN | apply ev_dCall | apply ev_dTup | apply ev_dLst | apply ev_dLoc | apply ev_sl | exact ev_oNo | apply ev_oSo | apply ev_ch2b | apply ev_ch3b | apply ev_tB | apply ev_tTru | apply ev_tNo | apply ev_no | apply ev_dML | exact ev_tAll | apply ev_gTu | exact ev_gsN | apply ev_gsC | apply ev_gSb | apply ev_gNm | (simp only [List.length_cons, List.length_nil]; exact len_le (by decide)) | exact decide_eq_true (by omega) | exact decide_eq_false (by omega) | exact ne_t (by omega) | exact ne_f (by omega) | apply lt_ii | apply le_ii | apply gt_ii | apply ge_ii | apply eq_ii | apply ne_ii | apply eq_ss | apply mul_ii | exact okMul_small (by omega) (by omega) | exact mod_ii (by omega) | exact fdiv_ii (by omega) (by omega) | exact mod_ni (by omega) | exact fdiv_ni (by omega) (by omega) | exact pow_ii (by omega) (by omega) (by omega) | apply ix_tup | apply ix_lst | (simp only [List.set_cons_succ, List.set_cons_zero]; rfl) | exact rfl)))
        apply ev_sIf_f
        case hc => (repeat' first | exact ev_var rfl | exact ev_K | exact i1 | exact j1 | exact ix_p0 | exact t1 | exact ne_f hz | exact ev_aNil | apply ev_aCons | apply ev_d2 | apply ev_d1 | apply ev_dN | apply ev_dCall | apply ev_dTup | apply ev_dLst | apply ev_dLoc | apply ev_sl | exact ev_oNo | apply ev_oSo | apply ev_ch2b | apply ev_ch3b | apply ev_tB | apply ev_tTru | apply ev_tNo | apply ev_no | apply ev_dML | exact ev_tAll | apply ev_gTu | exact ev_gsN | apply ev_gsC | apply ev_gSb | apply ev_gNm | (simp only [List.length_cons, List.length_nil]; exact len_le (by decide)) | exact decide_eq_true (by omega) | exact decide_eq_false (by omega) | exact ne_t (by omega) | exact ne_f (by omega) | apply lt_ii | apply le_ii | apply gt_ii | apply ge_ii | apply eq_ii | apply ne_ii | apply eq_ss | apply mul_ii | exact okMul_small (by omega) (by omega) | exact mod_ii (by omega) | exact fdiv_ii (by omega) (by omega) | exact mod_ni (by omega) | exact fdiv_ni (by omega) (by omega) | exact pow_ii (by omega) (by omega) (by omega) | apply ix_tup | apply ix_lst | (simp only [List.set_cons_succ, List.set_cons_zero]; rfl) | exact rfl)
        exact ev_sNil
      rw [hf]
      constructor
      · intro j' t h
        exact for_step rfl step chk_nil (ih.1 j' t h)
      · intro h
        obtain ⟨oj', od', h2⟩ := ih.2 h
        exact ⟨oj', od', for_step rfl step chk_nil h2⟩

theorem jr_outer {ps : List (Int × Int)} (ok : PsOk ps) (μ : Sto) : ∀ (is : List Nat) (oi oj od : Option PV), (∀ i ∈ is, i < ps.length) →
    (∀ i j t, is.flatMap (rows ps) = (i, j) :: t → forL (gNm 1) (sFor (itRg1 (aCons (cVar 1) aNil)) (gNm 2) (jrB p_gcd)) [] (is.map fun (i : Nat) => PV.int (i : Int)) [some (prs ps), oi, oj, od, none, none, none, none] μ = some (.rt (.tup [.str (Str.ofString "apart"), .int (j : Int), .int (i : Int)]) μ)) ∧
    (is.flatMap (rows ps) = [] → ∃ oi' oj' od', forL (gNm 1) (sFor (itRg1 (aCons (cVar 1) aNil)) (gNm 2) (jrB p_gcd)) [] (is.map fun (i : Nat) => PV.int (i : Int)) [some (prs ps), oi, oj, od, none, none, none, none] μ = some (.nx [some (prs ps), oi', oj', od', none, none, none, none] μ))
  | [], oi, oj, od, _ => ⟨fun i j t h => (nomatch h), fun _ => ⟨oi, oj, od, for_nil⟩⟩
  | i :: is, oi, oj, od, hi => by
    have hi0 := hi i List.mem_cons_self
    have hl := ok.len
    have ii := jr_inner ok hi0 μ (List.range i) oj od fun j hj => by have := List.mem_range.mp hj; omega
    have it : itRg1 (aCons (cVar 1) aNil) [some (prs ps), some (.int (i : Int)), oj, od, none, none, none, none] μ = some (((List.range i).map fun (j : Nat) => PV.int (j : Int), []), μ) := by
      rw [← rg0]
      exact it_rg1 (j := (i : Int)) rfl (rgIn_of (by omega) (by omega)) (by omega)
    have gi : ps[i]? = some ps[i] := List.getElem?_eq_getElem hi0
    have hr : rows ps i = ((List.range i).filter (apJ ps ps[i])).map fun j => (i, j) := by
      unfold rows
      rw [gi]
    have hfm : (i :: is).flatMap (rows ps) = rows ps i ++ is.flatMap (rows ps) := List.flatMap_cons
    cases hf : (List.range i).filter (apJ ps ps[i]) with
    | nil =>
      obtain ⟨oj', od', h2⟩ := ii.2 hf
      have ih := jr_outer ok μ is (some (.int (i : Int))) oj' od' fun z hz => hi z (List.mem_cons_of_mem _ hz)
      rw [hf] at hr
      rw [hfm, hr]
      constructor
      · intro i' j' t h
        exact for_step rfl (ev_for it h2) chk_nil (ih.1 i' j' t h)
      · intro h
        obtain ⟨a, b, c, h3⟩ := ih.2 h
        exact ⟨a, b, c, for_step rfl (ev_for it h2) chk_nil h3⟩
    | cons j t =>
      have h2 := ii.1 j t hf
      rw [hf] at hr
      rw [hfm, hr]
      constructor
      · intro i' j' t' h
        cases h
        exact for_rt rfl (ev_for it h2)
      · intro h
        cases h
/-- all pairs apart, in the program's order -/
def AL (ps : List (Int × Int)) : List (Nat × Nat) := (List.range ps.length).flatMap (rows ps)
def jrF (f : Fn) : DenS := (sAsg (dCall 4 f (aCons (cVar 4) (aCons (cVar 5) (aCons (cVar 6) (aCons (cVar 7) aNil))))) (gTu 2 (gsCons (gNm 4) (gsCons (gNm 5) gsNil))))
theorem jr_fold (μ : Sto) (o0 o1 o2 o3 : Option PV) : ∀ (ps : List (Int × Int)) (r n R N : Int) (o6 o7 : Option PV), (∀ p ∈ ps, p.1.natAbs < 2 ^ 40 ∧ 0 < p.2 ∧ p.2 ≤ 60) → 0 < n → n * 60 ^ ps.length ≤ 2 ^ 44 → r.natAbs < 2 ^ 60 → foldJ ps (r, n) = some (R, N) →
    ∃ o6' o7', forL (gTu 2 (gsCons (gNm 6) (gsCons (gNm 7) gsNil))) (jrF p_jt) [] (ps.map pr) [o0, o1, o2, o3, some (.int r), some (.int n), o6, o7] μ = some (.nx [o0, o1, o2, o3, some (.int R), some (.int N), o6', o7'] μ)
  | [], r, n, R, N, o6, o7, _, _, _, _, h => by
    cases h
    exact ⟨o6, o7, for_nil⟩
  | q :: ps, r, n, R, N, o6, o7, hq, hn, hb, hr, h => by
    obtain ⟨q1, q2, q3⟩ := hq q List.mem_cons_self
    have hb' : n * 60 * 60 ^ ps.length ≤ 2 ^ 44 := by
      rw [List.length_cons, Int.pow_succ] at hb
      rw [show n * 60 * 60 ^ ps.length = n * (60 ^ ps.length * 60) by ac_rfl]
      exact hb
    have hp : (1 : Int) ≤ 60 ^ ps.length := by
      have : (0 : Int) < 60 ^ ps.length := Int.pow_pos (by decide)
      omega
    have hn2 : n * 60 ≤ 2 ^ 44 := by
      have : n * 60 * 1 ≤ n * 60 * 60 ^ ps.length := Int.mul_le_mul_of_nonneg_left hp (by omega)
      omega
    by_cases hu : ∃ u, Fits r n q.1 q.2 u
    · obtain ⟨u, hu⟩ := hu
      rw [foldJ_yes hn hu] at h
      have hlp := lc_pos hn q2
      have hl : lc n q.2 ≤ n * 60 := Int.le_trans (lc_le hn q2) (Int.mul_le_mul_of_nonneg_left q3 (by omega))
      have hl2 : lc n q.2 * 60 ^ ps.length ≤ 2 ^ 44 := Int.le_trans (Int.mul_le_mul_of_nonneg_right hl (by omega)) hb'
      obtain ⟨a, b, h2⟩ := jr_fold μ o0 o1 o2 o3 ps u (lc n q.2) R N (some (.int q.1)) (some (.int q.2)) (fun z hz => hq z (List.mem_cons_of_mem _ hz)) hlp hl2 (by have := hu.1; have := hu.2.1; omega) h
      refine ⟨a, b, for_step (ρ1 := [o0, o1, o2, o3, some (.int r), some (.int n), some (.int q.1), some (.int q.2)]) (μ1 := μ) rfl ?_ chk_nil h2⟩
      have c := (jt_ok hn (by omega) q2 (by omega) hr (by omega) μ).1 u hu
      ((first | apply ev_set | apply ev_par | apply ev_par3 | apply ev_asg | apply ev_ex | apply ev_ret | exact ev_sNil | apply ev_aug) <;> (repeat' first | exact ev_var rfl | exact ev_K | exact c | exact ev_aNil | apply ev_aCons | apply ev_d2 | apply ev_d1 | apply ev_dN | apply ev_dCall | apply ev_dTup | apply ev_dLst | apply ev_dLoc | apply ev_sl | exact ev_oNo | apply ev_oSo | apply ev_ch2b | apply ev_ch3b | apply ev_tB | apply ev_tTru | apply ev_tNo | apply ev_no | apply ev_dML | exact ev_tAll | apply ev_gTu | exact ev_gsN | apply ev_gsC | apply ev_gSb | apply ev_gNm | (simp only [List.length_cons, List.length_nil]; exact len_le (by decide)) | exact decide_eq_true (by omega) | exact decide_eq_false (by omega) | exact ne_t (by omega) | exact ne_f (by omega) | apply lt_ii | apply le_ii | apply gt_ii | apply ge_ii | apply eq_ii | apply ne_ii | apply eq_ss | apply mul_ii | exact okMul_small (by omega) (by omega) | exact mod_ii (by omega) | exact fdiv_ii (by omega) (by omega) | exact mod_ni (by omega) | exact fdiv_ni (by omega) (by omega) | exact pow_ii (by omega) (by omega) (by omega) | apply ix_tup | apply ix_lst | (simp only [List.set_cons_succ, List.set_cons_zero]; rfl) | exact rfl))
    · rw [foldJ_no hu] at h
      cases h
theorem jr_ok {ps : List (Int × Int)} (ok : PsOk ps) (μ : Sto) : (∀ i j t, AL ps = (i, j) :: t → p_jr [prs ps] μ = some (.tup [.str (Str.ofString "apart"), .int (j : Int), .int (i : Int)], μ)) ∧
    (AL ps = [] → ∀ R N, foldJ ps (0, 1) = some (R, N) → p_jr [prs ps] μ = some (.tup [.str (Str.ofString "joined"), .int R, .int N], μ)) := by
  have hl := ok.len
  have o := jr_outer ok μ (List.range ps.length) none none none fun i hi => List.mem_range.mp hi
  have it : itRg1 (aCons (dN f_len (aCons (cVar 0) aNil)) aNil) [some (prs ps), none, none, none, none, none, none, none] μ = some (((List.range ps.length).map fun (j : Nat) => PV.int (j : Int), []), μ) := by
    rw [← rg0]
    refine it_rg1 (j := (ps.length : Int)) ?_ (rgIn_of (by omega) (by omega)) (by omega)
    have : f_len [prs ps] μ = some (.int (ps.length : Int), μ) := by
      show some (PV.int ((ps.map pr).length : Int), μ) = _
      rw [List.length_map]
    (repeat' first | exact ev_var rfl | exact ev_K | exact this | exact ev_aNil | apply ev_aCons | apply ev_d2 | apply ev_d1 | apply ev_dN | apply ev_dCall | apply ev_dTup | apply ev_dLst | apply ev_dLoc | apply ev_sl | exact ev_oNo | apply ev_oSo | apply ev_ch2b | apply ev_ch3b | apply ev_tB | apply ev_tTru | apply ev_tNo | apply ev_no | apply ev_dML | exact ev_tAll | apply ev_gTu | exact ev_gsN | apply ev_gsC | apply ev_gSb | apply ev_gNm | (simp only [List.length_cons, List.length_nil]; exact len_le (by decide)) | exact decide_eq_true (by omega) | exact decide_eq_false (by omega) | exact ne_t (by omega) | exact ne_f (by omega) | apply lt_ii | apply le_ii | apply gt_ii | apply ge_ii | apply eq_ii | apply ne_ii | apply eq_ss | apply mul_ii | exact okMul_small (by omega) (by omega) | exact mod_ii (by omega) | exact fdiv_ii (by omega) (by omega) | exact mod_ni (by omega) | exact fdiv_ni (by omega) (by omega) | exact pow_ii (by omega) (by omega) (by omega) | apply ix_tup | apply ix_lst | (simp only [List.set_cons_succ, List.set_cons_zero]; rfl) | exact rfl)
  constructor
  · intro i j t h
    refine runF_rt (ρ := [some (prs ps), none, none, none, none, none, none, none]) rfl ?_
    exact ev_seq_rt (ev_for it (o.1 i j t h))
  · intro h R N hf
    obtain ⟨a, b, c, h2⟩ := o.2 h
    have hb : (1 : Int) * 60 ^ ps.length ≤ 2 ^ 44 := by
      have h1 := ok.len
      have : (60 : Int) ^ ps.length ≤ 60 ^ 5 := by
        rcases (show ps.length = 0 ∨ ps.length = 1 ∨ ps.length = 2 ∨ ps.length = 3 ∨ ps.length = 4 ∨ ps.length = 5 by omega) with e | e | e | e | e | e <;> rw [e] <;> decide
      omega
    obtain ⟨o6, o7, h3⟩ := jr_fold μ (some (prs ps)) a b c ps 0 1 R N none none ok.ok (by decide) hb (by decide) hf
    refine runF_rt (ρ := [some (prs ps), none, none, none, none, none, none, none]) rfl ?_
    apply ev_seq (ev_for it h2)
    (apply ev_seq; case' ha => ((first | apply ev_set | apply ev_par | apply ev_par3 | apply ev_asg | apply ev_ex | apply ev_ret | exact ev_sNil | apply ev_aug) <;> (repeat' first | exact ev_var rfl | exact ev_K | exact ev_aNil | apply ev_aCons | apply ev_d2 | apply ev_d1 | apply ev_dN | apply ev_dCall | apply ev_dTup | apply ev_dLst | apply ev_dLoc | apply ev_sl | exact ev_oNo | apply ev_oSo | apply ev_ch2b | apply ev_ch3b | apply ev_tB | apply ev_tTru | apply ev_tNo | apply ev_no | apply ev_dML | exact ev_tAll | apply ev_gTu | exact ev_gsN | apply ev_gsC | apply ev_gSb | apply ev_gNm | (simp only [List.length_cons, List.length_nil]; exact len_le (by decide)) | exact decide_eq_true (by omega) | exact decide_eq_false (by omega) | exact ne_t (by omega) | exact ne_f (by omega) | apply lt_ii | apply le_ii | apply gt_ii | apply ge_ii | apply eq_ii | apply ne_ii | apply eq_ss | apply mul_ii | exact okMul_small (by omega) (by omega) | exact mod_ii (by omega) | exact fdiv_ii (by omega) (by omega) | exact mod_ni (by omega) | exact fdiv_ni (by omega) (by omega) | exact pow_ii (by omega) (by omega) (by omega) | apply ix_tup | apply ix_lst | (simp only [List.set_cons_succ, List.set_cons_zero]; rfl) | exact rfl)))
    apply ev_seq (ev_for (it_tup (xs := ps.map pr) rfl) h3)
    ((first | apply ev_set | apply ev_par | apply ev_par3 | apply ev_asg | apply ev_ex | apply ev_ret | exact ev_sNil | apply ev_aug) <;> (repeat' first | exact ev_var rfl | exact ev_K | exact ev_aNil | apply ev_aCons | apply ev_d2 | apply ev_d1 | apply ev_dN | apply ev_dCall | apply ev_dTup | apply ev_dLst | apply ev_dLoc | apply ev_sl | exact ev_oNo | apply ev_oSo | apply ev_ch2b | apply ev_ch3b | apply ev_tB | apply ev_tTru | apply ev_tNo | apply ev_no | apply ev_dML | exact ev_tAll | apply ev_gTu | exact ev_gsN | apply ev_gsC | apply ev_gSb | apply ev_gNm | (simp only [List.length_cons, List.length_nil]; exact len_le (by decide)) | exact decide_eq_true (by omega) | exact decide_eq_false (by omega) | exact ne_t (by omega) | exact ne_f (by omega) | apply lt_ii | apply le_ii | apply gt_ii | apply ge_ii | apply eq_ii | apply ne_ii | apply eq_ss | apply mul_ii | exact okMul_small (by omega) (by omega) | exact mod_ii (by omega) | exact fdiv_ii (by omega) (by omega) | exact mod_ni (by omega) | exact fdiv_ni (by omega) (by omega) | exact pow_ii (by omega) (by omega) (by omega) | apply ix_tup | apply ix_lst | (simp only [List.set_cons_succ, List.set_cons_zero]; rfl) | exact rfl))
/-! ### the law's own joining -/
theorem lj_while {r n s m : Int} (hm : 0 < m) (μ : Sto) (o0 o5 : Option PV) : ∀ (t : Nat) (r : Int), m ∣ r + n * t - s → ∃ r', n ∣ r' - r ∧ m ∣ r' - s ∧
    sWh (tB1 (d2 f_ne (d2 f_mod (d2 f_sub (cVar 1) (cVar 3)) (cVar 4)) (cK (.int 0)))) (sAsg (d2 f_add (cVar 1) (cVar 2)) (gNm 1)) [o0, some (.int r), some (.int n), some (.int s), some (.int m), o5] μ = some (.nx [o0, some (.int r'), some (.int n), some (.int s), some (.int m), o5] μ)
  | 0, r, h => by
    have h : m ∣ r - s := by
      have e : r + n * ((0 : Nat) : Int) - s = r - s := by simp
      rw [e] at h
      exact h
    refine ⟨r, by rw [Int.sub_self]; exact Int.dvd_zero _, h, ?_⟩
    apply wh_done
    have hz := Int.emod_eq_zero_of_dvd h
    have m1 : f_mod (.int (r - s)) (.int m) μ = some (.int ((r - s) % m), μ) := mod_ii hm
    (repeat' first | exact ev_var rfl | exact ev_K | exact m1 | exact ne_f hz | exact ev_aNil | apply ev_aCons | apply ev_d2 | apply ev_d1 | apply ev_dN | apply ev_dCall | apply ev_dTup | apply ev_dLst | apply ev_dLoc | apply ev_sl | exact ev_oNo | apply ev_oSo | apply ev_ch2b | apply ev_ch3b | apply ev_tB | apply ev_tTru | apply ev_tNo | apply ev_no | apply ev_dML | exact ev_tAll | apply ev_gTu | exact ev_gsN | apply ev_gsC | apply ev_gSb | apply ev_gNm | (simp only [List.length_cons, List.length_nil]; exact len_le (by decide)) | exact decide_eq_true (by omega) | exact decide_eq_false (by omega) | exact ne_t (by omega) | exact ne_f (by omega) | apply lt_ii | apply le_ii | apply gt_ii | apply ge_ii | apply eq_ii | apply ne_ii | apply eq_ss | apply mul_ii | exact okMul_small (by omega) (by omega) | exact mod_ii (by omega) | exact fdiv_ii (by omega) (by omega) | exact mod_ni (by omega) | exact fdiv_ni (by omega) (by omega) | exact pow_ii (by omega) (by omega) (by omega) | apply ix_tup | apply ix_lst | (simp only [List.set_cons_succ, List.set_cons_zero]; rfl) | exact rfl)
  | t + 1, r, h => by
    have m1 : f_mod (.int (r - s)) (.int m) μ = some (.int ((r - s) % m), μ) := mod_ii hm
    by_cases hz : (r - s) % m = 0
    · refine ⟨r, by rw [Int.sub_self]; exact Int.dvd_zero _, Int.dvd_of_emod_eq_zero hz, ?_⟩
      apply wh_done
      (repeat' first | exact ev_var rfl | exact ev_K | exact m1 | exact ne_f hz | exact ev_aNil | apply ev_aCons | apply ev_d2 | apply ev_d1 | apply ev_dN | apply ev_dCall | apply ev_dTup | apply ev_dLst | apply ev_dLoc | apply ev_sl | exact ev_oNo | apply ev_oSo | apply ev_ch2b | apply ev_ch3b | apply ev_tB | apply ev_tTru | apply ev_tNo | apply ev_no | apply ev_dML | exact ev_tAll | apply ev_gTu | exact ev_gsN | apply ev_gsC | apply ev_gSb | apply ev_gNm | (simp only [List.length_cons, List.length_nil]; exact len_le (by decide)) | exact decide_eq_true (by omega) | exact decide_eq_false (by omega) | exact ne_t (by omega) | exact ne_f (by omega) | apply lt_ii | apply le_ii | apply gt_ii | apply ge_ii | apply eq_ii | apply ne_ii | apply eq_ss | apply mul_ii | exact okMul_small (by omega) (by omega) | exact mod_ii (by omega) | exact fdiv_ii (by omega) (by omega) | exact mod_ni (by omega) | exact fdiv_ni (by omega) (by omega) | exact pow_ii (by omega) (by omega) (by omega) | apply ix_tup | apply ix_lst | (simp only [List.set_cons_succ, List.set_cons_zero]; rfl) | exact rfl)
    · obtain ⟨r', a, b, e⟩ := lj_while (r := r) hm μ o0 o5 t (r + n) (by
        have e : r + n + n * (t : Int) - s = r + n * ((t + 1 : Nat) : Int) - s := by
          have : ((t + 1 : Nat) : Int) = (t : Int) + 1 := rfl
          rw [this, Int.mul_add, Int.mul_one]
          omega
        rw [e]
        exact h)
      refine ⟨r', ?_, b, ?_⟩
      · have := Int.dvd_add a (Int.dvd_refl n)
        rw [show r' - (r + n) + n = r' - r by omega] at this
        exact this
      · refine wh_step (μ1 := μ) (μ' := μ) ?_ ?_ e
        · (repeat' first | exact ev_var rfl | exact ev_K | exact m1 | exact ne_t hz | exact ev_aNil | apply ev_aCons | apply ev_d2 | apply ev_d1 | apply ev_dN | apply ev_dCall | apply ev_dTup | apply ev_dLst | apply ev_dLoc | apply ev_sl | exact ev_oNo | apply ev_oSo | apply ev_ch2b | apply ev_ch3b | apply ev_tB | apply ev_tTru | apply ev_tNo | apply ev_no | apply ev_dML | exact ev_tAll | apply ev_gTu | exact ev_gsN | apply ev_gsC | apply ev_gSb | apply ev_gNm | (simp only [List.length_cons, List.length_nil]; exact len_le (by decide)) | exact decide_eq_true (by omega) | exact decide_eq_false (by omega) | exact ne_t (by omega) | exact ne_f (by omega) | apply lt_ii | apply le_ii | apply gt_ii | apply ge_ii | apply eq_ii | apply ne_ii | apply eq_ss | apply mul_ii | exact okMul_small (by omega) (by omega) | exact mod_ii (by omega) | exact fdiv_ii (by omega) (by omega) | exact mod_ni (by omega) | exact fdiv_ni (by omega) (by omega) | exact pow_ii (by omega) (by omega) (by omega) | apply ix_tup | apply ix_lst | (simp only [List.set_cons_succ, List.set_cons_zero]; rfl) | exact rfl)
        · ((first | apply ev_set | apply ev_par | apply ev_par3 | apply ev_asg | apply ev_ex | apply ev_ret | exact ev_sNil | apply ev_aug) <;> (repeat' first | exact ev_var rfl | exact ev_K | exact ev_aNil | apply ev_aCons | apply ev_d2 | apply ev_d1 | apply ev_dN | apply ev_dCall | apply ev_dTup | apply ev_dLst | apply ev_dLoc | apply ev_sl | exact ev_oNo | apply ev_oSo | apply ev_ch2b | apply ev_ch3b | apply ev_tB | apply ev_tTru | apply ev_tNo | apply ev_no | apply ev_dML | exact ev_tAll | apply ev_gTu | exact ev_gsN | apply ev_gsC | apply ev_gSb | apply ev_gNm | (simp only [List.length_cons, List.length_nil]; exact len_le (by decide)) | exact decide_eq_true (by omega) | exact decide_eq_false (by omega) | exact ne_t (by omega) | exact ne_f (by omega) | apply lt_ii | apply le_ii | apply gt_ii | apply ge_ii | apply eq_ii | apply ne_ii | apply eq_ss | apply mul_ii | exact okMul_small (by omega) (by omega) | exact mod_ii (by omega) | exact fdiv_ii (by omega) (by omega) | exact mod_ni (by omega) | exact fdiv_ni (by omega) (by omega) | exact pow_ii (by omega) (by omega) (by omega) | apply ix_tup | apply ix_lst | (simp only [List.set_cons_succ, List.set_cons_zero]; rfl) | exact rfl))
noncomputable def ljB (f : Fn) : DenS := (sSeq (sAsg (dCall 2 f (aCons (cVar 2) (aCons (cVar 4) aNil))) (gNm 5))
  (sSeq (sIf (tB1 (d2 f_ne (d2 f_mod (d2 f_sub (cVar 3) (cVar 1)) (cVar 5)) (cK (.int 0)))) (sRet (cK .non)) sNil)
  (sSeq (sWh (tB1 (d2 f_ne (d2 f_mod (d2 f_sub (cVar 1) (cVar 3)) (cVar 4)) (cK (.int 0)))) (sAsg (d2 f_add (cVar 1) (cVar 2)) (gNm 1)))
  (sSeq (sAsg (d2 f_mul (d2 f_fdiv (cVar 2) (cVar 5)) (cVar 4)) (gNm 2))
  (sAsg (d2 f_mod (cVar 1) (cVar 2)) (gNm 1))))))
theorem lj_turn {r n s m : Int} (hn : 0 < n) (hn2 : n < 2 ^ 45) (hm : 0 < m) (hm2 : m < 2 ^ 45) (μ : Sto) (o0 o5 : Option PV) :
    (∀ u, Fits r n s m u → ljB p_gcd [o0, some (.int r), some (.int n), some (.int s), some (.int m), o5] μ = some (.nx [o0, some (.int u), some (.int (lc n m)), some (.int s), some (.int m), some (.int (Int.gcd n m : Int))] μ)) ∧
    ((¬ ∃ u, Fits r n s m u) → ljB p_gcd [o0, some (.int r), some (.int n), some (.int s), some (.int m), o5] μ = some (.rt .non μ)) := by
  have hg := gcd_pos (m := m) hn
  have g := gcd_ok n m μ
  have t1 := test_g (m := m) (t := s - r) hn μ
  have hgn : (Int.gcd n m : Int) ≤ n := Int.le_of_dvd hn (Int.gcd_dvd_left n m)
  constructor
  · intro u hu
    have hz := Int.emod_eq_zero_of_dvd hu.gcd
    have n1 : n / (Int.gcd n m : Int) ≤ n := Int.ediv_le_self _ (by omega)
    have n0 : 0 ≤ n / (Int.gcd n m : Int) := Int.ediv_nonneg (by omega) (by omega)
    have d1 : f_fdiv (.int n) (.int (Int.gcd n m : Int)) μ = some (.int (n / (Int.gcd n m : Int)), μ) := fdiv_ii hg (by omega)
    have m1 : f_mul (.int (n / (Int.gcd n m : Int))) (.int m) μ = some (.int (lc n m), μ) := mul_ii (okMul_small (by omega) (by omega))
    -- some number of turns reaches a common rest
    obtain ⟨t, ht⟩ : ∃ t : Nat, m ∣ r + n * t - s := by
      obtain ⟨k, hk⟩ := hu.2.2.1
      refine ⟨(k % m).toNat, ?_⟩
      have h0 : 0 ≤ k % m := Int.emod_nonneg _ (by omega)
      rw [Int.toNat_of_nonneg h0]
      have e1 : m ∣ k - k % m := Int.dvd_self_sub_emod
      have e2 : m ∣ u - s - n * (k - k % m) := Int.dvd_sub hu.2.2.2 (Int.dvd_trans e1 (Int.dvd_mul_left _ _))
      rw [Int.mul_sub, ← hk] at e2
      rw [show r + n * (k % m) - s = u - s - (u - r - n * (k % m)) by omega]
      exact e2
    obtain ⟨r', a, b, e⟩ := lj_while (r := r) hm μ o0 (some (.int (Int.gcd n m : Int))) t r ht
    have hW := lc_pos hn hm
    have hu2 : r' % lc n m = u := by
      refine Fits.uniq hn ⟨Int.emod_nonneg _ (by omega), Int.emod_lt_of_pos _ hW, ?_, ?_⟩ hu
      · have h1 : n ∣ r' - r' % lc n m := Int.dvd_trans lc_left Int.dvd_self_sub_emod
        have := Int.dvd_sub a h1
        rw [show r' - r - (r' - r' % lc n m) = r' % lc n m - r by omega] at this
        exact this
      · have h1 : m ∣ r' - r' % lc n m := Int.dvd_trans lc_right Int.dvd_self_sub_emod
        have := Int.dvd_sub b h1
        rw [show r' - s - (r' - r' % lc n m) = r' % lc n m - s by omega] at this
        exact this
    have m2 : f_mod (.int r') (.int (lc n m)) μ = some (.int u, μ) := by rw [← hu2]; exact mod_ii hW
    (apply ev_seq; case' ha => ((first | apply ev_set | apply ev_par | apply ev_par3 | apply ev_asg | apply ev_ex | apply ev_ret | exact ev_sNil | apply ev_aug) <;> (repeat' first | exact ev_var rfl | exact ev_K | exact g | exact ev_aNil | apply ev_aCons | apply ev_d2 | apply ev_d1 | apply ev_dN | apply ev_dCall | apply ev_dTup | apply ev_dLst | apply ev_dLoc | apply ev_sl | exact ev_oNo | apply ev_oSo | apply ev_ch2b | apply ev_ch3b | apply ev_tB | apply ev_tTru | apply ev_tNo | apply ev_no | apply ev_dML | exact ev_tAll | apply ev_gTu | exact ev_gsN | apply ev_gsC | apply ev_gSb | apply ev_gNm | (simp only [List.length_cons, List.length_nil]; exact len_le (by decide)) | exact decide_eq_true (by omega) | exact decide_eq_false (by omega) | exact ne_t (by omega) | exact ne_f (by omega) | apply lt_ii | apply le_ii | apply gt_ii | apply ge_ii | apply eq_ii | apply ne_ii | apply eq_ss | apply mul_ii | exact okMul_small (by omega) (by omega) | exact mod_ii (by omega) | exact fdiv_ii (by omega) (by omega) | exact mod_ni (by omega) | exact fdiv_ni (by omega) (by omega) | exact pow_ii (by omega) (by omega) (by omega) | apply ix_tup | apply ix_lst | (simp only [List.set_cons_succ, List.set_cons_zero]; rfl) | exact rfl)))
    apply ev_seq
    case ha =>
      apply ev_sIf_f
      case hc => (repeat' first | exact ev_var rfl | exact ev_K | exact t1 | exact ne_f hz | exact ev_aNil | apply ev_aCons | apply ev_d2 | apply ev_d1 | apply ev_dN | apply ev_dCall | apply ev_dTup | apply ev_dLst | apply ev_dLoc | apply ev_sl | exact ev_oNo | apply ev_oSo | apply ev_ch2b | apply ev_ch3b | apply ev_tB | apply ev_tTru | apply ev_tNo | apply ev_no | apply ev_dML | exact ev_tAll | apply ev_gTu | exact ev_gsN | apply ev_gsC | apply ev_gSb | apply ev_gNm | (simp only [List.length_cons, List.length_nil]; exact len_le (by decide)) | exact decide_eq_true (by omega) | exact decide_eq_false (by omega) | exact ne_t (by omega) | exact ne_f (by omega) | apply lt_ii | apply le_ii | apply gt_ii | apply ge_ii | apply eq_ii | apply ne_ii | apply eq_ss | apply mul_ii | exact okMul_small (by omega) (by omega) | exact mod_ii (by omega) | exact fdiv_ii (by omega) (by omega) | exact mod_ni (by omega) | exact fdiv_ni (by omega) (by omega) | exact pow_ii (by omega) (by omega) (by omega) | apply ix_tup | apply ix_lst | (simp only [List.set_cons_succ, List.set_cons_zero]; rfl) | exact rfl)
      exact ev_sNil
    apply ev_seq e
    (apply ev_seq; case' ha => ((first | apply ev_set | apply ev_par | apply ev_par3 | apply ev_asg | apply ev_ex | apply ev_ret | exact ev_sNil | apply ev_aug) <;> (repeat' first | exact ev_var rfl | exact ev_K | exact d1 | exact m1 | exact ev_aNil | apply ev_aCons | apply ev_d2 | apply ev_d1 | apply ev_dN | apply ev_dCall | apply ev_dTup | apply ev_dLst | apply ev_dLoc | apply ev_sl | exact ev_oNo | apply ev_oSo | apply ev_ch2b | apply ev_ch3b | apply ev_tB | apply ev_tTru | apply ev_tNo | apply ev_no | apply ev_dML | exact ev_tAll | apply ev_gTu | exact ev_gsN | apply ev_gsC | apply ev_gSb | apply ev_gNm | (simp only [List.length_cons, List.length_nil]; exact len_le (by decide)) | exact decide_eq_true (by omega) | exact decide_eq_false (by omega) | exact ne_t (by omega) | exact ne_f (by omega) | apply lt_ii | apply le_ii | apply gt_ii | apply ge_ii | apply eq_ii | apply ne_ii | apply eq_ss | apply mul_ii | exact okMul_small (by omega) (by omega) | exact mod_ii (by omega) | exact fdiv_ii (by omega) (by omega) | exact mod_ni (by omega) | exact fdiv_ni (by omega) (by omega) | exact pow_ii (by omega) (by omega) (by omega) | apply ix_tup | apply ix_lst | (simp only [List.set_cons_succ, List.set_cons_zero]; rfl) | exact rfl)))
    ((first | apply ev_set | apply ev_par | apply ev_par3 | apply ev_asg | apply ev_ex | apply ev_ret | exact ev_sNil | apply ev_aug) <;> (repeat' first | exact ev_var rfl | exact ev_K | exact m2 | exact ev_aNil | apply ev_aCons | apply ev_d2 | apply ev_d1 | apply ev_dN | apply ev_dCall | apply ev_dTup | apply ev_dLst | apply ev_dLoc | apply ev_sl | exact ev_oNo | apply ev_oSo | apply ev_ch2b | apply ev_ch3b | apply ev_tB | apply ev_tTru | apply ev_tNo | apply ev_no | apply ev_dML | exact ev_tAll | apply ev_gTu | exact ev_gsN | apply ev_gsC | apply ev_gSb | apply ev_gNm | (simp only [List.length_cons, List.length_nil]; exact len_le (by decide)) | exact decide_eq_true (by omega) | exact decide_eq_false (by omega) | exact ne_t (by omega) | exact ne_f (by omega) | apply lt_ii | apply le_ii | apply gt_ii | apply ge_ii | apply eq_ii | apply ne_ii | apply eq_ss | apply mul_ii | exact okMul_small (by omega) (by omega) | exact mod_ii (by omega) | exact fdiv_ii (by omega) (by omega) | exact mod_ni (by omega) | exact fdiv_ni (by omega) (by omega) | exact pow_ii (by omega) (by omega) (by omega) | apply ix_tup | apply ix_lst | (simp only [List.set_cons_succ, List.set_cons_zero]; rfl) | exact rfl))
  · intro hu
    have hz : (s - r) % (Int.gcd n m : Int) ≠ 0 := fun z => hu ((fits_iff hn hm).mpr (Int.dvd_of_emod_eq_zero z))
    (apply ev_seq; case' ha => ((first | apply ev_set | apply ev_par | apply ev_par3 | apply ev_asg | apply ev_ex | apply ev_ret | exact ev_sNil | apply ev_aug) <;> (repeat' first | exact ev_var rfl | exact ev_K | exact g | exact ev_aNil | apply ev_aCons | apply ev_d2 | apply ev_d1 | apply ev_dN | apply ev_dCall | apply ev_dTup | apply ev_dLst | apply ev_dLoc | apply ev_sl | exact ev_oNo | apply ev_oSo | apply ev_ch2b | apply ev_ch3b | apply ev_tB | apply ev_tTru | apply ev_tNo | apply ev_no | apply ev_dML | exact ev_tAll | apply ev_gTu | exact ev_gsN | apply ev_gsC | apply ev_gSb | apply ev_gNm | (simp only [List.length_cons, List.length_nil]; exact len_le (by decide)) | exact decide_eq_true (by omega) | exact decide_eq_false (by omega) | exact ne_t (by omega) | exact ne_f (by omega) | apply lt_ii | apply le_ii | apply gt_ii | apply ge_ii | apply eq_ii | apply ne_ii | apply eq_ss | apply mul_ii | exact okMul_small (by omega) (by omega) | exact mod_ii (by omega) | exact fdiv_ii (by omega) (by omega) | exact mod_ni (by omega) | exact fdiv_ni (by omega) (by omega) | exact pow_ii (by omega) (by omega) (by omega) | apply ix_tup | apply ix_lst | (simp only [List.set_cons_succ, List.set_cons_zero]; rfl) | exact rfl)))
    apply ev_seq_rt
    apply ev_sIf_t
    case hc => (repeat' first | exact ev_var rfl | exact ev_K | exact t1 | exact ne_t hz | exact ev_aNil | apply ev_aCons | apply ev_d2 | apply ev_d1 | apply ev_dN | apply ev_dCall | apply ev_dTup | apply ev_dLst | apply ev_dLoc | apply ev_sl | exact ev_oNo | apply ev_oSo | apply ev_ch2b | apply ev_ch3b | apply ev_tB | apply ev_tTru | apply ev_tNo | apply ev_no | apply ev_dML | exact ev_tAll | apply ev_gTu | exact ev_gsN | apply ev_gsC | apply ev_gSb | apply ev_gNm | (simp only [List.length_cons, List.length_nil]; exact len_le (by decide)) | exact decide_eq_true (by omega) | exact decide_eq_false (by omega) | exact ne_t (by omega) | exact ne_f (by omega) | apply lt_ii | apply le_ii | apply gt_ii | apply ge_ii | apply eq_ii | apply ne_ii | apply eq_ss | apply mul_ii | exact okMul_small (by omega) (by omega) | exact mod_ii (by omega) | exact fdiv_ii (by omega) (by omega) | exact mod_ni (by omega) | exact fdiv_ni (by omega) (by omega) | exact pow_ii (by omega) (by omega) (by omega) | apply ix_tup | apply ix_lst | (simp only [List.set_cons_succ, List.set_cons_zero]; rfl) | exact rfl)
    ((first | apply ev_set | apply ev_par | apply ev_par3 | apply ev_asg | apply ev_ex | apply ev_ret | exact ev_sNil | apply ev_aug) <;> (repeat' first | exact ev_var rfl | exact ev_K | exact ev_aNil | apply ev_aCons | apply ev_d2 | apply ev_d1 | apply ev_dN | apply ev_dCall | apply ev_dTup | apply ev_dLst | apply ev_dLoc | apply ev_sl | exact ev_oNo | apply ev_oSo | apply ev_ch2b | apply ev_ch3b | apply ev_tB | apply ev_tTru | apply ev_tNo | apply ev_no | apply ev_dML | exact ev_tAll | apply ev_gTu | exact ev_gsN | apply ev_gsC | apply ev_gSb | apply ev_gNm | (simp only [List.length_cons, List.length_nil]; exact len_le (by decide)) | exact decide_eq_true (by omega) | exact decide_eq_false (by omega) | exact ne_t (by omega) | exact ne_f (by omega) | apply lt_ii | apply le_ii | apply gt_ii | apply ge_ii | apply eq_ii | apply ne_ii | apply eq_ss | apply mul_ii | exact okMul_small (by omega) (by omega) | exact mod_ii (by omega) | exact fdiv_ii (by omega) (by omega) | exact mod_ni (by omega) | exact fdiv_ni (by omega) (by omega) | exact pow_ii (by omega) (by omega) (by omega) | apply ix_tup | apply ix_lst | (simp only [List.set_cons_succ, List.set_cons_zero]; rfl) | exact rfl))
theorem lj_fold (μ : Sto) (o0 : Option PV) : ∀ (ps : List (Int × Int)) (r n : Int) (o3 o4 o5 : Option PV), (∀ p ∈ ps, p.1.natAbs < 2 ^ 40 ∧ 0 < p.2 ∧ p.2 ≤ 60) → 0 < n → n * 60 ^ ps.length ≤ 2 ^ 44 →
    (∀ R N, foldJ ps (r, n) = some (R, N) → ∃ o3' o4' o5', forL (gTu 2 (gsCons (gNm 3) (gsCons (gNm 4) gsNil))) (ljB p_gcd) [] (ps.map pr) [o0, some (.int r), some (.int n), o3, o4, o5] μ = some (.nx [o0, some (.int R), some (.int N), o3', o4', o5'] μ)) ∧
    (foldJ ps (r, n) = none → forL (gTu 2 (gsCons (gNm 3) (gsCons (gNm 4) gsNil))) (ljB p_gcd) [] (ps.map pr) [o0, some (.int r), some (.int n), o3, o4, o5] μ = some (.rt .non μ))
  | [], r, n, o3, o4, o5, _, _, _ => ⟨fun R N h => by cases h; exact ⟨o3, o4, o5, for_nil⟩, fun h => (nomatch h)⟩
  | q :: ps, r, n, o3, o4, o5, hq, hn, hb => by
    obtain ⟨q1, q2, q3⟩ := hq q List.mem_cons_self
    have hb' : n * 60 * 60 ^ ps.length ≤ 2 ^ 44 := by
      rw [List.length_cons, Int.pow_succ] at hb
      rw [show n * 60 * 60 ^ ps.length = n * (60 ^ ps.length * 60) by ac_rfl]
      exact hb
    have hp : (1 : Int) ≤ 60 ^ ps.length := by
      have : (0 : Int) < 60 ^ ps.length := Int.pow_pos (by decide)
      omega
    have hn2 : n * 60 ≤ 2 ^ 44 := by
      have : n * 60 * 1 ≤ n * 60 * 60 ^ ps.length := Int.mul_le_mul_of_nonneg_left hp (by omega)
      omega
    have T := lj_turn (r := r) (s := q.1) hn (by omega) q2 (by omega) μ o0 o5
    by_cases hu : ∃ u, Fits r n q.1 q.2 u
    · obtain ⟨u, hu⟩ := hu
      rw [foldJ_yes hn hu]
      have hlp := lc_pos hn q2
      have hl : lc n q.2 ≤ n * 60 := Int.le_trans (lc_le hn q2) (Int.mul_le_mul_of_nonneg_left q3 (by omega))
      have hl2 : lc n q.2 * 60 ^ ps.length ≤ 2 ^ 44 := Int.le_trans (Int.mul_le_mul_of_nonneg_right hl (by omega)) hb'
      have ih := lj_fold μ o0 ps u (lc n q.2) (some (.int q.1)) (some (.int q.2)) (some (.int (Int.gcd n q.2 : Int))) (fun z hz => hq z (List.mem_cons_of_mem _ hz)) hlp hl2
      constructor
      · intro R N h
        obtain ⟨a, b, c, h2⟩ := ih.1 R N h
        exact ⟨a, b, c, for_step (ρ1 := [o0, some (.int r), some (.int n), some (.int q.1), some (.int q.2), o5]) (μ1 := μ) rfl (T.1 u hu) chk_nil h2⟩
      · intro h
        exact for_step (ρ1 := [o0, some (.int r), some (.int n), some (.int q.1), some (.int q.2), o5]) (μ1 := μ) rfl (T.1 u hu) chk_nil (ih.2 h)
    · rw [foldJ_no hu]
      constructor
      · intro R N h
        cases h
      · intro _
        exact for_rt (ρ1 := [o0, some (.int r), some (.int n), some (.int q.1), some (.int q.2), o5]) (μ1 := μ) rfl (T.2 hu)
theorem pow60 {ps : List (Int × Int)} (h1 : ps.length ≤ 5) : (1 : Int) * 60 ^ ps.length ≤ 2 ^ 44 := by
  have : (60 : Int) ^ ps.length ≤ 60 ^ 5 := by
    rcases (show ps.length = 0 ∨ ps.length = 1 ∨ ps.length = 2 ∨ ps.length = 3 ∨ ps.length = 4 ∨ ps.length = 5 by omega) with e | e | e | e | e | e <;> rw [e] <;> decide
  omega
def foldV : Option (Int × Int) → PV
  | some (R, N) => .tup [.int R, .int N]
  | none => .non
theorem lj_ok {ps : List (Int × Int)} (ok : PsOk ps) (μ : Sto) : p_lj [prs ps] μ = some (foldV (foldJ ps (0, 1)), μ) := by
  have L := lj_fold μ (some (prs ps)) ps 0 1 none none none ok.ok (by decide) (pow60 ok.len)
  refine runF_rt (ρ := [some (prs ps), none, none, none, none, none]) rfl ?_
  (apply ev_seq; case' ha => ((first | apply ev_set | apply ev_par | apply ev_par3 | apply ev_asg | apply ev_ex | apply ev_ret | exact ev_sNil | apply ev_aug) <;> (repeat' first | exact ev_var rfl | exact ev_K | exact ev_aNil | apply ev_aCons | apply ev_d2 | apply ev_d1 | apply ev_dN | apply ev_dCall | apply ev_dTup | apply ev_dLst | apply ev_dLoc | apply ev_sl | exact ev_oNo | apply ev_oSo | apply ev_ch2b | apply ev_ch3b | apply ev_tB | apply ev_tTru | apply ev_tNo | apply ev_no | apply ev_dML | exact ev_tAll | apply ev_gTu | exact ev_gsN | apply ev_gsC | apply ev_gSb | apply ev_gNm | (simp only [List.length_cons, List.length_nil]; exact len_le (by decide)) | exact decide_eq_true (by omega) | exact decide_eq_false (by omega) | exact ne_t (by omega) | exact ne_f (by omega) | apply lt_ii | apply le_ii | apply gt_ii | apply ge_ii | apply eq_ii | apply ne_ii | apply eq_ss | apply mul_ii | exact okMul_small (by omega) (by omega) | exact mod_ii (by omega) | exact fdiv_ii (by omega) (by omega) | exact mod_ni (by omega) | exact fdiv_ni (by omega) (by omega) | exact pow_ii (by omega) (by omega) (by omega) | apply ix_tup | apply ix_lst | (simp only [List.set_cons_succ, List.set_cons_zero]; rfl) | exact rfl)))
  cases h : foldJ ps (0, 1) with
  | none => exact ev_seq_rt (ev_for (it_tup (xs := ps.map pr) rfl) (L.2 h))
  | some st =>
    obtain ⟨R, N⟩ := st
    obtain ⟨a, b, c, h2⟩ := L.1 R N h
    apply ev_seq (ev_for (it_tup (xs := ps.map pr) rfl) h2)
    ((first | apply ev_set | apply ev_par | apply ev_par3 | apply ev_asg | apply ev_ex | apply ev_ret | exact ev_sNil | apply ev_aug) <;> (repeat' first | exact ev_var rfl | exact ev_K | exact ev_aNil | apply ev_aCons | apply ev_d2 | apply ev_d1 | apply ev_dN | apply ev_dCall | apply ev_dTup | apply ev_dLst | apply ev_dLoc | apply ev_sl | exact ev_oNo | apply ev_oSo | apply ev_ch2b | apply ev_ch3b | apply ev_tB | apply ev_tTru | apply ev_tNo | apply ev_no | apply ev_dML | exact ev_tAll | apply ev_gTu | exact ev_gsN | apply ev_gsC | apply ev_gSb | apply ev_gNm | (simp only [List.length_cons, List.length_nil]; exact len_le (by decide)) | exact decide_eq_true (by omega) | exact decide_eq_false (by omega) | exact ne_t (by omega) | exact ne_f (by omega) | apply lt_ii | apply le_ii | apply gt_ii | apply ge_ii | apply eq_ii | apply ne_ii | apply eq_ss | apply mul_ii | exact okMul_small (by omega) (by omega) | exact mod_ii (by omega) | exact fdiv_ii (by omega) (by omega) | exact mod_ni (by omega) | exact fdiv_ni (by omega) (by omega) | exact pow_ii (by omega) (by omega) (by omega) | apply ix_tup | apply ix_lst | (simp only [List.set_cons_succ, List.set_cons_zero]; rfl) | exact rfl))
end K10

/-! K10d: apart, judges, drawn integers. -/
namespace K10
open PySem PySem.Spec PyProof.Rows L2 Fd Nm
theorem snoc_get {μ : Sto} {o : Ob} : (μ ++ [o])[μ.length]? = some o := List.getElem?_concat_length
theorem snoc_set {μ : Sto} {o o' : Ob} : (μ ++ [o]).set μ.length o' = μ ++ [o'] := by
  rw [List.set_append_right _ _ (Nat.le_refl _), Nat.sub_self]; rfl
theorem app_snoc {μ : Sto} {xs : List PV} {y : PV} (h : xs.length < 1000) : f_app (.loc μ.length) [y] (μ ++ [.lst xs]) = some (.non, μ ++ [.lst (xs ++ [y])]) := by
  show (match (μ ++ [Ob.lst xs])[μ.length]? with | some (.lst zs) => _ | _ => _) = _
  rw [snoc_get]
  show (if xs.length < sizeLine then _ else _) = _
  rw [if_pos (small1000 (Nat.le_of_lt h)), snoc_set]
def apT (p : Nat × Nat) : PV := .tup [.int (p.1 : Int), .int (p.2 : Int)]
def apB (f : Fn) : DenS := (sIf (tB1 (d2 f_ne (d2 f_mod (d2 f_sub (d2 f_ix (d2 f_ix (cVar 0) (cVar 3)) (cK (.int 0))) (d2 f_ix (d2 f_ix (cVar 0) (cVar 2)) (cK (.int 0)))) (dCall 2 f (aCons (d2 f_ix (d2 f_ix (cVar 0) (cVar 3)) (cK (.int 1))) (aCons (d2 f_ix (d2 f_ix (cVar 0) (cVar 2)) (cK (.int 1))) aNil)))) (cK (.int 0)))) (sEx (dML f_app (cVar 1) (aCons (dTup (aCons (cVar 2) (aCons (cVar 3) aNil))) aNil))) sNil)
theorem ap_inner {ps : List (Int × Int)} (ok : PsOk ps) {i : Nat} (hi : i < ps.length) (μ : Sto) : ∀ (js : List Nat) (acc : List PV) (oj : Option PV), (∀ j ∈ js, j < ps.length) → acc.length + js.length ≤ 900 →
    ∃ oj', forL (gNm 3) (apB p_gcd) [] (js.map fun (j : Nat) => PV.int (j : Int)) [some (prs ps), some (.loc μ.length), some (.int (i : Int)), oj] (μ ++ [.lst acc]) =
      some (.nx [some (prs ps), some (.loc μ.length), some (.int (i : Int)), oj'] (μ ++ [.lst (acc ++ ((js.filter (apJ ps ps[i])).map fun j => (i, j)).map apT)]))
  | [], acc, oj, _, _ => ⟨oj, by rw [show ([] : List Nat).map (fun (j : Nat) => PV.int (j : Int)) = [] from rfl, for_nil]; simp⟩
  | j :: js, acc, oj, hj, hl => by
    have hj0 := hj j List.mem_cons_self
    have hl' : acc.length + (js.length + 1) ≤ 900 := hl
    have i1 := ix_prs hi (μ := μ ++ [.lst acc])
    have j1 := ix_prs hj0 (μ := μ ++ [.lst acc])
    have p1 := (ok.ok ps[j] (List.getElem_mem hj0)).2.1
    have g := gcd_ok ps[j].2 ps[i].2 (μ ++ [.lst acc])
    have t1 := test_g (m := ps[i].2) (t := ps[j].1 - ps[i].1) p1 (μ ++ [.lst acc])
    have gj : ps[j]? = some ps[j] := List.getElem?_eq_getElem hj0
    cases hap : ap ps[i] ps[j] with
    | true =>
      have hz : (ps[j].1 - ps[i].1) % (Int.gcd ps[j].2 ps[i].2 : Int) ≠ 0 := fun z => by
        have : ap ps[j] ps[i] = false := ap_iff.mpr (Int.dvd_of_emod_eq_zero z)
        rw [ap_comm, hap] at this
        cases this
      have hf : ((j :: js).filter (apJ ps ps[i])) = j :: (js.filter (apJ ps ps[i])) := by
        rw [List.filter_cons_of_pos]
        unfold apJ
        rw [gj]
        exact hap
      obtain ⟨oj', e⟩ := ap_inner ok hi μ js (acc ++ [apT (i, j)]) (some (.int (j : Int))) (fun z hz => hj z (List.mem_cons_of_mem _ hz)) (by rw [List.length_append]; simp only [List.length_cons, List.length_nil]; omega)
      refine ⟨oj', ?_⟩
      rw [hf]
      have hc : acc ++ [apT (i, j)] ++ ((js.filter (apJ ps ps[i])).map fun j => (i, j)).map apT = acc ++ ((j :: (js.filter (apJ ps ps[i]))).map fun j => (i, j)).map apT := by
        simp
      rw [hc] at e
      refine for_step (ρ1 := [some (prs ps), some (.loc μ.length), some (.int (i : Int)), some (.int (j : Int))]) (μ1 := μ ++ [.lst acc]) rfl ?_ chk_nil e
      apply ev_sIf_t
      case hc => (repeat' first | exact ev_var rfl | exact ev_K | exact i1 | exact j1 | exact ix_p0 | exact ix_p1 | exact g | exact t1 | exact ne_t hz | exact ev_aNil | apply ev_aCons | apply ev_d2 | apply ev_d1 | apply ev_dN | apply ev_dCall | apply ev_dTup | apply ev_dLst | apply ev_dLoc | apply ev_sl | exact ev_oNo | apply ev_oSo | apply ev_ch2b | apply ev_ch3b | apply ev_tB | apply ev_tTru | apply ev_tNo | apply ev_no | apply ev_dML | exact ev_tAll | apply ev_gTu | exact ev_gsN | apply ev_gsC | apply ev_gSb | apply ev_gNm | (simp only [List.length_cons, List.length_nil]; exact len_le (by decide)) | exact decide_eq_true (by omega) | exact decide_eq_false (by omega) | exact ne_t (by omega) | exact ne_f (by omega) | apply lt_ii | apply le_ii | apply gt_ii | apply ge_ii | apply eq_ii | apply ne_ii | apply eq_ss | apply mul_ii | exact okMul_small (by omega) (by omega) | exact mod_ii (by omega) | exact fdiv_ii (by omega) (by omega) | exact mod_ni (by omega) | exact fdiv_ni (by omega) (by omega) | exact pow_ii (by omega) (by omega) (by omega) | apply ix_tup | apply ix_lst | (simp only [List.set_cons_succ, List.set_cons_zero]; rfl) | exact rfl)
      have a1 : f_app (.loc μ.length) [apT (i, j)] (μ ++ [.lst acc]) = some (.non, μ ++ [.lst (acc ++ [apT (i, j)])]) := app_snoc (by omega)
      have a2 : isLs (μ ++ [.lst acc]) (.loc μ.length) = true := by
        show (match (μ ++ [Ob.lst acc])[μ.length]? with | some (.lst _) => true | _ => false) = true
        rw [snoc_get]
      ((first | apply ev_set | apply ev_par | apply ev_par3 | apply ev_asg | apply ev_ex | apply ev_ret | exact ev_sNil | apply ev_aug) <;> (repeat' first | exact ev_var rfl | exact ev_K | exact a1 | exact a2 | exact ev_aNil | apply ev_aCons | apply ev_d2 | apply ev_d1 | apply ev_dN | apply ev_dCall | apply ev_dTup | apply ev_dLst | apply ev_dLoc | apply ev_sl | exact ev_oNo | apply ev_oSo | apply ev_ch2b | apply ev_ch3b | apply ev_tB | apply ev_tTru | apply ev_tNo | apply ev_no | apply ev_dML | exact ev_tAll | apply ev_gTu | exact ev_gsN | apply ev_gsC | apply ev_gSb | apply ev_gNm | (simp only [List.length_cons, List.length_nil]; exact len_le (by decide)) | exact decide_eq_true (by omega) | exact decide_eq_false (by omega) | exact ne_t (by omega) | exact ne_f (by omega) | apply lt_ii | apply le_ii | apply gt_ii | apply ge_ii | apply eq_ii | apply ne_ii | apply eq_ss | apply mul_ii | exact okMul_small (by omega) (by omega) | exact mod_ii (by omega) | exact fdiv_ii (by omega) (by omega) | exact mod_ni (by omega) | exact fdiv_ni (by omega) (by omega) | exact pow_ii (by omega) (by omega) (by omega) | apply ix_tup | apply ix_lst | (simp only [List.set_cons_succ, List.set_cons_zero]; rfl) | exact rfl))
    | false =>
      have hz : (ps[j].1 - ps[i].1) % (Int.gcd ps[j].2 ps[i].2 : Int) = 0 := by
        rw [ap_comm] at hap
        exact Int.emod_eq_zero_of_dvd (ap_iff.mp hap)
      have hf : ((j :: js).filter (apJ ps ps[i])) = (js.filter (apJ ps ps[i])) := by
        rw [List.filter_cons_of_neg]
        unfold apJ
        rw [gj]
        show ¬ ap ps[i] ps[j] = true
        rw [hap]
        exact Bool.false_ne_true
      obtain ⟨oj', e⟩ := ap_inner ok hi μ js acc (some (.int (j : Int))) (fun z hz => hj z (List.mem_cons_of_mem _ hz)) (by omega)
      refine ⟨oj', ?_⟩
      rw [hf]
      refine for_step (ρ1 := [some (prs ps), some (.loc μ.length), some (.int (i : Int)), some (.int (j : Int))]) (μ1 := μ ++ [.lst acc]) rfl ?_ chk_nil e
      apply ev_sIf_f
      case hc => (repeat' first | exact ev_var rfl | exact ev_K | exact i1 | exact j1 | exact ix_p0 | exact ix_p1 | exact g | exact t1 | exact ne_f hz | exact ev_aNil | apply ev_aCons | apply ev_d2 | apply ev_d1 | apply ev_dN | apply ev_dCall | apply ev_dTup | apply ev_dLst | apply ev_dLoc | apply ev_sl | exact ev_oNo | apply ev_oSo | apply ev_ch2b | apply ev_ch3b | apply ev_tB | apply ev_tTru | apply ev_tNo | apply ev_no | apply ev_dML | exact ev_tAll | apply ev_gTu | exact ev_gsN | apply ev_gsC | apply ev_gSb | apply ev_gNm | (simp only [List.length_cons, List.length_nil]; exact len_le (by decide)) | exact decide_eq_true (by omega) | exact decide_eq_false (by omega) | exact ne_t (by omega) | exact ne_f (by omega) | apply lt_ii | apply le_ii | apply gt_ii | apply ge_ii | apply eq_ii | apply ne_ii | apply eq_ss | apply mul_ii | exact okMul_small (by omega) (by omega) | exact mod_ii (by omega) | exact fdiv_ii (by omega) (by omega) | exact mod_ni (by omega) | exact fdiv_ni (by omega) (by omega) | exact pow_ii (by omega) (by omega) (by omega) | apply ix_tup | apply ix_lst | (simp only [List.set_cons_succ, List.set_cons_zero]; rfl) | exact rfl)
      exact ev_sNil
theorem ap_outer {ps : List (Int × Int)} (ok : PsOk ps) (μ : Sto) : ∀ (is : List Nat) (acc : List PV) (oi oj : Option PV), (∀ i ∈ is, i < ps.length) → acc.length + 5 * is.length ≤ 900 →
    ∃ oi' oj', forL (gNm 2) (sFor (itRg1 (aCons (cVar 2) aNil)) (gNm 3) (apB p_gcd)) [] (is.map fun (i : Nat) => PV.int (i : Int)) [some (prs ps), some (.loc μ.length), oi, oj] (μ ++ [.lst acc]) =
      some (.nx [some (prs ps), some (.loc μ.length), oi', oj'] (μ ++ [.lst (acc ++ (is.flatMap (rows ps)).map apT)]))
  | [], acc, oi, oj, _, _ => ⟨oi, oj, by rw [show ([] : List Nat).map (fun (j : Nat) => PV.int (j : Int)) = [] from rfl, for_nil]; simp⟩
  | i :: is, acc, oi, oj, hi, hl => by
    have hi0 := hi i List.mem_cons_self
    have hl' : acc.length + 5 * (is.length + 1) ≤ 900 := hl
    have h5 := ok.len
    have gi : ps[i]? = some ps[i] := List.getElem?_eq_getElem hi0
    have hr : rows ps i = ((List.range i).filter (apJ ps ps[i])).map fun j => (i, j) := by
      unfold rows
      simp only [gi]
    have it : itRg1 (aCons (cVar 2) aNil) [some (prs ps), some (.loc μ.length), some (.int (i : Int)), oj] (μ ++ [.lst acc]) = some (((List.range i).map fun (j : Nat) => PV.int (j : Int), []), μ ++ [.lst acc]) := by
      rw [← rg0]
      exact it_rg1 (j := (i : Int)) rfl (rgIn_of (by omega) (by omega)) (by omega)
    have hlr : (rows ps i).length ≤ 5 := by
      rw [hr, List.length_map]
      exact Nat.le_trans (List.length_filter_le _ _) (by rw [List.length_range]; omega)
    obtain ⟨oj', e⟩ := ap_inner ok hi0 μ (List.range i) acc oj (fun j hj => by have := List.mem_range.mp hj; omega) (by rw [List.length_range]; omega)
    rw [← hr] at e
    obtain ⟨a, b, e2⟩ := ap_outer ok μ is (acc ++ (rows ps i).map apT) (some (.int (i : Int))) oj' (fun z hz => hi z (List.mem_cons_of_mem _ hz)) (by rw [List.length_append, List.length_map]; omega)
    refine ⟨a, b, ?_⟩
    rw [List.flatMap_cons, List.map_append, ← List.append_assoc]
    refine for_step (ρ1 := [some (prs ps), some (.loc μ.length), some (.int (i : Int)), oj]) (μ1 := μ ++ [.lst acc]) (ρ' := [some (prs ps), some (.loc μ.length), some (.int (i : Int)), oj']) (μ' := μ ++ [.lst (acc ++ (rows ps i).map apT)]) rfl ?_ chk_nil e2
    refine ev_for it ?_
    exact e
theorem okLs_of {n : Nat} : ∀ {xs : List PV}, (∀ x ∈ xs, okL n x = true) → okLs n xs = true
  | [], _ => rfl
  | x :: xs, h => by
    show (okL n x && okLs n xs) = true
    rw [h x List.mem_cons_self, okLs_of fun y hy => h y (List.mem_cons_of_mem _ hy)]
    rfl
theorem ap_ok {ps : List (Int × Int)} (ok : PsOk ps) (μ : Sto) : p_ap [prs ps] μ = some (.lst ((AL ps).map apT), μ) := by
  have hl := ok.len
  obtain ⟨a, b, e⟩ := ap_outer ok μ (List.range ps.length) [] none none (fun i hi => List.mem_range.mp hi) (by rw [List.length_range, List.length_nil]; omega)
  have it : itRg1 (aCons (dN f_len (aCons (cVar 0) aNil)) aNil) [some (prs ps), some (.loc μ.length), none, none] (μ ++ [.lst []]) = some (((List.range ps.length).map fun (j : Nat) => PV.int (j : Int), []), μ ++ [.lst []]) := by
    rw [← rg0]
    refine it_rg1 (j := (ps.length : Int)) ?_ (rgIn_of (by omega) (by omega)) (by omega)
    have : f_len [prs ps] (μ ++ [.lst []]) = some (.int (ps.length : Int), μ ++ [.lst []]) := by
      show some (PV.int ((ps.map pr).length : Int), _) = _
      rw [List.length_map]
    (repeat' first | exact ev_var rfl | exact ev_K | exact this | exact ev_aNil | apply ev_aCons | apply ev_d2 | apply ev_d1 | apply ev_dN | apply ev_dCall | apply ev_dTup | apply ev_dLst | apply ev_dLoc | apply ev_sl | exact ev_oNo | apply ev_oSo | apply ev_ch2b | apply ev_ch3b | apply ev_tB | apply ev_tTru | apply ev_tNo | apply ev_no | apply ev_dML | exact ev_tAll | apply ev_gTu | exact ev_gsN | apply ev_gsC | apply ev_gSb | apply ev_gNm | (simp only [List.length_cons, List.length_nil]; exact len_le (by decide)) | exact decide_eq_true (by omega) | exact decide_eq_false (by omega) | exact ne_t (by omega) | exact ne_f (by omega) | apply lt_ii | apply le_ii | apply gt_ii | apply ge_ii | apply eq_ii | apply ne_ii | apply eq_ss | apply mul_ii | exact okMul_small (by omega) (by omega) | exact mod_ii (by omega) | exact fdiv_ii (by omega) (by omega) | exact mod_ni (by omega) | exact fdiv_ni (by omega) (by omega) | exact pow_ii (by omega) (by omega) (by omega) | apply ix_tup | apply ix_lst | (simp only [List.set_cons_succ, List.set_cons_zero]; rfl) | exact rfl)
  refine runZ_rt (ρ := [some (prs ps), none, none, none]) (l := μ.length) (g := [.lst ((AL ps).map apT)]) rfl ?_ (Nat.le_refl _) snoc_get ?_
  · (apply ev_seq; case' ha => ((first | apply ev_set | apply ev_par | apply ev_par3 | apply ev_asg | apply ev_ex | apply ev_ret | exact ev_sNil | apply ev_aug) <;> (repeat' first | exact ev_var rfl | exact ev_K | exact ev_aNil | apply ev_aCons | apply ev_d2 | apply ev_d1 | apply ev_dN | apply ev_dCall | apply ev_dTup | apply ev_dLst | apply ev_dLoc | apply ev_sl | exact ev_oNo | apply ev_oSo | apply ev_ch2b | apply ev_ch3b | apply ev_tB | apply ev_tTru | apply ev_tNo | apply ev_no | apply ev_dML | exact ev_tAll | apply ev_gTu | exact ev_gsN | apply ev_gsC | apply ev_gSb | apply ev_gNm | (simp only [List.length_cons, List.length_nil]; exact len_le (by decide)) | exact decide_eq_true (by omega) | exact decide_eq_false (by omega) | exact ne_t (by omega) | exact ne_f (by omega) | apply lt_ii | apply le_ii | apply gt_ii | apply ge_ii | apply eq_ii | apply ne_ii | apply eq_ss | apply mul_ii | exact okMul_small (by omega) (by omega) | exact mod_ii (by omega) | exact fdiv_ii (by omega) (by omega) | exact mod_ni (by omega) | exact fdiv_ni (by omega) (by omega) | exact pow_ii (by omega) (by omega) (by omega) | apply ix_tup | apply ix_lst | (simp only [List.set_cons_succ, List.set_cons_zero]; rfl) | exact rfl)))
    apply ev_seq (ev_for it e)
    ((first | apply ev_set | apply ev_par | apply ev_par3 | apply ev_asg | apply ev_ex | apply ev_ret | exact ev_sNil | apply ev_aug) <;> (repeat' first | exact ev_var rfl | exact ev_K | exact ev_aNil | apply ev_aCons | apply ev_d2 | apply ev_d1 | apply ev_dN | apply ev_dCall | apply ev_dTup | apply ev_dLst | apply ev_dLoc | apply ev_sl | exact ev_oNo | apply ev_oSo | apply ev_ch2b | apply ev_ch3b | apply ev_tB | apply ev_tTru | apply ev_tNo | apply ev_no | apply ev_dML | exact ev_tAll | apply ev_gTu | exact ev_gsN | apply ev_gsC | apply ev_gSb | apply ev_gNm | (simp only [List.length_cons, List.length_nil]; exact len_le (by decide)) | exact decide_eq_true (by omega) | exact decide_eq_false (by omega) | exact ne_t (by omega) | exact ne_f (by omega) | apply lt_ii | apply le_ii | apply gt_ii | apply ge_ii | apply eq_ii | apply ne_ii | apply eq_ss | apply mul_ii | exact okMul_small (by omega) (by omega) | exact mod_ii (by omega) | exact fdiv_ii (by omega) (by omega) | exact mod_ni (by omega) | exact fdiv_ni (by omega) (by omega) | exact pow_ii (by omega) (by omega) (by omega) | apply ix_tup | apply ix_lst | (simp only [List.set_cons_succ, List.set_cons_zero]; rfl) | exact rfl))
  · exact okLs_of fun x hx => by
      obtain ⟨p, _, rfl⟩ := List.mem_map.mp hx
      rfl
/-! ### no pair apart: all can be joined -/
theorem AL_nil {ps : List (Int × Int)} (ok : PsOk ps) : AL ps = [] ↔ ∃ st, foldJ ps (0, 1) = some st := by
  rw [foldJ_iff ps [] 0 1 InvJ.nil fun q hq => (ok.ok q hq).2.1, allC_iff]
  unfold AL
  rw [List.flatMap_eq_nil_iff]
  constructor
  · intro h i hi p hp
    rw [List.nil_append] at hp
    have := h i (List.mem_range.mpr hi)
    unfold rows at this
    rw [List.getElem?_eq_getElem hi] at this
    have h2 := List.map_eq_nil_iff.mp this
    rw [List.filter_eq_nil_iff] at h2
    obtain ⟨j, hj, e⟩ := List.mem_take_iff_getElem.mp hp
    have h3 := h2 j (List.mem_range.mpr (by omega))
    unfold apJ at h3
    rw [List.getElem?_eq_getElem (by omega), e] at h3
    have h3 : ¬ ap ps[i] p = true := h3
    have h4 : Compat ps[i] p := ap_iff.mp (by cases hh : ap ps[i] p; rfl; exact absurd hh h3)
    have h5 := ap_iff.mpr h4
    rw [ap_comm] at h5
    exact ap_iff.mp h5
  · intro h i hi
    have hi := List.mem_range.mp hi
    unfold rows
    rw [List.getElem?_eq_getElem hi]
    show List.map _ (List.filter _ _) = []
    rw [List.map_eq_nil_iff, List.filter_eq_nil_iff]
    intro j hj
    have hj := List.mem_range.mp hj
    unfold apJ
    rw [List.getElem?_eq_getElem (by omega)]
    show ¬ ap ps[i] ps[j] = true
    have := h i hi ps[j] (by rw [List.nil_append]; exact List.mem_take_iff_getElem.mpr ⟨j, by omega, rfl⟩)
    rw [ap_comm, ap_iff.mpr this]
    exact Bool.false_ne_true
end K10

/-! K10e: judges, drawn integers. -/
namespace K10
open PySem PySem.Spec PyProof.Rows L2 Fd Nm
noncomputable def p_ii : Fn := runF 1 d_is_integer
noncomputable def p_judge : Fn := runF 5 (d_judge_joined p_ii p_gcd p_jr)
noncomputable def p_paper : Fn := runF 4 (d__law_is_paper p_ii p_lj p_gcd)
theorem nl {n d : Nat} {x : PV} (h : tre n x d = true) : (∀ l, x ≠ .loc l) ∧ (∀ l, x ≠ .scr l) := by
  constructor
  · intro l e; subst e; cases h
  · intro l e; subst e; cases h
theorem ii_ok {n d : Nat} {x : PV} {μ : Sto} (h : tre n x d = true) : p_ii [x] μ = some (.bl (isIntP x), μ) := isInt_ok (nl h).1 (nl h).2
theorem peqv_str {a b : Str} : peqv (.str a) (.str b) = (a == b) := rfl
theorem judges {ps : List (Int × Int)} (ok : PsOk ps) (μ : Sto) (y : PV) (d : Nat) (hd : d ≤ 60) (hy : tre 900 y d = true) : ∃ b : Bool, p_judge [prs ps, y] μ = some (.bl b, μ) ∧ p_paper [prs ps, y] μ = some (.bl b, μ) := by
  -- no tuple at all
  have flat : tTru (d1 (f_isi .tuple) (cVar 1)) [some (prs ps), some y, none, none, none] μ = some (false, μ) → tTru (d1 (f_isi .tuple) (cVar 1)) [some (prs ps), some y, none, none] μ = some (false, μ) → ∃ b : Bool, p_judge [prs ps, y] μ = some (.bl b, μ) ∧ p_paper [prs ps, y] μ = some (.bl b, μ) := fun h1 h2 => by
    refine ⟨false, ?_, ?_⟩
    · refine runF_rt (ρ := [some (prs ps), some y, none, none, none]) rfl ?_
      apply ev_seq_rt
      apply ev_sIf_t
      case hc => exact ev_tOr_t (ev_tNo h1 rfl)
      ((first | with_reducible apply ev_set | with_reducible apply ev_par | with_reducible apply ev_par3 | with_reducible apply ev_asg | with_reducible apply ev_ex | with_reducible apply ev_ret | with_reducible exact ev_sNil | (with_reducible apply ev_aug; exact rfl)) <;> (repeat' first | (with_reducible apply ev_var; exact rfl) | with_reducible exact ev_K | with_reducible exact ev_aNil | with_reducible exact ev_oNo | with_reducible exact ev_tAll | with_reducible exact ev_gsN | with_reducible apply ev_aCons | with_reducible apply ev_d2 | with_reducible apply ev_d1 | with_reducible apply ev_dN | with_reducible apply ev_dCall | with_reducible apply ev_dTup | with_reducible apply ev_dLst | with_reducible apply ev_dLoc | with_reducible apply ev_sl | with_reducible apply ev_oSo | with_reducible apply ev_ch2b | with_reducible apply ev_ch3b | with_reducible apply ev_tB | with_reducible apply ev_tTru | with_reducible apply ev_tNo | with_reducible apply ev_no | with_reducible apply ev_dML | with_reducible apply ev_gTu | with_reducible apply ev_gsC | with_reducible apply ev_gSb | with_reducible apply ev_gNm | (simp only [List.length_cons, List.length_nil]; exact len_le (by decide)) | exact decide_eq_true (by omega) | exact decide_eq_false (by omega) | exact ne_t (by omega) | exact ne_f (by omega) | with_reducible apply lt_ii | with_reducible apply le_ii | with_reducible apply gt_ii | with_reducible apply ge_ii | with_reducible apply eq_ii | with_reducible apply ne_ii | with_reducible apply eq_ss | with_reducible apply mul_ii | exact okMul_small (by omega) (by omega) | exact mod_ii (by omega) | exact fdiv_ii (by omega) (by omega) | exact mod_ni (by omega) | exact fdiv_ni (by omega) (by omega) | exact pow_ii (by omega) (by omega) (by omega) | with_reducible apply ix_tup | with_reducible apply ix_lst | (simp only [List.set_cons_succ, List.set_cons_zero]; rfl) | exact rfl))
    · refine runF_rt (ρ := [some (prs ps), some y, none, none]) rfl ?_
      apply ev_seq_rt
      apply ev_sIf_t
      case hc => exact ev_tOr_t (ev_tNo h2 rfl)
      ((first | with_reducible apply ev_set | with_reducible apply ev_par | with_reducible apply ev_par3 | with_reducible apply ev_asg | with_reducible apply ev_ex | with_reducible apply ev_ret | with_reducible exact ev_sNil | (with_reducible apply ev_aug; exact rfl)) <;> (repeat' first | (with_reducible apply ev_var; exact rfl) | with_reducible exact ev_K | with_reducible exact ev_aNil | with_reducible exact ev_oNo | with_reducible exact ev_tAll | with_reducible exact ev_gsN | with_reducible apply ev_aCons | with_reducible apply ev_d2 | with_reducible apply ev_d1 | with_reducible apply ev_dN | with_reducible apply ev_dCall | with_reducible apply ev_dTup | with_reducible apply ev_dLst | with_reducible apply ev_dLoc | with_reducible apply ev_sl | with_reducible apply ev_oSo | with_reducible apply ev_ch2b | with_reducible apply ev_ch3b | with_reducible apply ev_tB | with_reducible apply ev_tTru | with_reducible apply ev_tNo | with_reducible apply ev_no | with_reducible apply ev_dML | with_reducible apply ev_gTu | with_reducible apply ev_gsC | with_reducible apply ev_gSb | with_reducible apply ev_gNm | (simp only [List.length_cons, List.length_nil]; exact len_le (by decide)) | exact decide_eq_true (by omega) | exact decide_eq_false (by omega) | exact ne_t (by omega) | exact ne_f (by omega) | with_reducible apply lt_ii | with_reducible apply le_ii | with_reducible apply gt_ii | with_reducible apply ge_ii | with_reducible apply eq_ii | with_reducible apply ne_ii | with_reducible apply eq_ss | with_reducible apply mul_ii | exact okMul_small (by omega) (by omega) | exact mod_ii (by omega) | exact fdiv_ii (by omega) (by omega) | exact mod_ni (by omega) | exact fdiv_ni (by omega) (by omega) | exact pow_ii (by omega) (by omega) (by omega) | with_reducible apply ix_tup | with_reducible apply ix_lst | (simp only [List.set_cons_succ, List.set_cons_zero]; rfl) | exact rfl))
  cases y with
  | non => exact flat rfl rfl
  | bl b => exact flat rfl rfl
  | int i => exact flat rfl rfl
  | str z => exact flat rfl rfl
  | lst xs => exact flat rfl rfl
  | loc _ => cases hy
  | scr _ => cases hy
  | tup xs =>
    have hxs : ∃ e, e ≤ 59 ∧ ∀ x ∈ xs, tre 900 x e = true := by
      cases d with
      | zero => cases hy
      | succ e => exact ⟨e, by omega, (tre_tup.mp hy).2⟩
    obtain ⟨e, he, hx⟩ := hxs
    by_cases h3 : xs.length = 3
    · match xs, h3 with
      | [a, b, c], _ =>
        have ha := hx a (by simp)
        have hb := hx b (by simp)
        have hc := hx c (by simp)
        have l3 : f_len [.tup [a, b, c]] μ = some (.int 3, μ) := rfl
        have x0 : f_ix (.tup [a, b, c]) (.int 0) μ = some (a, μ) := rfl
        have x1 : f_ix (.tup [a, b, c]) (.int 1) μ = some (b, μ) := rfl
        have x2 : f_ix (.tup [a, b, c]) (.int 2) μ = some (c, μ) := rfl
        have s1 : f_sl (some 1) none (.tup [a, b, c]) μ = some (.tup [b, c], μ) := rfl
        have nostr : tyN μ a ≠ some "str" → tyN μ a ≠ none → ∃ b' : Bool, p_judge [prs ps, .tup [a, b, c]] μ = some (.bl b', μ) ∧ p_paper [prs ps, .tup [a, b, c]] μ = some (.bl b', μ) := fun hs hn => by
          have ht : f_isi .str a μ = some (.bl false, μ) := by
            unfold f_isi
            cases h : tyN μ a with
            | none => exact absurd h hn
            | some t =>
              have : isT .str t = false := by
                show (t == "str") = false
                rw [beq_eq_false_iff_ne]
                intro e
                rw [h, e] at hs
                exact hs rfl
              show some (PV.bl (isT .str t), μ) = _
              rw [this]
          refine ⟨false, ?_, ?_⟩
          · refine runF_rt (ρ := [some (prs ps), some (.tup [a, b, c]), none, none, none]) rfl ?_
            apply ev_seq_rt
            apply ev_sIf_t
            case hc =>
              apply ev_tOr_f
              case h => exact ev_tNo (b := true) (ev_tTru rfl rfl) rfl
              apply ev_tOr_f
              case h => (repeat' first | (with_reducible apply ev_var; exact rfl) | with_reducible exact ev_K | with_reducible exact l3 | with_reducible exact ev_aNil | with_reducible exact ev_oNo | with_reducible exact ev_tAll | with_reducible exact ev_gsN | with_reducible apply ev_aCons | with_reducible apply ev_d2 | with_reducible apply ev_d1 | with_reducible apply ev_dN | with_reducible apply ev_dCall | with_reducible apply ev_dTup | with_reducible apply ev_dLst | with_reducible apply ev_dLoc | with_reducible apply ev_sl | with_reducible apply ev_oSo | with_reducible apply ev_ch2b | with_reducible apply ev_ch3b | with_reducible apply ev_tB | with_reducible apply ev_tTru | with_reducible apply ev_tNo | with_reducible apply ev_no | with_reducible apply ev_dML | with_reducible apply ev_gTu | with_reducible apply ev_gsC | with_reducible apply ev_gSb | with_reducible apply ev_gNm | (simp only [List.length_cons, List.length_nil]; exact len_le (by decide)) | exact decide_eq_true (by omega) | exact decide_eq_false (by omega) | exact ne_t (by omega) | exact ne_f (by omega) | with_reducible apply lt_ii | with_reducible apply le_ii | with_reducible apply gt_ii | with_reducible apply ge_ii | with_reducible apply eq_ii | with_reducible apply ne_ii | with_reducible apply eq_ss | exact l3 | with_reducible apply mul_ii | exact okMul_small (by omega) (by omega) | exact mod_ii (by omega) | exact fdiv_ii (by omega) (by omega) | exact mod_ni (by omega) | exact fdiv_ni (by omega) (by omega) | exact pow_ii (by omega) (by omega) (by omega) | with_reducible apply ix_tup | with_reducible apply ix_lst | (simp only [List.set_cons_succ, List.set_cons_zero]; rfl) | exact rfl)
              (repeat' first | (with_reducible apply ev_var; exact rfl) | with_reducible exact ev_K | with_reducible exact x0 | with_reducible exact ht | with_reducible exact ev_aNil | with_reducible exact ev_oNo | with_reducible exact ev_tAll | with_reducible exact ev_gsN | with_reducible apply ev_aCons | with_reducible apply ev_d2 | with_reducible apply ev_d1 | with_reducible apply ev_dN | with_reducible apply ev_dCall | with_reducible apply ev_dTup | with_reducible apply ev_dLst | with_reducible apply ev_dLoc | with_reducible apply ev_sl | with_reducible apply ev_oSo | with_reducible apply ev_ch2b | with_reducible apply ev_ch3b | with_reducible apply ev_tB | with_reducible apply ev_tTru | with_reducible apply ev_tNo | with_reducible apply ev_no | with_reducible apply ev_dML | with_reducible apply ev_gTu | with_reducible apply ev_gsC | with_reducible apply ev_gSb | with_reducible apply ev_gNm | (simp only [List.length_cons, List.length_nil]; exact len_le (by decide)) | exact decide_eq_true (by omega) | exact decide_eq_false (by omega) | exact ne_t (by omega) | exact ne_f (by omega) | with_reducible apply lt_ii | with_reducible apply le_ii | with_reducible apply gt_ii | with_reducible apply ge_ii | with_reducible apply eq_ii | with_reducible apply ne_ii | with_reducible apply eq_ss | exact x0 | exact ht | with_reducible apply mul_ii | exact okMul_small (by omega) (by omega) | exact mod_ii (by omega) | exact fdiv_ii (by omega) (by omega) | exact mod_ni (by omega) | exact fdiv_ni (by omega) (by omega) | exact pow_ii (by omega) (by omega) (by omega) | with_reducible apply ix_tup | with_reducible apply ix_lst | (simp only [List.set_cons_succ, List.set_cons_zero]; rfl) | exact rfl)
            ((first | with_reducible apply ev_set | with_reducible apply ev_par | with_reducible apply ev_par3 | with_reducible apply ev_asg | with_reducible apply ev_ex | with_reducible apply ev_ret | with_reducible exact ev_sNil | (with_reducible apply ev_aug; exact rfl)) <;> (repeat' first | (with_reducible apply ev_var; exact rfl) | with_reducible exact ev_K | with_reducible exact ev_aNil | with_reducible exact ev_oNo | with_reducible exact ev_tAll | with_reducible exact ev_gsN | with_reducible apply ev_aCons | with_reducible apply ev_d2 | with_reducible apply ev_d1 | with_reducible apply ev_dN | with_reducible apply ev_dCall | with_reducible apply ev_dTup | with_reducible apply ev_dLst | with_reducible apply ev_dLoc | with_reducible apply ev_sl | with_reducible apply ev_oSo | with_reducible apply ev_ch2b | with_reducible apply ev_ch3b | with_reducible apply ev_tB | with_reducible apply ev_tTru | with_reducible apply ev_tNo | with_reducible apply ev_no | with_reducible apply ev_dML | with_reducible apply ev_gTu | with_reducible apply ev_gsC | with_reducible apply ev_gSb | with_reducible apply ev_gNm | (simp only [List.length_cons, List.length_nil]; exact len_le (by decide)) | exact decide_eq_true (by omega) | exact decide_eq_false (by omega) | exact ne_t (by omega) | exact ne_f (by omega) | with_reducible apply lt_ii | with_reducible apply le_ii | with_reducible apply gt_ii | with_reducible apply ge_ii | with_reducible apply eq_ii | with_reducible apply ne_ii | with_reducible apply eq_ss | with_reducible apply mul_ii | exact okMul_small (by omega) (by omega) | exact mod_ii (by omega) | exact fdiv_ii (by omega) (by omega) | exact mod_ni (by omega) | exact fdiv_ni (by omega) (by omega) | exact pow_ii (by omega) (by omega) (by omega) | with_reducible apply ix_tup | with_reducible apply ix_lst | (simp only [List.set_cons_succ, List.set_cons_zero]; rfl) | exact rfl))
          · refine runF_rt (ρ := [some (prs ps), some (.tup [a, b, c]), none, none]) rfl ?_
            apply ev_seq_rt
            apply ev_sIf_t
            case hc =>
              apply ev_tOr_f
              case h => exact ev_tNo (b := true) (ev_tTru rfl rfl) rfl
              apply ev_tOr_f
              case h => (repeat' first | (with_reducible apply ev_var; exact rfl) | with_reducible exact ev_K | with_reducible exact l3 | with_reducible exact ev_aNil | with_reducible exact ev_oNo | with_reducible exact ev_tAll | with_reducible exact ev_gsN | with_reducible apply ev_aCons | with_reducible apply ev_d2 | with_reducible apply ev_d1 | with_reducible apply ev_dN | with_reducible apply ev_dCall | with_reducible apply ev_dTup | with_reducible apply ev_dLst | with_reducible apply ev_dLoc | with_reducible apply ev_sl | with_reducible apply ev_oSo | with_reducible apply ev_ch2b | with_reducible apply ev_ch3b | with_reducible apply ev_tB | with_reducible apply ev_tTru | with_reducible apply ev_tNo | with_reducible apply ev_no | with_reducible apply ev_dML | with_reducible apply ev_gTu | with_reducible apply ev_gsC | with_reducible apply ev_gSb | with_reducible apply ev_gNm | (simp only [List.length_cons, List.length_nil]; exact len_le (by decide)) | exact decide_eq_true (by omega) | exact decide_eq_false (by omega) | exact ne_t (by omega) | exact ne_f (by omega) | with_reducible apply lt_ii | with_reducible apply le_ii | with_reducible apply gt_ii | with_reducible apply ge_ii | with_reducible apply eq_ii | with_reducible apply ne_ii | with_reducible apply eq_ss | exact l3 | with_reducible apply mul_ii | exact okMul_small (by omega) (by omega) | exact mod_ii (by omega) | exact fdiv_ii (by omega) (by omega) | exact mod_ni (by omega) | exact fdiv_ni (by omega) (by omega) | exact pow_ii (by omega) (by omega) (by omega) | with_reducible apply ix_tup | with_reducible apply ix_lst | (simp only [List.set_cons_succ, List.set_cons_zero]; rfl) | exact rfl)
              (repeat' first | (with_reducible apply ev_var; exact rfl) | with_reducible exact ev_K | with_reducible exact x0 | with_reducible exact ht | with_reducible exact ev_aNil | with_reducible exact ev_oNo | with_reducible exact ev_tAll | with_reducible exact ev_gsN | with_reducible apply ev_aCons | with_reducible apply ev_d2 | with_reducible apply ev_d1 | with_reducible apply ev_dN | with_reducible apply ev_dCall | with_reducible apply ev_dTup | with_reducible apply ev_dLst | with_reducible apply ev_dLoc | with_reducible apply ev_sl | with_reducible apply ev_oSo | with_reducible apply ev_ch2b | with_reducible apply ev_ch3b | with_reducible apply ev_tB | with_reducible apply ev_tTru | with_reducible apply ev_tNo | with_reducible apply ev_no | with_reducible apply ev_dML | with_reducible apply ev_gTu | with_reducible apply ev_gsC | with_reducible apply ev_gSb | with_reducible apply ev_gNm | (simp only [List.length_cons, List.length_nil]; exact len_le (by decide)) | exact decide_eq_true (by omega) | exact decide_eq_false (by omega) | exact ne_t (by omega) | exact ne_f (by omega) | with_reducible apply lt_ii | with_reducible apply le_ii | with_reducible apply gt_ii | with_reducible apply ge_ii | with_reducible apply eq_ii | with_reducible apply ne_ii | with_reducible apply eq_ss | exact x0 | exact ht | with_reducible apply mul_ii | exact okMul_small (by omega) (by omega) | exact mod_ii (by omega) | exact fdiv_ii (by omega) (by omega) | exact mod_ni (by omega) | exact fdiv_ni (by omega) (by omega) | exact pow_ii (by omega) (by omega) (by omega) | with_reducible apply ix_tup | with_reducible apply ix_lst | (simp only [List.set_cons_succ, List.set_cons_zero]; rfl) | exact rfl)
            ((first | with_reducible apply ev_set | with_reducible apply ev_par | with_reducible apply ev_par3 | with_reducible apply ev_asg | with_reducible apply ev_ex | with_reducible apply ev_ret | with_reducible exact ev_sNil | (with_reducible apply ev_aug; exact rfl)) <;> (repeat' first | (with_reducible apply ev_var; exact rfl) | with_reducible exact ev_K | with_reducible exact ev_aNil | with_reducible exact ev_oNo | with_reducible exact ev_tAll | with_reducible exact ev_gsN | with_reducible apply ev_aCons | with_reducible apply ev_d2 | with_reducible apply ev_d1 | with_reducible apply ev_dN | with_reducible apply ev_dCall | with_reducible apply ev_dTup | with_reducible apply ev_dLst | with_reducible apply ev_dLoc | with_reducible apply ev_sl | with_reducible apply ev_oSo | with_reducible apply ev_ch2b | with_reducible apply ev_ch3b | with_reducible apply ev_tB | with_reducible apply ev_tTru | with_reducible apply ev_tNo | with_reducible apply ev_no | with_reducible apply ev_dML | with_reducible apply ev_gTu | with_reducible apply ev_gsC | with_reducible apply ev_gSb | with_reducible apply ev_gNm | (simp only [List.length_cons, List.length_nil]; exact len_le (by decide)) | exact decide_eq_true (by omega) | exact decide_eq_false (by omega) | exact ne_t (by omega) | exact ne_f (by omega) | with_reducible apply lt_ii | with_reducible apply le_ii | with_reducible apply gt_ii | with_reducible apply ge_ii | with_reducible apply eq_ii | with_reducible apply ne_ii | with_reducible apply eq_ss | with_reducible apply mul_ii | exact okMul_small (by omega) (by omega) | exact mod_ii (by omega) | exact fdiv_ii (by omega) (by omega) | exact mod_ni (by omega) | exact fdiv_ni (by omega) (by omega) | exact pow_ii (by omega) (by omega) (by omega) | with_reducible apply ix_tup | with_reducible apply ix_lst | (simp only [List.set_cons_succ, List.set_cons_zero]; rfl) | exact rfl))
        cases a with
        | non => exact nostr (by show some "NoneType" ≠ _; decide) (by show some "NoneType" ≠ _; decide)
        | bl _ => exact nostr (by show some "bool" ≠ _; decide) (by show some "bool" ≠ _; decide)
        | int _ => exact nostr (by show some "int" ≠ _; decide) (by show some "int" ≠ _; decide)
        | tup _ => exact nostr (by show some "tuple" ≠ _; decide) (by show some "tuple" ≠ _; decide)
        | lst _ => exact nostr (by show some "list" ≠ _; decide) (by show some "list" ≠ _; decide)
        | loc _ => cases ha
        | scr _ => cases ha
        | str z =>
          have hz : PyData.strOk z = true := ha
          -- the first two tests
          have J1 : sIf (tOr' (tNo (tTru (d1 (f_isi .tuple) (cVar 1)))) (tOr' (tB1 (d2 f_ne (dN f_len (aCons (cVar 1) aNil)) (cK (.int 3)))) (tNo (tTru (d1 (f_isi .str) (d2 f_ix (cVar 1) (cK (.int 0)))))))) (sRet (cK (.bl false))) sNil [some (prs ps), some (.tup [.str z, b, c]), none, none, none] μ = some (.nx [some (prs ps), some (.tup [.str z, b, c]), none, none, none] μ) := by
            apply ev_sIf_f
            case hc =>
              apply ev_tOr_f
              case h => exact ev_tNo (b := true) (ev_tTru rfl rfl) rfl
              apply ev_tOr_f
              case h => (repeat' first | (with_reducible apply ev_var; exact rfl) | with_reducible exact ev_K | with_reducible exact l3 | with_reducible exact ev_aNil | with_reducible exact ev_oNo | with_reducible exact ev_tAll | with_reducible exact ev_gsN | with_reducible apply ev_aCons | with_reducible apply ev_d2 | with_reducible apply ev_d1 | with_reducible apply ev_dN | with_reducible apply ev_dCall | with_reducible apply ev_dTup | with_reducible apply ev_dLst | with_reducible apply ev_dLoc | with_reducible apply ev_sl | with_reducible apply ev_oSo | with_reducible apply ev_ch2b | with_reducible apply ev_ch3b | with_reducible apply ev_tB | with_reducible apply ev_tTru | with_reducible apply ev_tNo | with_reducible apply ev_no | with_reducible apply ev_dML | with_reducible apply ev_gTu | with_reducible apply ev_gsC | with_reducible apply ev_gSb | with_reducible apply ev_gNm | (simp only [List.length_cons, List.length_nil]; exact len_le (by decide)) | exact decide_eq_true (by omega) | exact decide_eq_false (by omega) | exact ne_t (by omega) | exact ne_f (by omega) | with_reducible apply lt_ii | with_reducible apply le_ii | with_reducible apply gt_ii | with_reducible apply ge_ii | with_reducible apply eq_ii | with_reducible apply ne_ii | with_reducible apply eq_ss | exact l3 | with_reducible apply mul_ii | exact okMul_small (by omega) (by omega) | exact mod_ii (by omega) | exact fdiv_ii (by omega) (by omega) | exact mod_ni (by omega) | exact fdiv_ni (by omega) (by omega) | exact pow_ii (by omega) (by omega) (by omega) | with_reducible apply ix_tup | with_reducible apply ix_lst | (simp only [List.set_cons_succ, List.set_cons_zero]; rfl) | exact rfl)
              exact ev_tNo (b := true) (ev_tTru rfl rfl) rfl
            exact ev_sNil
          have P1 : sIf (tOr' (tNo (tTru (d1 (f_isi .tuple) (cVar 1)))) (tOr' (tB1 (d2 f_ne (dN f_len (aCons (cVar 1) aNil)) (cK (.int 3)))) (tNo (tTru (d1 (f_isi .str) (d2 f_ix (cVar 1) (cK (.int 0)))))))) (sRet (cK (.bl false))) sNil [some (prs ps), some (.tup [.str z, b, c]), none, none] μ = some (.nx [some (prs ps), some (.tup [.str z, b, c]), none, none] μ) := by
            apply ev_sIf_f
            case hc =>
              apply ev_tOr_f
              case h => exact ev_tNo (b := true) (ev_tTru rfl rfl) rfl
              apply ev_tOr_f
              case h => (repeat' first | (with_reducible apply ev_var; exact rfl) | with_reducible exact ev_K | with_reducible exact l3 | with_reducible exact ev_aNil | with_reducible exact ev_oNo | with_reducible exact ev_tAll | with_reducible exact ev_gsN | with_reducible apply ev_aCons | with_reducible apply ev_d2 | with_reducible apply ev_d1 | with_reducible apply ev_dN | with_reducible apply ev_dCall | with_reducible apply ev_dTup | with_reducible apply ev_dLst | with_reducible apply ev_dLoc | with_reducible apply ev_sl | with_reducible apply ev_oSo | with_reducible apply ev_ch2b | with_reducible apply ev_ch3b | with_reducible apply ev_tB | with_reducible apply ev_tTru | with_reducible apply ev_tNo | with_reducible apply ev_no | with_reducible apply ev_dML | with_reducible apply ev_gTu | with_reducible apply ev_gsC | with_reducible apply ev_gSb | with_reducible apply ev_gNm | (simp only [List.length_cons, List.length_nil]; exact len_le (by decide)) | exact decide_eq_true (by omega) | exact decide_eq_false (by omega) | exact ne_t (by omega) | exact ne_f (by omega) | with_reducible apply lt_ii | with_reducible apply le_ii | with_reducible apply gt_ii | with_reducible apply ge_ii | with_reducible apply eq_ii | with_reducible apply ne_ii | with_reducible apply eq_ss | exact l3 | with_reducible apply mul_ii | exact okMul_small (by omega) (by omega) | exact mod_ii (by omega) | exact fdiv_ii (by omega) (by omega) | exact mod_ni (by omega) | exact fdiv_ni (by omega) (by omega) | exact pow_ii (by omega) (by omega) (by omega) | with_reducible apply ix_tup | with_reducible apply ix_lst | (simp only [List.set_cons_succ, List.set_cons_zero]; rfl) | exact rfl)
              exact ev_tNo (b := true) (ev_tTru rfl rfl) rfl
            exact ev_sNil
          have bi := ii_ok hb (μ := μ)
          have ci := ii_ok hc (μ := μ)
          have J2 : tTru (dN f_all (aCons (dLc [4] (itSeq (dSl (cVar 1) (oSo (cK (.int 1))) oNo)) (gNm 4) tAll (dCall 1 p_ii (aCons (cVar 4) aNil))) aNil)) [some (prs ps), some (.tup [.str z, b, c]), none, none, none] μ = some (isIntP b && (isIntP c && true), μ) := by
            refine ev_tTru (x := .bl (isIntP b && (isIntP c && true))) ?_ rfl
            refine ev_dN (ev_aCons (x := .lst [.bl (isIntP b), .bl (isIntP c)]) (μ1 := μ) ?_ ev_aNil) rfl
            refine ev_lc (ρ' := [some (prs ps), some (.tup [.str z, b, c]), none, none, none]) (it_tup (xs := [b, c]) (μ1 := μ) ?_) rfl ?_
            · (repeat' first | (with_reducible apply ev_var; exact rfl) | with_reducible exact ev_K | with_reducible exact s1 | with_reducible exact ev_aNil | with_reducible exact ev_oNo | with_reducible exact ev_tAll | with_reducible exact ev_gsN | with_reducible apply ev_aCons | with_reducible apply ev_d2 | with_reducible apply ev_d1 | with_reducible apply ev_dN | with_reducible apply ev_dCall | with_reducible apply ev_dTup | with_reducible apply ev_dLst | with_reducible apply ev_dLoc | with_reducible apply ev_sl | with_reducible apply ev_oSo | with_reducible apply ev_ch2b | with_reducible apply ev_ch3b | with_reducible apply ev_tB | with_reducible apply ev_tTru | with_reducible apply ev_tNo | with_reducible apply ev_no | with_reducible apply ev_dML | with_reducible apply ev_gTu | with_reducible apply ev_gsC | with_reducible apply ev_gSb | with_reducible apply ev_gNm | (simp only [List.length_cons, List.length_nil]; exact len_le (by decide)) | exact decide_eq_true (by omega) | exact decide_eq_false (by omega) | exact ne_t (by omega) | exact ne_f (by omega) | with_reducible apply lt_ii | with_reducible apply le_ii | with_reducible apply gt_ii | with_reducible apply ge_ii | with_reducible apply eq_ii | with_reducible apply ne_ii | with_reducible apply eq_ss | exact s1 | with_reducible apply mul_ii | exact okMul_small (by omega) (by omega) | exact mod_ii (by omega) | exact fdiv_ii (by omega) (by omega) | exact mod_ni (by omega) | exact fdiv_ni (by omega) (by omega) | exact pow_ii (by omega) (by omega) (by omega) | with_reducible apply ix_tup | with_reducible apply ix_lst | (simp only [List.set_cons_succ, List.set_cons_zero]; rfl) | exact rfl)
            · refine lc_yes (ρ1 := [some (prs ps), some (.tup [.str z, b, c]), none, none, some b]) (μ1 := μ) rfl rfl (ev_dCall (ev_aCons (ev_var rfl) ev_aNil) bi rfl) chk_nil (by decide) ?_
              exact lc_yes (ρ1 := [some (prs ps), some (.tup [.str z, b, c]), none, none, some c]) (μ1 := μ) rfl rfl (ev_dCall (ev_aCons (ev_var rfl) ev_aNil) ci rfl) chk_nil (by show 1 < sizeLine; decide) lc_nil
          by_cases hbc : isIntP b = true ∧ isIntP c = true
          · obtain ⟨hb1, hc1⟩ := hbc
            have : ∃ i j, b = .int i ∧ c = .int j := by
              cases b <;> first | (cases hb1; done) | skip
              cases c <;> first | (cases hc1; done) | skip
              exact ⟨_, _, rfl, rfl⟩
            obtain ⟨i, j, rfl, rfl⟩ := this
            have J3 : sIf (tNo (tTru (dN f_all (aCons (dLc [4] (itSeq (dSl (cVar 1) (oSo (cK (.int 1))) oNo)) (gNm 4) tAll (dCall 1 p_ii (aCons (cVar 4) aNil))) aNil)))) (sRet (cK (.bl false))) sNil [some (prs ps), some (.tup [.str z, .int i, .int j]), none, none, none] μ = some (.nx [some (prs ps), some (.tup [.str z, .int i, .int j]), none, none, none] μ) :=
              ev_sIf_f (ev_tNo J2 rfl) ev_sNil
            have P2 : sIf (tOr' (tNo (tTru (dCall 1 p_ii (aCons (d2 f_ix (cVar 1) (cK (.int 1))) aNil)))) (tNo (tTru (dCall 1 p_ii (aCons (d2 f_ix (cVar 1) (cK (.int 2))) aNil))))) (sRet (cK (.bl false))) sNil [some (prs ps), some (.tup [.str z, .int i, .int j]), none, none] μ = some (.nx [some (prs ps), some (.tup [.str z, .int i, .int j]), none, none] μ) := by
              apply ev_sIf_f
              case hc =>
                apply ev_tOr_f
                case h => (repeat' first | (with_reducible apply ev_var; exact rfl) | with_reducible exact ev_K | with_reducible exact x1 | with_reducible exact bi | with_reducible exact ev_aNil | with_reducible exact ev_oNo | with_reducible exact ev_tAll | with_reducible exact ev_gsN | with_reducible apply ev_aCons | with_reducible apply ev_d2 | with_reducible apply ev_d1 | with_reducible apply ev_dN | with_reducible apply ev_dCall | with_reducible apply ev_dTup | with_reducible apply ev_dLst | with_reducible apply ev_dLoc | with_reducible apply ev_sl | with_reducible apply ev_oSo | with_reducible apply ev_ch2b | with_reducible apply ev_ch3b | with_reducible apply ev_tB | with_reducible apply ev_tTru | with_reducible apply ev_tNo | with_reducible apply ev_no | with_reducible apply ev_dML | with_reducible apply ev_gTu | with_reducible apply ev_gsC | with_reducible apply ev_gSb | with_reducible apply ev_gNm | (simp only [List.length_cons, List.length_nil]; exact len_le (by decide)) | exact decide_eq_true (by omega) | exact decide_eq_false (by omega) | exact ne_t (by omega) | exact ne_f (by omega) | with_reducible apply lt_ii | with_reducible apply le_ii | with_reducible apply gt_ii | with_reducible apply ge_ii | with_reducible apply eq_ii | with_reducible apply ne_ii | with_reducible apply eq_ss | exact x1 | exact bi | with_reducible apply mul_ii | exact okMul_small (by omega) (by omega) | exact mod_ii (by omega) | exact fdiv_ii (by omega) (by omega) | exact mod_ni (by omega) | exact fdiv_ni (by omega) (by omega) | exact pow_ii (by omega) (by omega) (by omega) | with_reducible apply ix_tup | with_reducible apply ix_lst | (simp only [List.set_cons_succ, List.set_cons_zero]; rfl) | exact rfl)
                (repeat' first | (with_reducible apply ev_var; exact rfl) | with_reducible exact ev_K | with_reducible exact x2 | with_reducible exact ci | with_reducible exact ev_aNil | with_reducible exact ev_oNo | with_reducible exact ev_tAll | with_reducible exact ev_gsN | with_reducible apply ev_aCons | with_reducible apply ev_d2 | with_reducible apply ev_d1 | with_reducible apply ev_dN | with_reducible apply ev_dCall | with_reducible apply ev_dTup | with_reducible apply ev_dLst | with_reducible apply ev_dLoc | with_reducible apply ev_sl | with_reducible apply ev_oSo | with_reducible apply ev_ch2b | with_reducible apply ev_ch3b | with_reducible apply ev_tB | with_reducible apply ev_tTru | with_reducible apply ev_tNo | with_reducible apply ev_no | with_reducible apply ev_dML | with_reducible apply ev_gTu | with_reducible apply ev_gsC | with_reducible apply ev_gSb | with_reducible apply ev_gNm | (simp only [List.length_cons, List.length_nil]; exact len_le (by decide)) | exact decide_eq_true (by omega) | exact decide_eq_false (by omega) | exact ne_t (by omega) | exact ne_f (by omega) | with_reducible apply lt_ii | with_reducible apply le_ii | with_reducible apply gt_ii | with_reducible apply ge_ii | with_reducible apply eq_ii | with_reducible apply ne_ii | with_reducible apply eq_ss | exact x2 | exact ci | with_reducible apply mul_ii | exact okMul_small (by omega) (by omega) | exact mod_ii (by omega) | exact fdiv_ii (by omega) (by omega) | exact mod_ni (by omega) | exact fdiv_ni (by omega) (by omega) | exact pow_ii (by omega) (by omega) (by omega) | with_reducible apply ix_tup | with_reducible apply ix_lst | (simp only [List.set_cons_succ, List.set_cons_zero]; rfl) | exact rfl)
              exact ev_sNil
            have lp : f_len [prs ps] μ = some (.int (ps.length : Int), μ) := by
              show some (PV.int ((ps.map pr).length : Int), _) = _
              rw [List.length_map]
            have hja : decide (Str.ofString "joined" = Str.ofString "apart") = false := by decide +kernel
            have haj : decide (Str.ofString "apart" = Str.ofString "joined") = false := by decide +kernel
            by_cases za : z = Str.ofString "apart"
            · subst za
              have hne : f_ne (.str (Str.ofString "apart")) (.str (Str.ofString "apart")) μ = some (.bl false, μ) := by
                show some (PV.bl (!decide (Str.ofString "apart" = Str.ofString "apart")), μ) = _
                rw [decide_eq_true rfl]; rfl
              have heq : f_eq (.str (Str.ofString "apart")) (.str (Str.ofString "apart")) μ = some (.bl true, μ) := eq_ss (decide_eq_true rfl)
              have heq2 : f_eq (.str (Str.ofString "apart")) (.str (Str.ofString "joined")) μ = some (.bl false, μ) := eq_ss haj
              by_cases hr : 0 ≤ i ∧ i < j ∧ j < (ps.length : Int)
              · obtain ⟨h0, h1, h2⟩ := hr
                obtain ⟨i', rfl⟩ := Int.eq_ofNat_of_zero_le h0
                obtain ⟨j', rfl⟩ := Int.eq_ofNat_of_zero_le (show 0 ≤ j by omega)
                have hi : i' < ps.length := by omega
                have hj : j' < ps.length := by omega
                have i1 := ix_prs hi (μ := μ)
                have j1 := ix_prs hj (μ := μ)
                have p1 := (ok.ok ps[i'] (List.getElem_mem hi)).2.1
                have g := gcd_ok ps[i'].2 ps[j'].2 μ
                have t1 := test_g (m := ps[j'].2) (t := ps[i'].1 - ps[j'].1) p1 μ
                refine ⟨!decide ((ps[i'].1 - ps[j'].1) % (Int.gcd ps[i'].2 ps[j'].2 : Int) = 0), ?_, ?_⟩
                · refine runF_rt (ρ := [some (prs ps), some (.tup [.str (Str.ofString "apart"), .int (i' : Int), .int (j' : Int)]), none, none, none]) rfl ?_
                  apply ev_seq J1
                  apply ev_seq J3
                  apply ev_seq_rt
                  (apply ev_sIf_t; case' hc => (repeat' first | (with_reducible apply ev_var; exact rfl) | with_reducible exact ev_K | with_reducible exact x0 | with_reducible exact heq | with_reducible exact ev_aNil | with_reducible exact ev_oNo | with_reducible exact ev_tAll | with_reducible exact ev_gsN | with_reducible apply ev_aCons | with_reducible apply ev_d2 | with_reducible apply ev_d1 | with_reducible apply ev_dN | with_reducible apply ev_dCall | with_reducible apply ev_dTup | with_reducible apply ev_dLst | with_reducible apply ev_dLoc | with_reducible apply ev_sl | with_reducible apply ev_oSo | with_reducible apply ev_ch2b | with_reducible apply ev_ch3b | with_reducible apply ev_tB | with_reducible apply ev_tTru | with_reducible apply ev_tNo | with_reducible apply ev_no | with_reducible apply ev_dML | with_reducible apply ev_gTu | with_reducible apply ev_gsC | with_reducible apply ev_gSb | with_reducible apply ev_gNm | (simp only [List.length_cons, List.length_nil]; exact len_le (by decide)) | exact decide_eq_true (by omega) | exact decide_eq_false (by omega) | exact ne_t (by omega) | exact ne_f (by omega) | with_reducible apply lt_ii | with_reducible apply le_ii | with_reducible apply gt_ii | with_reducible apply ge_ii | with_reducible apply eq_ii | with_reducible apply ne_ii | with_reducible apply eq_ss | exact x0 | exact heq | with_reducible apply mul_ii | exact okMul_small (by omega) (by omega) | exact mod_ii (by omega) | exact fdiv_ii (by omega) (by omega) | exact mod_ni (by omega) | exact fdiv_ni (by omega) (by omega) | exact pow_ii (by omega) (by omega) (by omega) | with_reducible apply ix_tup | with_reducible apply ix_lst | (simp only [List.set_cons_succ, List.set_cons_zero]; rfl) | exact rfl))
                  (apply ev_seq; case' ha => ((first | with_reducible apply ev_set | with_reducible apply ev_par | with_reducible apply ev_par3 | with_reducible apply ev_asg | with_reducible apply ev_ex | with_reducible apply ev_ret | with_reducible exact ev_sNil | (with_reducible apply ev_aug; exact rfl)) <;> (repeat' first | (with_reducible apply ev_var; exact rfl) | with_reducible exact ev_K | with_reducible exact s1 | with_reducible exact ev_aNil | with_reducible exact ev_oNo | with_reducible exact ev_tAll | with_reducible exact ev_gsN | with_reducible apply ev_aCons | with_reducible apply ev_d2 | with_reducible apply ev_d1 | with_reducible apply ev_dN | with_reducible apply ev_dCall | with_reducible apply ev_dTup | with_reducible apply ev_dLst | with_reducible apply ev_dLoc | with_reducible apply ev_sl | with_reducible apply ev_oSo | with_reducible apply ev_ch2b | with_reducible apply ev_ch3b | with_reducible apply ev_tB | with_reducible apply ev_tTru | with_reducible apply ev_tNo | with_reducible apply ev_no | with_reducible apply ev_dML | with_reducible apply ev_gTu | with_reducible apply ev_gsC | with_reducible apply ev_gSb | with_reducible apply ev_gNm | (simp only [List.length_cons, List.length_nil]; exact len_le (by decide)) | exact decide_eq_true (by omega) | exact decide_eq_false (by omega) | exact ne_t (by omega) | exact ne_f (by omega) | with_reducible apply lt_ii | with_reducible apply le_ii | with_reducible apply gt_ii | with_reducible apply ge_ii | with_reducible apply eq_ii | with_reducible apply ne_ii | with_reducible apply eq_ss | exact s1 | with_reducible apply mul_ii | exact okMul_small (by omega) (by omega) | exact mod_ii (by omega) | exact fdiv_ii (by omega) (by omega) | exact mod_ni (by omega) | exact fdiv_ni (by omega) (by omega) | exact pow_ii (by omega) (by omega) (by omega) | with_reducible apply ix_tup | with_reducible apply ix_lst | (simp only [List.set_cons_succ, List.set_cons_zero]; rfl) | exact rfl)))
                  apply ev_seq
                  case ha =>
                    (apply ev_sIf_f; case' hc => (repeat' first | (with_reducible apply ev_var; exact rfl) | with_reducible exact ev_K | with_reducible exact lp | with_reducible exact ev_aNil | with_reducible exact ev_oNo | with_reducible exact ev_tAll | with_reducible exact ev_gsN | with_reducible apply ev_aCons | with_reducible apply ev_d2 | with_reducible apply ev_d1 | with_reducible apply ev_dN | with_reducible apply ev_dCall | with_reducible apply ev_dTup | with_reducible apply ev_dLst | with_reducible apply ev_dLoc | with_reducible apply ev_sl | with_reducible apply ev_oSo | with_reducible apply ev_ch2b | with_reducible apply ev_ch3b | with_reducible apply ev_tB | with_reducible apply ev_tTru | with_reducible apply ev_tNo | with_reducible apply ev_no | with_reducible apply ev_dML | with_reducible apply ev_gTu | with_reducible apply ev_gsC | with_reducible apply ev_gSb | with_reducible apply ev_gNm | (simp only [List.length_cons, List.length_nil]; exact len_le (by decide)) | exact decide_eq_true (by omega) | exact decide_eq_false (by omega) | exact ne_t (by omega) | exact ne_f (by omega) | with_reducible apply lt_ii | with_reducible apply le_ii | with_reducible apply gt_ii | with_reducible apply ge_ii | with_reducible apply eq_ii | with_reducible apply ne_ii | with_reducible apply eq_ss | exact lp | with_reducible apply mul_ii | exact okMul_small (by omega) (by omega) | exact mod_ii (by omega) | exact fdiv_ii (by omega) (by omega) | exact mod_ni (by omega) | exact fdiv_ni (by omega) (by omega) | exact pow_ii (by omega) (by omega) (by omega) | with_reducible apply ix_tup | with_reducible apply ix_lst | (simp only [List.set_cons_succ, List.set_cons_zero]; rfl) | exact rfl))
                    exact ev_sNil
                  ((first | with_reducible apply ev_set | with_reducible apply ev_par | with_reducible apply ev_par3 | with_reducible apply ev_asg | with_reducible apply ev_ex | with_reducible apply ev_ret | with_reducible exact ev_sNil | (with_reducible apply ev_aug; exact rfl)) <;> (repeat' first | (with_reducible apply ev_var; exact rfl) | with_reducible exact ev_K | with_reducible exact i1 | with_reducible exact j1 | with_reducible exact ix_p0 | with_reducible exact ix_p1 | with_reducible exact g | with_reducible exact t1 | with_reducible exact ev_aNil | with_reducible exact ev_oNo | with_reducible exact ev_tAll | with_reducible exact ev_gsN | with_reducible apply ev_aCons | with_reducible apply ev_d2 | with_reducible apply ev_d1 | with_reducible apply ev_dN | with_reducible apply ev_dCall | with_reducible apply ev_dTup | with_reducible apply ev_dLst | with_reducible apply ev_dLoc | with_reducible apply ev_sl | with_reducible apply ev_oSo | with_reducible apply ev_ch2b | with_reducible apply ev_ch3b | with_reducible apply ev_tB | with_reducible apply ev_tTru | with_reducible apply ev_tNo | with_reducible apply ev_no | with_reducible apply ev_dML | with_reducible apply ev_gTu | with_reducible apply ev_gsC | with_reducible apply ev_gSb | with_reducible apply ev_gNm | (simp only [List.length_cons, List.length_nil]; exact len_le (by decide)) | exact decide_eq_true (by omega) | exact decide_eq_false (by omega) | exact ne_t (by omega) | exact ne_f (by omega) | with_reducible apply lt_ii | with_reducible apply le_ii | with_reducible apply gt_ii | with_reducible apply ge_ii | with_reducible apply eq_ii | with_reducible apply ne_ii | with_reducible apply eq_ss | exact i1 | exact j1 | exact ix_p0 | exact ix_p1 | exact g | exact t1 | with_reducible apply mul_ii | exact okMul_small (by omega) (by omega) | exact mod_ii (by omega) | exact fdiv_ii (by omega) (by omega) | exact mod_ni (by omega) | exact fdiv_ni (by omega) (by omega) | exact pow_ii (by omega) (by omega) (by omega) | with_reducible apply ix_tup | with_reducible apply ix_lst | (simp only [List.set_cons_succ, List.set_cons_zero]; rfl) | exact rfl))
                · refine runF_rt (ρ := [some (prs ps), some (.tup [.str (Str.ofString "apart"), .int (i' : Int), .int (j' : Int)]), none, none]) rfl ?_
                  apply ev_seq P1
                  apply ev_seq P2
                  apply ev_seq
                  case ha =>
                    (apply ev_sIf_f; case' hc => (repeat' first | (with_reducible apply ev_var; exact rfl) | with_reducible exact ev_K | with_reducible exact x0 | with_reducible exact heq2 | with_reducible exact ev_aNil | with_reducible exact ev_oNo | with_reducible exact ev_tAll | with_reducible exact ev_gsN | with_reducible apply ev_aCons | with_reducible apply ev_d2 | with_reducible apply ev_d1 | with_reducible apply ev_dN | with_reducible apply ev_dCall | with_reducible apply ev_dTup | with_reducible apply ev_dLst | with_reducible apply ev_dLoc | with_reducible apply ev_sl | with_reducible apply ev_oSo | with_reducible apply ev_ch2b | with_reducible apply ev_ch3b | with_reducible apply ev_tB | with_reducible apply ev_tTru | with_reducible apply ev_tNo | with_reducible apply ev_no | with_reducible apply ev_dML | with_reducible apply ev_gTu | with_reducible apply ev_gsC | with_reducible apply ev_gSb | with_reducible apply ev_gNm | (simp only [List.length_cons, List.length_nil]; exact len_le (by decide)) | exact decide_eq_true (by omega) | exact decide_eq_false (by omega) | exact ne_t (by omega) | exact ne_f (by omega) | with_reducible apply lt_ii | with_reducible apply le_ii | with_reducible apply gt_ii | with_reducible apply ge_ii | with_reducible apply eq_ii | with_reducible apply ne_ii | with_reducible apply eq_ss | exact x0 | exact heq2 | with_reducible apply mul_ii | exact okMul_small (by omega) (by omega) | exact mod_ii (by omega) | exact fdiv_ii (by omega) (by omega) | exact mod_ni (by omega) | exact fdiv_ni (by omega) (by omega) | exact pow_ii (by omega) (by omega) (by omega) | with_reducible apply ix_tup | with_reducible apply ix_lst | (simp only [List.set_cons_succ, List.set_cons_zero]; rfl) | exact rfl))
                    exact ev_sNil
                  (apply ev_seq; case' ha => ((first | with_reducible apply ev_set | with_reducible apply ev_par | with_reducible apply ev_par3 | with_reducible apply ev_asg | with_reducible apply ev_ex | with_reducible apply ev_ret | with_reducible exact ev_sNil | (with_reducible apply ev_aug; exact rfl)) <;> (repeat' first | (with_reducible apply ev_var; exact rfl) | with_reducible exact ev_K | with_reducible exact s1 | with_reducible exact ev_aNil | with_reducible exact ev_oNo | with_reducible exact ev_tAll | with_reducible exact ev_gsN | with_reducible apply ev_aCons | with_reducible apply ev_d2 | with_reducible apply ev_d1 | with_reducible apply ev_dN | with_reducible apply ev_dCall | with_reducible apply ev_dTup | with_reducible apply ev_dLst | with_reducible apply ev_dLoc | with_reducible apply ev_sl | with_reducible apply ev_oSo | with_reducible apply ev_ch2b | with_reducible apply ev_ch3b | with_reducible apply ev_tB | with_reducible apply ev_tTru | with_reducible apply ev_tNo | with_reducible apply ev_no | with_reducible apply ev_dML | with_reducible apply ev_gTu | with_reducible apply ev_gsC | with_reducible apply ev_gSb | with_reducible apply ev_gNm | (simp only [List.length_cons, List.length_nil]; exact len_le (by decide)) | exact decide_eq_true (by omega) | exact decide_eq_false (by omega) | exact ne_t (by omega) | exact ne_f (by omega) | with_reducible apply lt_ii | with_reducible apply le_ii | with_reducible apply gt_ii | with_reducible apply ge_ii | with_reducible apply eq_ii | with_reducible apply ne_ii | with_reducible apply eq_ss | exact s1 | with_reducible apply mul_ii | exact okMul_small (by omega) (by omega) | exact mod_ii (by omega) | exact fdiv_ii (by omega) (by omega) | exact mod_ni (by omega) | exact fdiv_ni (by omega) (by omega) | exact pow_ii (by omega) (by omega) (by omega) | with_reducible apply ix_tup | with_reducible apply ix_lst | (simp only [List.set_cons_succ, List.set_cons_zero]; rfl) | exact rfl)))
                  apply ev_seq
                  case ha =>
                    apply ev_sIf_f
                    case hc =>
                      apply ev_tOr_f
                      case h => (repeat' first | (with_reducible apply ev_var; exact rfl) | with_reducible exact ev_K | with_reducible exact x0 | with_reducible exact hne | with_reducible exact ev_aNil | with_reducible exact ev_oNo | with_reducible exact ev_tAll | with_reducible exact ev_gsN | with_reducible apply ev_aCons | with_reducible apply ev_d2 | with_reducible apply ev_d1 | with_reducible apply ev_dN | with_reducible apply ev_dCall | with_reducible apply ev_dTup | with_reducible apply ev_dLst | with_reducible apply ev_dLoc | with_reducible apply ev_sl | with_reducible apply ev_oSo | with_reducible apply ev_ch2b | with_reducible apply ev_ch3b | with_reducible apply ev_tB | with_reducible apply ev_tTru | with_reducible apply ev_tNo | with_reducible apply ev_no | with_reducible apply ev_dML | with_reducible apply ev_gTu | with_reducible apply ev_gsC | with_reducible apply ev_gSb | with_reducible apply ev_gNm | (simp only [List.length_cons, List.length_nil]; exact len_le (by decide)) | exact decide_eq_true (by omega) | exact decide_eq_false (by omega) | exact ne_t (by omega) | exact ne_f (by omega) | with_reducible apply lt_ii | with_reducible apply le_ii | with_reducible apply gt_ii | with_reducible apply ge_ii | with_reducible apply eq_ii | with_reducible apply ne_ii | with_reducible apply eq_ss | exact x0 | exact hne | with_reducible apply mul_ii | exact okMul_small (by omega) (by omega) | exact mod_ii (by omega) | exact fdiv_ii (by omega) (by omega) | exact mod_ni (by omega) | exact fdiv_ni (by omega) (by omega) | exact pow_ii (by omega) (by omega) (by omega) | with_reducible apply ix_tup | with_reducible apply ix_lst | (simp only [List.set_cons_succ, List.set_cons_zero]; rfl) | exact rfl)
                      (repeat' first | (with_reducible apply ev_var; exact rfl) | with_reducible exact ev_K | with_reducible exact lp | with_reducible exact ev_aNil | with_reducible exact ev_oNo | with_reducible exact ev_tAll | with_reducible exact ev_gsN | with_reducible apply ev_aCons | with_reducible apply ev_d2 | with_reducible apply ev_d1 | with_reducible apply ev_dN | with_reducible apply ev_dCall | with_reducible apply ev_dTup | with_reducible apply ev_dLst | with_reducible apply ev_dLoc | with_reducible apply ev_sl | with_reducible apply ev_oSo | with_reducible apply ev_ch2b | with_reducible apply ev_ch3b | with_reducible apply ev_tB | with_reducible apply ev_tTru | with_reducible apply ev_tNo | with_reducible apply ev_no | with_reducible apply ev_dML | with_reducible apply ev_gTu | with_reducible apply ev_gsC | with_reducible apply ev_gSb | with_reducible apply ev_gNm | (simp only [List.length_cons, List.length_nil]; exact len_le (by decide)) | exact decide_eq_true (by omega) | exact decide_eq_false (by omega) | exact ne_t (by omega) | exact ne_f (by omega) | with_reducible apply lt_ii | with_reducible apply le_ii | with_reducible apply gt_ii | with_reducible apply ge_ii | with_reducible apply eq_ii | with_reducible apply ne_ii | with_reducible apply eq_ss | exact lp | with_reducible apply mul_ii | exact okMul_small (by omega) (by omega) | exact mod_ii (by omega) | exact fdiv_ii (by omega) (by omega) | exact mod_ni (by omega) | exact fdiv_ni (by omega) (by omega) | exact pow_ii (by omega) (by omega) (by omega) | with_reducible apply ix_tup | with_reducible apply ix_lst | (simp only [List.set_cons_succ, List.set_cons_zero]; rfl) | exact rfl)
                    exact ev_sNil
                  ((first | with_reducible apply ev_set | with_reducible apply ev_par | with_reducible apply ev_par3 | with_reducible apply ev_asg | with_reducible apply ev_ex | with_reducible apply ev_ret | with_reducible exact ev_sNil | (with_reducible apply ev_aug; exact rfl)) <;> (repeat' first | (with_reducible apply ev_var; exact rfl) | with_reducible exact ev_K | with_reducible exact i1 | with_reducible exact j1 | with_reducible exact ix_p0 | with_reducible exact ix_p1 | with_reducible exact g | with_reducible exact t1 | with_reducible exact ev_aNil | with_reducible exact ev_oNo | with_reducible exact ev_tAll | with_reducible exact ev_gsN | with_reducible apply ev_aCons | with_reducible apply ev_d2 | with_reducible apply ev_d1 | with_reducible apply ev_dN | with_reducible apply ev_dCall | with_reducible apply ev_dTup | with_reducible apply ev_dLst | with_reducible apply ev_dLoc | with_reducible apply ev_sl | with_reducible apply ev_oSo | with_reducible apply ev_ch2b | with_reducible apply ev_ch3b | with_reducible apply ev_tB | with_reducible apply ev_tTru | with_reducible apply ev_tNo | with_reducible apply ev_no | with_reducible apply ev_dML | with_reducible apply ev_gTu | with_reducible apply ev_gsC | with_reducible apply ev_gSb | with_reducible apply ev_gNm | (simp only [List.length_cons, List.length_nil]; exact len_le (by decide)) | exact decide_eq_true (by omega) | exact decide_eq_false (by omega) | exact ne_t (by omega) | exact ne_f (by omega) | with_reducible apply lt_ii | with_reducible apply le_ii | with_reducible apply gt_ii | with_reducible apply ge_ii | with_reducible apply eq_ii | with_reducible apply ne_ii | with_reducible apply eq_ss | exact i1 | exact j1 | exact ix_p0 | exact ix_p1 | exact g | exact t1 | with_reducible apply mul_ii | exact okMul_small (by omega) (by omega) | exact mod_ii (by omega) | exact fdiv_ii (by omega) (by omega) | exact mod_ni (by omega) | exact fdiv_ni (by omega) (by omega) | exact pow_ii (by omega) (by omega) (by omega) | with_reducible apply ix_tup | with_reducible apply ix_lst | (simp only [List.set_cons_succ, List.set_cons_zero]; rfl) | exact rfl))
              · have hch : (!(decide (0 ≤ i) && (decide (i < j) && decide (j < (ps.length : Int))))) = true := by
                  rw [Bool.not_eq_true', ← Bool.not_eq_true, Bool.and_eq_true, Bool.and_eq_true, decide_eq_true_eq, decide_eq_true_eq, decide_eq_true_eq]
                  exact hr
                refine ⟨false, ?_, ?_⟩
                · refine runF_rt (ρ := [some (prs ps), some (.tup [.str (Str.ofString "apart"), .int i, .int j]), none, none, none]) rfl ?_
                  apply ev_seq J1
                  apply ev_seq J3
                  apply ev_seq_rt
                  (apply ev_sIf_t; case' hc => (repeat' first | (with_reducible apply ev_var; exact rfl) | with_reducible exact ev_K | with_reducible exact x0 | with_reducible exact heq | with_reducible exact ev_aNil | with_reducible exact ev_oNo | with_reducible exact ev_tAll | with_reducible exact ev_gsN | with_reducible apply ev_aCons | with_reducible apply ev_d2 | with_reducible apply ev_d1 | with_reducible apply ev_dN | with_reducible apply ev_dCall | with_reducible apply ev_dTup | with_reducible apply ev_dLst | with_reducible apply ev_dLoc | with_reducible apply ev_sl | with_reducible apply ev_oSo | with_reducible apply ev_ch2b | with_reducible apply ev_ch3b | with_reducible apply ev_tB | with_reducible apply ev_tTru | with_reducible apply ev_tNo | with_reducible apply ev_no | with_reducible apply ev_dML | with_reducible apply ev_gTu | with_reducible apply ev_gsC | with_reducible apply ev_gSb | with_reducible apply ev_gNm | (simp only [List.length_cons, List.length_nil]; exact len_le (by decide)) | exact decide_eq_true (by omega) | exact decide_eq_false (by omega) | exact ne_t (by omega) | exact ne_f (by omega) | with_reducible apply lt_ii | with_reducible apply le_ii | with_reducible apply gt_ii | with_reducible apply ge_ii | with_reducible apply eq_ii | with_reducible apply ne_ii | with_reducible apply eq_ss | exact x0 | exact heq | with_reducible apply mul_ii | exact okMul_small (by omega) (by omega) | exact mod_ii (by omega) | exact fdiv_ii (by omega) (by omega) | exact mod_ni (by omega) | exact fdiv_ni (by omega) (by omega) | exact pow_ii (by omega) (by omega) (by omega) | with_reducible apply ix_tup | with_reducible apply ix_lst | (simp only [List.set_cons_succ, List.set_cons_zero]; rfl) | exact rfl))
                  (apply ev_seq; case' ha => ((first | with_reducible apply ev_set | with_reducible apply ev_par | with_reducible apply ev_par3 | with_reducible apply ev_asg | with_reducible apply ev_ex | with_reducible apply ev_ret | with_reducible exact ev_sNil | (with_reducible apply ev_aug; exact rfl)) <;> (repeat' first | (with_reducible apply ev_var; exact rfl) | with_reducible exact ev_K | with_reducible exact s1 | with_reducible exact ev_aNil | with_reducible exact ev_oNo | with_reducible exact ev_tAll | with_reducible exact ev_gsN | with_reducible apply ev_aCons | with_reducible apply ev_d2 | with_reducible apply ev_d1 | with_reducible apply ev_dN | with_reducible apply ev_dCall | with_reducible apply ev_dTup | with_reducible apply ev_dLst | with_reducible apply ev_dLoc | with_reducible apply ev_sl | with_reducible apply ev_oSo | with_reducible apply ev_ch2b | with_reducible apply ev_ch3b | with_reducible apply ev_tB | with_reducible apply ev_tTru | with_reducible apply ev_tNo | with_reducible apply ev_no | with_reducible apply ev_dML | with_reducible apply ev_gTu | with_reducible apply ev_gsC | with_reducible apply ev_gSb | with_reducible apply ev_gNm | (simp only [List.length_cons, List.length_nil]; exact len_le (by decide)) | exact decide_eq_true (by omega) | exact decide_eq_false (by omega) | exact ne_t (by omega) | exact ne_f (by omega) | with_reducible apply lt_ii | with_reducible apply le_ii | with_reducible apply gt_ii | with_reducible apply ge_ii | with_reducible apply eq_ii | with_reducible apply ne_ii | with_reducible apply eq_ss | exact s1 | with_reducible apply mul_ii | exact okMul_small (by omega) (by omega) | exact mod_ii (by omega) | exact fdiv_ii (by omega) (by omega) | exact mod_ni (by omega) | exact fdiv_ni (by omega) (by omega) | exact pow_ii (by omega) (by omega) (by omega) | with_reducible apply ix_tup | with_reducible apply ix_lst | (simp only [List.set_cons_succ, List.set_cons_zero]; rfl) | exact rfl)))
                  apply ev_seq_rt
                  (apply ev_sIf_t; case' hc => (repeat' first | (with_reducible apply ev_var; exact rfl) | with_reducible exact ev_K | with_reducible exact lp | with_reducible exact hch | with_reducible exact ev_aNil | with_reducible exact ev_oNo | with_reducible exact ev_tAll | with_reducible exact ev_gsN | with_reducible apply ev_aCons | with_reducible apply ev_d2 | with_reducible apply ev_d1 | with_reducible apply ev_dN | with_reducible apply ev_dCall | with_reducible apply ev_dTup | with_reducible apply ev_dLst | with_reducible apply ev_dLoc | with_reducible apply ev_sl | with_reducible apply ev_oSo | with_reducible apply ev_ch2b | with_reducible apply ev_ch3b | with_reducible apply ev_tB | with_reducible apply ev_tTru | with_reducible apply ev_tNo | with_reducible apply ev_no | with_reducible apply ev_dML | with_reducible apply ev_gTu | with_reducible apply ev_gsC | with_reducible apply ev_gSb | with_reducible apply ev_gNm | (simp only [List.length_cons, List.length_nil]; exact len_le (by decide)) | exact decide_eq_true (by omega) | exact decide_eq_false (by omega) | exact ne_t (by omega) | exact ne_f (by omega) | with_reducible apply lt_ii | with_reducible apply le_ii | with_reducible apply gt_ii | with_reducible apply ge_ii | with_reducible apply eq_ii | with_reducible apply ne_ii | with_reducible apply eq_ss | exact lp | exact hch | with_reducible apply mul_ii | exact okMul_small (by omega) (by omega) | exact mod_ii (by omega) | exact fdiv_ii (by omega) (by omega) | exact mod_ni (by omega) | exact fdiv_ni (by omega) (by omega) | exact pow_ii (by omega) (by omega) (by omega) | with_reducible apply ix_tup | with_reducible apply ix_lst | (simp only [List.set_cons_succ, List.set_cons_zero]; rfl) | exact rfl))
                  ((first | with_reducible apply ev_set | with_reducible apply ev_par | with_reducible apply ev_par3 | with_reducible apply ev_asg | with_reducible apply ev_ex | with_reducible apply ev_ret | with_reducible exact ev_sNil | (with_reducible apply ev_aug; exact rfl)) <;> (repeat' first | (with_reducible apply ev_var; exact rfl) | with_reducible exact ev_K | with_reducible exact ev_aNil | with_reducible exact ev_oNo | with_reducible exact ev_tAll | with_reducible exact ev_gsN | with_reducible apply ev_aCons | with_reducible apply ev_d2 | with_reducible apply ev_d1 | with_reducible apply ev_dN | with_reducible apply ev_dCall | with_reducible apply ev_dTup | with_reducible apply ev_dLst | with_reducible apply ev_dLoc | with_reducible apply ev_sl | with_reducible apply ev_oSo | with_reducible apply ev_ch2b | with_reducible apply ev_ch3b | with_reducible apply ev_tB | with_reducible apply ev_tTru | with_reducible apply ev_tNo | with_reducible apply ev_no | with_reducible apply ev_dML | with_reducible apply ev_gTu | with_reducible apply ev_gsC | with_reducible apply ev_gSb | with_reducible apply ev_gNm | (simp only [List.length_cons, List.length_nil]; exact len_le (by decide)) | exact decide_eq_true (by omega) | exact decide_eq_false (by omega) | exact ne_t (by omega) | exact ne_f (by omega) | with_reducible apply lt_ii | with_reducible apply le_ii | with_reducible apply gt_ii | with_reducible apply ge_ii | with_reducible apply eq_ii | with_reducible apply ne_ii | with_reducible apply eq_ss | with_reducible apply mul_ii | exact okMul_small (by omega) (by omega) | exact mod_ii (by omega) | exact fdiv_ii (by omega) (by omega) | exact mod_ni (by omega) | exact fdiv_ni (by omega) (by omega) | exact pow_ii (by omega) (by omega) (by omega) | with_reducible apply ix_tup | with_reducible apply ix_lst | (simp only [List.set_cons_succ, List.set_cons_zero]; rfl) | exact rfl))
                · refine runF_rt (ρ := [some (prs ps), some (.tup [.str (Str.ofString "apart"), .int i, .int j]), none, none]) rfl ?_
                  apply ev_seq P1
                  apply ev_seq P2
                  apply ev_seq
                  case ha =>
                    (apply ev_sIf_f; case' hc => (repeat' first | (with_reducible apply ev_var; exact rfl) | with_reducible exact ev_K | with_reducible exact x0 | with_reducible exact heq2 | with_reducible exact ev_aNil | with_reducible exact ev_oNo | with_reducible exact ev_tAll | with_reducible exact ev_gsN | with_reducible apply ev_aCons | with_reducible apply ev_d2 | with_reducible apply ev_d1 | with_reducible apply ev_dN | with_reducible apply ev_dCall | with_reducible apply ev_dTup | with_reducible apply ev_dLst | with_reducible apply ev_dLoc | with_reducible apply ev_sl | with_reducible apply ev_oSo | with_reducible apply ev_ch2b | with_reducible apply ev_ch3b | with_reducible apply ev_tB | with_reducible apply ev_tTru | with_reducible apply ev_tNo | with_reducible apply ev_no | with_reducible apply ev_dML | with_reducible apply ev_gTu | with_reducible apply ev_gsC | with_reducible apply ev_gSb | with_reducible apply ev_gNm | (simp only [List.length_cons, List.length_nil]; exact len_le (by decide)) | exact decide_eq_true (by omega) | exact decide_eq_false (by omega) | exact ne_t (by omega) | exact ne_f (by omega) | with_reducible apply lt_ii | with_reducible apply le_ii | with_reducible apply gt_ii | with_reducible apply ge_ii | with_reducible apply eq_ii | with_reducible apply ne_ii | with_reducible apply eq_ss | exact x0 | exact heq2 | with_reducible apply mul_ii | exact okMul_small (by omega) (by omega) | exact mod_ii (by omega) | exact fdiv_ii (by omega) (by omega) | exact mod_ni (by omega) | exact fdiv_ni (by omega) (by omega) | exact pow_ii (by omega) (by omega) (by omega) | with_reducible apply ix_tup | with_reducible apply ix_lst | (simp only [List.set_cons_succ, List.set_cons_zero]; rfl) | exact rfl))
                    exact ev_sNil
                  (apply ev_seq; case' ha => ((first | with_reducible apply ev_set | with_reducible apply ev_par | with_reducible apply ev_par3 | with_reducible apply ev_asg | with_reducible apply ev_ex | with_reducible apply ev_ret | with_reducible exact ev_sNil | (with_reducible apply ev_aug; exact rfl)) <;> (repeat' first | (with_reducible apply ev_var; exact rfl) | with_reducible exact ev_K | with_reducible exact s1 | with_reducible exact ev_aNil | with_reducible exact ev_oNo | with_reducible exact ev_tAll | with_reducible exact ev_gsN | with_reducible apply ev_aCons | with_reducible apply ev_d2 | with_reducible apply ev_d1 | with_reducible apply ev_dN | with_reducible apply ev_dCall | with_reducible apply ev_dTup | with_reducible apply ev_dLst | with_reducible apply ev_dLoc | with_reducible apply ev_sl | with_reducible apply ev_oSo | with_reducible apply ev_ch2b | with_reducible apply ev_ch3b | with_reducible apply ev_tB | with_reducible apply ev_tTru | with_reducible apply ev_tNo | with_reducible apply ev_no | with_reducible apply ev_dML | with_reducible apply ev_gTu | with_reducible apply ev_gsC | with_reducible apply ev_gSb | with_reducible apply ev_gNm | (simp only [List.length_cons, List.length_nil]; exact len_le (by decide)) | exact decide_eq_true (by omega) | exact decide_eq_false (by omega) | exact ne_t (by omega) | exact ne_f (by omega) | with_reducible apply lt_ii | with_reducible apply le_ii | with_reducible apply gt_ii | with_reducible apply ge_ii | with_reducible apply eq_ii | with_reducible apply ne_ii | with_reducible apply eq_ss | exact s1 | with_reducible apply mul_ii | exact okMul_small (by omega) (by omega) | exact mod_ii (by omega) | exact fdiv_ii (by omega) (by omega) | exact mod_ni (by omega) | exact fdiv_ni (by omega) (by omega) | exact pow_ii (by omega) (by omega) (by omega) | with_reducible apply ix_tup | with_reducible apply ix_lst | (simp only [List.set_cons_succ, List.set_cons_zero]; rfl) | exact rfl)))
                  apply ev_seq_rt
                  apply ev_sIf_t
                  case hc =>
                    apply ev_tOr_f
                    case h => (repeat' first | (with_reducible apply ev_var; exact rfl) | with_reducible exact ev_K | with_reducible exact x0 | with_reducible exact hne | with_reducible exact ev_aNil | with_reducible exact ev_oNo | with_reducible exact ev_tAll | with_reducible exact ev_gsN | with_reducible apply ev_aCons | with_reducible apply ev_d2 | with_reducible apply ev_d1 | with_reducible apply ev_dN | with_reducible apply ev_dCall | with_reducible apply ev_dTup | with_reducible apply ev_dLst | with_reducible apply ev_dLoc | with_reducible apply ev_sl | with_reducible apply ev_oSo | with_reducible apply ev_ch2b | with_reducible apply ev_ch3b | with_reducible apply ev_tB | with_reducible apply ev_tTru | with_reducible apply ev_tNo | with_reducible apply ev_no | with_reducible apply ev_dML | with_reducible apply ev_gTu | with_reducible apply ev_gsC | with_reducible apply ev_gSb | with_reducible apply ev_gNm | (simp only [List.length_cons, List.length_nil]; exact len_le (by decide)) | exact decide_eq_true (by omega) | exact decide_eq_false (by omega) | exact ne_t (by omega) | exact ne_f (by omega) | with_reducible apply lt_ii | with_reducible apply le_ii | with_reducible apply gt_ii | with_reducible apply ge_ii | with_reducible apply eq_ii | with_reducible apply ne_ii | with_reducible apply eq_ss | exact x0 | exact hne | with_reducible apply mul_ii | exact okMul_small (by omega) (by omega) | exact mod_ii (by omega) | exact fdiv_ii (by omega) (by omega) | exact mod_ni (by omega) | exact fdiv_ni (by omega) (by omega) | exact pow_ii (by omega) (by omega) (by omega) | with_reducible apply ix_tup | with_reducible apply ix_lst | (simp only [List.set_cons_succ, List.set_cons_zero]; rfl) | exact rfl)
                    (repeat' first | (with_reducible apply ev_var; exact rfl) | with_reducible exact ev_K | with_reducible exact lp | with_reducible exact hch | with_reducible exact ev_aNil | with_reducible exact ev_oNo | with_reducible exact ev_tAll | with_reducible exact ev_gsN | with_reducible apply ev_aCons | with_reducible apply ev_d2 | with_reducible apply ev_d1 | with_reducible apply ev_dN | with_reducible apply ev_dCall | with_reducible apply ev_dTup | with_reducible apply ev_dLst | with_reducible apply ev_dLoc | with_reducible apply ev_sl | with_reducible apply ev_oSo | with_reducible apply ev_ch2b | with_reducible apply ev_ch3b | with_reducible apply ev_tB | with_reducible apply ev_tTru | with_reducible apply ev_tNo | with_reducible apply ev_no | with_reducible apply ev_dML | with_reducible apply ev_gTu | with_reducible apply ev_gsC | with_reducible apply ev_gSb | with_reducible apply ev_gNm | (simp only [List.length_cons, List.length_nil]; exact len_le (by decide)) | exact decide_eq_true (by omega) | exact decide_eq_false (by omega) | exact ne_t (by omega) | exact ne_f (by omega) | with_reducible apply lt_ii | with_reducible apply le_ii | with_reducible apply gt_ii | with_reducible apply ge_ii | with_reducible apply eq_ii | with_reducible apply ne_ii | with_reducible apply eq_ss | exact lp | exact hch | with_reducible apply mul_ii | exact okMul_small (by omega) (by omega) | exact mod_ii (by omega) | exact fdiv_ii (by omega) (by omega) | exact mod_ni (by omega) | exact fdiv_ni (by omega) (by omega) | exact pow_ii (by omega) (by omega) (by omega) | with_reducible apply ix_tup | with_reducible apply ix_lst | (simp only [List.set_cons_succ, List.set_cons_zero]; rfl) | exact rfl)
                  ((first | with_reducible apply ev_set | with_reducible apply ev_par | with_reducible apply ev_par3 | with_reducible apply ev_asg | with_reducible apply ev_ex | with_reducible apply ev_ret | with_reducible exact ev_sNil | (with_reducible apply ev_aug; exact rfl)) <;> (repeat' first | (with_reducible apply ev_var; exact rfl) | with_reducible exact ev_K | with_reducible exact ev_aNil | with_reducible exact ev_oNo | with_reducible exact ev_tAll | with_reducible exact ev_gsN | with_reducible apply ev_aCons | with_reducible apply ev_d2 | with_reducible apply ev_d1 | with_reducible apply ev_dN | with_reducible apply ev_dCall | with_reducible apply ev_dTup | with_reducible apply ev_dLst | with_reducible apply ev_dLoc | with_reducible apply ev_sl | with_reducible apply ev_oSo | with_reducible apply ev_ch2b | with_reducible apply ev_ch3b | with_reducible apply ev_tB | with_reducible apply ev_tTru | with_reducible apply ev_tNo | with_reducible apply ev_no | with_reducible apply ev_dML | with_reducible apply ev_gTu | with_reducible apply ev_gsC | with_reducible apply ev_gSb | with_reducible apply ev_gNm | (simp only [List.length_cons, List.length_nil]; exact len_le (by decide)) | exact decide_eq_true (by omega) | exact decide_eq_false (by omega) | exact ne_t (by omega) | exact ne_f (by omega) | with_reducible apply lt_ii | with_reducible apply le_ii | with_reducible apply gt_ii | with_reducible apply ge_ii | with_reducible apply eq_ii | with_reducible apply ne_ii | with_reducible apply eq_ss | with_reducible apply mul_ii | exact okMul_small (by omega) (by omega) | exact mod_ii (by omega) | exact fdiv_ii (by omega) (by omega) | exact mod_ni (by omega) | exact fdiv_ni (by omega) (by omega) | exact pow_ii (by omega) (by omega) (by omega) | with_reducible apply ix_tup | with_reducible apply ix_lst | (simp only [List.set_cons_succ, List.set_cons_zero]; rfl) | exact rfl))
            · by_cases zj : z = Str.ofString "joined"
              · subst zj
                have heq : f_eq (.str (Str.ofString "joined")) (.str (Str.ofString "joined")) μ = some (.bl true, μ) := eq_ss (decide_eq_true rfl)
                have heq2 : f_eq (.str (Str.ofString "joined")) (.str (Str.ofString "apart")) μ = some (.bl false, μ) := eq_ss hja
                have lj := lj_ok ok μ
                have fin : ∀ (V : PV) (b : Bool), p_jr [prs ps] μ = some (V, μ) → f_eq (.tup [.str (Str.ofString "joined"), .int i, .int j]) V μ = some (.bl b, μ) → f_eq (.tup [.int i, .int j]) (foldV (foldJ ps (0, 1))) μ = some (.bl b, μ) →
                    ∃ b : Bool, p_judge [prs ps, .tup [.str (Str.ofString "joined"), .int i, .int j]] μ = some (.bl b, μ) ∧ p_paper [prs ps, .tup [.str (Str.ofString "joined"), .int i, .int j]] μ = some (.bl b, μ) := fun V b h1 h2 h4 => by
                  refine ⟨b, ?_, ?_⟩
                  · refine runF_rt (ρ := [some (prs ps), some (.tup [.str (Str.ofString "joined"), .int i, .int j]), none, none, none]) rfl ?_
                    apply ev_seq J1
                    apply ev_seq J3
                    apply ev_seq
                    case ha =>
                      (apply ev_sIf_f; case' hc => (repeat' first | (with_reducible apply ev_var; exact rfl) | with_reducible exact ev_K | with_reducible exact x0 | with_reducible exact heq2 | with_reducible exact ev_aNil | with_reducible exact ev_oNo | with_reducible exact ev_tAll | with_reducible exact ev_gsN | with_reducible apply ev_aCons | with_reducible apply ev_d2 | with_reducible apply ev_d1 | with_reducible apply ev_dN | with_reducible apply ev_dCall | with_reducible apply ev_dTup | with_reducible apply ev_dLst | with_reducible apply ev_dLoc | with_reducible apply ev_sl | with_reducible apply ev_oSo | with_reducible apply ev_ch2b | with_reducible apply ev_ch3b | with_reducible apply ev_tB | with_reducible apply ev_tTru | with_reducible apply ev_tNo | with_reducible apply ev_no | with_reducible apply ev_dML | with_reducible apply ev_gTu | with_reducible apply ev_gsC | with_reducible apply ev_gSb | with_reducible apply ev_gNm | (simp only [List.length_cons, List.length_nil]; exact len_le (by decide)) | exact decide_eq_true (by omega) | exact decide_eq_false (by omega) | exact ne_t (by omega) | exact ne_f (by omega) | with_reducible apply lt_ii | with_reducible apply le_ii | with_reducible apply gt_ii | with_reducible apply ge_ii | with_reducible apply eq_ii | with_reducible apply ne_ii | with_reducible apply eq_ss | exact x0 | exact heq2 | with_reducible apply mul_ii | exact okMul_small (by omega) (by omega) | exact mod_ii (by omega) | exact fdiv_ii (by omega) (by omega) | exact mod_ni (by omega) | exact fdiv_ni (by omega) (by omega) | exact pow_ii (by omega) (by omega) (by omega) | with_reducible apply ix_tup | with_reducible apply ix_lst | (simp only [List.set_cons_succ, List.set_cons_zero]; rfl) | exact rfl))
                      exact ev_sNil
                    apply ev_ret
                    apply ev_an_t (x := .bl true) (μ1 := μ)
                    case ha => (repeat' first | (with_reducible apply ev_var; exact rfl) | with_reducible exact ev_K | with_reducible exact x0 | with_reducible exact heq | with_reducible exact ev_aNil | with_reducible exact ev_oNo | with_reducible exact ev_tAll | with_reducible exact ev_gsN | with_reducible apply ev_aCons | with_reducible apply ev_d2 | with_reducible apply ev_d1 | with_reducible apply ev_dN | with_reducible apply ev_dCall | with_reducible apply ev_dTup | with_reducible apply ev_dLst | with_reducible apply ev_dLoc | with_reducible apply ev_sl | with_reducible apply ev_oSo | with_reducible apply ev_ch2b | with_reducible apply ev_ch3b | with_reducible apply ev_tB | with_reducible apply ev_tTru | with_reducible apply ev_tNo | with_reducible apply ev_no | with_reducible apply ev_dML | with_reducible apply ev_gTu | with_reducible apply ev_gsC | with_reducible apply ev_gSb | with_reducible apply ev_gNm | (simp only [List.length_cons, List.length_nil]; exact len_le (by decide)) | exact decide_eq_true (by omega) | exact decide_eq_false (by omega) | exact ne_t (by omega) | exact ne_f (by omega) | with_reducible apply lt_ii | with_reducible apply le_ii | with_reducible apply gt_ii | with_reducible apply ge_ii | with_reducible apply eq_ii | with_reducible apply ne_ii | with_reducible apply eq_ss | exact x0 | exact heq | with_reducible apply mul_ii | exact okMul_small (by omega) (by omega) | exact mod_ii (by omega) | exact fdiv_ii (by omega) (by omega) | exact mod_ni (by omega) | exact fdiv_ni (by omega) (by omega) | exact pow_ii (by omega) (by omega) (by omega) | with_reducible apply ix_tup | with_reducible apply ix_lst | (simp only [List.set_cons_succ, List.set_cons_zero]; rfl) | exact rfl)
                    case ht => rfl
                    exact ev_d2 (ev_var rfl) (ev_dCall (ev_aCons (ev_var rfl) ev_aNil) h1 rfl) h2
                  · refine runF_rt (ρ := [some (prs ps), some (.tup [.str (Str.ofString "joined"), .int i, .int j]), none, none]) rfl ?_
                    apply ev_seq P1
                    apply ev_seq P2
                    apply ev_seq_rt
                    (apply ev_sIf_t; case' hc => (repeat' first | (with_reducible apply ev_var; exact rfl) | with_reducible exact ev_K | with_reducible exact x0 | with_reducible exact heq | with_reducible exact ev_aNil | with_reducible exact ev_oNo | with_reducible exact ev_tAll | with_reducible exact ev_gsN | with_reducible apply ev_aCons | with_reducible apply ev_d2 | with_reducible apply ev_d1 | with_reducible apply ev_dN | with_reducible apply ev_dCall | with_reducible apply ev_dTup | with_reducible apply ev_dLst | with_reducible apply ev_dLoc | with_reducible apply ev_sl | with_reducible apply ev_oSo | with_reducible apply ev_ch2b | with_reducible apply ev_ch3b | with_reducible apply ev_tB | with_reducible apply ev_tTru | with_reducible apply ev_tNo | with_reducible apply ev_no | with_reducible apply ev_dML | with_reducible apply ev_gTu | with_reducible apply ev_gsC | with_reducible apply ev_gSb | with_reducible apply ev_gNm | (simp only [List.length_cons, List.length_nil]; exact len_le (by decide)) | exact decide_eq_true (by omega) | exact decide_eq_false (by omega) | exact ne_t (by omega) | exact ne_f (by omega) | with_reducible apply lt_ii | with_reducible apply le_ii | with_reducible apply gt_ii | with_reducible apply ge_ii | with_reducible apply eq_ii | with_reducible apply ne_ii | with_reducible apply eq_ss | exact x0 | exact heq | with_reducible apply mul_ii | exact okMul_small (by omega) (by omega) | exact mod_ii (by omega) | exact fdiv_ii (by omega) (by omega) | exact mod_ni (by omega) | exact fdiv_ni (by omega) (by omega) | exact pow_ii (by omega) (by omega) (by omega) | with_reducible apply ix_tup | with_reducible apply ix_lst | (simp only [List.set_cons_succ, List.set_cons_zero]; rfl) | exact rfl))
                    ((first | with_reducible apply ev_set | with_reducible apply ev_par | with_reducible apply ev_par3 | with_reducible apply ev_asg | with_reducible apply ev_ex | with_reducible apply ev_ret | with_reducible exact ev_sNil | (with_reducible apply ev_aug; exact rfl)) <;> (repeat' first | (with_reducible apply ev_var; exact rfl) | with_reducible exact ev_K | with_reducible exact s1 | with_reducible exact lj | with_reducible exact h4 | with_reducible exact ev_aNil | with_reducible exact ev_oNo | with_reducible exact ev_tAll | with_reducible exact ev_gsN | with_reducible apply ev_aCons | with_reducible apply ev_d2 | with_reducible apply ev_d1 | with_reducible apply ev_dN | with_reducible apply ev_dCall | with_reducible apply ev_dTup | with_reducible apply ev_dLst | with_reducible apply ev_dLoc | with_reducible apply ev_sl | with_reducible apply ev_oSo | with_reducible apply ev_ch2b | with_reducible apply ev_ch3b | with_reducible apply ev_tB | with_reducible apply ev_tTru | with_reducible apply ev_tNo | with_reducible apply ev_no | with_reducible apply ev_dML | with_reducible apply ev_gTu | with_reducible apply ev_gsC | with_reducible apply ev_gSb | with_reducible apply ev_gNm | (simp only [List.length_cons, List.length_nil]; exact len_le (by decide)) | exact decide_eq_true (by omega) | exact decide_eq_false (by omega) | exact ne_t (by omega) | exact ne_f (by omega) | with_reducible apply lt_ii | with_reducible apply le_ii | with_reducible apply gt_ii | with_reducible apply ge_ii | with_reducible apply eq_ii | with_reducible apply ne_ii | with_reducible apply eq_ss | exact s1 | exact lj | exact h4 | with_reducible apply mul_ii | exact okMul_small (by omega) (by omega) | exact mod_ii (by omega) | exact fdiv_ii (by omega) (by omega) | exact mod_ni (by omega) | exact fdiv_ni (by omega) (by omega) | exact pow_ii (by omega) (by omega) (by omega) | with_reducible apply ix_tup | with_reducible apply ix_lst | (simp only [List.set_cons_succ, List.set_cons_zero]; rfl) | exact rfl))
                have K : ∀ (w : Str) (R N : Int), PyData.strOk w = true → f_eq (.tup [.str (Str.ofString "joined"), .int i, .int j]) (.tup [.str w, .int R, .int N]) μ = some (.bl ((Str.ofString "joined" == w) && ((i == R) && ((j == N) && true))), μ) := fun w R N hw => by
                  have e1 : pok (.tup [.str (Str.ofString "joined"), .int i, .int j]) 64 = true := by
                    show (PyData.strOk _ && (true && (true && true))) = true
                    rw [hz]; rfl
                  have e2 : pok (.tup [.str w, .int R, .int N]) 64 = true := by
                    show (PyData.strOk _ && (true && (true && true))) = true
                    rw [hw]; rfl
                  show (if (pok (.tup [.str (Str.ofString "joined"), .int i, .int j]) 64 && pok (.tup [.str w, .int R, .int N]) 64) = true then _ else _) = _
                  rw [e1, e2]
                  rfl
                have aok : PyData.strOk (Str.ofString "apart") = true := by decide +kernel
                have jr := jr_ok ok μ
                cases hAL : AL ps with
                | nil =>
                  obtain ⟨⟨R, N⟩, hst⟩ := (AL_nil ok).mp hAL
                  refine fin _ ((i == R) && ((j == N) && true)) (jr.2 hAL R N hst) ?_ ?_
                  · rw [K _ _ _ hz, beq_self_eq_true, Bool.true_and]
                  · rw [hst]; rfl
                | cons p t =>
                  obtain ⟨i', j'⟩ := p
                  have hno : foldJ ps (0, 1) = none := by
                    cases h : foldJ ps (0, 1) with
                    | none => rfl
                    | some st =>
                      have := (AL_nil ok).mpr ⟨st, h⟩
                      rw [hAL] at this
                      cases this
                  refine fin _ false (jr.1 i' j' t hAL) ?_ ?_
                  · rw [K _ _ _ aok]
                    have : (Str.ofString "joined" == Str.ofString "apart") = false := by
                      rw [beq_eq_false_iff_ne]
                      exact za
                    rw [this]
                    rfl
                  · rw [hno]; rfl
              · have heq1 : f_eq (.str z) (.str (Str.ofString "joined")) μ = some (.bl false, μ) := eq_ss (decide_eq_false zj)
                have heq2 : f_eq (.str z) (.str (Str.ofString "apart")) μ = some (.bl false, μ) := eq_ss (decide_eq_false za)
                have hne : f_ne (.str z) (.str (Str.ofString "apart")) μ = some (.bl true, μ) := by
                  show some (PV.bl (!decide (z = Str.ofString "apart")), μ) = _
                  rw [decide_eq_false za]; rfl
                refine ⟨false, ?_, ?_⟩
                · refine runF_rt (ρ := [some (prs ps), some (.tup [.str z, .int i, .int j]), none, none, none]) rfl ?_
                  apply ev_seq J1
                  apply ev_seq J3
                  apply ev_seq
                  case ha =>
                    (apply ev_sIf_f; case' hc => (repeat' first | (with_reducible apply ev_var; exact rfl) | with_reducible exact ev_K | with_reducible exact x0 | with_reducible exact heq2 | with_reducible exact ev_aNil | with_reducible exact ev_oNo | with_reducible exact ev_tAll | with_reducible exact ev_gsN | with_reducible apply ev_aCons | with_reducible apply ev_d2 | with_reducible apply ev_d1 | with_reducible apply ev_dN | with_reducible apply ev_dCall | with_reducible apply ev_dTup | with_reducible apply ev_dLst | with_reducible apply ev_dLoc | with_reducible apply ev_sl | with_reducible apply ev_oSo | with_reducible apply ev_ch2b | with_reducible apply ev_ch3b | with_reducible apply ev_tB | with_reducible apply ev_tTru | with_reducible apply ev_tNo | with_reducible apply ev_no | with_reducible apply ev_dML | with_reducible apply ev_gTu | with_reducible apply ev_gsC | with_reducible apply ev_gSb | with_reducible apply ev_gNm | (simp only [List.length_cons, List.length_nil]; exact len_le (by decide)) | exact decide_eq_true (by omega) | exact decide_eq_false (by omega) | exact ne_t (by omega) | exact ne_f (by omega) | with_reducible apply lt_ii | with_reducible apply le_ii | with_reducible apply gt_ii | with_reducible apply ge_ii | with_reducible apply eq_ii | with_reducible apply ne_ii | with_reducible apply eq_ss | exact x0 | exact heq2 | with_reducible apply mul_ii | exact okMul_small (by omega) (by omega) | exact mod_ii (by omega) | exact fdiv_ii (by omega) (by omega) | exact mod_ni (by omega) | exact fdiv_ni (by omega) (by omega) | exact pow_ii (by omega) (by omega) (by omega) | with_reducible apply ix_tup | with_reducible apply ix_lst | (simp only [List.set_cons_succ, List.set_cons_zero]; rfl) | exact rfl))
                    exact ev_sNil
                  apply ev_ret
                  apply ev_an_f (x := .bl false) (μ1 := μ)
                  case ha => (repeat' first | (with_reducible apply ev_var; exact rfl) | with_reducible exact ev_K | with_reducible exact x0 | with_reducible exact heq1 | with_reducible exact ev_aNil | with_reducible exact ev_oNo | with_reducible exact ev_tAll | with_reducible exact ev_gsN | with_reducible apply ev_aCons | with_reducible apply ev_d2 | with_reducible apply ev_d1 | with_reducible apply ev_dN | with_reducible apply ev_dCall | with_reducible apply ev_dTup | with_reducible apply ev_dLst | with_reducible apply ev_dLoc | with_reducible apply ev_sl | with_reducible apply ev_oSo | with_reducible apply ev_ch2b | with_reducible apply ev_ch3b | with_reducible apply ev_tB | with_reducible apply ev_tTru | with_reducible apply ev_tNo | with_reducible apply ev_no | with_reducible apply ev_dML | with_reducible apply ev_gTu | with_reducible apply ev_gsC | with_reducible apply ev_gSb | with_reducible apply ev_gNm | (simp only [List.length_cons, List.length_nil]; exact len_le (by decide)) | exact decide_eq_true (by omega) | exact decide_eq_false (by omega) | exact ne_t (by omega) | exact ne_f (by omega) | with_reducible apply lt_ii | with_reducible apply le_ii | with_reducible apply gt_ii | with_reducible apply ge_ii | with_reducible apply eq_ii | with_reducible apply ne_ii | with_reducible apply eq_ss | exact x0 | exact heq1 | with_reducible apply mul_ii | exact okMul_small (by omega) (by omega) | exact mod_ii (by omega) | exact fdiv_ii (by omega) (by omega) | exact mod_ni (by omega) | exact fdiv_ni (by omega) (by omega) | exact pow_ii (by omega) (by omega) (by omega) | with_reducible apply ix_tup | with_reducible apply ix_lst | (simp only [List.set_cons_succ, List.set_cons_zero]; rfl) | exact rfl)
                  rfl
                · refine runF_rt (ρ := [some (prs ps), some (.tup [.str z, .int i, .int j]), none, none]) rfl ?_
                  apply ev_seq P1
                  apply ev_seq P2
                  apply ev_seq
                  case ha =>
                    (apply ev_sIf_f; case' hc => (repeat' first | (with_reducible apply ev_var; exact rfl) | with_reducible exact ev_K | with_reducible exact x0 | with_reducible exact heq1 | with_reducible exact ev_aNil | with_reducible exact ev_oNo | with_reducible exact ev_tAll | with_reducible exact ev_gsN | with_reducible apply ev_aCons | with_reducible apply ev_d2 | with_reducible apply ev_d1 | with_reducible apply ev_dN | with_reducible apply ev_dCall | with_reducible apply ev_dTup | with_reducible apply ev_dLst | with_reducible apply ev_dLoc | with_reducible apply ev_sl | with_reducible apply ev_oSo | with_reducible apply ev_ch2b | with_reducible apply ev_ch3b | with_reducible apply ev_tB | with_reducible apply ev_tTru | with_reducible apply ev_tNo | with_reducible apply ev_no | with_reducible apply ev_dML | with_reducible apply ev_gTu | with_reducible apply ev_gsC | with_reducible apply ev_gSb | with_reducible apply ev_gNm | (simp only [List.length_cons, List.length_nil]; exact len_le (by decide)) | exact decide_eq_true (by omega) | exact decide_eq_false (by omega) | exact ne_t (by omega) | exact ne_f (by omega) | with_reducible apply lt_ii | with_reducible apply le_ii | with_reducible apply gt_ii | with_reducible apply ge_ii | with_reducible apply eq_ii | with_reducible apply ne_ii | with_reducible apply eq_ss | exact x0 | exact heq1 | with_reducible apply mul_ii | exact okMul_small (by omega) (by omega) | exact mod_ii (by omega) | exact fdiv_ii (by omega) (by omega) | exact mod_ni (by omega) | exact fdiv_ni (by omega) (by omega) | exact pow_ii (by omega) (by omega) (by omega) | with_reducible apply ix_tup | with_reducible apply ix_lst | (simp only [List.set_cons_succ, List.set_cons_zero]; rfl) | exact rfl))
                    exact ev_sNil
                  (apply ev_seq; case' ha => ((first | with_reducible apply ev_set | with_reducible apply ev_par | with_reducible apply ev_par3 | with_reducible apply ev_asg | with_reducible apply ev_ex | with_reducible apply ev_ret | with_reducible exact ev_sNil | (with_reducible apply ev_aug; exact rfl)) <;> (repeat' first | (with_reducible apply ev_var; exact rfl) | with_reducible exact ev_K | with_reducible exact s1 | with_reducible exact ev_aNil | with_reducible exact ev_oNo | with_reducible exact ev_tAll | with_reducible exact ev_gsN | with_reducible apply ev_aCons | with_reducible apply ev_d2 | with_reducible apply ev_d1 | with_reducible apply ev_dN | with_reducible apply ev_dCall | with_reducible apply ev_dTup | with_reducible apply ev_dLst | with_reducible apply ev_dLoc | with_reducible apply ev_sl | with_reducible apply ev_oSo | with_reducible apply ev_ch2b | with_reducible apply ev_ch3b | with_reducible apply ev_tB | with_reducible apply ev_tTru | with_reducible apply ev_tNo | with_reducible apply ev_no | with_reducible apply ev_dML | with_reducible apply ev_gTu | with_reducible apply ev_gsC | with_reducible apply ev_gSb | with_reducible apply ev_gNm | (simp only [List.length_cons, List.length_nil]; exact len_le (by decide)) | exact decide_eq_true (by omega) | exact decide_eq_false (by omega) | exact ne_t (by omega) | exact ne_f (by omega) | with_reducible apply lt_ii | with_reducible apply le_ii | with_reducible apply gt_ii | with_reducible apply ge_ii | with_reducible apply eq_ii | with_reducible apply ne_ii | with_reducible apply eq_ss | exact s1 | with_reducible apply mul_ii | exact okMul_small (by omega) (by omega) | exact mod_ii (by omega) | exact fdiv_ii (by omega) (by omega) | exact mod_ni (by omega) | exact fdiv_ni (by omega) (by omega) | exact pow_ii (by omega) (by omega) (by omega) | with_reducible apply ix_tup | with_reducible apply ix_lst | (simp only [List.set_cons_succ, List.set_cons_zero]; rfl) | exact rfl)))
                  apply ev_seq_rt
                  apply ev_sIf_t
                  case hc =>
                    apply ev_tOr_t
                    (repeat' first | (with_reducible apply ev_var; exact rfl) | with_reducible exact ev_K | with_reducible exact x0 | with_reducible exact hne | with_reducible exact ev_aNil | with_reducible exact ev_oNo | with_reducible exact ev_tAll | with_reducible exact ev_gsN | with_reducible apply ev_aCons | with_reducible apply ev_d2 | with_reducible apply ev_d1 | with_reducible apply ev_dN | with_reducible apply ev_dCall | with_reducible apply ev_dTup | with_reducible apply ev_dLst | with_reducible apply ev_dLoc | with_reducible apply ev_sl | with_reducible apply ev_oSo | with_reducible apply ev_ch2b | with_reducible apply ev_ch3b | with_reducible apply ev_tB | with_reducible apply ev_tTru | with_reducible apply ev_tNo | with_reducible apply ev_no | with_reducible apply ev_dML | with_reducible apply ev_gTu | with_reducible apply ev_gsC | with_reducible apply ev_gSb | with_reducible apply ev_gNm | (simp only [List.length_cons, List.length_nil]; exact len_le (by decide)) | exact decide_eq_true (by omega) | exact decide_eq_false (by omega) | exact ne_t (by omega) | exact ne_f (by omega) | with_reducible apply lt_ii | with_reducible apply le_ii | with_reducible apply gt_ii | with_reducible apply ge_ii | with_reducible apply eq_ii | with_reducible apply ne_ii | with_reducible apply eq_ss | exact x0 | exact hne | with_reducible apply mul_ii | exact okMul_small (by omega) (by omega) | exact mod_ii (by omega) | exact fdiv_ii (by omega) (by omega) | exact mod_ni (by omega) | exact fdiv_ni (by omega) (by omega) | exact pow_ii (by omega) (by omega) (by omega) | with_reducible apply ix_tup | with_reducible apply ix_lst | (simp only [List.set_cons_succ, List.set_cons_zero]; rfl) | exact rfl)
                  ((first | with_reducible apply ev_set | with_reducible apply ev_par | with_reducible apply ev_par3 | with_reducible apply ev_asg | with_reducible apply ev_ex | with_reducible apply ev_ret | with_reducible exact ev_sNil | (with_reducible apply ev_aug; exact rfl)) <;> (repeat' first | (with_reducible apply ev_var; exact rfl) | with_reducible exact ev_K | with_reducible exact ev_aNil | with_reducible exact ev_oNo | with_reducible exact ev_tAll | with_reducible exact ev_gsN | with_reducible apply ev_aCons | with_reducible apply ev_d2 | with_reducible apply ev_d1 | with_reducible apply ev_dN | with_reducible apply ev_dCall | with_reducible apply ev_dTup | with_reducible apply ev_dLst | with_reducible apply ev_dLoc | with_reducible apply ev_sl | with_reducible apply ev_oSo | with_reducible apply ev_ch2b | with_reducible apply ev_ch3b | with_reducible apply ev_tB | with_reducible apply ev_tTru | with_reducible apply ev_tNo | with_reducible apply ev_no | with_reducible apply ev_dML | with_reducible apply ev_gTu | with_reducible apply ev_gsC | with_reducible apply ev_gSb | with_reducible apply ev_gNm | (simp only [List.length_cons, List.length_nil]; exact len_le (by decide)) | exact decide_eq_true (by omega) | exact decide_eq_false (by omega) | exact ne_t (by omega) | exact ne_f (by omega) | with_reducible apply lt_ii | with_reducible apply le_ii | with_reducible apply gt_ii | with_reducible apply ge_ii | with_reducible apply eq_ii | with_reducible apply ne_ii | with_reducible apply eq_ss | with_reducible apply mul_ii | exact okMul_small (by omega) (by omega) | exact mod_ii (by omega) | exact fdiv_ii (by omega) (by omega) | exact mod_ni (by omega) | exact fdiv_ni (by omega) (by omega) | exact pow_ii (by omega) (by omega) (by omega) | with_reducible apply ix_tup | with_reducible apply ix_lst | (simp only [List.set_cons_succ, List.set_cons_zero]; rfl) | exact rfl))
          · refine ⟨false, ?_, ?_⟩
            · refine runF_rt (ρ := [some (prs ps), some (.tup [.str z, b, c]), none, none, none]) rfl ?_
              apply ev_seq J1
              apply ev_seq_rt
              apply ev_sIf_t
              case hc =>
                refine ev_tNo J2 ?_
                rw [Bool.and_true, Bool.not_eq_true', ← Bool.not_eq_true, Bool.and_eq_true]
                exact hbc
              ((first | with_reducible apply ev_set | with_reducible apply ev_par | with_reducible apply ev_par3 | with_reducible apply ev_asg | with_reducible apply ev_ex | with_reducible apply ev_ret | with_reducible exact ev_sNil | (with_reducible apply ev_aug; exact rfl)) <;> (repeat' first | (with_reducible apply ev_var; exact rfl) | with_reducible exact ev_K | with_reducible exact ev_aNil | with_reducible exact ev_oNo | with_reducible exact ev_tAll | with_reducible exact ev_gsN | with_reducible apply ev_aCons | with_reducible apply ev_d2 | with_reducible apply ev_d1 | with_reducible apply ev_dN | with_reducible apply ev_dCall | with_reducible apply ev_dTup | with_reducible apply ev_dLst | with_reducible apply ev_dLoc | with_reducible apply ev_sl | with_reducible apply ev_oSo | with_reducible apply ev_ch2b | with_reducible apply ev_ch3b | with_reducible apply ev_tB | with_reducible apply ev_tTru | with_reducible apply ev_tNo | with_reducible apply ev_no | with_reducible apply ev_dML | with_reducible apply ev_gTu | with_reducible apply ev_gsC | with_reducible apply ev_gSb | with_reducible apply ev_gNm | (simp only [List.length_cons, List.length_nil]; exact len_le (by decide)) | exact decide_eq_true (by omega) | exact decide_eq_false (by omega) | exact ne_t (by omega) | exact ne_f (by omega) | with_reducible apply lt_ii | with_reducible apply le_ii | with_reducible apply gt_ii | with_reducible apply ge_ii | with_reducible apply eq_ii | with_reducible apply ne_ii | with_reducible apply eq_ss | with_reducible apply mul_ii | exact okMul_small (by omega) (by omega) | exact mod_ii (by omega) | exact fdiv_ii (by omega) (by omega) | exact mod_ni (by omega) | exact fdiv_ni (by omega) (by omega) | exact pow_ii (by omega) (by omega) (by omega) | with_reducible apply ix_tup | with_reducible apply ix_lst | (simp only [List.set_cons_succ, List.set_cons_zero]; rfl) | exact rfl))
            · refine runF_rt (ρ := [some (prs ps), some (.tup [.str z, b, c]), none, none]) rfl ?_
              apply ev_seq P1
              apply ev_seq_rt
              apply ev_sIf_t
              case hc =>
                cases hb1 : isIntP b with
                | false =>
                  rw [hb1] at bi
                  apply ev_tOr_t
                  (repeat' first | (with_reducible apply ev_var; exact rfl) | with_reducible exact ev_K | with_reducible exact x1 | with_reducible exact bi | with_reducible exact ev_aNil | with_reducible exact ev_oNo | with_reducible exact ev_tAll | with_reducible exact ev_gsN | with_reducible apply ev_aCons | with_reducible apply ev_d2 | with_reducible apply ev_d1 | with_reducible apply ev_dN | with_reducible apply ev_dCall | with_reducible apply ev_dTup | with_reducible apply ev_dLst | with_reducible apply ev_dLoc | with_reducible apply ev_sl | with_reducible apply ev_oSo | with_reducible apply ev_ch2b | with_reducible apply ev_ch3b | with_reducible apply ev_tB | with_reducible apply ev_tTru | with_reducible apply ev_tNo | with_reducible apply ev_no | with_reducible apply ev_dML | with_reducible apply ev_gTu | with_reducible apply ev_gsC | with_reducible apply ev_gSb | with_reducible apply ev_gNm | (simp only [List.length_cons, List.length_nil]; exact len_le (by decide)) | exact decide_eq_true (by omega) | exact decide_eq_false (by omega) | exact ne_t (by omega) | exact ne_f (by omega) | with_reducible apply lt_ii | with_reducible apply le_ii | with_reducible apply gt_ii | with_reducible apply ge_ii | with_reducible apply eq_ii | with_reducible apply ne_ii | with_reducible apply eq_ss | exact x1 | exact bi | with_reducible apply mul_ii | exact okMul_small (by omega) (by omega) | exact mod_ii (by omega) | exact fdiv_ii (by omega) (by omega) | exact mod_ni (by omega) | exact fdiv_ni (by omega) (by omega) | exact pow_ii (by omega) (by omega) (by omega) | with_reducible apply ix_tup | with_reducible apply ix_lst | (simp only [List.set_cons_succ, List.set_cons_zero]; rfl) | exact rfl)
                | true =>
                  have hc1 : isIntP c = false := by
                    cases h : isIntP c with
                    | false => rfl
                    | true => exact absurd ⟨hb1, h⟩ hbc
                  rw [hb1] at bi
                  rw [hc1] at ci
                  apply ev_tOr_f
                  case h => (repeat' first | (with_reducible apply ev_var; exact rfl) | with_reducible exact ev_K | with_reducible exact x1 | with_reducible exact bi | with_reducible exact ev_aNil | with_reducible exact ev_oNo | with_reducible exact ev_tAll | with_reducible exact ev_gsN | with_reducible apply ev_aCons | with_reducible apply ev_d2 | with_reducible apply ev_d1 | with_reducible apply ev_dN | with_reducible apply ev_dCall | with_reducible apply ev_dTup | with_reducible apply ev_dLst | with_reducible apply ev_dLoc | with_reducible apply ev_sl | with_reducible apply ev_oSo | with_reducible apply ev_ch2b | with_reducible apply ev_ch3b | with_reducible apply ev_tB | with_reducible apply ev_tTru | with_reducible apply ev_tNo | with_reducible apply ev_no | with_reducible apply ev_dML | with_reducible apply ev_gTu | with_reducible apply ev_gsC | with_reducible apply ev_gSb | with_reducible apply ev_gNm | (simp only [List.length_cons, List.length_nil]; exact len_le (by decide)) | exact decide_eq_true (by omega) | exact decide_eq_false (by omega) | exact ne_t (by omega) | exact ne_f (by omega) | with_reducible apply lt_ii | with_reducible apply le_ii | with_reducible apply gt_ii | with_reducible apply ge_ii | with_reducible apply eq_ii | with_reducible apply ne_ii | with_reducible apply eq_ss | exact x1 | exact bi | with_reducible apply mul_ii | exact okMul_small (by omega) (by omega) | exact mod_ii (by omega) | exact fdiv_ii (by omega) (by omega) | exact mod_ni (by omega) | exact fdiv_ni (by omega) (by omega) | exact pow_ii (by omega) (by omega) (by omega) | with_reducible apply ix_tup | with_reducible apply ix_lst | (simp only [List.set_cons_succ, List.set_cons_zero]; rfl) | exact rfl)
                  (repeat' first | (with_reducible apply ev_var; exact rfl) | with_reducible exact ev_K | with_reducible exact x2 | with_reducible exact ci | with_reducible exact ev_aNil | with_reducible exact ev_oNo | with_reducible exact ev_tAll | with_reducible exact ev_gsN | with_reducible apply ev_aCons | with_reducible apply ev_d2 | with_reducible apply ev_d1 | with_reducible apply ev_dN | with_reducible apply ev_dCall | with_reducible apply ev_dTup | with_reducible apply ev_dLst | with_reducible apply ev_dLoc | with_reducible apply ev_sl | with_reducible apply ev_oSo | with_reducible apply ev_ch2b | with_reducible apply ev_ch3b | with_reducible apply ev_tB | with_reducible apply ev_tTru | with_reducible apply ev_tNo | with_reducible apply ev_no | with_reducible apply ev_dML | with_reducible apply ev_gTu | with_reducible apply ev_gsC | with_reducible apply ev_gSb | with_reducible apply ev_gNm | (simp only [List.length_cons, List.length_nil]; exact len_le (by decide)) | exact decide_eq_true (by omega) | exact decide_eq_false (by omega) | exact ne_t (by omega) | exact ne_f (by omega) | with_reducible apply lt_ii | with_reducible apply le_ii | with_reducible apply gt_ii | with_reducible apply ge_ii | with_reducible apply eq_ii | with_reducible apply ne_ii | with_reducible apply eq_ss | exact x2 | exact ci | with_reducible apply mul_ii | exact okMul_small (by omega) (by omega) | exact mod_ii (by omega) | exact fdiv_ii (by omega) (by omega) | exact mod_ni (by omega) | exact fdiv_ni (by omega) (by omega) | exact pow_ii (by omega) (by omega) (by omega) | with_reducible apply ix_tup | with_reducible apply ix_lst | (simp only [List.set_cons_succ, List.set_cons_zero]; rfl) | exact rfl)
              ((first | with_reducible apply ev_set | with_reducible apply ev_par | with_reducible apply ev_par3 | with_reducible apply ev_asg | with_reducible apply ev_ex | with_reducible apply ev_ret | with_reducible exact ev_sNil | (with_reducible apply ev_aug; exact rfl)) <;> (repeat' first | (with_reducible apply ev_var; exact rfl) | with_reducible exact ev_K | with_reducible exact ev_aNil | with_reducible exact ev_oNo | with_reducible exact ev_tAll | with_reducible exact ev_gsN | with_reducible apply ev_aCons | with_reducible apply ev_d2 | with_reducible apply ev_d1 | with_reducible apply ev_dN | with_reducible apply ev_dCall | with_reducible apply ev_dTup | with_reducible apply ev_dLst | with_reducible apply ev_dLoc | with_reducible apply ev_sl | with_reducible apply ev_oSo | with_reducible apply ev_ch2b | with_reducible apply ev_ch3b | with_reducible apply ev_tB | with_reducible apply ev_tTru | with_reducible apply ev_tNo | with_reducible apply ev_no | with_reducible apply ev_dML | with_reducible apply ev_gTu | with_reducible apply ev_gsC | with_reducible apply ev_gSb | with_reducible apply ev_gNm | (simp only [List.length_cons, List.length_nil]; exact len_le (by decide)) | exact decide_eq_true (by omega) | exact decide_eq_false (by omega) | exact ne_t (by omega) | exact ne_f (by omega) | with_reducible apply lt_ii | with_reducible apply le_ii | with_reducible apply gt_ii | with_reducible apply ge_ii | with_reducible apply eq_ii | with_reducible apply ne_ii | with_reducible apply eq_ss | with_reducible apply mul_ii | exact okMul_small (by omega) (by omega) | exact mod_ii (by omega) | exact fdiv_ii (by omega) (by omega) | exact mod_ni (by omega) | exact fdiv_ni (by omega) (by omega) | exact pow_ii (by omega) (by omega) (by omega) | with_reducible apply ix_tup | with_reducible apply ix_lst | (simp only [List.set_cons_succ, List.set_cons_zero]; rfl) | exact rfl))
    · have ht : (!decide ((xs.length : Int) = 3)) = true := by
        rw [decide_eq_false (by omega)]; rfl
      refine ⟨false, ?_, ?_⟩
      · refine runF_rt (ρ := [some (prs ps), some (.tup xs), none, none, none]) rfl ?_
        apply ev_seq_rt
        apply ev_sIf_t
        case hc =>
          apply ev_tOr_f
          case h => exact ev_tNo (b := true) (ev_tTru rfl rfl) rfl
          apply ev_tOr_t
          (repeat' first | (with_reducible apply ev_var; exact rfl) | with_reducible exact ev_K | with_reducible exact lenT | with_reducible exact ht | with_reducible exact ev_aNil | with_reducible exact ev_oNo | with_reducible exact ev_tAll | with_reducible exact ev_gsN | with_reducible apply ev_aCons | with_reducible apply ev_d2 | with_reducible apply ev_d1 | with_reducible apply ev_dN | with_reducible apply ev_dCall | with_reducible apply ev_dTup | with_reducible apply ev_dLst | with_reducible apply ev_dLoc | with_reducible apply ev_sl | with_reducible apply ev_oSo | with_reducible apply ev_ch2b | with_reducible apply ev_ch3b | with_reducible apply ev_tB | with_reducible apply ev_tTru | with_reducible apply ev_tNo | with_reducible apply ev_no | with_reducible apply ev_dML | with_reducible apply ev_gTu | with_reducible apply ev_gsC | with_reducible apply ev_gSb | with_reducible apply ev_gNm | (simp only [List.length_cons, List.length_nil]; exact len_le (by decide)) | exact decide_eq_true (by omega) | exact decide_eq_false (by omega) | exact ne_t (by omega) | exact ne_f (by omega) | with_reducible apply lt_ii | with_reducible apply le_ii | with_reducible apply gt_ii | with_reducible apply ge_ii | with_reducible apply eq_ii | with_reducible apply ne_ii | with_reducible apply eq_ss | exact lenT | exact ht | with_reducible apply mul_ii | exact okMul_small (by omega) (by omega) | exact mod_ii (by omega) | exact fdiv_ii (by omega) (by omega) | exact mod_ni (by omega) | exact fdiv_ni (by omega) (by omega) | exact pow_ii (by omega) (by omega) (by omega) | with_reducible apply ix_tup | with_reducible apply ix_lst | (simp only [List.set_cons_succ, List.set_cons_zero]; rfl) | exact rfl)
        ((first | with_reducible apply ev_set | with_reducible apply ev_par | with_reducible apply ev_par3 | with_reducible apply ev_asg | with_reducible apply ev_ex | with_reducible apply ev_ret | with_reducible exact ev_sNil | (with_reducible apply ev_aug; exact rfl)) <;> (repeat' first | (with_reducible apply ev_var; exact rfl) | with_reducible exact ev_K | with_reducible exact ev_aNil | with_reducible exact ev_oNo | with_reducible exact ev_tAll | with_reducible exact ev_gsN | with_reducible apply ev_aCons | with_reducible apply ev_d2 | with_reducible apply ev_d1 | with_reducible apply ev_dN | with_reducible apply ev_dCall | with_reducible apply ev_dTup | with_reducible apply ev_dLst | with_reducible apply ev_dLoc | with_reducible apply ev_sl | with_reducible apply ev_oSo | with_reducible apply ev_ch2b | with_reducible apply ev_ch3b | with_reducible apply ev_tB | with_reducible apply ev_tTru | with_reducible apply ev_tNo | with_reducible apply ev_no | with_reducible apply ev_dML | with_reducible apply ev_gTu | with_reducible apply ev_gsC | with_reducible apply ev_gSb | with_reducible apply ev_gNm | (simp only [List.length_cons, List.length_nil]; exact len_le (by decide)) | exact decide_eq_true (by omega) | exact decide_eq_false (by omega) | exact ne_t (by omega) | exact ne_f (by omega) | with_reducible apply lt_ii | with_reducible apply le_ii | with_reducible apply gt_ii | with_reducible apply ge_ii | with_reducible apply eq_ii | with_reducible apply ne_ii | with_reducible apply eq_ss | with_reducible apply mul_ii | exact okMul_small (by omega) (by omega) | exact mod_ii (by omega) | exact fdiv_ii (by omega) (by omega) | exact mod_ni (by omega) | exact fdiv_ni (by omega) (by omega) | exact pow_ii (by omega) (by omega) (by omega) | with_reducible apply ix_tup | with_reducible apply ix_lst | (simp only [List.set_cons_succ, List.set_cons_zero]; rfl) | exact rfl))
      · refine runF_rt (ρ := [some (prs ps), some (.tup xs), none, none]) rfl ?_
        apply ev_seq_rt
        apply ev_sIf_t
        case hc =>
          apply ev_tOr_f
          case h => exact ev_tNo (b := true) (ev_tTru rfl rfl) rfl
          apply ev_tOr_t
          (repeat' first | (with_reducible apply ev_var; exact rfl) | with_reducible exact ev_K | with_reducible exact lenT | with_reducible exact ht | with_reducible exact ev_aNil | with_reducible exact ev_oNo | with_reducible exact ev_tAll | with_reducible exact ev_gsN | with_reducible apply ev_aCons | with_reducible apply ev_d2 | with_reducible apply ev_d1 | with_reducible apply ev_dN | with_reducible apply ev_dCall | with_reducible apply ev_dTup | with_reducible apply ev_dLst | with_reducible apply ev_dLoc | with_reducible apply ev_sl | with_reducible apply ev_oSo | with_reducible apply ev_ch2b | with_reducible apply ev_ch3b | with_reducible apply ev_tB | with_reducible apply ev_tTru | with_reducible apply ev_tNo | with_reducible apply ev_no | with_reducible apply ev_dML | with_reducible apply ev_gTu | with_reducible apply ev_gsC | with_reducible apply ev_gSb | with_reducible apply ev_gNm | (simp only [List.length_cons, List.length_nil]; exact len_le (by decide)) | exact decide_eq_true (by omega) | exact decide_eq_false (by omega) | exact ne_t (by omega) | exact ne_f (by omega) | with_reducible apply lt_ii | with_reducible apply le_ii | with_reducible apply gt_ii | with_reducible apply ge_ii | with_reducible apply eq_ii | with_reducible apply ne_ii | with_reducible apply eq_ss | exact lenT | exact ht | with_reducible apply mul_ii | exact okMul_small (by omega) (by omega) | exact mod_ii (by omega) | exact fdiv_ii (by omega) (by omega) | exact mod_ni (by omega) | exact fdiv_ni (by omega) (by omega) | exact pow_ii (by omega) (by omega) (by omega) | with_reducible apply ix_tup | with_reducible apply ix_lst | (simp only [List.set_cons_succ, List.set_cons_zero]; rfl) | exact rfl)
        ((first | with_reducible apply ev_set | with_reducible apply ev_par | with_reducible apply ev_par3 | with_reducible apply ev_asg | with_reducible apply ev_ex | with_reducible apply ev_ret | with_reducible exact ev_sNil | (with_reducible apply ev_aug; exact rfl)) <;> (repeat' first | (with_reducible apply ev_var; exact rfl) | with_reducible exact ev_K | with_reducible exact ev_aNil | with_reducible exact ev_oNo | with_reducible exact ev_tAll | with_reducible exact ev_gsN | with_reducible apply ev_aCons | with_reducible apply ev_d2 | with_reducible apply ev_d1 | with_reducible apply ev_dN | with_reducible apply ev_dCall | with_reducible apply ev_dTup | with_reducible apply ev_dLst | with_reducible apply ev_dLoc | with_reducible apply ev_sl | with_reducible apply ev_oSo | with_reducible apply ev_ch2b | with_reducible apply ev_ch3b | with_reducible apply ev_tB | with_reducible apply ev_tTru | with_reducible apply ev_tNo | with_reducible apply ev_no | with_reducible apply ev_dML | with_reducible apply ev_gTu | with_reducible apply ev_gsC | with_reducible apply ev_gSb | with_reducible apply ev_gNm | (simp only [List.length_cons, List.length_nil]; exact len_le (by decide)) | exact decide_eq_true (by omega) | exact decide_eq_false (by omega) | exact ne_t (by omega) | exact ne_f (by omega) | with_reducible apply lt_ii | with_reducible apply le_ii | with_reducible apply gt_ii | with_reducible apply ge_ii | with_reducible apply eq_ii | with_reducible apply ne_ii | with_reducible apply eq_ss | with_reducible apply mul_ii | exact okMul_small (by omega) (by omega) | exact mod_ii (by omega) | exact fdiv_ii (by omega) (by omega) | exact mod_ni (by omega) | exact fdiv_ni (by omega) (by omega) | exact pow_ii (by omega) (by omega) (by omega) | with_reducible apply ix_tup | with_reducible apply ix_lst | (simp only [List.set_cons_succ, List.set_cons_zero]; rfl) | exact rfl))
end K10

/-! K10f: the law's parts. -/
namespace K10
open PySem PySem.Spec PyProof.Rows L2 Fd Nm
noncomputable def p_st : Fn := runF 2 d__law_start
noncomputable def p_int (pt : Fn) : Fn := runF 3 (d__law_integer pt)
noncomputable def p_al : Fn := pAlike 8
noncomputable def p_bt (pt : Fn) : Fn := runF 4 (dBent pt (pSpoilt pt 9))
noncomputable def L0 (pt : Fn) : DenS := (sAsg (dCall 1 p_st (aCons (cVar 0) aNil)) (gNm 1))
noncomputable def L1_0 (pt : Fn) : DenS := (sAsg (dTup (aCons (dCall 1 (p_int pt) (aCons (cVar 1) aNil)) (aCons (dCall 1 (p_int pt) (aCons (cVar 1) aNil)) aNil))) (gTu 2 (gsCons (gNm 3) (gsCons (gNm 4) gsNil))))
noncomputable def L1_1 (pt : Fn) : DenS := (sIf (tB1 (d2 f_eq (cVar 2) (cK (.int 3)))) (sAsg (d2 f_mul (cVar 3) (dCall 2 pt (aCons (cVar 1) (aCons (cK (.int 4)) aNil)))) (gNm 4)) sNil)
noncomputable def L1_2 (pt : Fn) : DenS := (sPar 5 6 (aCons (dCall 2 p_gcd (aCons (cVar 3) (aCons (cVar 4) aNil))) (aCons (dCall 2 p_wc (aCons (cVar 3) (aCons (cVar 4) aNil))) aNil)))
noncomputable def L1_3 (pt : Fn) : DenS := (sIf (tOr' (tNo (tTru (dCall 2 p_al (aCons (d2 f_ix (cVar 6) (cK (.int 0))) (aCons (cVar 5) aNil))))) (tOr' (tB1 (d2 f_ne (dCall 2 p_gcd (aCons (cVar 3) (aCons (cVar 4) aNil))) (cVar 5))) (tB1 (d2 f_ne (d2 f_add (d2 f_mul (cVar 3) (d2 f_ix (cVar 6) (cK (.int 1)))) (d2 f_mul (cVar 4) (d2 f_ix (cVar 6) (cK (.int 2))))) (cVar 5))))) (sRet (cK (.bl false))) sNil)
noncomputable def L1_4 (pt : Fn) : DenS := (sIf (tOr' (tAn (tB1 (d2 f_ne (cVar 4) (cK (.int 0)))) (tNo (tB1 (dCh2 f_le f_lt (cK (.int 0)) (d2 f_ix (cVar 6) (cK (.int 1))) (d2 f_fdiv (dN f_abs (aCons (cVar 4) aNil)) (cVar 5)))))) (tAn (tB1 (d2 f_eq (cVar 4) (cK (.int 0)))) (tB1 (d2 f_ne (dSl (cVar 6) (oSo (cK (.int 1))) oNo) (dTup (aCons (d2 f_sub (d2 f_gt (cVar 3) (cK (.int 0))) (d2 f_lt (cVar 3) (cK (.int 0)))) (aCons (cK (.int 0)) aNil))))))) (sRet (cK (.bl false))) sNil)
noncomputable def L1_5 (pt : Fn) : DenS := (sAsg (dTup (aCons (d2 f_add (cK (.int 1)) (d2 f_mod (dN f_abs (aCons (cVar 4) aNil)) (cK (.int 10007)))) (aCons (d2 f_ix (dLst (aCons (dCall 2 pt (aCons (cVar 1) (aCons (cK (.int 9)) aNil))) (aCons (dN f_abs (aCons (cVar 3) aNil)) (aCons (d2 f_pow (dN f_abs (aCons (cVar 3) aNil)) (cK (.int 3))) aNil)))) (dCall 2 pt (aCons (cVar 1) (aCons (cK (.int 3)) aNil)))) aNil))) (gTu 2 (gsCons (gNm 7) (gsCons (gNm 8) gsNil))))
noncomputable def L1_6 (pt : Fn) : DenS := (sAsg (dIf (tB1 (d2 f_eq (dCall 2 p_gcd (aCons (cVar 3) (aCons (cVar 7) aNil))) (cK (.int 1)))) (dLc [19] (itRg1 (aCons (cVar 7) aNil)) (gNm 19) (tB1 (d2 f_eq (d2 f_mod (d2 f_mul (cVar 3) (cVar 19)) (cVar 7)) (d2 f_mod (cK (.int 1)) (cVar 7)))) (cVar 19)) (dLst aNil)) (gNm 9))
noncomputable def L1_7 (pt : Fn) : DenS := (sIf (tOr' (tNo (tTru (dCall 2 p_al (aCons (dCall 2 p_inv (aCons (cVar 3) (aCons (cVar 7) aNil))) (aCons (dIf (tTru (cVar 9)) (d2 f_ix (cVar 9) (cK (.int 0))) (cK .non)) aNil))))) (tNo (tTru (dCall 2 p_al (aCons (dCall 3 p_pow (aCons (cVar 3) (aCons (cVar 8) (aCons (cVar 7) aNil)))) (aCons (dCall 3 p_lpow (aCons (cVar 3) (aCons (cVar 8) (aCons (cVar 7) aNil)))) aNil)))))) (sRet (cK (.bl false))) sNil)
noncomputable def B1 (pt : Fn) : DenS := (sSeq (L1_0 pt) (sSeq (L1_1 pt) (sSeq (L1_2 pt) (sSeq (L1_3 pt) (sSeq (L1_4 pt) (sSeq (L1_5 pt) (sSeq (L1_6 pt) (L1_7 pt))))))))
noncomputable def L1 (pt : Fn) : DenS := sFor (itRg1 (aCons (cK (.int 4)) aNil)) (gNm 2) (B1 pt)
noncomputable def L2 (pt : Fn) : DenS := (sPar 10 11 (aCons (dCall 2 pt (aCons (cVar 1) (aCons (cK (.int 5000)) aNil))) (aCons (dLoc aNil) aNil)))
noncomputable def L3 (pt : Fn) : DenS := (sAsg (dCall 2 pt (aCons (cVar 1) (aCons (cK (.int 3)) aNil))) (gNm 12))
noncomputable def L4_0 (pt : Fn) : DenS := (sAsg (d2 f_ix (dLst (aCons (d2 f_add (cK (.int 1)) (dCall 2 pt (aCons (cVar 1) (aCons (cK (.int 12)) aNil)))) (aCons (cK (.int 8)) (aCons (cK (.int 60)) (aCons (cK (.int 1)) aNil))))) (dCall 2 pt (aCons (cVar 1) (aCons (cK (.int 4)) aNil)))) (gNm 7))
noncomputable def L4_1 (pt : Fn) : DenS := (sAsg (dIf (tB1 (d2 f_gt (cVar 12) (cK (.int 0)))) (d2 f_add (cVar 10) (d2 f_mul (cVar 7) (d2 f_sub (dCall 2 pt (aCons (cVar 1) (aCons (cK (.int 5)) aNil))) (cK (.int 2))))) (d2 f_sub (dCall 2 pt (aCons (cVar 1) (aCons (cK (.int 30)) aNil))) (cK (.int 10)))) (gNm 13))
noncomputable def L4_2 (pt : Fn) : DenS := (sEx (dML f_app (cVar 11) (aCons (dTup (aCons (cVar 13) (aCons (cVar 7) aNil))) aNil)))
noncomputable def B4 (pt : Fn) : DenS := (sSeq (L4_0 pt) (sSeq (L4_1 pt) (L4_2 pt)))
noncomputable def L4 (pt : Fn) : DenS := sFor (itRg1 (aCons (dCall 2 pt (aCons (cVar 1) (aCons (cK (.int 6)) aNil))) aNil)) (gNm 2) (B4 pt)
noncomputable def L5 (pt : Fn) : DenS := (sIf (tAn (tB1 (d2 f_eq (cVar 12) (cK (.int 1)))) (tTru (cVar 11))) (sSeq (sAsg (d2 f_ix (cVar 11) (d1 f_neg (cK (.int 1)))) (gTu 2 (gsCons (gNm 13) (gsCons (gNm 7) gsNil)))) (sAsg (dTup (aCons (d2 f_add (cVar 13) (cK (.int 1))) (aCons (cVar 7) aNil))) (gSb (cVar 11) (d1 f_neg (cK (.int 1)))))) sNil)
noncomputable def L6 (pt : Fn) : DenS := (sAsg (dN f_tuple (aCons (cVar 11) aNil)) (gNm 11))
noncomputable def L7 (pt : Fn) : DenS := (sAsg (dCall 1 p_jr (aCons (cVar 11) aNil)) (gNm 14))
noncomputable def L8 (pt : Fn) : DenS := (sAsg (dCall 1 p_lj (aCons (cVar 11) aNil)) (gNm 9))
noncomputable def L9 (pt : Fn) : DenS := (sIf (tB1 (d2 f_is (cVar 9) (cK .non))) (sSeq (sAsg (dCall 1 p_ap (aCons (cVar 11) aNil)) (gNm 15)) (sIf (tNo (tTru (dCall 2 p_al (aCons (cVar 14) (aCons (dTup (aCons (cK (.str (Str.ofString "apart"))) (aCons (d2 f_ix (d2 f_ix (cVar 15) (cK (.int 0))) (cK (.int 1))) (aCons (d2 f_ix (d2 f_ix (cVar 15) (cK (.int 0))) (cK (.int 0))) aNil)))) aNil))))) (sRet (cK (.bl false))) sNil)) (sIf (tNo (tTru (dCall 2 p_al (aCons (cVar 14) (aCons (dTup (aCons (cK (.str (Str.ofString "joined"))) (aCons (d2 f_ix (cVar 9) (cK (.int 0))) (aCons (d2 f_ix (cVar 9) (cK (.int 1))) aNil)))) aNil))))) (sRet (cK (.bl false))) sNil))
noncomputable def L10_0 (pt : Fn) : DenS := (sAsg (dCall 3 (p_bt pt) (aCons (cVar 1) (aCons (cVar 14) (aCons (cVar 2) aNil)))) (gNm 16))
noncomputable def L10_1 (pt : Fn) : DenS := (sIf (tB1 (d2 f_eq (cVar 2) (cK (.int 6)))) (sAsg (dTup (aCons (cK (.str (Str.ofString "apart"))) (aCons (dCall 2 pt (aCons (cVar 1) (aCons (cK (.int 4)) aNil))) (aCons (dCall 2 pt (aCons (cVar 1) (aCons (cK (.int 5)) aNil))) aNil)))) (gNm 16)) sNil)
noncomputable def L10_2 (pt : Fn) : DenS := (sAsg (dCall 2 p_judge (aCons (cVar 11) (aCons (cVar 16) aNil))) (gNm 6))
noncomputable def L10_3 (pt : Fn) : DenS := (sIf (tOr' (tNo (tTru (d1 (f_isi .bool) (cVar 6)))) (tB1 (d2 f_ne (cVar 6) (dCall 2 p_paper (aCons (cVar 11) (aCons (cVar 16) aNil)))))) (sRet (cK (.bl false))) sNil)
noncomputable def B10 (pt : Fn) : DenS := (sSeq (L10_0 pt) (sSeq (L10_1 pt) (sSeq (L10_2 pt) (L10_3 pt))))
noncomputable def L10 (pt : Fn) : DenS := sFor (itRg1 (aCons (cK (.int 7)) aNil)) (gNm 2) (B10 pt)
noncomputable def L11 (pt : Fn) : DenS := (sIf (tB1 (d2 f_gt (dN f_len (aCons (cVar 11) aNil)) (cK (.int 1)))) (sSeq (sAsg (dSl (cVar 11) oNo (oSo (cK (.int 2)))) (gTu 2 (gsCons (gTu 2 (gsCons (gNm 13) (gsCons (gNm 7) gsNil))) (gsCons (gTu 2 (gsCons (gNm 17) (gsCons (gNm 18) gsNil))) gsNil)))) (sRet (dCall 2 p_al (aCons (dCall 4 p_jt (aCons (cVar 13) (aCons (cVar 7) (aCons (cVar 17) (aCons (cVar 18) aNil))))) (aCons (dCall 1 p_lj (aCons (dSl (cVar 11) oNo (oSo (cK (.int 2)))) aNil)) aNil))))) sNil)
noncomputable def L12 (pt : Fn) : DenS := (sRet (cK (.bl true)))
noncomputable def LL (pt : Fn) : DenS := (sSeq (L0 pt) (sSeq (L1 pt) (sSeq (L2 pt) (sSeq (L3 pt) (sSeq (L4 pt) (sSeq (L5 pt) (sSeq (L6 pt) (sSeq (L7 pt) (sSeq (L8 pt) (sSeq (L9 pt) (sSeq (L10 pt) (sSeq (L11 pt) (L12 pt)))))))))))))
theorem LL_eq (pt : Fn) : d_law p_st (p_int pt) pt p_gcd p_wc p_al p_gcd p_inv p_lpow p_pow p_jr p_lj p_ap (p_bt pt) p_judge p_paper p_jt = LL pt := rfl
theorem al_ok {x : PV} {μ : Sto} (h : plain x 7 = true) : p_al [x, x] μ = some (.bl true, μ) := alike_refl 7 x μ h
theorem take0 {pt : Fn} (ht : TakeOk pt) {s : Dr} {n : Nat} {r : Sto} (many : Int) (ok : s.Ok (n + 1)) (hm : 0 < many) (hm2 : many < 2 ^ 99) : ∃ (d : Int) (s' : Dr), 0 ≤ d ∧ d < many ∧ s'.Ok n ∧ pt [.loc 0, .int many] (s.ob :: r) = some (.int d, s'.ob :: r) := by
  obtain ⟨d, s', a, b, c, e⟩ := ht s n (s.ob :: r) 0 many ok rfl hm hm2
  exact ⟨d, s', a, b, c, e⟩
theorem int_ok {pt : Fn} (ht : TakeOk pt) {s : Dr} {m : Nat} {r : Sto} (ok : s.Ok (m + 6)) : ∃ (v : Int) (s' : Dr), v.natAbs ≤ 1000000000 ∧ s'.Ok m ∧ p_int pt [.loc 0] (s.ob :: r) = some (.int v, s'.ob :: r) := by
  obtain ⟨k1, s1, a1, b1, c1, e1⟩ := take0 ht (r := r) 6 ok (by decide) (by decide)
  obtain ⟨k2, s2, a2, b2, c2, e2⟩ := take0 ht (r := r) 20 c1 (by decide) (by decide)
  obtain ⟨k3, s3, a3, b3, c3, e3⟩ := take0 ht (r := r) (10 ^ (9 : Int).toNat + 1) c2 (by decide) (by decide)
  obtain ⟨k4, s4, a4, b4, c4, e4⟩ := take0 ht (r := r) 1000 c3 (by decide) (by decide)
  obtain ⟨k5, s5, a5, b5, c5, e5⟩ := take0 ht (r := r) 5 c4 (by decide) (by decide)
  obtain ⟨k6, s6, a6, b6, c6, e6⟩ := take0 ht (r := r) 3 c5 (by decide) (by decide)
  have hp9 : ((10 : Int) ^ (9 : Int).toNat) = 1000000000 := by decide
  have hp20 : ((2 : Int) ^ (20 : Int).toNat) = 1048576 := by decide
  have hp29 : ((2 : Int) ^ (29 : Int).toNat) = 536870912 := by decide
  obtain ⟨w, hw, ew⟩ := atI_some (xs := [PV.int 1, .int 2, .int 1024, .int (2 ^ (20 : Int).toNat), .int (2 ^ (29 : Int).toNat)]) a5 b5
  obtain ⟨wi, rfl, hwi⟩ : ∃ i : Int, w = .int i ∧ i.natAbs ≤ 1000000000 := by
    simp only [List.mem_cons, List.not_mem_nil, or_false] at hw
    rcases hw with rfl | rfl | rfl | rfl | rfl
    · exact ⟨_, rfl, by decide⟩
    · exact ⟨_, rfl, by decide⟩
    · exact ⟨_, rfl, by decide⟩
    · exact ⟨_, rfl, by decide⟩
    · exact ⟨_, rfl, by decide⟩
  obtain ⟨v, hv, ev⟩ := atI_some (xs := [PV.int k2, .int 0, .int 1, .int k3, .int (720720 * k4), .int wi]) a1 b1
  obtain ⟨vi, rfl, hvi⟩ : ∃ i : Int, v = .int i ∧ i.natAbs ≤ 1000000000 := by
    simp only [List.mem_cons, List.not_mem_nil, or_false] at hv
    rcases hv with rfl | rfl | rfl | rfl | rfl | rfl
    · exact ⟨_, rfl, by omega⟩
    · exact ⟨_, rfl, by decide⟩
    · exact ⟨_, rfl, by decide⟩
    · exact ⟨_, rfl, by omega⟩
    · exact ⟨_, rfl, by omega⟩
    · exact ⟨_, rfl, hwi⟩
  by_cases h0 : k6 = 0
  · refine ⟨0 - vi, s6, by omega, c6, ?_⟩
    refine runF_rt (ρ := [some (.loc 0), none, none]) rfl ?_
    (apply ev_seq; case' ha => ((first | with_reducible apply ev_set | with_reducible apply ev_par | with_reducible apply ev_par3 | with_reducible apply ev_asg | with_reducible apply ev_ex | with_reducible apply ev_ret | with_reducible exact ev_sNil | (with_reducible apply ev_aug; exact rfl)) <;> (repeat' first | (with_reducible apply ev_var; exact rfl) | with_reducible exact ev_K | with_reducible exact e1 | with_reducible exact ev_aNil | with_reducible exact ev_oNo | with_reducible exact ev_tAll | with_reducible exact ev_gsN | with_reducible apply ev_aCons | with_reducible apply ev_d2 | with_reducible apply ev_d1 | with_reducible apply ev_dN | with_reducible apply ev_dCall | with_reducible apply ev_dTup | with_reducible apply ev_dLst | with_reducible apply ev_dLoc | with_reducible apply ev_sl | with_reducible apply ev_oSo | with_reducible apply ev_ch2b | with_reducible apply ev_ch3b | with_reducible apply ev_tB | with_reducible apply ev_tTru | with_reducible apply ev_tNo | with_reducible apply ev_no | with_reducible apply ev_dML | with_reducible apply ev_gTu | with_reducible apply ev_gsC | with_reducible apply ev_gSb | with_reducible apply ev_gNm | (simp only [List.length_cons, List.length_nil]; exact len_le (by decide)) | exact decide_eq_true (by omega) | exact decide_eq_false (by omega) | exact ne_t (by omega) | exact ne_f (by omega) | with_reducible apply lt_ii | with_reducible apply le_ii | with_reducible apply gt_ii | with_reducible apply ge_ii | with_reducible apply eq_ii | with_reducible apply ne_ii | with_reducible apply eq_ss | exact e1 | with_reducible apply mul_ii | exact okMul_small (by omega) (by omega) | exact mod_ii (by omega) | exact fdiv_ii (by omega) (by omega) | exact mod_ni (by omega) | exact fdiv_ni (by omega) (by omega) | exact pow_ii (by omega) (by omega) (by omega) | with_reducible apply ix_tup | with_reducible apply ix_lst | (simp only [List.set_cons_succ, List.set_cons_zero]; rfl) | exact rfl)))
    (apply ev_seq; case' ha => ((first | with_reducible apply ev_set | with_reducible apply ev_par | with_reducible apply ev_par3 | with_reducible apply ev_asg | with_reducible apply ev_ex | with_reducible apply ev_ret | with_reducible exact ev_sNil | (with_reducible apply ev_aug; exact rfl)) <;> (repeat' first | (with_reducible apply ev_var; exact rfl) | with_reducible exact ev_K | with_reducible exact e2 | with_reducible exact e3 | with_reducible exact e4 | with_reducible exact e5 | with_reducible exact ew | with_reducible exact ev | with_reducible exact ev_aNil | with_reducible exact ev_oNo | with_reducible exact ev_tAll | with_reducible exact ev_gsN | with_reducible apply ev_aCons | with_reducible apply ev_d2 | with_reducible apply ev_d1 | with_reducible apply ev_dN | with_reducible apply ev_dCall | with_reducible apply ev_dTup | with_reducible apply ev_dLst | with_reducible apply ev_dLoc | with_reducible apply ev_sl | with_reducible apply ev_oSo | with_reducible apply ev_ch2b | with_reducible apply ev_ch3b | with_reducible apply ev_tB | with_reducible apply ev_tTru | with_reducible apply ev_tNo | with_reducible apply ev_no | with_reducible apply ev_dML | with_reducible apply ev_gTu | with_reducible apply ev_gsC | with_reducible apply ev_gSb | with_reducible apply ev_gNm | (simp only [List.length_cons, List.length_nil]; exact len_le (by decide)) | exact decide_eq_true (by omega) | exact decide_eq_false (by omega) | exact ne_t (by omega) | exact ne_f (by omega) | with_reducible apply lt_ii | with_reducible apply le_ii | with_reducible apply gt_ii | with_reducible apply ge_ii | with_reducible apply eq_ii | with_reducible apply ne_ii | with_reducible apply eq_ss | exact e2 | exact e3 | exact e4 | exact e5 | exact ew | exact ev | with_reducible apply mul_ii | exact okMul_small (by omega) (by omega) | exact mod_ii (by omega) | exact fdiv_ii (by omega) (by omega) | exact mod_ni (by omega) | exact fdiv_ni (by omega) (by omega) | exact pow_ii (by omega) (by omega) (by omega) | with_reducible apply ix_tup | with_reducible apply ix_lst | (simp only [List.set_cons_succ, List.set_cons_zero]; rfl) | exact rfl)))
    apply ev_ret
    apply ev_if_t
    case hc => (repeat' first | (with_reducible apply ev_var; exact rfl) | with_reducible exact ev_K | with_reducible exact e6 | with_reducible exact ev_aNil | with_reducible exact ev_oNo | with_reducible exact ev_tAll | with_reducible exact ev_gsN | with_reducible apply ev_aCons | with_reducible apply ev_d2 | with_reducible apply ev_d1 | with_reducible apply ev_dN | with_reducible apply ev_dCall | with_reducible apply ev_dTup | with_reducible apply ev_dLst | with_reducible apply ev_dLoc | with_reducible apply ev_sl | with_reducible apply ev_oSo | with_reducible apply ev_ch2b | with_reducible apply ev_ch3b | with_reducible apply ev_tB | with_reducible apply ev_tTru | with_reducible apply ev_tNo | with_reducible apply ev_no | with_reducible apply ev_dML | with_reducible apply ev_gTu | with_reducible apply ev_gsC | with_reducible apply ev_gSb | with_reducible apply ev_gNm | (simp only [List.length_cons, List.length_nil]; exact len_le (by decide)) | exact decide_eq_true (by omega) | exact decide_eq_false (by omega) | exact ne_t (by omega) | exact ne_f (by omega) | with_reducible apply lt_ii | with_reducible apply le_ii | with_reducible apply gt_ii | with_reducible apply ge_ii | with_reducible apply eq_ii | with_reducible apply ne_ii | with_reducible apply eq_ss | exact e6 | with_reducible apply mul_ii | exact okMul_small (by omega) (by omega) | exact mod_ii (by omega) | exact fdiv_ii (by omega) (by omega) | exact mod_ni (by omega) | exact fdiv_ni (by omega) (by omega) | exact pow_ii (by omega) (by omega) (by omega) | with_reducible apply ix_tup | with_reducible apply ix_lst | (simp only [List.set_cons_succ, List.set_cons_zero]; rfl) | exact rfl)
    (repeat' first | (with_reducible apply ev_var; exact rfl) | with_reducible exact ev_K | with_reducible exact ev_aNil | with_reducible exact ev_oNo | with_reducible exact ev_tAll | with_reducible exact ev_gsN | with_reducible apply ev_aCons | with_reducible apply ev_d2 | with_reducible apply ev_d1 | with_reducible apply ev_dN | with_reducible apply ev_dCall | with_reducible apply ev_dTup | with_reducible apply ev_dLst | with_reducible apply ev_dLoc | with_reducible apply ev_sl | with_reducible apply ev_oSo | with_reducible apply ev_ch2b | with_reducible apply ev_ch3b | with_reducible apply ev_tB | with_reducible apply ev_tTru | with_reducible apply ev_tNo | with_reducible apply ev_no | with_reducible apply ev_dML | with_reducible apply ev_gTu | with_reducible apply ev_gsC | with_reducible apply ev_gSb | with_reducible apply ev_gNm | (simp only [List.length_cons, List.length_nil]; exact len_le (by decide)) | exact decide_eq_true (by omega) | exact decide_eq_false (by omega) | exact ne_t (by omega) | exact ne_f (by omega) | with_reducible apply lt_ii | with_reducible apply le_ii | with_reducible apply gt_ii | with_reducible apply ge_ii | with_reducible apply eq_ii | with_reducible apply ne_ii | with_reducible apply eq_ss | with_reducible apply mul_ii | exact okMul_small (by omega) (by omega) | exact mod_ii (by omega) | exact fdiv_ii (by omega) (by omega) | exact mod_ni (by omega) | exact fdiv_ni (by omega) (by omega) | exact pow_ii (by omega) (by omega) (by omega) | with_reducible apply ix_tup | with_reducible apply ix_lst | (simp only [List.set_cons_succ, List.set_cons_zero]; rfl) | exact rfl)
  · refine ⟨vi, s6, hvi, c6, ?_⟩
    refine runF_rt (ρ := [some (.loc 0), none, none]) rfl ?_
    (apply ev_seq; case' ha => ((first | with_reducible apply ev_set | with_reducible apply ev_par | with_reducible apply ev_par3 | with_reducible apply ev_asg | with_reducible apply ev_ex | with_reducible apply ev_ret | with_reducible exact ev_sNil | (with_reducible apply ev_aug; exact rfl)) <;> (repeat' first | (with_reducible apply ev_var; exact rfl) | with_reducible exact ev_K | with_reducible exact e1 | with_reducible exact ev_aNil | with_reducible exact ev_oNo | with_reducible exact ev_tAll | with_reducible exact ev_gsN | with_reducible apply ev_aCons | with_reducible apply ev_d2 | with_reducible apply ev_d1 | with_reducible apply ev_dN | with_reducible apply ev_dCall | with_reducible apply ev_dTup | with_reducible apply ev_dLst | with_reducible apply ev_dLoc | with_reducible apply ev_sl | with_reducible apply ev_oSo | with_reducible apply ev_ch2b | with_reducible apply ev_ch3b | with_reducible apply ev_tB | with_reducible apply ev_tTru | with_reducible apply ev_tNo | with_reducible apply ev_no | with_reducible apply ev_dML | with_reducible apply ev_gTu | with_reducible apply ev_gsC | with_reducible apply ev_gSb | with_reducible apply ev_gNm | (simp only [List.length_cons, List.length_nil]; exact len_le (by decide)) | exact decide_eq_true (by omega) | exact decide_eq_false (by omega) | exact ne_t (by omega) | exact ne_f (by omega) | with_reducible apply lt_ii | with_reducible apply le_ii | with_reducible apply gt_ii | with_reducible apply ge_ii | with_reducible apply eq_ii | with_reducible apply ne_ii | with_reducible apply eq_ss | exact e1 | with_reducible apply mul_ii | exact okMul_small (by omega) (by omega) | exact mod_ii (by omega) | exact fdiv_ii (by omega) (by omega) | exact mod_ni (by omega) | exact fdiv_ni (by omega) (by omega) | exact pow_ii (by omega) (by omega) (by omega) | with_reducible apply ix_tup | with_reducible apply ix_lst | (simp only [List.set_cons_succ, List.set_cons_zero]; rfl) | exact rfl)))
    (apply ev_seq; case' ha => ((first | with_reducible apply ev_set | with_reducible apply ev_par | with_reducible apply ev_par3 | with_reducible apply ev_asg | with_reducible apply ev_ex | with_reducible apply ev_ret | with_reducible exact ev_sNil | (with_reducible apply ev_aug; exact rfl)) <;> (repeat' first | (with_reducible apply ev_var; exact rfl) | with_reducible exact ev_K | with_reducible exact e2 | with_reducible exact e3 | with_reducible exact e4 | with_reducible exact e5 | with_reducible exact ew | with_reducible exact ev | with_reducible exact ev_aNil | with_reducible exact ev_oNo | with_reducible exact ev_tAll | with_reducible exact ev_gsN | with_reducible apply ev_aCons | with_reducible apply ev_d2 | with_reducible apply ev_d1 | with_reducible apply ev_dN | with_reducible apply ev_dCall | with_reducible apply ev_dTup | with_reducible apply ev_dLst | with_reducible apply ev_dLoc | with_reducible apply ev_sl | with_reducible apply ev_oSo | with_reducible apply ev_ch2b | with_reducible apply ev_ch3b | with_reducible apply ev_tB | with_reducible apply ev_tTru | with_reducible apply ev_tNo | with_reducible apply ev_no | with_reducible apply ev_dML | with_reducible apply ev_gTu | with_reducible apply ev_gsC | with_reducible apply ev_gSb | with_reducible apply ev_gNm | (simp only [List.length_cons, List.length_nil]; exact len_le (by decide)) | exact decide_eq_true (by omega) | exact decide_eq_false (by omega) | exact ne_t (by omega) | exact ne_f (by omega) | with_reducible apply lt_ii | with_reducible apply le_ii | with_reducible apply gt_ii | with_reducible apply ge_ii | with_reducible apply eq_ii | with_reducible apply ne_ii | with_reducible apply eq_ss | exact e2 | exact e3 | exact e4 | exact e5 | exact ew | exact ev | with_reducible apply mul_ii | exact okMul_small (by omega) (by omega) | exact mod_ii (by omega) | exact fdiv_ii (by omega) (by omega) | exact mod_ni (by omega) | exact fdiv_ni (by omega) (by omega) | exact pow_ii (by omega) (by omega) (by omega) | with_reducible apply ix_tup | with_reducible apply ix_lst | (simp only [List.set_cons_succ, List.set_cons_zero]; rfl) | exact rfl)))
    apply ev_ret
    apply ev_if_f
    case hc => (repeat' first | (with_reducible apply ev_var; exact rfl) | with_reducible exact ev_K | with_reducible exact e6 | with_reducible exact ev_aNil | with_reducible exact ev_oNo | with_reducible exact ev_tAll | with_reducible exact ev_gsN | with_reducible apply ev_aCons | with_reducible apply ev_d2 | with_reducible apply ev_d1 | with_reducible apply ev_dN | with_reducible apply ev_dCall | with_reducible apply ev_dTup | with_reducible apply ev_dLst | with_reducible apply ev_dLoc | with_reducible apply ev_sl | with_reducible apply ev_oSo | with_reducible apply ev_ch2b | with_reducible apply ev_ch3b | with_reducible apply ev_tB | with_reducible apply ev_tTru | with_reducible apply ev_tNo | with_reducible apply ev_no | with_reducible apply ev_dML | with_reducible apply ev_gTu | with_reducible apply ev_gsC | with_reducible apply ev_gSb | with_reducible apply ev_gNm | (simp only [List.length_cons, List.length_nil]; exact len_le (by decide)) | exact decide_eq_true (by omega) | exact decide_eq_false (by omega) | exact ne_t (by omega) | exact ne_f (by omega) | with_reducible apply lt_ii | with_reducible apply le_ii | with_reducible apply gt_ii | with_reducible apply ge_ii | with_reducible apply eq_ii | with_reducible apply ne_ii | with_reducible apply eq_ss | exact e6 | with_reducible apply mul_ii | exact okMul_small (by omega) (by omega) | exact mod_ii (by omega) | exact fdiv_ii (by omega) (by omega) | exact mod_ni (by omega) | exact fdiv_ni (by omega) (by omega) | exact pow_ii (by omega) (by omega) (by omega) | with_reducible apply ix_tup | with_reducible apply ix_lst | (simp only [List.set_cons_succ, List.set_cons_zero]; rfl) | exact rfl)
    (repeat' first | (with_reducible apply ev_var; exact rfl) | with_reducible exact ev_K | with_reducible exact ev_aNil | with_reducible exact ev_oNo | with_reducible exact ev_tAll | with_reducible exact ev_gsN | with_reducible apply ev_aCons | with_reducible apply ev_d2 | with_reducible apply ev_d1 | with_reducible apply ev_dN | with_reducible apply ev_dCall | with_reducible apply ev_dTup | with_reducible apply ev_dLst | with_reducible apply ev_dLoc | with_reducible apply ev_sl | with_reducible apply ev_oSo | with_reducible apply ev_ch2b | with_reducible apply ev_ch3b | with_reducible apply ev_tB | with_reducible apply ev_tTru | with_reducible apply ev_tNo | with_reducible apply ev_no | with_reducible apply ev_dML | with_reducible apply ev_gTu | with_reducible apply ev_gsC | with_reducible apply ev_gSb | with_reducible apply ev_gNm | (simp only [List.length_cons, List.length_nil]; exact len_le (by decide)) | exact decide_eq_true (by omega) | exact decide_eq_false (by omega) | exact ne_t (by omega) | exact ne_f (by omega) | with_reducible apply lt_ii | with_reducible apply le_ii | with_reducible apply gt_ii | with_reducible apply ge_ii | with_reducible apply eq_ii | with_reducible apply ne_ii | with_reducible apply eq_ss | with_reducible apply mul_ii | exact okMul_small (by omega) (by omega) | exact mod_ii (by omega) | exact fdiv_ii (by omega) (by omega) | exact mod_ni (by omega) | exact fdiv_ni (by omega) (by omega) | exact pow_ii (by omega) (by omega) (by omega) | with_reducible apply ix_tup | with_reducible apply ix_lst | (simp only [List.set_cons_succ, List.set_cons_zero]; rfl) | exact rfl)
end K10

/-! K10g: the law's four rounds. -/
namespace K10
open PySem PySem.Spec PyProof.Rows L2 Fd Nm
theorem size10007 : 10007 ≤ sizeLine := by decide
/-- the told cofactors -/
theorem told_ok {a b : Int} (ha : a.natAbs < 2 ^ 41) (hb : b.natAbs < 2 ^ 41) (μ : Sto) : ∃ x y : Int, a * x + b * y = (Int.gcd a b : Int) ∧ x.natAbs < 2 ^ 60 ∧ y.natAbs < 2 ^ 110 ∧ (Int.gcd a b : Int) < 2 ^ 60 ∧
    (b ≠ 0 → 0 < (Int.gcd a b : Int) ∧ 0 ≤ x ∧ x < (b.natAbs : Int) / (Int.gcd a b : Int)) ∧ (b = 0 → x = b2 (decide (0 < a)) - b2 (decide (a < 0)) ∧ y = 0) ∧ p_wc [.int a, .int b] μ = some (.tup [.int (Int.gcd a b : Int), .int x, .int y], μ) := by
  by_cases hz : b = 0
  · subst hz
    have hg : (Int.gcd a 0 : Int) = a.natAbs := by rw [Int.gcd_zero_right]
    refine ⟨_, 0, ?_, ?_, by decide, by omega, fun h => absurd rfl h, fun _ => ⟨rfl, rfl⟩, wc_zero a μ⟩
    · rw [hg]
      by_cases h1 : 0 < a
      · rw [decide_eq_true h1, decide_eq_false (by omega)]
        show a * (1 - 0) + 0 * 0 = _
        omega
      · by_cases h2 : a < 0
        · rw [decide_eq_false h1, decide_eq_true h2]
          show a * (0 - 1) + 0 * 0 = _
          omega
        · rw [decide_eq_false h1, decide_eq_false h2]
          show a * (0 - 0) + 0 * 0 = _
          omega
    · cases decide (0 < a) <;> cases decide (a < 0) <;> decide
  · obtain ⟨x, y, e, x0, x1, h⟩ := wc_ok (a := a) hz (by omega) (by omega) μ
    have hg0 : 0 < (Int.gcd a b : Int) := by
      rw [Int.gcd_comm]
      have : Int.gcd b a ≠ 0 := fun h => hz (Int.gcd_eq_zero_iff.mp h).1
      omega
    have hgb : (Int.gcd a b : Int) ≤ b.natAbs := Int.le_of_dvd (by omega) (Int.dvd_natAbs.mpr (Int.gcd_dvd_right _ _))
    have hq : (b.natAbs : Int) / (Int.gcd a b : Int) ≤ b.natAbs := Int.ediv_le_self _ (by omega)
    have hax : (a * x).natAbs < 2 ^ (41 + 60) := wide_lt ha (by omega)
    have hy : y.natAbs ≤ (b * y).natAbs := by
      rw [Int.natAbs_mul]
      have := Nat.mul_le_mul_right y.natAbs (show 1 ≤ b.natAbs by omega)
      omega
    exact ⟨x, y, e, by omega, by omega, by omega, fun _ => ⟨hg0, x0, x1⟩, fun h => absurd h hz, h⟩
theorem ne2 {i j : Int} {μ : Sto} : f_ne (.tup [.int i, .int j]) (.tup [.int i, .int j]) μ = some (.bl false, μ) := by
  show some (PV.bl (!((i == i) && ((j == j) && true))), μ) = _
  rw [beq_self_eq_true, beq_self_eq_true]
  rfl
def invT (a n : Int) : PV → Bool
  | .int i => decide (a * i % n = 1 % n)
  | _ => false
theorem due_head {a n x y : Int} (hn : 0 < n) (hx : 0 ≤ x) (hx2 : x < n) (e : a * x + n * y = 1) : ∃ t, (rgP 0 n.toNat).filter (invT a n) = .int x :: t := by
  have key : ∀ z : Int, invT a n (.int z) = true ↔ n ∣ a * z - 1 := fun z => by
    show decide (a * z % n = 1 % n) = true ↔ _
    rw [decide_eq_true_eq, Int.emod_eq_emod_iff_emod_sub_eq_zero]
    exact ⟨Int.dvd_of_emod_eq_zero, Int.emod_eq_zero_of_dvd⟩
  have hm : PV.int x ∈ (rgP 0 n.toNat).filter (invT a n) := by
    rw [List.mem_filter]
    constructor
    · have := rgP_get n.toNat 0 x.toNat (by omega)
      have h2 := List.mem_of_getElem? this
      rw [show (0 : Int) + (x.toNat : Int) = x by omega] at h2
      exact h2
    · rw [key]
      exact ⟨-y, by rw [Int.mul_neg]; omega⟩
  cases h : (rgP 0 n.toNat).filter (invT a n) with
  | nil => rw [h] at hm; cases hm
  | cons z t =>
    have hz : z ∈ (rgP 0 n.toNat).filter (invT a n) := by rw [h]; exact List.mem_cons_self
    rw [List.mem_filter] at hz
    obtain ⟨k, hk, rfl⟩ := mem_rgP hz.1
    have h2 := (key _).mp hz.2
    have := inv_uniq hx hx2 (by omega) (by omega) e h2
    exact ⟨t, by rw [this]⟩
theorem due_ok (pt : Fn) {a n : Int} (ha : a.natAbs < 2 ^ 41) (hn : 0 < n) (hn2 : n ≤ 10007) (sc : PV) (μ : Sto) (o2 o4 o5 o6 o8 o9 : Option PV) :
    ∃ D : List PV, L1_6 pt [some sc, some (.loc 0), o2, some (.int a), o4, o5, o6, some (.int n), o8, o9, none, none, none, none, none, none, none, none, none, none] μ = some (.nx [some sc, some (.loc 0), o2, some (.int a), o4, o5, o6, some (.int n), o8, some (.lst D), none, none, none, none, none, none, none, none, none, none] μ) ∧
      ((D = [] ∧ p_inv [.int a, .int n] μ = some (.non, μ)) ∨ ∃ x t, D = .int x :: t ∧ p_inv [.int a, .int n] μ = some (.int x, μ)) := by
  have I := inv_ok hn (by omega : a.natAbs < 2 ^ 90) (by omega) μ
  have g := gcd_ok a n μ
  by_cases hg : Int.gcd a n = 1
  · obtain ⟨x, y, x0, x1, e, hi⟩ := I.1 hg
    obtain ⟨t, ht⟩ := due_head hn x0 x1 e
    refine ⟨_, ?_, .inr ⟨x, t, rfl, hi⟩⟩
    rw [hg] at g
    have hlc : dLc [19] (itRg1 (aCons (cVar 7) aNil)) (gNm 19) (tB1 (d2 f_eq (d2 f_mod (d2 f_mul (cVar 3) (cVar 19)) (cVar 7)) (d2 f_mod (cK (.int 1)) (cVar 7)))) (cVar 19) [some sc, some (.loc 0), o2, some (.int a), o4, o5, o6, some (.int n), o8, o9, none, none, none, none, none, none, none, none, none, none] μ = some (.lst (.int x :: t), μ) := by
      refine ev_lc (μ1 := μ) (xs := rgP 0 n.toNat) (it_rg1 (j := n) ?_ (rgIn_of (by omega) (by omega)) rfl) (ρ' := [some sc, some (.loc 0), o2, some (.int a), o4, o5, o6, some (.int n), o8, o9, none, none, none, none, none, none, none, none, none, none]) rfl ?_
      · (repeat' first | (with_reducible apply ev_var; exact rfl) | with_reducible exact ev_K | with_reducible exact ev_aNil | with_reducible exact ev_oNo | with_reducible exact ev_tAll | with_reducible exact ev_gsN | with_reducible apply ev_aCons | with_reducible apply ev_d2 | with_reducible apply ev_d1 | with_reducible apply ev_dN | with_reducible apply ev_dCall | with_reducible apply ev_dTup | with_reducible apply ev_dLst | with_reducible apply ev_dLoc | with_reducible apply ev_sl | with_reducible apply ev_oSo | with_reducible apply ev_ch2b | with_reducible apply ev_ch3b | with_reducible apply ev_tB | with_reducible apply ev_tTru | with_reducible apply ev_tNo | with_reducible apply ev_no | with_reducible apply ev_dML | with_reducible apply ev_gTu | with_reducible apply ev_gsC | with_reducible apply ev_gSb | with_reducible apply ev_gNm | (simp only [List.length_cons, List.length_nil]; exact len_le (by decide)) | exact decide_eq_true (by omega) | exact decide_eq_false (by omega) | exact ne_t (by omega) | exact ne_f (by omega) | with_reducible apply lt_ii | with_reducible apply le_ii | with_reducible apply gt_ii | with_reducible apply ge_ii | with_reducible apply eq_ii | with_reducible apply ne_ii | with_reducible apply eq_ss | with_reducible apply mul_ii | exact okMul_small (by omega) (by omega) | exact mod_ii (by omega) | exact fdiv_ii (by omega) (by omega) | exact mod_ni (by omega) | exact fdiv_ni (by omega) (by omega) | exact pow_ii (by omega) (by omega) (by omega) | with_reducible apply ix_tup | with_reducible apply ix_lst | (simp only [List.set_cons_succ, List.set_cons_zero]; rfl) | exact rfl)
      have := lc_all (ρ := [some sc, some (.loc 0), o2, some (.int a), o4, o5, o6, some (.int n), o8, o9, none, none, none, none, none, none, none, none, none, none]) (μ := μ) (g := gNm 19) (t := tB1 (d2 f_eq (d2 f_mod (d2 f_mul (cVar 3) (cVar 19)) (cVar 7)) (d2 f_mod (cK (.int 1)) (cVar 7)))) (e := cVar 19) (ch := []) (invT a n) id (rgP 0 n.toNat) [] chk_nil
        (by rw [rgP_length, List.length_nil]; exact Nat.le_trans (by omega) size10007) (fun z hz => by
        obtain ⟨k, hk, rfl⟩ := mem_rgP hz
        refine ⟨[some sc, some (.loc 0), o2, some (.int a), o4, o5, o6, some (.int n), o8, o9, none, none, none, none, none, none, none, none, none, some (.int (0 + k))], rfl, ?_, fun _ => rfl⟩
        have m1 : f_mul (.int a) (.int (0 + k)) μ = some (.int (a * (0 + k)), μ) := mul_ii (okMul_small (by omega) (by omega))
        have m2 : f_mod (.int (a * (0 + k))) (.int n) μ = some (.int (a * (0 + k) % n), μ) := mod_ii hn
        have m3 : f_mod (.int 1) (.int n) μ = some (.int (1 % n), μ) := mod_ii hn
        have m4 : f_eq (.int (a * (0 + k) % n)) (.int (1 % n)) μ = some (.bl (invT a n (.int (0 + k))), μ) := eq_ii rfl
        (repeat' first | (with_reducible apply ev_var; exact rfl) | with_reducible exact ev_K | with_reducible exact m1 | with_reducible exact m2 | with_reducible exact m3 | with_reducible exact m4 | with_reducible exact ev_aNil | with_reducible exact ev_oNo | with_reducible exact ev_tAll | with_reducible exact ev_gsN | with_reducible apply ev_aCons | with_reducible apply ev_d2 | with_reducible apply ev_d1 | with_reducible apply ev_dN | with_reducible apply ev_dCall | with_reducible apply ev_dTup | with_reducible apply ev_dLst | with_reducible apply ev_dLoc | with_reducible apply ev_sl | with_reducible apply ev_oSo | with_reducible apply ev_ch2b | with_reducible apply ev_ch3b | with_reducible apply ev_tB | with_reducible apply ev_tTru | with_reducible apply ev_tNo | with_reducible apply ev_no | with_reducible apply ev_dML | with_reducible apply ev_gTu | with_reducible apply ev_gsC | with_reducible apply ev_gSb | with_reducible apply ev_gNm | (simp only [List.length_cons, List.length_nil]; exact len_le (by decide)) | exact decide_eq_true (by omega) | exact decide_eq_false (by omega) | exact ne_t (by omega) | exact ne_f (by omega) | with_reducible apply lt_ii | with_reducible apply le_ii | with_reducible apply gt_ii | with_reducible apply ge_ii | with_reducible apply eq_ii | with_reducible apply ne_ii | with_reducible apply eq_ss | exact m1 | exact m2 | exact m3 | exact m4 | with_reducible apply mul_ii | exact okMul_small (by omega) (by omega) | exact mod_ii (by omega) | exact fdiv_ii (by omega) (by omega) | exact mod_ni (by omega) | exact fdiv_ni (by omega) (by omega) | exact pow_ii (by omega) (by omega) (by omega) | with_reducible apply ix_tup | with_reducible apply ix_lst | (simp only [List.set_cons_succ, List.set_cons_zero]; rfl) | exact rfl))
      rw [this, ht, List.map_id, List.nil_append]
    apply ev_set (v := .lst (.int x :: t)) (μ1 := μ)
    case e => rfl
    apply ev_if_t (μ1 := μ)
    case hc => (repeat' first | (with_reducible apply ev_var; exact rfl) | with_reducible exact ev_K | with_reducible exact g | with_reducible exact ev_aNil | with_reducible exact ev_oNo | with_reducible exact ev_tAll | with_reducible exact ev_gsN | with_reducible apply ev_aCons | with_reducible apply ev_d2 | with_reducible apply ev_d1 | with_reducible apply ev_dN | with_reducible apply ev_dCall | with_reducible apply ev_dTup | with_reducible apply ev_dLst | with_reducible apply ev_dLoc | with_reducible apply ev_sl | with_reducible apply ev_oSo | with_reducible apply ev_ch2b | with_reducible apply ev_ch3b | with_reducible apply ev_tB | with_reducible apply ev_tTru | with_reducible apply ev_tNo | with_reducible apply ev_no | with_reducible apply ev_dML | with_reducible apply ev_gTu | with_reducible apply ev_gsC | with_reducible apply ev_gSb | with_reducible apply ev_gNm | (simp only [List.length_cons, List.length_nil]; exact len_le (by decide)) | exact decide_eq_true (by omega) | exact decide_eq_false (by omega) | exact ne_t (by omega) | exact ne_f (by omega) | with_reducible apply lt_ii | with_reducible apply le_ii | with_reducible apply gt_ii | with_reducible apply ge_ii | with_reducible apply eq_ii | with_reducible apply ne_ii | with_reducible apply eq_ss | exact g | with_reducible apply mul_ii | exact okMul_small (by omega) (by omega) | exact mod_ii (by omega) | exact fdiv_ii (by omega) (by omega) | exact mod_ni (by omega) | exact fdiv_ni (by omega) (by omega) | exact pow_ii (by omega) (by omega) (by omega) | with_reducible apply ix_tup | with_reducible apply ix_lst | (simp only [List.set_cons_succ, List.set_cons_zero]; rfl) | exact rfl)
    exact hlc
  · refine ⟨[], ?_, .inl ⟨rfl, I.2 hg⟩⟩
    apply ev_set (v := .lst []) (μ1 := μ)
    case e => rfl
    apply ev_if_f (μ1 := μ)
    case hc => (repeat' first | (with_reducible apply ev_var; exact rfl) | with_reducible exact ev_K | with_reducible exact g | with_reducible exact ev_aNil | with_reducible exact ev_oNo | with_reducible exact ev_tAll | with_reducible exact ev_gsN | with_reducible apply ev_aCons | with_reducible apply ev_d2 | with_reducible apply ev_d1 | with_reducible apply ev_dN | with_reducible apply ev_dCall | with_reducible apply ev_dTup | with_reducible apply ev_dLst | with_reducible apply ev_dLoc | with_reducible apply ev_sl | with_reducible apply ev_oSo | with_reducible apply ev_ch2b | with_reducible apply ev_ch3b | with_reducible apply ev_tB | with_reducible apply ev_tTru | with_reducible apply ev_tNo | with_reducible apply ev_no | with_reducible apply ev_dML | with_reducible apply ev_gTu | with_reducible apply ev_gsC | with_reducible apply ev_gSb | with_reducible apply ev_gNm | (simp only [List.length_cons, List.length_nil]; exact len_le (by decide)) | exact decide_eq_true (by omega) | exact decide_eq_false (by omega) | exact ne_t (by omega) | exact ne_f (by omega) | with_reducible apply lt_ii | with_reducible apply le_ii | with_reducible apply gt_ii | with_reducible apply ge_ii | with_reducible apply eq_ii | with_reducible apply ne_ii | with_reducible apply eq_ss | exact g | with_reducible apply mul_ii | exact okMul_small (by omega) (by omega) | exact mod_ii (by omega) | exact fdiv_ii (by omega) (by omega) | exact mod_ni (by omega) | exact fdiv_ni (by omega) (by omega) | exact pow_ii (by omega) (by omega) (by omega) | with_reducible apply ix_tup | with_reducible apply ix_lst | (simp only [List.set_cons_succ, List.set_cons_zero]; rfl) | exact rfl)
    (repeat' first | (with_reducible apply ev_var; exact rfl) | with_reducible exact ev_K | with_reducible exact ev_aNil | with_reducible exact ev_oNo | with_reducible exact ev_tAll | with_reducible exact ev_gsN | with_reducible apply ev_aCons | with_reducible apply ev_d2 | with_reducible apply ev_d1 | with_reducible apply ev_dN | with_reducible apply ev_dCall | with_reducible apply ev_dTup | with_reducible apply ev_dLst | with_reducible apply ev_dLoc | with_reducible apply ev_sl | with_reducible apply ev_oSo | with_reducible apply ev_ch2b | with_reducible apply ev_ch3b | with_reducible apply ev_tB | with_reducible apply ev_tTru | with_reducible apply ev_tNo | with_reducible apply ev_no | with_reducible apply ev_dML | with_reducible apply ev_gTu | with_reducible apply ev_gsC | with_reducible apply ev_gSb | with_reducible apply ev_gNm | (simp only [List.length_cons, List.length_nil]; exact len_le (by decide)) | exact decide_eq_true (by omega) | exact decide_eq_false (by omega) | exact ne_t (by omega) | exact ne_f (by omega) | with_reducible apply lt_ii | with_reducible apply le_ii | with_reducible apply gt_ii | with_reducible apply ge_ii | with_reducible apply eq_ii | with_reducible apply ne_ii | with_reducible apply eq_ss | with_reducible apply mul_ii | exact okMul_small (by omega) (by omega) | exact mod_ii (by omega) | exact fdiv_ii (by omega) (by omega) | exact mod_ni (by omega) | exact fdiv_ni (by omega) (by omega) | exact pow_ii (by omega) (by omega) (by omega) | with_reducible apply ix_tup | with_reducible apply ix_lst | (simp only [List.set_cons_succ, List.set_cons_zero]; rfl) | exact rfl)
theorem round2 {pt : Fn} (ht : TakeOk pt) {a b : Int} (ha : a.natAbs < 2 ^ 41) (hb : b.natAbs < 2 ^ 41) {s : Dr} {m : Nat} (ok : s.Ok (m + 2)) (sc : PV) (o2 o5 o6 o7 o8 o9 : Option PV) :
    ∃ (o5' o6' o7' o8' o9' : Option PV) (s' : Dr), s'.Ok m ∧ sSeq (L1_2 pt) (sSeq (L1_3 pt) (sSeq (L1_4 pt) (sSeq (L1_5 pt) (sSeq (L1_6 pt) (L1_7 pt))))) [some sc, some (.loc 0), o2, some (.int a), some (.int b), o5, o6, o7, o8, o9, none, none, none, none, none, none, none, none, none, none] [s.ob] =
      some (.nx [some sc, some (.loc 0), o2, some (.int a), some (.int b), o5', o6', o7', o8', o9', none, none, none, none, none, none, none, none, none, none] [s'.ob]) := by
  obtain ⟨x, y, e, hx, hy, hg, hb1, hb2, hw⟩ := told_ok ha hb [s.ob]
  have g := gcd_ok a b [s.ob]
  obtain ⟨k1, s1, a1, b1, c1, e1⟩ := take0 ht (r := []) 9 ok (by decide) (by decide)
  obtain ⟨k2, s2, a2, bb2, c2, e2⟩ := take0 ht (r := []) 3 c1 (by decide) (by decide)
  obtain ⟨n, hn⟩ : ∃ n, n = 1 + (b.natAbs : Int) % 10007 := ⟨_, rfl⟩
  have n0 : 0 < n := by omega
  have n1 : n ≤ 10007 := by omega
  obtain ⟨v, hv, ev⟩ := atI_some (xs := [PV.int k1, .int (a.natAbs : Int), .int ((a.natAbs : Int) ^ (3 : Int).toNat)]) a2 bb2
  obtain ⟨k, rfl, hk⟩ : ∃ k : Int, v = .int k ∧ 0 ≤ k := by
    simp only [List.mem_cons, List.not_mem_nil, or_false] at hv
    rcases hv with rfl | rfl | rfl
    · exact ⟨_, rfl, a1⟩
    · exact ⟨_, rfl, by omega⟩
    · exact ⟨_, rfl, Int.pow_nonneg (by omega)⟩
  obtain ⟨D, hD, hD2⟩ := due_ok pt ha n0 n1 sc [s2.ob] o2 (some (.int b)) (some (.int (Int.gcd a b : Int))) (some (.tup [.int (Int.gcd a b : Int), .int x, .int y])) (some (.int k)) o9
  obtain ⟨p, p1, p2⟩ := pow_ok (a := a) n0 (by omega) hk [s2.ob]
  refine ⟨some (.int (Int.gcd a b : Int)), some (.tup [.int (Int.gcd a b : Int), .int x, .int y]), some (.int n), some (.int k), some (.lst D), s2, c2, ?_⟩
  unfold L1_2 L1_3 L1_4 L1_5 L1_7
  (apply ev_seq; case' ha => ((first | with_reducible apply ev_set | with_reducible apply ev_par | with_reducible apply ev_par3 | with_reducible apply ev_asg | with_reducible apply ev_ex | with_reducible apply ev_ret | with_reducible exact ev_sNil | (with_reducible apply ev_aug; exact rfl)) <;> (repeat' first | (with_reducible apply ev_var; exact rfl) | with_reducible exact ev_K | with_reducible exact g | with_reducible exact hw | with_reducible exact ev_aNil | with_reducible exact ev_oNo | with_reducible exact ev_tAll | with_reducible exact ev_gsN | with_reducible apply ev_aCons | with_reducible apply ev_d2 | with_reducible apply ev_d1 | with_reducible apply ev_dN | with_reducible apply ev_dCall | with_reducible apply ev_dTup | with_reducible apply ev_dLst | with_reducible apply ev_dLoc | with_reducible apply ev_sl | with_reducible apply ev_oSo | with_reducible apply ev_ch2b | with_reducible apply ev_ch3b | with_reducible apply ev_tB | with_reducible apply ev_tTru | with_reducible apply ev_tNo | with_reducible apply ev_no | with_reducible apply ev_dML | with_reducible apply ev_gTu | with_reducible apply ev_gsC | with_reducible apply ev_gSb | with_reducible apply ev_gNm | (simp only [List.length_cons, List.length_nil]; exact len_le (by decide)) | exact decide_eq_true (by omega) | exact decide_eq_false (by omega) | exact ne_t (by omega) | exact ne_f (by omega) | with_reducible apply lt_ii | with_reducible apply le_ii | with_reducible apply gt_ii | with_reducible apply ge_ii | with_reducible apply eq_ii | with_reducible apply ne_ii | with_reducible apply eq_ss | exact g | exact hw | with_reducible apply mul_ii | exact okMul_small (by omega) (by omega) | exact mod_ii (by omega) | exact fdiv_ii (by omega) (by omega) | exact mod_ni (by omega) | exact fdiv_ni (by omega) (by omega) | exact pow_ii (by omega) (by omega) (by omega) | with_reducible apply ix_tup | with_reducible apply ix_lst | (simp only [List.set_cons_succ, List.set_cons_zero]; rfl) | exact rfl)))
  apply ev_seq
  case ha =>
    have al : p_al [.int (Int.gcd a b : Int), .int (Int.gcd a b : Int)] [s.ob] = some (.bl true, [s.ob]) := al_ok rfl
    have m1 : f_mul (.int a) (.int x) [s.ob] = some (.int (a * x), [s.ob]) := mul_ii (okMul_small (by omega) (by omega))
    have m2 : f_mul (.int b) (.int y) [s.ob] = some (.int (b * y), [s.ob]) := mul_ii (okMul_small (by omega) (by omega))
    apply ev_sIf_f
    case hc =>
      apply ev_tOr_f
      case h => (repeat' first | (with_reducible apply ev_var; exact rfl) | with_reducible exact ev_K | with_reducible exact al | with_reducible exact ev_aNil | with_reducible exact ev_oNo | with_reducible exact ev_tAll | with_reducible exact ev_gsN | with_reducible apply ev_aCons | with_reducible apply ev_d2 | with_reducible apply ev_d1 | with_reducible apply ev_dN | with_reducible apply ev_dCall | with_reducible apply ev_dTup | with_reducible apply ev_dLst | with_reducible apply ev_dLoc | with_reducible apply ev_sl | with_reducible apply ev_oSo | with_reducible apply ev_ch2b | with_reducible apply ev_ch3b | with_reducible apply ev_tB | with_reducible apply ev_tTru | with_reducible apply ev_tNo | with_reducible apply ev_no | with_reducible apply ev_dML | with_reducible apply ev_gTu | with_reducible apply ev_gsC | with_reducible apply ev_gSb | with_reducible apply ev_gNm | (simp only [List.length_cons, List.length_nil]; exact len_le (by decide)) | exact decide_eq_true (by omega) | exact decide_eq_false (by omega) | exact ne_t (by omega) | exact ne_f (by omega) | with_reducible apply lt_ii | with_reducible apply le_ii | with_reducible apply gt_ii | with_reducible apply ge_ii | with_reducible apply eq_ii | with_reducible apply ne_ii | with_reducible apply eq_ss | exact al | with_reducible apply mul_ii | exact okMul_small (by omega) (by omega) | exact mod_ii (by omega) | exact fdiv_ii (by omega) (by omega) | exact mod_ni (by omega) | exact fdiv_ni (by omega) (by omega) | exact pow_ii (by omega) (by omega) (by omega) | with_reducible apply ix_tup | with_reducible apply ix_lst | (simp only [List.set_cons_succ, List.set_cons_zero]; rfl) | exact rfl)
      apply ev_tOr_f
      case h => (repeat' first | (with_reducible apply ev_var; exact rfl) | with_reducible exact ev_K | with_reducible exact g | with_reducible exact ev_aNil | with_reducible exact ev_oNo | with_reducible exact ev_tAll | with_reducible exact ev_gsN | with_reducible apply ev_aCons | with_reducible apply ev_d2 | with_reducible apply ev_d1 | with_reducible apply ev_dN | with_reducible apply ev_dCall | with_reducible apply ev_dTup | with_reducible apply ev_dLst | with_reducible apply ev_dLoc | with_reducible apply ev_sl | with_reducible apply ev_oSo | with_reducible apply ev_ch2b | with_reducible apply ev_ch3b | with_reducible apply ev_tB | with_reducible apply ev_tTru | with_reducible apply ev_tNo | with_reducible apply ev_no | with_reducible apply ev_dML | with_reducible apply ev_gTu | with_reducible apply ev_gsC | with_reducible apply ev_gSb | with_reducible apply ev_gNm | (simp only [List.length_cons, List.length_nil]; exact len_le (by decide)) | exact decide_eq_true (by omega) | exact decide_eq_false (by omega) | exact ne_t (by omega) | exact ne_f (by omega) | with_reducible apply lt_ii | with_reducible apply le_ii | with_reducible apply gt_ii | with_reducible apply ge_ii | with_reducible apply eq_ii | with_reducible apply ne_ii | with_reducible apply eq_ss | exact g | with_reducible apply mul_ii | exact okMul_small (by omega) (by omega) | exact mod_ii (by omega) | exact fdiv_ii (by omega) (by omega) | exact mod_ni (by omega) | exact fdiv_ni (by omega) (by omega) | exact pow_ii (by omega) (by omega) (by omega) | with_reducible apply ix_tup | with_reducible apply ix_lst | (simp only [List.set_cons_succ, List.set_cons_zero]; rfl) | exact rfl)
      (repeat' first | (with_reducible apply ev_var; exact rfl) | with_reducible exact ev_K | with_reducible exact m1 | with_reducible exact m2 | with_reducible exact ev_aNil | with_reducible exact ev_oNo | with_reducible exact ev_tAll | with_reducible exact ev_gsN | with_reducible apply ev_aCons | with_reducible apply ev_d2 | with_reducible apply ev_d1 | with_reducible apply ev_dN | with_reducible apply ev_dCall | with_reducible apply ev_dTup | with_reducible apply ev_dLst | with_reducible apply ev_dLoc | with_reducible apply ev_sl | with_reducible apply ev_oSo | with_reducible apply ev_ch2b | with_reducible apply ev_ch3b | with_reducible apply ev_tB | with_reducible apply ev_tTru | with_reducible apply ev_tNo | with_reducible apply ev_no | with_reducible apply ev_dML | with_reducible apply ev_gTu | with_reducible apply ev_gsC | with_reducible apply ev_gSb | with_reducible apply ev_gNm | (simp only [List.length_cons, List.length_nil]; exact len_le (by decide)) | exact decide_eq_true (by omega) | exact decide_eq_false (by omega) | exact ne_t (by omega) | exact ne_f (by omega) | with_reducible apply lt_ii | with_reducible apply le_ii | with_reducible apply gt_ii | with_reducible apply ge_ii | with_reducible apply eq_ii | with_reducible apply ne_ii | with_reducible apply eq_ss | exact m1 | exact m2 | with_reducible apply mul_ii | exact okMul_small (by omega) (by omega) | exact mod_ii (by omega) | exact fdiv_ii (by omega) (by omega) | exact mod_ni (by omega) | exact fdiv_ni (by omega) (by omega) | exact pow_ii (by omega) (by omega) (by omega) | with_reducible apply ix_tup | with_reducible apply ix_lst | (simp only [List.set_cons_succ, List.set_cons_zero]; rfl) | exact rfl)
    exact ev_sNil
  apply ev_seq
  case ha =>
    apply ev_sIf_f
    case hc =>
      by_cases hz : b = 0
      · obtain ⟨rfl, rfl⟩ := hb2 hz
        apply ev_tOr_f
        case h =>
          apply ev_tAn_f
          (repeat' first | (with_reducible apply ev_var; exact rfl) | with_reducible exact ev_K | with_reducible exact ev_aNil | with_reducible exact ev_oNo | with_reducible exact ev_tAll | with_reducible exact ev_gsN | with_reducible apply ev_aCons | with_reducible apply ev_d2 | with_reducible apply ev_d1 | with_reducible apply ev_dN | with_reducible apply ev_dCall | with_reducible apply ev_dTup | with_reducible apply ev_dLst | with_reducible apply ev_dLoc | with_reducible apply ev_sl | with_reducible apply ev_oSo | with_reducible apply ev_ch2b | with_reducible apply ev_ch3b | with_reducible apply ev_tB | with_reducible apply ev_tTru | with_reducible apply ev_tNo | with_reducible apply ev_no | with_reducible apply ev_dML | with_reducible apply ev_gTu | with_reducible apply ev_gsC | with_reducible apply ev_gSb | with_reducible apply ev_gNm | (simp only [List.length_cons, List.length_nil]; exact len_le (by decide)) | exact decide_eq_true (by omega) | exact decide_eq_false (by omega) | exact ne_t (by omega) | exact ne_f (by omega) | with_reducible apply lt_ii | with_reducible apply le_ii | with_reducible apply gt_ii | with_reducible apply ge_ii | with_reducible apply eq_ii | with_reducible apply ne_ii | with_reducible apply eq_ss | with_reducible apply mul_ii | exact okMul_small (by omega) (by omega) | exact mod_ii (by omega) | exact fdiv_ii (by omega) (by omega) | exact mod_ni (by omega) | exact fdiv_ni (by omega) (by omega) | exact pow_ii (by omega) (by omega) (by omega) | with_reducible apply ix_tup | with_reducible apply ix_lst | (simp only [List.set_cons_succ, List.set_cons_zero]; rfl) | exact rfl)
        apply ev_tAn_t
        case h => (repeat' first | (with_reducible apply ev_var; exact rfl) | with_reducible exact ev_K | with_reducible exact ev_aNil | with_reducible exact ev_oNo | with_reducible exact ev_tAll | with_reducible exact ev_gsN | with_reducible apply ev_aCons | with_reducible apply ev_d2 | with_reducible apply ev_d1 | with_reducible apply ev_dN | with_reducible apply ev_dCall | with_reducible apply ev_dTup | with_reducible apply ev_dLst | with_reducible apply ev_dLoc | with_reducible apply ev_sl | with_reducible apply ev_oSo | with_reducible apply ev_ch2b | with_reducible apply ev_ch3b | with_reducible apply ev_tB | with_reducible apply ev_tTru | with_reducible apply ev_tNo | with_reducible apply ev_no | with_reducible apply ev_dML | with_reducible apply ev_gTu | with_reducible apply ev_gsC | with_reducible apply ev_gSb | with_reducible apply ev_gNm | (simp only [List.length_cons, List.length_nil]; exact len_le (by decide)) | exact decide_eq_true (by omega) | exact decide_eq_false (by omega) | exact ne_t (by omega) | exact ne_f (by omega) | with_reducible apply lt_ii | with_reducible apply le_ii | with_reducible apply gt_ii | with_reducible apply ge_ii | with_reducible apply eq_ii | with_reducible apply ne_ii | with_reducible apply eq_ss | with_reducible apply mul_ii | exact okMul_small (by omega) (by omega) | exact mod_ii (by omega) | exact fdiv_ii (by omega) (by omega) | exact mod_ni (by omega) | exact fdiv_ni (by omega) (by omega) | exact pow_ii (by omega) (by omega) (by omega) | with_reducible apply ix_tup | with_reducible apply ix_lst | (simp only [List.set_cons_succ, List.set_cons_zero]; rfl) | exact rfl)
        have h1 : f_gt (.int a) (.int 0) [s.ob] = some (.bl (decide (0 < a)), [s.ob]) := rfl
        have h2 : f_lt (.int a) (.int 0) [s.ob] = some (.bl (decide (a < 0)), [s.ob]) := rfl
        have h3 : f_sl (some 1) none (.tup [.int (Int.gcd a b : Int), .int (b2 (decide (0 < a)) - b2 (decide (a < 0))), .int 0]) [s.ob] = some (.tup [.int (b2 (decide (0 < a)) - b2 (decide (a < 0))), .int 0], [s.ob]) := rfl
        (repeat' first | (with_reducible apply ev_var; exact rfl) | with_reducible exact ev_K | with_reducible exact h1 | with_reducible exact h2 | with_reducible exact h3 | with_reducible exact ne2 | with_reducible exact ev_aNil | with_reducible exact ev_oNo | with_reducible exact ev_tAll | with_reducible exact ev_gsN | with_reducible apply ev_aCons | with_reducible apply ev_d2 | with_reducible apply ev_d1 | with_reducible apply ev_dN | with_reducible apply ev_dCall | with_reducible apply ev_dTup | with_reducible apply ev_dLst | with_reducible apply ev_dLoc | with_reducible apply ev_sl | with_reducible apply ev_oSo | with_reducible apply ev_ch2b | with_reducible apply ev_ch3b | with_reducible apply ev_tB | with_reducible apply ev_tTru | with_reducible apply ev_tNo | with_reducible apply ev_no | with_reducible apply ev_dML | with_reducible apply ev_gTu | with_reducible apply ev_gsC | with_reducible apply ev_gSb | with_reducible apply ev_gNm | (simp only [List.length_cons, List.length_nil]; exact len_le (by decide)) | exact decide_eq_true (by omega) | exact decide_eq_false (by omega) | exact ne_t (by omega) | exact ne_f (by omega) | with_reducible apply lt_ii | with_reducible apply le_ii | with_reducible apply gt_ii | with_reducible apply ge_ii | with_reducible apply eq_ii | with_reducible apply ne_ii | with_reducible apply eq_ss | exact h1 | exact h2 | exact h3 | exact ne2 | with_reducible apply mul_ii | exact okMul_small (by omega) (by omega) | exact mod_ii (by omega) | exact fdiv_ii (by omega) (by omega) | exact mod_ni (by omega) | exact fdiv_ni (by omega) (by omega) | exact pow_ii (by omega) (by omega) (by omega) | with_reducible apply ix_tup | with_reducible apply ix_lst | (simp only [List.set_cons_succ, List.set_cons_zero]; rfl) | exact rfl)
      · obtain ⟨g0, x0, x1⟩ := hb1 hz
        have f1 : f_fdiv (.int b.natAbs) (.int (Int.gcd a b : Int)) [s.ob] = some (.int ((b.natAbs : Int) / (Int.gcd a b : Int)), [s.ob]) := fdiv_ii g0 (by omega)
        apply ev_tOr_f
        case h =>
          apply ev_tAn_t
          case h => (repeat' first | (with_reducible apply ev_var; exact rfl) | with_reducible exact ev_K | with_reducible exact ev_aNil | with_reducible exact ev_oNo | with_reducible exact ev_tAll | with_reducible exact ev_gsN | with_reducible apply ev_aCons | with_reducible apply ev_d2 | with_reducible apply ev_d1 | with_reducible apply ev_dN | with_reducible apply ev_dCall | with_reducible apply ev_dTup | with_reducible apply ev_dLst | with_reducible apply ev_dLoc | with_reducible apply ev_sl | with_reducible apply ev_oSo | with_reducible apply ev_ch2b | with_reducible apply ev_ch3b | with_reducible apply ev_tB | with_reducible apply ev_tTru | with_reducible apply ev_tNo | with_reducible apply ev_no | with_reducible apply ev_dML | with_reducible apply ev_gTu | with_reducible apply ev_gsC | with_reducible apply ev_gSb | with_reducible apply ev_gNm | (simp only [List.length_cons, List.length_nil]; exact len_le (by decide)) | exact decide_eq_true (by omega) | exact decide_eq_false (by omega) | exact ne_t (by omega) | exact ne_f (by omega) | with_reducible apply lt_ii | with_reducible apply le_ii | with_reducible apply gt_ii | with_reducible apply ge_ii | with_reducible apply eq_ii | with_reducible apply ne_ii | with_reducible apply eq_ss | with_reducible apply mul_ii | exact okMul_small (by omega) (by omega) | exact mod_ii (by omega) | exact fdiv_ii (by omega) (by omega) | exact mod_ni (by omega) | exact fdiv_ni (by omega) (by omega) | exact pow_ii (by omega) (by omega) (by omega) | with_reducible apply ix_tup | with_reducible apply ix_lst | (simp only [List.set_cons_succ, List.set_cons_zero]; rfl) | exact rfl)
          (repeat' first | (with_reducible apply ev_var; exact rfl) | with_reducible exact ev_K | with_reducible exact abs_i | with_reducible exact f1 | with_reducible exact ev_aNil | with_reducible exact ev_oNo | with_reducible exact ev_tAll | with_reducible exact ev_gsN | with_reducible apply ev_aCons | with_reducible apply ev_d2 | with_reducible apply ev_d1 | with_reducible apply ev_dN | with_reducible apply ev_dCall | with_reducible apply ev_dTup | with_reducible apply ev_dLst | with_reducible apply ev_dLoc | with_reducible apply ev_sl | with_reducible apply ev_oSo | with_reducible apply ev_ch2b | with_reducible apply ev_ch3b | with_reducible apply ev_tB | with_reducible apply ev_tTru | with_reducible apply ev_tNo | with_reducible apply ev_no | with_reducible apply ev_dML | with_reducible apply ev_gTu | with_reducible apply ev_gsC | with_reducible apply ev_gSb | with_reducible apply ev_gNm | (simp only [List.length_cons, List.length_nil]; exact len_le (by decide)) | exact decide_eq_true (by omega) | exact decide_eq_false (by omega) | exact ne_t (by omega) | exact ne_f (by omega) | with_reducible apply lt_ii | with_reducible apply le_ii | with_reducible apply gt_ii | with_reducible apply ge_ii | with_reducible apply eq_ii | with_reducible apply ne_ii | with_reducible apply eq_ss | exact abs_i | exact f1 | with_reducible apply mul_ii | exact okMul_small (by omega) (by omega) | exact mod_ii (by omega) | exact fdiv_ii (by omega) (by omega) | exact mod_ni (by omega) | exact fdiv_ni (by omega) (by omega) | exact pow_ii (by omega) (by omega) (by omega) | with_reducible apply ix_tup | with_reducible apply ix_lst | (simp only [List.set_cons_succ, List.set_cons_zero]; rfl) | exact rfl)
        apply ev_tAn_f
        (repeat' first | (with_reducible apply ev_var; exact rfl) | with_reducible exact ev_K | with_reducible exact ev_aNil | with_reducible exact ev_oNo | with_reducible exact ev_tAll | with_reducible exact ev_gsN | with_reducible apply ev_aCons | with_reducible apply ev_d2 | with_reducible apply ev_d1 | with_reducible apply ev_dN | with_reducible apply ev_dCall | with_reducible apply ev_dTup | with_reducible apply ev_dLst | with_reducible apply ev_dLoc | with_reducible apply ev_sl | with_reducible apply ev_oSo | with_reducible apply ev_ch2b | with_reducible apply ev_ch3b | with_reducible apply ev_tB | with_reducible apply ev_tTru | with_reducible apply ev_tNo | with_reducible apply ev_no | with_reducible apply ev_dML | with_reducible apply ev_gTu | with_reducible apply ev_gsC | with_reducible apply ev_gSb | with_reducible apply ev_gNm | (simp only [List.length_cons, List.length_nil]; exact len_le (by decide)) | exact decide_eq_true (by omega) | exact decide_eq_false (by omega) | exact ne_t (by omega) | exact ne_f (by omega) | with_reducible apply lt_ii | with_reducible apply le_ii | with_reducible apply gt_ii | with_reducible apply ge_ii | with_reducible apply eq_ii | with_reducible apply ne_ii | with_reducible apply eq_ss | with_reducible apply mul_ii | exact okMul_small (by omega) (by omega) | exact mod_ii (by omega) | exact fdiv_ii (by omega) (by omega) | exact mod_ni (by omega) | exact fdiv_ni (by omega) (by omega) | exact pow_ii (by omega) (by omega) (by omega) | with_reducible apply ix_tup | with_reducible apply ix_lst | (simp only [List.set_cons_succ, List.set_cons_zero]; rfl) | exact rfl)
    exact ev_sNil
  apply ev_seq
  case ha =>
    have h1 : f_pow (.int (a.natAbs : Int)) (.int 3) [s1.ob] = some (.int ((a.natAbs : Int) ^ (3 : Int).toNat), [s1.ob]) := pow_ii (by decide) (by decide) (by omega)
    have h2 : f_add (.int 1) (.int ((b.natAbs : Int) % 10007)) [s.ob] = some (.int n, [s.ob]) := by rw [hn]; rfl
    ((first | with_reducible apply ev_set | with_reducible apply ev_par | with_reducible apply ev_par3 | with_reducible apply ev_asg | with_reducible apply ev_ex | with_reducible apply ev_ret | with_reducible exact ev_sNil | (with_reducible apply ev_aug; exact rfl)) <;> (repeat' first | (with_reducible apply ev_var; exact rfl) | with_reducible exact ev_K | with_reducible exact abs_i | with_reducible exact e1 | with_reducible exact e2 | with_reducible exact h1 | with_reducible exact h2 | with_reducible exact ev | with_reducible exact ev_aNil | with_reducible exact ev_oNo | with_reducible exact ev_tAll | with_reducible exact ev_gsN | with_reducible apply ev_aCons | with_reducible apply ev_d2 | with_reducible apply ev_d1 | with_reducible apply ev_dN | with_reducible apply ev_dCall | with_reducible apply ev_dTup | with_reducible apply ev_dLst | with_reducible apply ev_dLoc | with_reducible apply ev_sl | with_reducible apply ev_oSo | with_reducible apply ev_ch2b | with_reducible apply ev_ch3b | with_reducible apply ev_tB | with_reducible apply ev_tTru | with_reducible apply ev_tNo | with_reducible apply ev_no | with_reducible apply ev_dML | with_reducible apply ev_gTu | with_reducible apply ev_gsC | with_reducible apply ev_gSb | with_reducible apply ev_gNm | (simp only [List.length_cons, List.length_nil]; exact len_le (by decide)) | exact decide_eq_true (by omega) | exact decide_eq_false (by omega) | exact ne_t (by omega) | exact ne_f (by omega) | with_reducible apply lt_ii | with_reducible apply le_ii | with_reducible apply gt_ii | with_reducible apply ge_ii | with_reducible apply eq_ii | with_reducible apply ne_ii | with_reducible apply eq_ss | exact abs_i | exact e1 | exact e2 | exact h1 | exact h2 | exact ev | with_reducible apply mul_ii | exact okMul_small (by omega) (by omega) | exact mod_ii (by omega) | exact fdiv_ii (by omega) (by omega) | exact mod_ni (by omega) | exact fdiv_ni (by omega) (by omega) | exact pow_ii (by omega) (by omega) (by omega) | with_reducible apply ix_tup | with_reducible apply ix_lst | (simp only [List.set_cons_succ, List.set_cons_zero]; rfl) | exact rfl))
  apply ev_seq hD
  apply ev_sIf_f
  case hc =>
    have al1 : p_al [.int p, .int p] [s2.ob] = some (.bl true, [s2.ob]) := al_ok rfl
    apply ev_tOr_f
    case h =>
      rcases hD2 with ⟨rfl, hi⟩ | ⟨x0, t, rfl, hi⟩
      · have al : p_al [.non, .non] [s2.ob] = some (.bl true, [s2.ob]) := al_ok rfl
        have cnd : dIf (tTru (cVar 9)) (d2 f_ix (cVar 9) (cK (.int 0))) (cK .non) [some sc, some (.loc 0), o2, some (.int a), some (.int b), some (.int (Int.gcd a b : Int)), some (.tup [.int (Int.gcd a b : Int), .int x, .int y]), some (.int n), some (.int k), some (.lst []), none, none, none, none, none, none, none, none, none, none] [s2.ob] = some (.non, [s2.ob]) := by
          apply ev_if_f
          case hc => (repeat' first | (with_reducible apply ev_var; exact rfl) | with_reducible exact ev_K | with_reducible exact ev_aNil | with_reducible exact ev_oNo | with_reducible exact ev_tAll | with_reducible exact ev_gsN | with_reducible apply ev_aCons | with_reducible apply ev_d2 | with_reducible apply ev_d1 | with_reducible apply ev_dN | with_reducible apply ev_dCall | with_reducible apply ev_dTup | with_reducible apply ev_dLst | with_reducible apply ev_dLoc | with_reducible apply ev_sl | with_reducible apply ev_oSo | with_reducible apply ev_ch2b | with_reducible apply ev_ch3b | with_reducible apply ev_tB | with_reducible apply ev_tTru | with_reducible apply ev_tNo | with_reducible apply ev_no | with_reducible apply ev_dML | with_reducible apply ev_gTu | with_reducible apply ev_gsC | with_reducible apply ev_gSb | with_reducible apply ev_gNm | (simp only [List.length_cons, List.length_nil]; exact len_le (by decide)) | exact decide_eq_true (by omega) | exact decide_eq_false (by omega) | exact ne_t (by omega) | exact ne_f (by omega) | with_reducible apply lt_ii | with_reducible apply le_ii | with_reducible apply gt_ii | with_reducible apply ge_ii | with_reducible apply eq_ii | with_reducible apply ne_ii | with_reducible apply eq_ss | with_reducible apply mul_ii | exact okMul_small (by omega) (by omega) | exact mod_ii (by omega) | exact fdiv_ii (by omega) (by omega) | exact mod_ni (by omega) | exact fdiv_ni (by omega) (by omega) | exact pow_ii (by omega) (by omega) (by omega) | with_reducible apply ix_tup | with_reducible apply ix_lst | (simp only [List.set_cons_succ, List.set_cons_zero]; rfl) | exact rfl)
          (repeat' first | (with_reducible apply ev_var; exact rfl) | with_reducible exact ev_K | with_reducible exact ev_aNil | with_reducible exact ev_oNo | with_reducible exact ev_tAll | with_reducible exact ev_gsN | with_reducible apply ev_aCons | with_reducible apply ev_d2 | with_reducible apply ev_d1 | with_reducible apply ev_dN | with_reducible apply ev_dCall | with_reducible apply ev_dTup | with_reducible apply ev_dLst | with_reducible apply ev_dLoc | with_reducible apply ev_sl | with_reducible apply ev_oSo | with_reducible apply ev_ch2b | with_reducible apply ev_ch3b | with_reducible apply ev_tB | with_reducible apply ev_tTru | with_reducible apply ev_tNo | with_reducible apply ev_no | with_reducible apply ev_dML | with_reducible apply ev_gTu | with_reducible apply ev_gsC | with_reducible apply ev_gSb | with_reducible apply ev_gNm | (simp only [List.length_cons, List.length_nil]; exact len_le (by decide)) | exact decide_eq_true (by omega) | exact decide_eq_false (by omega) | exact ne_t (by omega) | exact ne_f (by omega) | with_reducible apply lt_ii | with_reducible apply le_ii | with_reducible apply gt_ii | with_reducible apply ge_ii | with_reducible apply eq_ii | with_reducible apply ne_ii | with_reducible apply eq_ss | with_reducible apply mul_ii | exact okMul_small (by omega) (by omega) | exact mod_ii (by omega) | exact fdiv_ii (by omega) (by omega) | exact mod_ni (by omega) | exact fdiv_ni (by omega) (by omega) | exact pow_ii (by omega) (by omega) (by omega) | with_reducible apply ix_tup | with_reducible apply ix_lst | (simp only [List.set_cons_succ, List.set_cons_zero]; rfl) | exact rfl)
        (repeat' first | (with_reducible apply ev_var; exact rfl) | with_reducible exact ev_K | with_reducible exact hi | with_reducible exact cnd | with_reducible exact al | with_reducible exact ev_aNil | with_reducible exact ev_oNo | with_reducible exact ev_tAll | with_reducible exact ev_gsN | with_reducible apply ev_aCons | with_reducible apply ev_d2 | with_reducible apply ev_d1 | with_reducible apply ev_dN | with_reducible apply ev_dCall | with_reducible apply ev_dTup | with_reducible apply ev_dLst | with_reducible apply ev_dLoc | with_reducible apply ev_sl | with_reducible apply ev_oSo | with_reducible apply ev_ch2b | with_reducible apply ev_ch3b | with_reducible apply ev_tB | with_reducible apply ev_tTru | with_reducible apply ev_tNo | with_reducible apply ev_no | with_reducible apply ev_dML | with_reducible apply ev_gTu | with_reducible apply ev_gsC | with_reducible apply ev_gSb | with_reducible apply ev_gNm | (simp only [List.length_cons, List.length_nil]; exact len_le (by decide)) | exact decide_eq_true (by omega) | exact decide_eq_false (by omega) | exact ne_t (by omega) | exact ne_f (by omega) | with_reducible apply lt_ii | with_reducible apply le_ii | with_reducible apply gt_ii | with_reducible apply ge_ii | with_reducible apply eq_ii | with_reducible apply ne_ii | with_reducible apply eq_ss | exact hi | exact cnd | exact al | with_reducible apply mul_ii | exact okMul_small (by omega) (by omega) | exact mod_ii (by omega) | exact fdiv_ii (by omega) (by omega) | exact mod_ni (by omega) | exact fdiv_ni (by omega) (by omega) | exact pow_ii (by omega) (by omega) (by omega) | with_reducible apply ix_tup | with_reducible apply ix_lst | (simp only [List.set_cons_succ, List.set_cons_zero]; rfl) | exact rfl)
      · have al : p_al [.int x0, .int x0] [s2.ob] = some (.bl true, [s2.ob]) := al_ok rfl
        have cnd : dIf (tTru (cVar 9)) (d2 f_ix (cVar 9) (cK (.int 0))) (cK .non) [some sc, some (.loc 0), o2, some (.int a), some (.int b), some (.int (Int.gcd a b : Int)), some (.tup [.int (Int.gcd a b : Int), .int x, .int y]), some (.int n), some (.int k), some (.lst (.int x0 :: t)), none, none, none, none, none, none, none, none, none, none] [s2.ob] = some (.int x0, [s2.ob]) := by
          apply ev_if_t
          case hc => (repeat' first | (with_reducible apply ev_var; exact rfl) | with_reducible exact ev_K | with_reducible exact ev_aNil | with_reducible exact ev_oNo | with_reducible exact ev_tAll | with_reducible exact ev_gsN | with_reducible apply ev_aCons | with_reducible apply ev_d2 | with_reducible apply ev_d1 | with_reducible apply ev_dN | with_reducible apply ev_dCall | with_reducible apply ev_dTup | with_reducible apply ev_dLst | with_reducible apply ev_dLoc | with_reducible apply ev_sl | with_reducible apply ev_oSo | with_reducible apply ev_ch2b | with_reducible apply ev_ch3b | with_reducible apply ev_tB | with_reducible apply ev_tTru | with_reducible apply ev_tNo | with_reducible apply ev_no | with_reducible apply ev_dML | with_reducible apply ev_gTu | with_reducible apply ev_gsC | with_reducible apply ev_gSb | with_reducible apply ev_gNm | (simp only [List.length_cons, List.length_nil]; exact len_le (by decide)) | exact decide_eq_true (by omega) | exact decide_eq_false (by omega) | exact ne_t (by omega) | exact ne_f (by omega) | with_reducible apply lt_ii | with_reducible apply le_ii | with_reducible apply gt_ii | with_reducible apply ge_ii | with_reducible apply eq_ii | with_reducible apply ne_ii | with_reducible apply eq_ss | with_reducible apply mul_ii | exact okMul_small (by omega) (by omega) | exact mod_ii (by omega) | exact fdiv_ii (by omega) (by omega) | exact mod_ni (by omega) | exact fdiv_ni (by omega) (by omega) | exact pow_ii (by omega) (by omega) (by omega) | with_reducible apply ix_tup | with_reducible apply ix_lst | (simp only [List.set_cons_succ, List.set_cons_zero]; rfl) | exact rfl)
          exact ev_d2 (ev_var rfl) ev_K (ix_lst (L2.atI_nat (j := 0) rfl))
        (repeat' first | (with_reducible apply ev_var; exact rfl) | with_reducible exact ev_K | with_reducible exact hi | with_reducible exact cnd | with_reducible exact al | with_reducible exact ev_aNil | with_reducible exact ev_oNo | with_reducible exact ev_tAll | with_reducible exact ev_gsN | with_reducible apply ev_aCons | with_reducible apply ev_d2 | with_reducible apply ev_d1 | with_reducible apply ev_dN | with_reducible apply ev_dCall | with_reducible apply ev_dTup | with_reducible apply ev_dLst | with_reducible apply ev_dLoc | with_reducible apply ev_sl | with_reducible apply ev_oSo | with_reducible apply ev_ch2b | with_reducible apply ev_ch3b | with_reducible apply ev_tB | with_reducible apply ev_tTru | with_reducible apply ev_tNo | with_reducible apply ev_no | with_reducible apply ev_dML | with_reducible apply ev_gTu | with_reducible apply ev_gsC | with_reducible apply ev_gSb | with_reducible apply ev_gNm | (simp only [List.length_cons, List.length_nil]; exact len_le (by decide)) | exact decide_eq_true (by omega) | exact decide_eq_false (by omega) | exact ne_t (by omega) | exact ne_f (by omega) | with_reducible apply lt_ii | with_reducible apply le_ii | with_reducible apply gt_ii | with_reducible apply ge_ii | with_reducible apply eq_ii | with_reducible apply ne_ii | with_reducible apply eq_ss | exact hi | exact cnd | exact al | with_reducible apply mul_ii | exact okMul_small (by omega) (by omega) | exact mod_ii (by omega) | exact fdiv_ii (by omega) (by omega) | exact mod_ni (by omega) | exact fdiv_ni (by omega) (by omega) | exact pow_ii (by omega) (by omega) (by omega) | with_reducible apply ix_tup | with_reducible apply ix_lst | (simp only [List.set_cons_succ, List.set_cons_zero]; rfl) | exact rfl)
    (repeat' first | (with_reducible apply ev_var; exact rfl) | with_reducible exact ev_K | with_reducible exact p1 | with_reducible exact p2 | with_reducible exact al1 | with_reducible exact ev_aNil | with_reducible exact ev_oNo | with_reducible exact ev_tAll | with_reducible exact ev_gsN | with_reducible apply ev_aCons | with_reducible apply ev_d2 | with_reducible apply ev_d1 | with_reducible apply ev_dN | with_reducible apply ev_dCall | with_reducible apply ev_dTup | with_reducible apply ev_dLst | with_reducible apply ev_dLoc | with_reducible apply ev_sl | with_reducible apply ev_oSo | with_reducible apply ev_ch2b | with_reducible apply ev_ch3b | with_reducible apply ev_tB | with_reducible apply ev_tTru | with_reducible apply ev_tNo | with_reducible apply ev_no | with_reducible apply ev_dML | with_reducible apply ev_gTu | with_reducible apply ev_gsC | with_reducible apply ev_gSb | with_reducible apply ev_gNm | (simp only [List.length_cons, List.length_nil]; exact len_le (by decide)) | exact decide_eq_true (by omega) | exact decide_eq_false (by omega) | exact ne_t (by omega) | exact ne_f (by omega) | with_reducible apply lt_ii | with_reducible apply le_ii | with_reducible apply gt_ii | with_reducible apply ge_ii | with_reducible apply eq_ii | with_reducible apply ne_ii | with_reducible apply eq_ss | exact p1 | exact p2 | exact al1 | with_reducible apply mul_ii | exact okMul_small (by omega) (by omega) | exact mod_ii (by omega) | exact fdiv_ii (by omega) (by omega) | exact mod_ni (by omega) | exact fdiv_ni (by omega) (by omega) | exact pow_ii (by omega) (by omega) (by omega) | with_reducible apply ix_tup | with_reducible apply ix_lst | (simp only [List.set_cons_succ, List.set_cons_zero]; rfl) | exact rfl)
  exact ev_sNil

theorem round1 {pt : Fn} (ht : TakeOk pt) {s : Dr} {m : Nat} {turn : Int} (ok : s.Ok (m + 15)) (sc : PV) (o3 o4 o5 o6 o7 o8 o9 : Option PV) :
    ∃ (o3' o4' o5' o6' o7' o8' o9' : Option PV) (s' : Dr), s'.Ok m ∧ B1 pt [some sc, some (.loc 0), some (.int turn), o3, o4, o5, o6, o7, o8, o9, none, none, none, none, none, none, none, none, none, none] [s.ob] =
      some (.nx [some sc, some (.loc 0), some (.int turn), o3', o4', o5', o6', o7', o8', o9', none, none, none, none, none, none, none, none, none, none] [s'.ob]) := by
  obtain ⟨a, s1, a1, c1, e1⟩ := int_ok ht (r := []) (m := m + 9) ok
  obtain ⟨b, s2, a2, c2, e2⟩ := int_ok ht (r := []) (m := m + 3) c1
  unfold B1
  by_cases h3 : turn = 3
  · obtain ⟨k, s3, a3, b3, c3, e3⟩ := take0 ht (r := []) 4 c2 (by decide) (by decide)
    have hk : (a * k).natAbs < 2 ^ 41 := by
      rcases (show k = 0 ∨ k = 1 ∨ k = 2 ∨ k = 3 by omega) with rfl | rfl | rfl | rfl <;> omega
    obtain ⟨o5', o6', o7', o8', o9', s', ok', e⟩ := round2 ht (a := a) (b := a * k) (by omega) hk c3 sc (some (.int turn)) o5 o6 o7 o8 o9
    refine ⟨some (.int a), some (.int (a * k)), o5', o6', o7', o8', o9', s', ok', ?_⟩
    apply ev_seq (ρ' := [some sc, some (.loc 0), some (.int turn), some (.int a), some (.int b), o5, o6, o7, o8, o9, none, none, none, none, none, none, none, none, none, none]) (μ' := [s2.ob])
    case ha =>
      unfold L1_0
      ((first | with_reducible apply ev_set | with_reducible apply ev_par | with_reducible apply ev_par3 | with_reducible apply ev_asg | with_reducible apply ev_ex | with_reducible apply ev_ret | with_reducible exact ev_sNil | (with_reducible apply ev_aug; exact rfl)) <;> (repeat' first | (with_reducible apply ev_var; exact rfl) | with_reducible exact ev_K | with_reducible exact e1 | with_reducible exact e2 | with_reducible exact ev_aNil | with_reducible exact ev_oNo | with_reducible exact ev_tAll | with_reducible exact ev_gsN | with_reducible apply ev_aCons | with_reducible apply ev_d2 | with_reducible apply ev_d1 | with_reducible apply ev_dN | with_reducible apply ev_dCall | with_reducible apply ev_dTup | with_reducible apply ev_dLst | with_reducible apply ev_dLoc | with_reducible apply ev_sl | with_reducible apply ev_oSo | with_reducible apply ev_ch2b | with_reducible apply ev_ch3b | with_reducible apply ev_tB | with_reducible apply ev_tTru | with_reducible apply ev_tNo | with_reducible apply ev_no | with_reducible apply ev_dML | with_reducible apply ev_gTu | with_reducible apply ev_gsC | with_reducible apply ev_gSb | with_reducible apply ev_gNm | (simp only [List.length_cons, List.length_nil]; exact len_le (by decide)) | exact decide_eq_true (by omega) | exact decide_eq_false (by omega) | exact ne_t (by omega) | exact ne_f (by omega) | with_reducible apply lt_ii | with_reducible apply le_ii | with_reducible apply gt_ii | with_reducible apply ge_ii | with_reducible apply eq_ii | with_reducible apply ne_ii | with_reducible apply eq_ss | exact e1 | exact e2 | with_reducible apply mul_ii | exact okMul_small (by omega) (by omega) | exact mod_ii (by omega) | exact fdiv_ii (by omega) (by omega) | exact mod_ni (by omega) | exact fdiv_ni (by omega) (by omega) | exact pow_ii (by omega) (by omega) (by omega) | with_reducible apply ix_tup | with_reducible apply ix_lst | (simp only [List.set_cons_succ, List.set_cons_zero]; rfl) | exact rfl))
    apply ev_seq (ρ' := [some sc, some (.loc 0), some (.int turn), some (.int a), some (.int (a * k)), o5, o6, o7, o8, o9, none, none, none, none, none, none, none, none, none, none]) (μ' := [s3.ob])
    case ha =>
      unfold L1_1
      (apply ev_sIf_t; case' hc => (repeat' first | (with_reducible apply ev_var; exact rfl) | with_reducible exact ev_K | with_reducible exact ev_aNil | with_reducible exact ev_oNo | with_reducible exact ev_tAll | with_reducible exact ev_gsN | with_reducible apply ev_aCons | with_reducible apply ev_d2 | with_reducible apply ev_d1 | with_reducible apply ev_dN | with_reducible apply ev_dCall | with_reducible apply ev_dTup | with_reducible apply ev_dLst | with_reducible apply ev_dLoc | with_reducible apply ev_sl | with_reducible apply ev_oSo | with_reducible apply ev_ch2b | with_reducible apply ev_ch3b | with_reducible apply ev_tB | with_reducible apply ev_tTru | with_reducible apply ev_tNo | with_reducible apply ev_no | with_reducible apply ev_dML | with_reducible apply ev_gTu | with_reducible apply ev_gsC | with_reducible apply ev_gSb | with_reducible apply ev_gNm | (simp only [List.length_cons, List.length_nil]; exact len_le (by decide)) | exact decide_eq_true (by omega) | exact decide_eq_false (by omega) | exact ne_t (by omega) | exact ne_f (by omega) | with_reducible apply lt_ii | with_reducible apply le_ii | with_reducible apply gt_ii | with_reducible apply ge_ii | with_reducible apply eq_ii | with_reducible apply ne_ii | with_reducible apply eq_ss | with_reducible apply mul_ii | exact okMul_small (by omega) (by omega) | exact mod_ii (by omega) | exact fdiv_ii (by omega) (by omega) | exact mod_ni (by omega) | exact fdiv_ni (by omega) (by omega) | exact pow_ii (by omega) (by omega) (by omega) | with_reducible apply ix_tup | with_reducible apply ix_lst | (simp only [List.set_cons_succ, List.set_cons_zero]; rfl) | exact rfl))
      have m1 : f_mul (.int a) (.int k) [s3.ob] = some (.int (a * k), [s3.ob]) := mul_ii (okMul_small (by omega) (by omega))
      ((first | with_reducible apply ev_set | with_reducible apply ev_par | with_reducible apply ev_par3 | with_reducible apply ev_asg | with_reducible apply ev_ex | with_reducible apply ev_ret | with_reducible exact ev_sNil | (with_reducible apply ev_aug; exact rfl)) <;> (repeat' first | (with_reducible apply ev_var; exact rfl) | with_reducible exact ev_K | with_reducible exact e3 | with_reducible exact m1 | with_reducible exact ev_aNil | with_reducible exact ev_oNo | with_reducible exact ev_tAll | with_reducible exact ev_gsN | with_reducible apply ev_aCons | with_reducible apply ev_d2 | with_reducible apply ev_d1 | with_reducible apply ev_dN | with_reducible apply ev_dCall | with_reducible apply ev_dTup | with_reducible apply ev_dLst | with_reducible apply ev_dLoc | with_reducible apply ev_sl | with_reducible apply ev_oSo | with_reducible apply ev_ch2b | with_reducible apply ev_ch3b | with_reducible apply ev_tB | with_reducible apply ev_tTru | with_reducible apply ev_tNo | with_reducible apply ev_no | with_reducible apply ev_dML | with_reducible apply ev_gTu | with_reducible apply ev_gsC | with_reducible apply ev_gSb | with_reducible apply ev_gNm | (simp only [List.length_cons, List.length_nil]; exact len_le (by decide)) | exact decide_eq_true (by omega) | exact decide_eq_false (by omega) | exact ne_t (by omega) | exact ne_f (by omega) | with_reducible apply lt_ii | with_reducible apply le_ii | with_reducible apply gt_ii | with_reducible apply ge_ii | with_reducible apply eq_ii | with_reducible apply ne_ii | with_reducible apply eq_ss | exact e3 | exact m1 | with_reducible apply mul_ii | exact okMul_small (by omega) (by omega) | exact mod_ii (by omega) | exact fdiv_ii (by omega) (by omega) | exact mod_ni (by omega) | exact fdiv_ni (by omega) (by omega) | exact pow_ii (by omega) (by omega) (by omega) | with_reducible apply ix_tup | with_reducible apply ix_lst | (simp only [List.set_cons_succ, List.set_cons_zero]; rfl) | exact rfl))
    exact e
  · obtain ⟨o5', o6', o7', o8', o9', s', ok', e⟩ := round2 ht (a := a) (b := b) (by omega) (by omega) (c2.le (by omega) : s2.Ok (m + 2)) sc (some (.int turn)) o5 o6 o7 o8 o9
    refine ⟨some (.int a), some (.int b), o5', o6', o7', o8', o9', s', ok', ?_⟩
    apply ev_seq (ρ' := [some sc, some (.loc 0), some (.int turn), some (.int a), some (.int b), o5, o6, o7, o8, o9, none, none, none, none, none, none, none, none, none, none]) (μ' := [s2.ob])
    case ha =>
      unfold L1_0
      ((first | with_reducible apply ev_set | with_reducible apply ev_par | with_reducible apply ev_par3 | with_reducible apply ev_asg | with_reducible apply ev_ex | with_reducible apply ev_ret | with_reducible exact ev_sNil | (with_reducible apply ev_aug; exact rfl)) <;> (repeat' first | (with_reducible apply ev_var; exact rfl) | with_reducible exact ev_K | with_reducible exact e1 | with_reducible exact e2 | with_reducible exact ev_aNil | with_reducible exact ev_oNo | with_reducible exact ev_tAll | with_reducible exact ev_gsN | with_reducible apply ev_aCons | with_reducible apply ev_d2 | with_reducible apply ev_d1 | with_reducible apply ev_dN | with_reducible apply ev_dCall | with_reducible apply ev_dTup | with_reducible apply ev_dLst | with_reducible apply ev_dLoc | with_reducible apply ev_sl | with_reducible apply ev_oSo | with_reducible apply ev_ch2b | with_reducible apply ev_ch3b | with_reducible apply ev_tB | with_reducible apply ev_tTru | with_reducible apply ev_tNo | with_reducible apply ev_no | with_reducible apply ev_dML | with_reducible apply ev_gTu | with_reducible apply ev_gsC | with_reducible apply ev_gSb | with_reducible apply ev_gNm | (simp only [List.length_cons, List.length_nil]; exact len_le (by decide)) | exact decide_eq_true (by omega) | exact decide_eq_false (by omega) | exact ne_t (by omega) | exact ne_f (by omega) | with_reducible apply lt_ii | with_reducible apply le_ii | with_reducible apply gt_ii | with_reducible apply ge_ii | with_reducible apply eq_ii | with_reducible apply ne_ii | with_reducible apply eq_ss | exact e1 | exact e2 | with_reducible apply mul_ii | exact okMul_small (by omega) (by omega) | exact mod_ii (by omega) | exact fdiv_ii (by omega) (by omega) | exact mod_ni (by omega) | exact fdiv_ni (by omega) (by omega) | exact pow_ii (by omega) (by omega) (by omega) | with_reducible apply ix_tup | with_reducible apply ix_lst | (simp only [List.set_cons_succ, List.set_cons_zero]; rfl) | exact rfl))
    apply ev_seq (ρ' := [some sc, some (.loc 0), some (.int turn), some (.int a), some (.int b), o5, o6, o7, o8, o9, none, none, none, none, none, none, none, none, none, none]) (μ' := [s2.ob])
    case ha =>
      unfold L1_1
      (apply ev_sIf_f; case' hc => (repeat' first | (with_reducible apply ev_var; exact rfl) | with_reducible exact ev_K | with_reducible exact ev_aNil | with_reducible exact ev_oNo | with_reducible exact ev_tAll | with_reducible exact ev_gsN | with_reducible apply ev_aCons | with_reducible apply ev_d2 | with_reducible apply ev_d1 | with_reducible apply ev_dN | with_reducible apply ev_dCall | with_reducible apply ev_dTup | with_reducible apply ev_dLst | with_reducible apply ev_dLoc | with_reducible apply ev_sl | with_reducible apply ev_oSo | with_reducible apply ev_ch2b | with_reducible apply ev_ch3b | with_reducible apply ev_tB | with_reducible apply ev_tTru | with_reducible apply ev_tNo | with_reducible apply ev_no | with_reducible apply ev_dML | with_reducible apply ev_gTu | with_reducible apply ev_gsC | with_reducible apply ev_gSb | with_reducible apply ev_gNm | (simp only [List.length_cons, List.length_nil]; exact len_le (by decide)) | exact decide_eq_true (by omega) | exact decide_eq_false (by omega) | exact ne_t (by omega) | exact ne_f (by omega) | with_reducible apply lt_ii | with_reducible apply le_ii | with_reducible apply gt_ii | with_reducible apply ge_ii | with_reducible apply eq_ii | with_reducible apply ne_ii | with_reducible apply eq_ss | with_reducible apply mul_ii | exact okMul_small (by omega) (by omega) | exact mod_ii (by omega) | exact fdiv_ii (by omega) (by omega) | exact mod_ni (by omega) | exact fdiv_ni (by omega) (by omega) | exact pow_ii (by omega) (by omega) (by omega) | with_reducible apply ix_tup | with_reducible apply ix_lst | (simp only [List.set_cons_succ, List.set_cons_zero]; rfl) | exact rfl))
      exact ev_sNil
    exact e
theorem rounds {pt : Fn} (ht : TakeOk pt) (sc : PV) : ∀ (ks : List Nat) (s : Dr) (m : Nat) (o2 o3 o4 o5 o6 o7 o8 o9 : Option PV), s.Ok (m + 15 * ks.length) →
    ∃ (o2' o3' o4' o5' o6' o7' o8' o9' : Option PV) (s' : Dr), s'.Ok m ∧ forL (gNm 2) (B1 pt) [] (ks.map fun (k : Nat) => PV.int (k : Int)) [some sc, some (.loc 0), o2, o3, o4, o5, o6, o7, o8, o9, none, none, none, none, none, none, none, none, none, none] [s.ob] =
      some (.nx [some sc, some (.loc 0), o2', o3', o4', o5', o6', o7', o8', o9', none, none, none, none, none, none, none, none, none, none] [s'.ob])
  | [], s, m, o2, o3, o4, o5, o6, o7, o8, o9, ok => ⟨o2, o3, o4, o5, o6, o7, o8, o9, s, ok, for_nil⟩
  | k :: ks, s, m, o2, o3, o4, o5, o6, o7, o8, o9, ok => by
    have hl : (k :: ks).length = ks.length + 1 := rfl
    obtain ⟨p3, p4, p5, p6, p7, p8, p9, s1, ok1, e1⟩ := round1 ht (turn := (k : Int)) (m := m + 15 * ks.length) (ok.le (by omega)) sc o3 o4 o5 o6 o7 o8 o9
    obtain ⟨q2, q3, q4, q5, q6, q7, q8, q9, s2, ok2, e2⟩ := rounds ht sc ks s1 m (some (.int (k : Int))) p3 p4 p5 p6 p7 p8 p9 ok1
    exact ⟨q2, q3, q4, q5, q6, q7, q8, q9, s2, ok2, for_step rfl e1 chk_nil e2⟩
theorem L1_ok {pt : Fn} (ht : TakeOk pt) (sc : PV) {s : Dr} {m : Nat} (ok : s.Ok (m + 60)) : ∃ (o2' o3' o4' o5' o6' o7' o8' o9' : Option PV) (s' : Dr), s'.Ok m ∧ L1 pt [some sc, some (.loc 0), none, none, none, none, none, none, none, none, none, none, none, none, none, none, none, none, none, none] [s.ob] =
      some (.nx [some sc, some (.loc 0), o2', o3', o4', o5', o6', o7', o8', o9', none, none, none, none, none, none, none, none, none, none] [s'.ob]) := by
  obtain ⟨q2, q3, q4, q5, q6, q7, q8, q9, s2, ok2, e2⟩ := rounds ht sc [0, 1, 2, 3] s m none none none none none none none none ok
  refine ⟨q2, q3, q4, q5, q6, q7, q8, q9, s2, ok2, ?_⟩
  unfold L1
  exact ev_for (it_rg1 (j := 4) (n := 4) rfl (by decide) rfl) e2
end K10

/-! K10h: the law's pairs. -/
namespace K10
open PySem PySem.Spec PyProof.Rows L2 Fd Nm
def good (p : Int × Int) : Prop := p.1.natAbs < 2 ^ 39 ∧ 0 < p.2 ∧ p.2 ≤ 60
theorem app1 {o : Ob} {xs : List PV} {y : PV} (h : xs.length < 1000) : f_app (.loc 1) [y] [o, .lst xs] = some (.non, [o, .lst (xs ++ [y])]) := by
  show (if xs.length < sizeLine then _ else _) = _
  rw [if_pos (small1000 (Nat.le_of_lt h))]
  rfl
theorem pairs_loop {pt : Fn} (ht : TakeOk pt) (sc : PV) {G K : Int} (hG : 0 ≤ G) (hG2 : G < 5000) (o3 o4 o5 o6 o8 o9 : Option PV) : ∀ (ks : List Nat) (ps : List (Int × Int)) (s : Dr) (m : Nat) (o2 o7 o13 : Option PV), s.Ok (m + 3 * ks.length) → (∀ p ∈ ps, good p) → ps.length + ks.length ≤ 5 →
    ∃ (ps' : List (Int × Int)) (s' : Dr) (o2' o7' o13' : Option PV), s'.Ok m ∧ (∀ p ∈ ps', good p) ∧ ps'.length ≤ 5 ∧ forL (gNm 2) (B4 pt) [] (ks.map fun (k : Nat) => PV.int (k : Int)) [some sc, some (.loc 0), o2, o3, o4, o5, o6, o7, o8, o9, some (.int G), some (.loc 1), some (.int K), o13, none, none, none, none, none, none] [s.ob, .lst (ps.map pr)] =
      some (.nx [some sc, some (.loc 0), o2', o3, o4, o5, o6, o7', o8, o9, some (.int G), some (.loc 1), some (.int K), o13', none, none, none, none, none, none] [s'.ob, .lst (ps'.map pr)])
  | [], ps, s, m, o2, o7, o13, ok, hg, hl => ⟨ps, s, o2, o7, o13, ok, hg, hl, for_nil⟩
  | k :: ks, ps, s, m, o2, o7, o13, ok, hg, hl => by
    have hl1 : (k :: ks).length = ks.length + 1 := rfl
    obtain ⟨t1, s1, a1, b1, c1, e1⟩ := take0 ht (r := [.lst (ps.map pr)]) 12 (ok.le (by omega) : s.Ok (m + 3 * ks.length + 2 + 1)) (by decide) (by decide)
    obtain ⟨t2, s2, a2, b2', c2, e2⟩ := take0 ht (r := [.lst (ps.map pr)]) 4 c1 (by decide) (by decide)
    obtain ⟨v, hv, ev⟩ := atI_some (xs := [PV.int (1 + t1), .int 8, .int 60, .int 1]) a2 b2'
    obtain ⟨n, rfl, n0, n1⟩ : ∃ n : Int, v = .int n ∧ 0 < n ∧ n ≤ 60 := by
      simp only [List.mem_cons, List.not_mem_nil, or_false] at hv
      rcases hv with rfl | rfl | rfl | rfl
      · exact ⟨_, rfl, by omega, by omega⟩
      · exact ⟨_, rfl, by decide, by decide⟩
      · exact ⟨_, rfl, by decide, by decide⟩
      · exact ⟨_, rfl, by decide, by decide⟩
    have S0 : L4_0 pt [some sc, some (.loc 0), some (.int (k : Int)), o3, o4, o5, o6, o7, o8, o9, some (.int G), some (.loc 1), some (.int K), o13, none, none, none, none, none, none] [s.ob, .lst (ps.map pr)] = some (.nx [some sc, some (.loc 0), some (.int (k : Int)), o3, o4, o5, o6, some (.int n), o8, o9, some (.int G), some (.loc 1), some (.int K), o13, none, none, none, none, none, none] [s2.ob, .lst (ps.map pr)]) := by
      unfold L4_0
      ((first | with_reducible apply ev_set | with_reducible apply ev_par | with_reducible apply ev_par3 | with_reducible apply ev_asg | with_reducible apply ev_ex | with_reducible apply ev_ret | with_reducible exact ev_sNil | (with_reducible apply ev_aug; exact rfl)) <;> (repeat' first | (with_reducible apply ev_var; exact rfl) | with_reducible exact ev_K | with_reducible exact e1 | with_reducible exact e2 | with_reducible exact ev | with_reducible exact ev_aNil | with_reducible exact ev_oNo | with_reducible exact ev_tAll | with_reducible exact ev_gsN | with_reducible apply ev_aCons | with_reducible apply ev_d2 | with_reducible apply ev_d1 | with_reducible apply ev_dN | with_reducible apply ev_dCall | with_reducible apply ev_dTup | with_reducible apply ev_dLst | with_reducible apply ev_dLoc | with_reducible apply ev_sl | with_reducible apply ev_oSo | with_reducible apply ev_ch2b | with_reducible apply ev_ch3b | with_reducible apply ev_tB | with_reducible apply ev_tTru | with_reducible apply ev_tNo | with_reducible apply ev_no | with_reducible apply ev_dML | with_reducible apply ev_gTu | with_reducible apply ev_gsC | with_reducible apply ev_gSb | with_reducible apply ev_gNm | (simp only [List.length_cons, List.length_nil]; exact len_le (by decide)) | exact decide_eq_true (by omega) | exact decide_eq_false (by omega) | exact ne_t (by omega) | exact ne_f (by omega) | with_reducible apply lt_ii | with_reducible apply le_ii | with_reducible apply gt_ii | with_reducible apply ge_ii | with_reducible apply eq_ii | with_reducible apply ne_ii | with_reducible apply eq_ss | exact e1 | exact e2 | exact ev | with_reducible apply mul_ii | exact okMul_small (by omega) (by omega) | exact mod_ii (by omega) | exact fdiv_ii (by omega) (by omega) | exact mod_ni (by omega) | exact fdiv_ni (by omega) (by omega) | exact pow_ii (by omega) (by omega) (by omega) | with_reducible apply ix_tup | with_reducible apply ix_lst | (simp only [List.set_cons_succ, List.set_cons_zero]; rfl) | exact rfl))
    obtain ⟨r, s3, hr, c3, S1⟩ : ∃ (r : Int) (s3 : Dr), r.natAbs < 2 ^ 39 ∧ s3.Ok (m + 3 * ks.length) ∧ L4_1 pt [some sc, some (.loc 0), some (.int (k : Int)), o3, o4, o5, o6, some (.int n), o8, o9, some (.int G), some (.loc 1), some (.int K), o13, none, none, none, none, none, none] [s2.ob, .lst (ps.map pr)] = some (.nx [some sc, some (.loc 0), some (.int (k : Int)), o3, o4, o5, o6, some (.int n), o8, o9, some (.int G), some (.loc 1), some (.int K), some (.int r), none, none, none, none, none, none] [s3.ob, .lst (ps.map pr)]) := by
      by_cases hK : 0 < K
      · obtain ⟨t3, s3, a3, b3, c3, e3⟩ := take0 ht (r := [.lst (ps.map pr)]) 5 c2 (by decide) (by decide)
        have hb : n * (t3 - 2) ≤ 60 * 3 ∧ -(60 * 3) ≤ n * (t3 - 2) := by
          rcases (show t3 = 0 ∨ t3 = 1 ∨ t3 = 2 ∨ t3 = 3 ∨ t3 = 4 by omega) with rfl | rfl | rfl | rfl | rfl <;> omega
        refine ⟨G + n * (t3 - 2), s3, by omega, c3, ?_⟩
        have m1 : f_mul (.int n) (.int (t3 - 2)) [s3.ob, .lst (ps.map pr)] = some (.int (n * (t3 - 2)), [s3.ob, .lst (ps.map pr)]) := mul_ii (okMul_small (by omega) (by omega))
        unfold L4_1
        apply ev_set (v := .int (G + n * (t3 - 2))) (μ1 := [s3.ob, .lst (ps.map pr)])
        case e => rfl
        apply ev_if_t (μ1 := [s2.ob, .lst (ps.map pr)])
        case hc => (repeat' first | (with_reducible apply ev_var; exact rfl) | with_reducible exact ev_K | with_reducible exact ev_aNil | with_reducible exact ev_oNo | with_reducible exact ev_tAll | with_reducible exact ev_gsN | with_reducible apply ev_aCons | with_reducible apply ev_d2 | with_reducible apply ev_d1 | with_reducible apply ev_dN | with_reducible apply ev_dCall | with_reducible apply ev_dTup | with_reducible apply ev_dLst | with_reducible apply ev_dLoc | with_reducible apply ev_sl | with_reducible apply ev_oSo | with_reducible apply ev_ch2b | with_reducible apply ev_ch3b | with_reducible apply ev_tB | with_reducible apply ev_tTru | with_reducible apply ev_tNo | with_reducible apply ev_no | with_reducible apply ev_dML | with_reducible apply ev_gTu | with_reducible apply ev_gsC | with_reducible apply ev_gSb | with_reducible apply ev_gNm | (simp only [List.length_cons, List.length_nil]; exact len_le (by decide)) | exact decide_eq_true (by omega) | exact decide_eq_false (by omega) | exact ne_t (by omega) | exact ne_f (by omega) | with_reducible apply lt_ii | with_reducible apply le_ii | with_reducible apply gt_ii | with_reducible apply ge_ii | with_reducible apply eq_ii | with_reducible apply ne_ii | with_reducible apply eq_ss | with_reducible apply mul_ii | exact okMul_small (by omega) (by omega) | exact mod_ii (by omega) | exact fdiv_ii (by omega) (by omega) | exact mod_ni (by omega) | exact fdiv_ni (by omega) (by omega) | exact pow_ii (by omega) (by omega) (by omega) | with_reducible apply ix_tup | with_reducible apply ix_lst | (simp only [List.set_cons_succ, List.set_cons_zero]; rfl) | exact rfl)
        (repeat' first | (with_reducible apply ev_var; exact rfl) | with_reducible exact ev_K | with_reducible exact e3 | with_reducible exact m1 | with_reducible exact ev_aNil | with_reducible exact ev_oNo | with_reducible exact ev_tAll | with_reducible exact ev_gsN | with_reducible apply ev_aCons | with_reducible apply ev_d2 | with_reducible apply ev_d1 | with_reducible apply ev_dN | with_reducible apply ev_dCall | with_reducible apply ev_dTup | with_reducible apply ev_dLst | with_reducible apply ev_dLoc | with_reducible apply ev_sl | with_reducible apply ev_oSo | with_reducible apply ev_ch2b | with_reducible apply ev_ch3b | with_reducible apply ev_tB | with_reducible apply ev_tTru | with_reducible apply ev_tNo | with_reducible apply ev_no | with_reducible apply ev_dML | with_reducible apply ev_gTu | with_reducible apply ev_gsC | with_reducible apply ev_gSb | with_reducible apply ev_gNm | (simp only [List.length_cons, List.length_nil]; exact len_le (by decide)) | exact decide_eq_true (by omega) | exact decide_eq_false (by omega) | exact ne_t (by omega) | exact ne_f (by omega) | with_reducible apply lt_ii | with_reducible apply le_ii | with_reducible apply gt_ii | with_reducible apply ge_ii | with_reducible apply eq_ii | with_reducible apply ne_ii | with_reducible apply eq_ss | exact e3 | exact m1 | with_reducible apply mul_ii | exact okMul_small (by omega) (by omega) | exact mod_ii (by omega) | exact fdiv_ii (by omega) (by omega) | exact mod_ni (by omega) | exact fdiv_ni (by omega) (by omega) | exact pow_ii (by omega) (by omega) (by omega) | with_reducible apply ix_tup | with_reducible apply ix_lst | (simp only [List.set_cons_succ, List.set_cons_zero]; rfl) | exact rfl)
      · obtain ⟨t3, s3, a3, b3, c3, e3⟩ := take0 ht (r := [.lst (ps.map pr)]) 30 c2 (by decide) (by decide)
        refine ⟨t3 - 10, s3, by omega, c3, ?_⟩
        unfold L4_1
        apply ev_set (v := .int (t3 - 10)) (μ1 := [s3.ob, .lst (ps.map pr)])
        case e => rfl
        apply ev_if_f (μ1 := [s2.ob, .lst (ps.map pr)])
        case hc => (repeat' first | (with_reducible apply ev_var; exact rfl) | with_reducible exact ev_K | with_reducible exact ev_aNil | with_reducible exact ev_oNo | with_reducible exact ev_tAll | with_reducible exact ev_gsN | with_reducible apply ev_aCons | with_reducible apply ev_d2 | with_reducible apply ev_d1 | with_reducible apply ev_dN | with_reducible apply ev_dCall | with_reducible apply ev_dTup | with_reducible apply ev_dLst | with_reducible apply ev_dLoc | with_reducible apply ev_sl | with_reducible apply ev_oSo | with_reducible apply ev_ch2b | with_reducible apply ev_ch3b | with_reducible apply ev_tB | with_reducible apply ev_tTru | with_reducible apply ev_tNo | with_reducible apply ev_no | with_reducible apply ev_dML | with_reducible apply ev_gTu | with_reducible apply ev_gsC | with_reducible apply ev_gSb | with_reducible apply ev_gNm | (simp only [List.length_cons, List.length_nil]; exact len_le (by decide)) | exact decide_eq_true (by omega) | exact decide_eq_false (by omega) | exact ne_t (by omega) | exact ne_f (by omega) | with_reducible apply lt_ii | with_reducible apply le_ii | with_reducible apply gt_ii | with_reducible apply ge_ii | with_reducible apply eq_ii | with_reducible apply ne_ii | with_reducible apply eq_ss | with_reducible apply mul_ii | exact okMul_small (by omega) (by omega) | exact mod_ii (by omega) | exact fdiv_ii (by omega) (by omega) | exact mod_ni (by omega) | exact fdiv_ni (by omega) (by omega) | exact pow_ii (by omega) (by omega) (by omega) | with_reducible apply ix_tup | with_reducible apply ix_lst | (simp only [List.set_cons_succ, List.set_cons_zero]; rfl) | exact rfl)
        (repeat' first | (with_reducible apply ev_var; exact rfl) | with_reducible exact ev_K | with_reducible exact e3 | with_reducible exact ev_aNil | with_reducible exact ev_oNo | with_reducible exact ev_tAll | with_reducible exact ev_gsN | with_reducible apply ev_aCons | with_reducible apply ev_d2 | with_reducible apply ev_d1 | with_reducible apply ev_dN | with_reducible apply ev_dCall | with_reducible apply ev_dTup | with_reducible apply ev_dLst | with_reducible apply ev_dLoc | with_reducible apply ev_sl | with_reducible apply ev_oSo | with_reducible apply ev_ch2b | with_reducible apply ev_ch3b | with_reducible apply ev_tB | with_reducible apply ev_tTru | with_reducible apply ev_tNo | with_reducible apply ev_no | with_reducible apply ev_dML | with_reducible apply ev_gTu | with_reducible apply ev_gsC | with_reducible apply ev_gSb | with_reducible apply ev_gNm | (simp only [List.length_cons, List.length_nil]; exact len_le (by decide)) | exact decide_eq_true (by omega) | exact decide_eq_false (by omega) | exact ne_t (by omega) | exact ne_f (by omega) | with_reducible apply lt_ii | with_reducible apply le_ii | with_reducible apply gt_ii | with_reducible apply ge_ii | with_reducible apply eq_ii | with_reducible apply ne_ii | with_reducible apply eq_ss | exact e3 | with_reducible apply mul_ii | exact okMul_small (by omega) (by omega) | exact mod_ii (by omega) | exact fdiv_ii (by omega) (by omega) | exact mod_ni (by omega) | exact fdiv_ni (by omega) (by omega) | exact pow_ii (by omega) (by omega) (by omega) | with_reducible apply ix_tup | with_reducible apply ix_lst | (simp only [List.set_cons_succ, List.set_cons_zero]; rfl) | exact rfl)
    have S2 : L4_2 pt [some sc, some (.loc 0), some (.int (k : Int)), o3, o4, o5, o6, some (.int n), o8, o9, some (.int G), some (.loc 1), some (.int K), some (.int r), none, none, none, none, none, none] [s3.ob, .lst (ps.map pr)] = some (.nx [some sc, some (.loc 0), some (.int (k : Int)), o3, o4, o5, o6, some (.int n), o8, o9, some (.int G), some (.loc 1), some (.int K), some (.int r), none, none, none, none, none, none] [s3.ob, .lst ((ps ++ [(r, n)]).map pr)]) := by
      have a : f_app (.loc 1) [.tup [.int r, .int n]] [s3.ob, .lst (ps.map pr)] = some (.non, [s3.ob, .lst ((ps ++ [(r, n)]).map pr)]) := by
        rw [app1 (by rw [List.length_map]; omega), List.map_append]
        rfl
      unfold L4_2
      ((first | with_reducible apply ev_set | with_reducible apply ev_par | with_reducible apply ev_par3 | with_reducible apply ev_asg | with_reducible apply ev_ex | with_reducible apply ev_ret | with_reducible exact ev_sNil | (with_reducible apply ev_aug; exact rfl)) <;> (repeat' first | (with_reducible apply ev_var; exact rfl) | with_reducible exact ev_K | with_reducible exact a | with_reducible exact ev_aNil | with_reducible exact ev_oNo | with_reducible exact ev_tAll | with_reducible exact ev_gsN | with_reducible apply ev_aCons | with_reducible apply ev_d2 | with_reducible apply ev_d1 | with_reducible apply ev_dN | with_reducible apply ev_dCall | with_reducible apply ev_dTup | with_reducible apply ev_dLst | with_reducible apply ev_dLoc | with_reducible apply ev_sl | with_reducible apply ev_oSo | with_reducible apply ev_ch2b | with_reducible apply ev_ch3b | with_reducible apply ev_tB | with_reducible apply ev_tTru | with_reducible apply ev_tNo | with_reducible apply ev_no | with_reducible apply ev_dML | with_reducible apply ev_gTu | with_reducible apply ev_gsC | with_reducible apply ev_gSb | with_reducible apply ev_gNm | (simp only [List.length_cons, List.length_nil]; exact len_le (by decide)) | exact decide_eq_true (by omega) | exact decide_eq_false (by omega) | exact ne_t (by omega) | exact ne_f (by omega) | with_reducible apply lt_ii | with_reducible apply le_ii | with_reducible apply gt_ii | with_reducible apply ge_ii | with_reducible apply eq_ii | with_reducible apply ne_ii | with_reducible apply eq_ss | exact a | with_reducible apply mul_ii | exact okMul_small (by omega) (by omega) | exact mod_ii (by omega) | exact fdiv_ii (by omega) (by omega) | exact mod_ni (by omega) | exact fdiv_ni (by omega) (by omega) | exact pow_ii (by omega) (by omega) (by omega) | with_reducible apply ix_tup | with_reducible apply ix_lst | (simp only [List.set_cons_succ, List.set_cons_zero]; rfl) | exact rfl))
    obtain ⟨ps', s', p2, p7, p13, ok', hg', hl', e⟩ := pairs_loop ht sc hG hG2 o3 o4 o5 o6 o8 o9 ks (ps ++ [(r, n)]) s3 m (some (.int (k : Int))) (some (.int n)) (some (.int r)) c3 (fun p hp => by
      rcases List.mem_append.mp hp with q | q
      · exact hg p q
      · rw [List.mem_singleton.mp q]; exact ⟨hr, n0, n1⟩) (by rw [List.length_append]; simp only [List.length_cons, List.length_nil]; omega)
    refine ⟨ps', s', p2, p7, p13, ok', hg', hl', ?_⟩
    refine for_step (ρ1 := [some sc, some (.loc 0), some (.int (k : Int)), o3, o4, o5, o6, o7, o8, o9, some (.int G), some (.loc 1), some (.int K), o13, none, none, none, none, none, none]) rfl ?_ chk_nil e
    unfold B4
    exact ev_seq S0 (ev_seq S1 S2)
theorem atI_last {α : Type} {xs : List α} {y : α} : L2.atI (xs ++ [y]) (-1) = some y := by
  unfold L2.atI ixN
  rw [if_neg (by omega), if_pos (by rw [List.length_append]; simp only [List.length_cons, List.length_nil]; omega)]
  show (xs ++ [y])[(-1 + ((xs ++ [y]).length : Int)).toNat]? = _
  have : (-1 + ((xs ++ [y]).length : Int)).toNat = xs.length := by
    rw [List.length_append]; simp only [List.length_cons, List.length_nil]; omega
  rw [this]
  exact List.getElem?_concat_length
theorem set_last {o : Ob} {xs : List PV} {y v : PV} : f_set (.loc 1) (.int (-1)) v [o, .lst (xs ++ [y])] = some [o, .lst (xs ++ [v])] := by
  refine set_loc (k := xs.length) rfl ?_ ?_
  · unfold ixN
    rw [if_neg (by omega), if_pos (by rw [List.length_append]; simp only [List.length_cons, List.length_nil]; omega)]
    congr 1
    rw [List.length_append]; simp only [List.length_cons, List.length_nil]; omega
  · rw [List.set_append_right _ _ (Nat.le_refl _), Nat.sub_self]
    rfl
theorem L5_ok (pt : Fn) (sc : PV) {G K : Int} (o2 o3 o4 o5 o6 o7 o8 o9 o13 : Option PV) (s : Dr) (ps : List (Int × Int)) (hg : ∀ p ∈ ps, good p) (hl : ps.length ≤ 5) : ∃ (ps' : List (Int × Int)) (o7' o13' : Option PV), PsOk ps' ∧ 
    L5 pt [some sc, some (.loc 0), o2, o3, o4, o5, o6, o7, o8, o9, some (.int G), some (.loc 1), some (.int K), o13, none, none, none, none, none, none] [s.ob, .lst (ps.map pr)] = some (.nx [some sc, some (.loc 0), o2, o3, o4, o5, o6, o7', o8, o9, some (.int G), some (.loc 1), some (.int K), o13', none, none, none, none, none, none] [s.ob, .lst (ps'.map pr)]) := by
  have base : PsOk ps := ⟨hl, fun p hp => by obtain ⟨a, b, c⟩ := hg p hp; exact ⟨by omega, b, c⟩⟩
  unfold L5
  by_cases hK : K = 1
  · rcases List.eq_nil_or_concat ps with rfl | ⟨ps0, p, hps⟩
    · refine ⟨[], o7, o13, base, ?_⟩
      apply ev_sIf_f
      case hc =>
        apply ev_tAn_t
        case h => (repeat' first | (with_reducible apply ev_var; exact rfl) | with_reducible exact ev_K | with_reducible exact ev_aNil | with_reducible exact ev_oNo | with_reducible exact ev_tAll | with_reducible exact ev_gsN | with_reducible apply ev_aCons | with_reducible apply ev_d2 | with_reducible apply ev_d1 | with_reducible apply ev_dN | with_reducible apply ev_dCall | with_reducible apply ev_dTup | with_reducible apply ev_dLst | with_reducible apply ev_dLoc | with_reducible apply ev_sl | with_reducible apply ev_oSo | with_reducible apply ev_ch2b | with_reducible apply ev_ch3b | with_reducible apply ev_tB | with_reducible apply ev_tTru | with_reducible apply ev_tNo | with_reducible apply ev_no | with_reducible apply ev_dML | with_reducible apply ev_gTu | with_reducible apply ev_gsC | with_reducible apply ev_gSb | with_reducible apply ev_gNm | (simp only [List.length_cons, List.length_nil]; exact len_le (by decide)) | exact decide_eq_true (by omega) | exact decide_eq_false (by omega) | exact ne_t (by omega) | exact ne_f (by omega) | with_reducible apply lt_ii | with_reducible apply le_ii | with_reducible apply gt_ii | with_reducible apply ge_ii | with_reducible apply eq_ii | with_reducible apply ne_ii | with_reducible apply eq_ss | with_reducible apply mul_ii | exact okMul_small (by omega) (by omega) | exact mod_ii (by omega) | exact fdiv_ii (by omega) (by omega) | exact mod_ni (by omega) | exact fdiv_ni (by omega) (by omega) | exact pow_ii (by omega) (by omega) (by omega) | with_reducible apply ix_tup | with_reducible apply ix_lst | (simp only [List.set_cons_succ, List.set_cons_zero]; rfl) | exact rfl)
        exact ev_tTru (ev_var rfl) rfl
      exact ev_sNil
    · rw [List.concat_eq_append] at hps
      subst hps
      obtain ⟨r, n⟩ := p
      obtain ⟨h1, h2, h3⟩ := hg (r, n) (by simp)
      refine ⟨ps0 ++ [(r + 1, n)], some (.int n), some (.int r), ⟨?_, fun p hp => ?_⟩, ?_⟩
      · rw [List.length_append] at hl ⊢
        exact hl
      · rcases List.mem_append.mp hp with q | q
        · exact base.ok p (List.mem_append_left _ q)
        · rw [List.mem_singleton.mp q]
          exact ⟨by show (r + 1).natAbs < _; have : r.natAbs < 2 ^ 39 := h1; omega, h2, h3⟩
      · rw [List.map_append, List.map_append]
        have i1 : f_ix (.loc 1) (.int (-1)) [s.ob, .lst (ps0.map pr ++ [(r, n)].map pr)] = some (.tup [.int r, .int n], [s.ob, .lst (ps0.map pr ++ [(r, n)].map pr)]) := ix_loc rfl atI_last
        have i2 : f_set (.loc 1) (.int (-1)) (.tup [.int (r + 1), .int n]) [s.ob, .lst (ps0.map pr ++ [(r, n)].map pr)] = some [s.ob, .lst (ps0.map pr ++ [(r + 1, n)].map pr)] := set_last
        apply ev_sIf_t (μ1 := [s.ob, .lst (ps0.map pr ++ [(r, n)].map pr)])
        case hc =>
          apply ev_tAn_t
          case h => (repeat' first | (with_reducible apply ev_var; exact rfl) | with_reducible exact ev_K | with_reducible exact ev_aNil | with_reducible exact ev_oNo | with_reducible exact ev_tAll | with_reducible exact ev_gsN | with_reducible apply ev_aCons | with_reducible apply ev_d2 | with_reducible apply ev_d1 | with_reducible apply ev_dN | with_reducible apply ev_dCall | with_reducible apply ev_dTup | with_reducible apply ev_dLst | with_reducible apply ev_dLoc | with_reducible apply ev_sl | with_reducible apply ev_oSo | with_reducible apply ev_ch2b | with_reducible apply ev_ch3b | with_reducible apply ev_tB | with_reducible apply ev_tTru | with_reducible apply ev_tNo | with_reducible apply ev_no | with_reducible apply ev_dML | with_reducible apply ev_gTu | with_reducible apply ev_gsC | with_reducible apply ev_gSb | with_reducible apply ev_gNm | (simp only [List.length_cons, List.length_nil]; exact len_le (by decide)) | exact decide_eq_true (by omega) | exact decide_eq_false (by omega) | exact ne_t (by omega) | exact ne_f (by omega) | with_reducible apply lt_ii | with_reducible apply le_ii | with_reducible apply gt_ii | with_reducible apply ge_ii | with_reducible apply eq_ii | with_reducible apply ne_ii | with_reducible apply eq_ss | with_reducible apply mul_ii | exact okMul_small (by omega) (by omega) | exact mod_ii (by omega) | exact fdiv_ii (by omega) (by omega) | exact mod_ni (by omega) | exact fdiv_ni (by omega) (by omega) | exact pow_ii (by omega) (by omega) (by omega) | with_reducible apply ix_tup | with_reducible apply ix_lst | (simp only [List.set_cons_succ, List.set_cons_zero]; rfl) | exact rfl)
          refine ev_tTru (ev_var rfl) ?_
          show some (!(ps0.map pr ++ [(r, n)].map pr).isEmpty) = some true
          cases ps0 <;> rfl
        (apply ev_seq; case' ha => ((first | with_reducible apply ev_set | with_reducible apply ev_par | with_reducible apply ev_par3 | with_reducible apply ev_asg | with_reducible apply ev_ex | with_reducible apply ev_ret | with_reducible exact ev_sNil | (with_reducible apply ev_aug; exact rfl)) <;> (repeat' first | (with_reducible apply ev_var; exact rfl) | with_reducible exact ev_K | with_reducible exact i1 | with_reducible exact ev_aNil | with_reducible exact ev_oNo | with_reducible exact ev_tAll | with_reducible exact ev_gsN | with_reducible apply ev_aCons | with_reducible apply ev_d2 | with_reducible apply ev_d1 | with_reducible apply ev_dN | with_reducible apply ev_dCall | with_reducible apply ev_dTup | with_reducible apply ev_dLst | with_reducible apply ev_dLoc | with_reducible apply ev_sl | with_reducible apply ev_oSo | with_reducible apply ev_ch2b | with_reducible apply ev_ch3b | with_reducible apply ev_tB | with_reducible apply ev_tTru | with_reducible apply ev_tNo | with_reducible apply ev_no | with_reducible apply ev_dML | with_reducible apply ev_gTu | with_reducible apply ev_gsC | with_reducible apply ev_gSb | with_reducible apply ev_gNm | (simp only [List.length_cons, List.length_nil]; exact len_le (by decide)) | exact decide_eq_true (by omega) | exact decide_eq_false (by omega) | exact ne_t (by omega) | exact ne_f (by omega) | with_reducible apply lt_ii | with_reducible apply le_ii | with_reducible apply gt_ii | with_reducible apply ge_ii | with_reducible apply eq_ii | with_reducible apply ne_ii | with_reducible apply eq_ss | exact i1 | with_reducible apply mul_ii | exact okMul_small (by omega) (by omega) | exact mod_ii (by omega) | exact fdiv_ii (by omega) (by omega) | exact mod_ni (by omega) | exact fdiv_ni (by omega) (by omega) | exact pow_ii (by omega) (by omega) (by omega) | with_reducible apply ix_tup | with_reducible apply ix_lst | (simp only [List.set_cons_succ, List.set_cons_zero]; rfl) | exact rfl)))
        ((first | with_reducible apply ev_set | with_reducible apply ev_par | with_reducible apply ev_par3 | with_reducible apply ev_asg | with_reducible apply ev_ex | with_reducible apply ev_ret | with_reducible exact ev_sNil | (with_reducible apply ev_aug; exact rfl)) <;> (repeat' first | (with_reducible apply ev_var; exact rfl) | with_reducible exact ev_K | with_reducible exact i2 | with_reducible exact ev_aNil | with_reducible exact ev_oNo | with_reducible exact ev_tAll | with_reducible exact ev_gsN | with_reducible apply ev_aCons | with_reducible apply ev_d2 | with_reducible apply ev_d1 | with_reducible apply ev_dN | with_reducible apply ev_dCall | with_reducible apply ev_dTup | with_reducible apply ev_dLst | with_reducible apply ev_dLoc | with_reducible apply ev_sl | with_reducible apply ev_oSo | with_reducible apply ev_ch2b | with_reducible apply ev_ch3b | with_reducible apply ev_tB | with_reducible apply ev_tTru | with_reducible apply ev_tNo | with_reducible apply ev_no | with_reducible apply ev_dML | with_reducible apply ev_gTu | with_reducible apply ev_gsC | with_reducible apply ev_gSb | with_reducible apply ev_gNm | (simp only [List.length_cons, List.length_nil]; exact len_le (by decide)) | exact decide_eq_true (by omega) | exact decide_eq_false (by omega) | exact ne_t (by omega) | exact ne_f (by omega) | with_reducible apply lt_ii | with_reducible apply le_ii | with_reducible apply gt_ii | with_reducible apply ge_ii | with_reducible apply eq_ii | with_reducible apply ne_ii | with_reducible apply eq_ss | exact i2 | with_reducible apply mul_ii | exact okMul_small (by omega) (by omega) | exact mod_ii (by omega) | exact fdiv_ii (by omega) (by omega) | exact mod_ni (by omega) | exact fdiv_ni (by omega) (by omega) | exact pow_ii (by omega) (by omega) (by omega) | with_reducible apply ix_tup | with_reducible apply ix_lst | (simp only [List.set_cons_succ, List.set_cons_zero]; rfl) | exact rfl))
  · refine ⟨ps, o7, o13, base, ?_⟩
    apply ev_sIf_f
    case hc =>
      apply ev_tAn_f
      (repeat' first | (with_reducible apply ev_var; exact rfl) | with_reducible exact ev_K | with_reducible exact ev_aNil | with_reducible exact ev_oNo | with_reducible exact ev_tAll | with_reducible exact ev_gsN | with_reducible apply ev_aCons | with_reducible apply ev_d2 | with_reducible apply ev_d1 | with_reducible apply ev_dN | with_reducible apply ev_dCall | with_reducible apply ev_dTup | with_reducible apply ev_dLst | with_reducible apply ev_dLoc | with_reducible apply ev_sl | with_reducible apply ev_oSo | with_reducible apply ev_ch2b | with_reducible apply ev_ch3b | with_reducible apply ev_tB | with_reducible apply ev_tTru | with_reducible apply ev_tNo | with_reducible apply ev_no | with_reducible apply ev_dML | with_reducible apply ev_gTu | with_reducible apply ev_gsC | with_reducible apply ev_gSb | with_reducible apply ev_gNm | (simp only [List.length_cons, List.length_nil]; exact len_le (by decide)) | exact decide_eq_true (by omega) | exact decide_eq_false (by omega) | exact ne_t (by omega) | exact ne_f (by omega) | with_reducible apply lt_ii | with_reducible apply le_ii | with_reducible apply gt_ii | with_reducible apply ge_ii | with_reducible apply eq_ii | with_reducible apply ne_ii | with_reducible apply eq_ss | with_reducible apply mul_ii | exact okMul_small (by omega) (by omega) | exact mod_ii (by omega) | exact fdiv_ii (by omega) (by omega) | exact mod_ni (by omega) | exact fdiv_ni (by omega) (by omega) | exact pow_ii (by omega) (by omega) (by omega) | with_reducible apply ix_tup | with_reducible apply ix_lst | (simp only [List.set_cons_succ, List.set_cons_zero]; rfl) | exact rfl)
    exact ev_sNil
theorem L9_ok (pt : Fn) (sc : PV) {ps : List (Int × Int)} (ok : PsOk ps) (μ : Sto) (V : PV) (hV : p_jr [prs ps] μ = some (V, μ)) (o2 o3 o4 o5 o6 o7 o8 o10 o12 o13 o15 : Option PV) : ∃ o15' : Option PV,
    L9 pt [some sc, some (.loc 0), o2, o3, o4, o5, o6, o7, o8, some (foldV (foldJ ps (0, 1))), o10, some (prs ps), o12, o13, some V, o15, none, none, none, none] μ = some (.nx [some sc, some (.loc 0), o2, o3, o4, o5, o6, o7, o8, some (foldV (foldJ ps (0, 1))), o10, some (prs ps), o12, o13, some V, o15', none, none, none, none] μ) := by
  have jr := jr_ok ok μ
  have a := ap_ok ok μ
  unfold L9
  cases hf : foldJ ps (0, 1) with
  | none =>
    cases hAL : AL ps with
    | nil =>
      obtain ⟨st, h⟩ := (AL_nil ok).mp hAL
      rw [hf] at h
      cases h
    | cons q t =>
      obtain ⟨i, j⟩ := q
      have hV2 := jr.1 i j t hAL
      rw [hV] at hV2
      cases hV2
      rw [hAL] at a
      refine ⟨some (.lst (((i, j) :: t).map apT)), ?_⟩
      apply ev_sIf_t (μ1 := μ)
      case hc => exact ev_tB (ev_d2 (ev_var rfl) ev_K rfl)
      apply ev_seq
      case ha => exact ev_set (ev_dCall (ev_aCons (ev_var rfl) ev_aNil) a rfl) rfl
      have i0 : f_ix (.lst (((i, j) :: t).map apT)) (.int 0) μ = some (.tup [.int (i : Int), .int (j : Int)], μ) := ix_lst (L2.atI_nat (j := 0) rfl)
      have al : p_al [.tup [.str (Str.ofString "apart"), .int (j : Int), .int (i : Int)], .tup [.str (Str.ofString "apart"), .int (j : Int), .int (i : Int)]] μ = some (.bl true, μ) := al_ok rfl
      apply ev_sIf_f
      case hc => exact ev_tNo (ev_tTru (ev_dCall (ev_aCons (ev_var rfl) (ev_aCons (ev_dTup (ev_aCons ev_K (ev_aCons (ev_d2 (ev_d2 (ev_var rfl) ev_K i0) ev_K rfl) (ev_aCons (ev_d2 (ev_d2 (ev_var rfl) ev_K i0) ev_K rfl) ev_aNil))) (len_le (by show 3 ≤ 1000; decide))) ev_aNil)) al rfl) rfl) rfl
      exact ev_sNil
  | some st =>
    obtain ⟨R, N⟩ := st
    have hAL := (AL_nil ok).mpr ⟨_, hf⟩
    have hV2 := jr.2 hAL R N hf
    rw [hV] at hV2
    cases hV2
    refine ⟨o15, ?_⟩
    apply ev_sIf_f (μ1 := μ)
    case hc => exact ev_tB (ev_d2 (ev_var rfl) ev_K rfl)
    have al : p_al [.tup [.str (Str.ofString "joined"), .int R, .int N], .tup [.str (Str.ofString "joined"), .int R, .int N]] μ = some (.bl true, μ) := al_ok rfl
    apply ev_sIf_f
    case hc =>
      have i0 : f_ix (.tup [.int R, .int N]) (.int 0) μ = some (.int R, μ) := rfl
      have i1 : f_ix (.tup [.int R, .int N]) (.int 1) μ = some (.int N, μ) := rfl
      exact ev_tNo (ev_tTru (ev_dCall (ev_aCons (ev_var rfl) (ev_aCons (ev_dTup (ev_aCons ev_K (ev_aCons (ev_d2 (ev_var rfl) ev_K i0) (ev_aCons (ev_d2 (ev_var rfl) ev_K i1) ev_aNil))) (len_le (by show 3 ≤ 1000; decide))) ev_aNil)) al rfl) rfl) rfl
    exact ev_sNil

theorem ne_bb {b : Bool} {μ : Sto} : f_ne (.bl b) (.bl b) μ = some (.bl false, μ) := by cases b <;> rfl
theorem turn7 {pt : Fn} (ht : TakeOk pt) (sc : PV) {ps : List (Int × Int)} (ok : PsOk ps) (V : PV) (hV : tre 3 V 8 = true) (r : Sto) {turn : Int} (s : Dr) (m : Nat) (hs : s.Ok (m + 40)) (o3 o4 o5 o6 o7 o8 o9 o10 o12 o13 o15 o16 : Option PV) : ∃ (o6' o16' : Option PV) (s' : Dr), s'.Ok m ∧
    B10 pt [some sc, some (.loc 0), some (.int turn), o3, o4, o5, o6, o7, o8, o9, o10, some (prs ps), o12, o13, some V, o15, o16, none, none, none] (s.ob :: r) = some (.nx [some sc, some (.loc 0), some (.int turn), o3, o4, o5, o6', o7, o8, o9, o10, some (prs ps), o12, o13, some V, o15, o16', none, none, none] (s'.ob :: r)) := by
  obtain ⟨y, s1, hy, c1, e1⟩ := bent_ok ht 8 3 (m + 2) V s (s.ob :: r) 0 turn hV (by decide) (hs.le (by omega)) rfl
  have e1 : p_bt pt [.loc 0, V, .int turn] (s.ob :: r) = some (y, s1.ob :: r) := e1
  have rest : ∀ (z : PV) (s2 : Dr), s2.Ok m → tre 900 z 8 = true → L10_1 pt [some sc, some (.loc 0), some (.int turn), o3, o4, o5, o6, o7, o8, o9, o10, some (prs ps), o12, o13, some V, o15, some y, none, none, none] (s1.ob :: r) = some (.nx [some sc, some (.loc 0), some (.int turn), o3, o4, o5, o6, o7, o8, o9, o10, some (prs ps), o12, o13, some V, o15, some z, none, none, none] (s2.ob :: r)) →
      ∃ (o6' o16' : Option PV) (s' : Dr), s'.Ok m ∧
    B10 pt [some sc, some (.loc 0), some (.int turn), o3, o4, o5, o6, o7, o8, o9, o10, some (prs ps), o12, o13, some V, o15, o16, none, none, none] (s.ob :: r) = some (.nx [some sc, some (.loc 0), some (.int turn), o3, o4, o5, o6', o7, o8, o9, o10, some (prs ps), o12, o13, some V, o15, o16', none, none, none] (s'.ob :: r)) := fun z s2 c2 hz h1 => by
    obtain ⟨b, j1, j2⟩ := judges ok (s2.ob :: r) z 8 (by decide) hz
    refine ⟨some (.bl b), some z, s2, c2, ?_⟩
    unfold B10
    apply ev_seq (ρ' := [some sc, some (.loc 0), some (.int turn), o3, o4, o5, o6, o7, o8, o9, o10, some (prs ps), o12, o13, some V, o15, some y, none, none, none]) (μ' := s1.ob :: r)
    case ha =>
      unfold L10_0
      ((first | with_reducible apply ev_set | with_reducible apply ev_par | with_reducible apply ev_par3 | with_reducible apply ev_asg | with_reducible apply ev_ex | with_reducible apply ev_ret | with_reducible exact ev_sNil | (with_reducible apply ev_aug; exact rfl)) <;> (repeat' first | (with_reducible apply ev_var; exact rfl) | with_reducible exact ev_K | with_reducible exact e1 | with_reducible exact ev_aNil | with_reducible exact ev_oNo | with_reducible exact ev_tAll | with_reducible exact ev_gsN | with_reducible apply ev_aCons | with_reducible apply ev_d2 | with_reducible apply ev_d1 | with_reducible apply ev_dN | with_reducible apply ev_dCall | with_reducible apply ev_dTup | with_reducible apply ev_dLst | with_reducible apply ev_dLoc | with_reducible apply ev_sl | with_reducible apply ev_oSo | with_reducible apply ev_ch2b | with_reducible apply ev_ch3b | with_reducible apply ev_tB | with_reducible apply ev_tTru | with_reducible apply ev_tNo | with_reducible apply ev_no | with_reducible apply ev_dML | with_reducible apply ev_gTu | with_reducible apply ev_gsC | with_reducible apply ev_gSb | with_reducible apply ev_gNm | (simp only [List.length_cons, List.length_nil]; exact len_le (by decide)) | exact decide_eq_true (by omega) | exact decide_eq_false (by omega) | exact ne_t (by omega) | exact ne_f (by omega) | with_reducible apply lt_ii | with_reducible apply le_ii | with_reducible apply gt_ii | with_reducible apply ge_ii | with_reducible apply eq_ii | with_reducible apply ne_ii | with_reducible apply eq_ss | exact e1 | with_reducible apply mul_ii | exact okMul_small (by omega) (by omega) | exact mod_ii (by omega) | exact fdiv_ii (by omega) (by omega) | exact mod_ni (by omega) | exact fdiv_ni (by omega) (by omega) | exact pow_ii (by omega) (by omega) (by omega) | with_reducible apply ix_tup | with_reducible apply ix_lst | (simp only [List.set_cons_succ, List.set_cons_zero]; rfl) | exact rfl))
    apply ev_seq h1
    unfold L10_2
    (apply ev_seq; case' ha => ((first | with_reducible apply ev_set | with_reducible apply ev_par | with_reducible apply ev_par3 | with_reducible apply ev_asg | with_reducible apply ev_ex | with_reducible apply ev_ret | with_reducible exact ev_sNil | (with_reducible apply ev_aug; exact rfl)) <;> (repeat' first | (with_reducible apply ev_var; exact rfl) | with_reducible exact ev_K | with_reducible exact j1 | with_reducible exact ev_aNil | with_reducible exact ev_oNo | with_reducible exact ev_tAll | with_reducible exact ev_gsN | with_reducible apply ev_aCons | with_reducible apply ev_d2 | with_reducible apply ev_d1 | with_reducible apply ev_dN | with_reducible apply ev_dCall | with_reducible apply ev_dTup | with_reducible apply ev_dLst | with_reducible apply ev_dLoc | with_reducible apply ev_sl | with_reducible apply ev_oSo | with_reducible apply ev_ch2b | with_reducible apply ev_ch3b | with_reducible apply ev_tB | with_reducible apply ev_tTru | with_reducible apply ev_tNo | with_reducible apply ev_no | with_reducible apply ev_dML | with_reducible apply ev_gTu | with_reducible apply ev_gsC | with_reducible apply ev_gSb | with_reducible apply ev_gNm | (simp only [List.length_cons, List.length_nil]; exact len_le (by decide)) | exact decide_eq_true (by omega) | exact decide_eq_false (by omega) | exact ne_t (by omega) | exact ne_f (by omega) | with_reducible apply lt_ii | with_reducible apply le_ii | with_reducible apply gt_ii | with_reducible apply ge_ii | with_reducible apply eq_ii | with_reducible apply ne_ii | with_reducible apply eq_ss | exact j1 | with_reducible apply mul_ii | exact okMul_small (by omega) (by omega) | exact mod_ii (by omega) | exact fdiv_ii (by omega) (by omega) | exact mod_ni (by omega) | exact fdiv_ni (by omega) (by omega) | exact pow_ii (by omega) (by omega) (by omega) | with_reducible apply ix_tup | with_reducible apply ix_lst | (simp only [List.set_cons_succ, List.set_cons_zero]; rfl) | exact rfl)))
    unfold L10_3
    apply ev_sIf_f
    case hc =>
      apply ev_tOr_f
      case h => exact ev_tNo (b := true) (ev_tTru rfl rfl) rfl
      (repeat' first | (with_reducible apply ev_var; exact rfl) | with_reducible exact ev_K | with_reducible exact j2 | with_reducible exact ne_bb | with_reducible exact ev_aNil | with_reducible exact ev_oNo | with_reducible exact ev_tAll | with_reducible exact ev_gsN | with_reducible apply ev_aCons | with_reducible apply ev_d2 | with_reducible apply ev_d1 | with_reducible apply ev_dN | with_reducible apply ev_dCall | with_reducible apply ev_dTup | with_reducible apply ev_dLst | with_reducible apply ev_dLoc | with_reducible apply ev_sl | with_reducible apply ev_oSo | with_reducible apply ev_ch2b | with_reducible apply ev_ch3b | with_reducible apply ev_tB | with_reducible apply ev_tTru | with_reducible apply ev_tNo | with_reducible apply ev_no | with_reducible apply ev_dML | with_reducible apply ev_gTu | with_reducible apply ev_gsC | with_reducible apply ev_gSb | with_reducible apply ev_gNm | (simp only [List.length_cons, List.length_nil]; exact len_le (by decide)) | exact decide_eq_true (by omega) | exact decide_eq_false (by omega) | exact ne_t (by omega) | exact ne_f (by omega) | with_reducible apply lt_ii | with_reducible apply le_ii | with_reducible apply gt_ii | with_reducible apply ge_ii | with_reducible apply eq_ii | with_reducible apply ne_ii | with_reducible apply eq_ss | exact j2 | exact ne_bb | with_reducible apply mul_ii | exact okMul_small (by omega) (by omega) | exact mod_ii (by omega) | exact fdiv_ii (by omega) (by omega) | exact mod_ni (by omega) | exact fdiv_ni (by omega) (by omega) | exact pow_ii (by omega) (by omega) (by omega) | with_reducible apply ix_tup | with_reducible apply ix_lst | (simp only [List.set_cons_succ, List.set_cons_zero]; rfl) | exact rfl)
    exact ev_sNil
  by_cases h6 : turn = 6
  · obtain ⟨k1, s2, a2, b2, c2, e2⟩ := take0 ht (r := r) 4 c1 (by decide) (by decide)
    obtain ⟨k2, s3, a3, b3, c3, e3⟩ := take0 ht (r := r) 5 c2 (by decide) (by decide)
    refine rest (.tup [.str (Str.ofString "apart"), .int k1, .int k2]) s3 c3 ?_ ?_
    · have aok : PyData.strOk (Str.ofString "apart") = true := by decide +kernel
      show (decide (3 ≤ 900) && (PyData.strOk (Str.ofString "apart") && (true && (true && true)))) = true
      rw [aok]
      rfl
    · unfold L10_1
      (apply ev_sIf_t; case' hc => (repeat' first | (with_reducible apply ev_var; exact rfl) | with_reducible exact ev_K | with_reducible exact ev_aNil | with_reducible exact ev_oNo | with_reducible exact ev_tAll | with_reducible exact ev_gsN | with_reducible apply ev_aCons | with_reducible apply ev_d2 | with_reducible apply ev_d1 | with_reducible apply ev_dN | with_reducible apply ev_dCall | with_reducible apply ev_dTup | with_reducible apply ev_dLst | with_reducible apply ev_dLoc | with_reducible apply ev_sl | with_reducible apply ev_oSo | with_reducible apply ev_ch2b | with_reducible apply ev_ch3b | with_reducible apply ev_tB | with_reducible apply ev_tTru | with_reducible apply ev_tNo | with_reducible apply ev_no | with_reducible apply ev_dML | with_reducible apply ev_gTu | with_reducible apply ev_gsC | with_reducible apply ev_gSb | with_reducible apply ev_gNm | (simp only [List.length_cons, List.length_nil]; exact len_le (by decide)) | exact decide_eq_true (by omega) | exact decide_eq_false (by omega) | exact ne_t (by omega) | exact ne_f (by omega) | with_reducible apply lt_ii | with_reducible apply le_ii | with_reducible apply gt_ii | with_reducible apply ge_ii | with_reducible apply eq_ii | with_reducible apply ne_ii | with_reducible apply eq_ss | with_reducible apply mul_ii | exact okMul_small (by omega) (by omega) | exact mod_ii (by omega) | exact fdiv_ii (by omega) (by omega) | exact mod_ni (by omega) | exact fdiv_ni (by omega) (by omega) | exact pow_ii (by omega) (by omega) (by omega) | with_reducible apply ix_tup | with_reducible apply ix_lst | (simp only [List.set_cons_succ, List.set_cons_zero]; rfl) | exact rfl))
      ((first | with_reducible apply ev_set | with_reducible apply ev_par | with_reducible apply ev_par3 | with_reducible apply ev_asg | with_reducible apply ev_ex | with_reducible apply ev_ret | with_reducible exact ev_sNil | (with_reducible apply ev_aug; exact rfl)) <;> (repeat' first | (with_reducible apply ev_var; exact rfl) | with_reducible exact ev_K | with_reducible exact e2 | with_reducible exact e3 | with_reducible exact ev_aNil | with_reducible exact ev_oNo | with_reducible exact ev_tAll | with_reducible exact ev_gsN | with_reducible apply ev_aCons | with_reducible apply ev_d2 | with_reducible apply ev_d1 | with_reducible apply ev_dN | with_reducible apply ev_dCall | with_reducible apply ev_dTup | with_reducible apply ev_dLst | with_reducible apply ev_dLoc | with_reducible apply ev_sl | with_reducible apply ev_oSo | with_reducible apply ev_ch2b | with_reducible apply ev_ch3b | with_reducible apply ev_tB | with_reducible apply ev_tTru | with_reducible apply ev_tNo | with_reducible apply ev_no | with_reducible apply ev_dML | with_reducible apply ev_gTu | with_reducible apply ev_gsC | with_reducible apply ev_gSb | with_reducible apply ev_gNm | (simp only [List.length_cons, List.length_nil]; exact len_le (by decide)) | exact decide_eq_true (by omega) | exact decide_eq_false (by omega) | exact ne_t (by omega) | exact ne_f (by omega) | with_reducible apply lt_ii | with_reducible apply le_ii | with_reducible apply gt_ii | with_reducible apply ge_ii | with_reducible apply eq_ii | with_reducible apply ne_ii | with_reducible apply eq_ss | exact e2 | exact e3 | with_reducible apply mul_ii | exact okMul_small (by omega) (by omega) | exact mod_ii (by omega) | exact fdiv_ii (by omega) (by omega) | exact mod_ni (by omega) | exact fdiv_ni (by omega) (by omega) | exact pow_ii (by omega) (by omega) (by omega) | with_reducible apply ix_tup | with_reducible apply ix_lst | (simp only [List.set_cons_succ, List.set_cons_zero]; rfl) | exact rfl))
  · refine rest y s1 (c1.le (by omega)) (tre_mono (by decide) _ _ hy) ?_
    unfold L10_1
    (apply ev_sIf_f; case' hc => (repeat' first | (with_reducible apply ev_var; exact rfl) | with_reducible exact ev_K | with_reducible exact ev_aNil | with_reducible exact ev_oNo | with_reducible exact ev_tAll | with_reducible exact ev_gsN | with_reducible apply ev_aCons | with_reducible apply ev_d2 | with_reducible apply ev_d1 | with_reducible apply ev_dN | with_reducible apply ev_dCall | with_reducible apply ev_dTup | with_reducible apply ev_dLst | with_reducible apply ev_dLoc | with_reducible apply ev_sl | with_reducible apply ev_oSo | with_reducible apply ev_ch2b | with_reducible apply ev_ch3b | with_reducible apply ev_tB | with_reducible apply ev_tTru | with_reducible apply ev_tNo | with_reducible apply ev_no | with_reducible apply ev_dML | with_reducible apply ev_gTu | with_reducible apply ev_gsC | with_reducible apply ev_gSb | with_reducible apply ev_gNm | (simp only [List.length_cons, List.length_nil]; exact len_le (by decide)) | exact decide_eq_true (by omega) | exact decide_eq_false (by omega) | exact ne_t (by omega) | exact ne_f (by omega) | with_reducible apply lt_ii | with_reducible apply le_ii | with_reducible apply gt_ii | with_reducible apply ge_ii | with_reducible apply eq_ii | with_reducible apply ne_ii | with_reducible apply eq_ss | with_reducible apply mul_ii | exact okMul_small (by omega) (by omega) | exact mod_ii (by omega) | exact fdiv_ii (by omega) (by omega) | exact mod_ni (by omega) | exact fdiv_ni (by omega) (by omega) | exact pow_ii (by omega) (by omega) (by omega) | with_reducible apply ix_tup | with_reducible apply ix_lst | (simp only [List.set_cons_succ, List.set_cons_zero]; rfl) | exact rfl))
    exact ev_sNil
theorem turns7 {pt : Fn} (ht : TakeOk pt) (sc : PV) {ps : List (Int × Int)} (ok : PsOk ps) (V : PV) (hV : tre 3 V 8 = true) (r : Sto) : ∀ (ks : List Nat) (s : Dr) (m : Nat) (hs : s.Ok (m + 40 * ks.length)) (o2 o3 o4 o5 o6 o7 o8 o9 o10 o12 o13 o15 o16 : Option PV), ∃ (o2' o6' o16' : Option PV) (s' : Dr), s'.Ok m ∧
    forL (gNm 2) (B10 pt) [] (ks.map fun (k : Nat) => PV.int (k : Int)) [some sc, some (.loc 0), o2, o3, o4, o5, o6, o7, o8, o9, o10, some (prs ps), o12, o13, some V, o15, o16, none, none, none] (s.ob :: r) = some (.nx [some sc, some (.loc 0), o2', o3, o4, o5, o6', o7, o8, o9, o10, some (prs ps), o12, o13, some V, o15, o16', none, none, none] (s'.ob :: r))
  | [], s, m, hs, o2, o3, o4, o5, o6, o7, o8, o9, o10, o12, o13, o15, o16 => ⟨o2, o6, o16, s, hs, for_nil⟩
  | k :: ks, s, m, hs, o2, o3, o4, o5, o6, o7, o8, o9, o10, o12, o13, o15, o16 => by
    have hl1 : (k :: ks).length = ks.length + 1 := rfl
    obtain ⟨p6, p16, s1, c1, e1⟩ := turn7 ht sc ok V hV r (turn := (k : Int)) s (m + 40 * ks.length) (hs.le (by omega)) o3 o4 o5 o6 o7 o8 o9 o10 o12 o13 o15 o16
    obtain ⟨q2, q6, q16, s2, c2, e2⟩ := turns7 ht sc ok V hV r ks s1 m c1 (some (.int (k : Int))) o3 o4 o5 p6 o7 o8 o9 o10 o12 o13 o15 p16
    exact ⟨q2, q6, q16, s2, c2, for_step rfl e1 chk_nil e2⟩
theorem lc1 {n : Int} : lc 1 n = n := by
  unfold lc
  rw [Int.gcd_one_left]
  show 1 / 1 * n = n
  omega
theorem fold2 {p q : Int × Int} (hp : 0 < p.2) (hq : 0 < q.2) : (∀ u, Fits p.1 p.2 q.1 q.2 u → foldJ [p, q] (0, 1) = some (u, lc p.2 q.2)) ∧ ((¬ ∃ u, Fits p.1 p.2 q.1 q.2 u) → foldJ [p, q] (0, 1) = none) := by
  have f0 : Fits 0 1 p.1 p.2 (p.1 % p.2) := by
    refine ⟨Int.emod_nonneg _ (by omega), by rw [lc1]; exact Int.emod_lt_of_pos _ hp, Int.one_dvd _, ?_⟩
    have := Int.dvd_neg.mpr (Int.dvd_self_sub_emod (x := p.1) (m := p.2))
    rw [show -(p.1 - p.1 % p.2) = p.1 % p.2 - p.1 by omega] at this
    exact this
  have eqv : ∀ u, Fits (p.1 % p.2) p.2 q.1 q.2 u ↔ Fits p.1 p.2 q.1 q.2 u := fun u => by
    have h : p.2 ∣ p.1 - p.1 % p.2 := Int.dvd_self_sub_emod
    constructor
    · rintro ⟨a, b, c, d⟩
      refine ⟨a, b, ?_, d⟩
      have := Int.dvd_sub c h
      rw [show u - p.1 % p.2 - (p.1 - p.1 % p.2) = u - p.1 by omega] at this
      exact this
    · rintro ⟨a, b, c, d⟩
      refine ⟨a, b, ?_, d⟩
      have := Int.dvd_add c h
      rw [show u - p.1 + (p.1 - p.1 % p.2) = u - p.1 % p.2 by omega] at this
      exact this
  rw [foldJ_yes (by decide) f0, lc1]
  constructor
  · intro u hu
    rw [foldJ_yes hp ((eqv u).mpr hu)]
    rfl
  · intro h
    exact foldJ_no fun ⟨u, hu⟩ => h ⟨u, (eqv u).mp hu⟩
theorem L11_ok (pt : Fn) (sc : PV) {ps : List (Int × Int)} (ok : PsOk ps) (μ : Sto) (o2 o3 o4 o5 o6 o7 o8 o9 o10 o12 o13 o14 o15 o16 : Option PV) :
    sSeq (L11 pt) (L12 pt) [some sc, some (.loc 0), o2, o3, o4, o5, o6, o7, o8, o9, o10, some (prs ps), o12, o13, o14, o15, o16, none, none, none] μ = some (.rt (.bl true) μ) := by
  have lp : f_len [prs ps] μ = some (.int (ps.length : Int), μ) := by
    show some (PV.int ((ps.map pr).length : Int), _) = _
    rw [List.length_map]
  unfold L11 L12
  by_cases hl : 1 < ps.length
  · match ps, hl, ok, lp with
    | p :: q :: t, hl, ok, lp =>
      obtain ⟨p1, p2, p3⟩ := ok.ok p (by simp)
      obtain ⟨q1, q2, q3⟩ := ok.ok q (by simp)
      have ok2 : PsOk [p, q] := ⟨by show 2 ≤ 5; decide, fun z hz => ok.ok z (by simp only [List.mem_cons, List.not_mem_nil, or_false] at hz; rcases hz with rfl | rfl <;> simp)⟩
      have lj := lj_ok ok2 μ
      have sl : f_sl none (some 2) (prs (p :: q :: t)) μ = some (prs [p, q], μ) := by
        have : cutP ((p :: q :: t).map pr) none (some 2) = [p, q].map pr := by
          unfold cutP
          have e1 : HT.sIx ((p :: q :: t).map pr).length 0 none = 0 := rfl
          have e2 : HT.sIx ((p :: q :: t).map pr).length ((p :: q :: t).map pr).length (some 2) = 2 := by
            refine (HT.sIx_nat _ _ 2).trans ?_
            simp only [List.length_map, List.length_cons]
            omega
          rw [e1, e2]
          rfl
        show some (PV.tup (cutP ((p :: q :: t).map pr) none (some 2)), μ) = _
        rw [this]
        rfl
      have jt := jt_ok (r := p.1) (s := q.1) p2 (by omega) q2 (by omega) (by omega) (by omega) μ
      have F := fold2 (p := p) (q := q) p2 q2
      obtain ⟨W, hW, hj, hp⟩ : ∃ W, foldV (foldJ [p, q] (0, 1)) = W ∧ p_jt [.int p.1, .int p.2, .int q.1, .int q.2] μ = some (W, μ) ∧ plain W 7 = true := by
        by_cases hu : ∃ u, Fits p.1 p.2 q.1 q.2 u
        · obtain ⟨u, hu⟩ := hu
          exact ⟨_, rfl, by rw [F.1 u hu]; exact jt.1 u hu, by rw [F.1 u hu]; rfl⟩
        · exact ⟨_, rfl, by rw [F.2 hu]; exact jt.2 hu, by rw [F.2 hu]; rfl⟩
      rw [hW] at lj
      have al : p_al [W, W] μ = some (.bl true, μ) := al_ok hp
      apply ev_seq_rt
      apply ev_sIf_t (μ1 := μ)
      case hc => (repeat' first | (with_reducible apply ev_var; exact rfl) | with_reducible exact ev_K | with_reducible exact lp | with_reducible exact ev_aNil | with_reducible exact ev_oNo | with_reducible exact ev_tAll | with_reducible exact ev_gsN | with_reducible apply ev_aCons | with_reducible apply ev_d2 | with_reducible apply ev_d1 | with_reducible apply ev_dN | with_reducible apply ev_dCall | with_reducible apply ev_dTup | with_reducible apply ev_dLst | with_reducible apply ev_dLoc | with_reducible apply ev_sl | with_reducible apply ev_oSo | with_reducible apply ev_ch2b | with_reducible apply ev_ch3b | with_reducible apply ev_tB | with_reducible apply ev_tTru | with_reducible apply ev_tNo | with_reducible apply ev_no | with_reducible apply ev_dML | with_reducible apply ev_gTu | with_reducible apply ev_gsC | with_reducible apply ev_gSb | with_reducible apply ev_gNm | (simp only [List.length_cons, List.length_nil]; exact len_le (by decide)) | exact decide_eq_true (by omega) | exact decide_eq_false (by omega) | exact ne_t (by omega) | exact ne_f (by omega) | with_reducible apply lt_ii | with_reducible apply le_ii | with_reducible apply gt_ii | with_reducible apply ge_ii | with_reducible apply eq_ii | with_reducible apply ne_ii | with_reducible apply eq_ss | exact lp | with_reducible apply mul_ii | exact okMul_small (by omega) (by omega) | exact mod_ii (by omega) | exact fdiv_ii (by omega) (by omega) | exact mod_ni (by omega) | exact fdiv_ni (by omega) (by omega) | exact pow_ii (by omega) (by omega) (by omega) | with_reducible apply ix_tup | with_reducible apply ix_lst | (simp only [List.set_cons_succ, List.set_cons_zero]; rfl) | exact rfl)
      apply ev_seq (ρ' := [some sc, some (.loc 0), o2, o3, o4, o5, o6, some (.int p.2), o8, o9, o10, some (prs (p :: q :: t)), o12, some (.int p.1), o14, o15, o16, some (.int q.1), some (.int q.2), none]) (μ' := μ)
      case ha =>
        apply ev_asg (v := prs [p, q]) (μ1 := μ)
        case h => (repeat' first | (with_reducible apply ev_var; exact rfl) | with_reducible exact ev_K | with_reducible exact sl | with_reducible exact ev_aNil | with_reducible exact ev_oNo | with_reducible exact ev_tAll | with_reducible exact ev_gsN | with_reducible apply ev_aCons | with_reducible apply ev_d2 | with_reducible apply ev_d1 | with_reducible apply ev_dN | with_reducible apply ev_dCall | with_reducible apply ev_dTup | with_reducible apply ev_dLst | with_reducible apply ev_dLoc | with_reducible apply ev_sl | with_reducible apply ev_oSo | with_reducible apply ev_ch2b | with_reducible apply ev_ch3b | with_reducible apply ev_tB | with_reducible apply ev_tTru | with_reducible apply ev_tNo | with_reducible apply ev_no | with_reducible apply ev_dML | with_reducible apply ev_gTu | with_reducible apply ev_gsC | with_reducible apply ev_gSb | with_reducible apply ev_gNm | (simp only [List.length_cons, List.length_nil]; exact len_le (by decide)) | exact decide_eq_true (by omega) | exact decide_eq_false (by omega) | exact ne_t (by omega) | exact ne_f (by omega) | with_reducible apply lt_ii | with_reducible apply le_ii | with_reducible apply gt_ii | with_reducible apply ge_ii | with_reducible apply eq_ii | with_reducible apply ne_ii | with_reducible apply eq_ss | exact sl | with_reducible apply mul_ii | exact okMul_small (by omega) (by omega) | exact mod_ii (by omega) | exact fdiv_ii (by omega) (by omega) | exact mod_ni (by omega) | exact fdiv_ni (by omega) (by omega) | exact pow_ii (by omega) (by omega) (by omega) | with_reducible apply ix_tup | with_reducible apply ix_lst | (simp only [List.set_cons_succ, List.set_cons_zero]; rfl) | exact rfl)
        rfl
      ((first | with_reducible apply ev_set | with_reducible apply ev_par | with_reducible apply ev_par3 | with_reducible apply ev_asg | with_reducible apply ev_ex | with_reducible apply ev_ret | with_reducible exact ev_sNil | (with_reducible apply ev_aug; exact rfl)) <;> (repeat' first | (with_reducible apply ev_var; exact rfl) | with_reducible exact ev_K | with_reducible exact hj | with_reducible exact sl | with_reducible exact lj | with_reducible exact al | with_reducible exact ev_aNil | with_reducible exact ev_oNo | with_reducible exact ev_tAll | with_reducible exact ev_gsN | with_reducible apply ev_aCons | with_reducible apply ev_d2 | with_reducible apply ev_d1 | with_reducible apply ev_dN | with_reducible apply ev_dCall | with_reducible apply ev_dTup | with_reducible apply ev_dLst | with_reducible apply ev_dLoc | with_reducible apply ev_sl | with_reducible apply ev_oSo | with_reducible apply ev_ch2b | with_reducible apply ev_ch3b | with_reducible apply ev_tB | with_reducible apply ev_tTru | with_reducible apply ev_tNo | with_reducible apply ev_no | with_reducible apply ev_dML | with_reducible apply ev_gTu | with_reducible apply ev_gsC | with_reducible apply ev_gSb | with_reducible apply ev_gNm | (simp only [List.length_cons, List.length_nil]; exact len_le (by decide)) | exact decide_eq_true (by omega) | exact decide_eq_false (by omega) | exact ne_t (by omega) | exact ne_f (by omega) | with_reducible apply lt_ii | with_reducible apply le_ii | with_reducible apply gt_ii | with_reducible apply ge_ii | with_reducible apply eq_ii | with_reducible apply ne_ii | with_reducible apply eq_ss | exact hj | exact sl | exact lj | exact al | with_reducible apply mul_ii | exact okMul_small (by omega) (by omega) | exact mod_ii (by omega) | exact fdiv_ii (by omega) (by omega) | exact mod_ni (by omega) | exact fdiv_ni (by omega) (by omega) | exact pow_ii (by omega) (by omega) (by omega) | with_reducible apply ix_tup | with_reducible apply ix_lst | (simp only [List.set_cons_succ, List.set_cons_zero]; rfl) | exact rfl))
  · apply ev_seq
    case ha =>
      apply ev_sIf_f
      case hc => (repeat' first | (with_reducible apply ev_var; exact rfl) | with_reducible exact ev_K | with_reducible exact lp | with_reducible exact ev_aNil | with_reducible exact ev_oNo | with_reducible exact ev_tAll | with_reducible exact ev_gsN | with_reducible apply ev_aCons | with_reducible apply ev_d2 | with_reducible apply ev_d1 | with_reducible apply ev_dN | with_reducible apply ev_dCall | with_reducible apply ev_dTup | with_reducible apply ev_dLst | with_reducible apply ev_dLoc | with_reducible apply ev_sl | with_reducible apply ev_oSo | with_reducible apply ev_ch2b | with_reducible apply ev_ch3b | with_reducible apply ev_tB | with_reducible apply ev_tTru | with_reducible apply ev_tNo | with_reducible apply ev_no | with_reducible apply ev_dML | with_reducible apply ev_gTu | with_reducible apply ev_gsC | with_reducible apply ev_gSb | with_reducible apply ev_gNm | (simp only [List.length_cons, List.length_nil]; exact len_le (by decide)) | exact decide_eq_true (by omega) | exact decide_eq_false (by omega) | exact ne_t (by omega) | exact ne_f (by omega) | with_reducible apply lt_ii | with_reducible apply le_ii | with_reducible apply gt_ii | with_reducible apply ge_ii | with_reducible apply eq_ii | with_reducible apply ne_ii | with_reducible apply eq_ss | exact lp | with_reducible apply mul_ii | exact okMul_small (by omega) (by omega) | exact mod_ii (by omega) | exact fdiv_ii (by omega) (by omega) | exact mod_ni (by omega) | exact fdiv_ni (by omega) (by omega) | exact pow_ii (by omega) (by omega) (by omega) | with_reducible apply ix_tup | with_reducible apply ix_lst | (simp only [List.set_cons_succ, List.set_cons_zero]; rfl) | exact rfl)
      exact ev_sNil
    ((first | with_reducible apply ev_set | with_reducible apply ev_par | with_reducible apply ev_par3 | with_reducible apply ev_asg | with_reducible apply ev_ex | with_reducible apply ev_ret | with_reducible exact ev_sNil | (with_reducible apply ev_aug; exact rfl)) <;> (repeat' first | (with_reducible apply ev_var; exact rfl) | with_reducible exact ev_K | with_reducible exact ev_aNil | with_reducible exact ev_oNo | with_reducible exact ev_tAll | with_reducible exact ev_gsN | with_reducible apply ev_aCons | with_reducible apply ev_d2 | with_reducible apply ev_d1 | with_reducible apply ev_dN | with_reducible apply ev_dCall | with_reducible apply ev_dTup | with_reducible apply ev_dLst | with_reducible apply ev_dLoc | with_reducible apply ev_sl | with_reducible apply ev_oSo | with_reducible apply ev_ch2b | with_reducible apply ev_ch3b | with_reducible apply ev_tB | with_reducible apply ev_tTru | with_reducible apply ev_tNo | with_reducible apply ev_no | with_reducible apply ev_dML | with_reducible apply ev_gTu | with_reducible apply ev_gsC | with_reducible apply ev_gSb | with_reducible apply ev_gNm | (simp only [List.length_cons, List.length_nil]; exact len_le (by decide)) | exact decide_eq_true (by omega) | exact decide_eq_false (by omega) | exact ne_t (by omega) | exact ne_f (by omega) | with_reducible apply lt_ii | with_reducible apply le_ii | with_reducible apply gt_ii | with_reducible apply ge_ii | with_reducible apply eq_ii | with_reducible apply ne_ii | with_reducible apply eq_ss | with_reducible apply mul_ii | exact okMul_small (by omega) (by omega) | exact mod_ii (by omega) | exact fdiv_ii (by omega) (by omega) | exact mod_ni (by omega) | exact fdiv_ni (by omega) (by omega) | exact pow_ii (by omega) (by omega) (by omega) | with_reducible apply ix_tup | with_reducible apply ix_lst | (simp only [List.set_cons_succ, List.set_cons_zero]; rfl) | exact rfl))
theorem law_ok {pt : Fn} (ht : TakeOk pt) {ns : List Int} (hn : ns.length ≤ 63) : ∃ μ, LL pt [some (.scr ns), none, none, none, none, none, none, none, none, none, none, none, none, none, none, none, none, none, none, none] [] = some (.rt (.bl true) μ) := by
  obtain ⟨s, hs, e0⟩ := start_ok (ns := ns) (μ := []) hn
  have e0 : p_st [.scr ns] [] = some (.loc 0, [s.ob]) := e0
  obtain ⟨o2, o3, o4, o5, o6, o7, o8, o9, s1, c1, e1⟩ := L1_ok ht (.scr ns) (s := s) (m := 1000) (hs.le (by decide))
  obtain ⟨G, s2, g0, g1, c2, e2⟩ := take0 ht (r := []) 5000 c1 (by decide) (by decide)
  obtain ⟨K, s3, k0, k1, c3, e3⟩ := take0 ht (r := [.lst []]) 3 c2 (by decide) (by decide)
  obtain ⟨N, s4, n0, n1, c4, e4⟩ := take0 ht (r := [.lst []]) 6 c3 (by decide) (by decide)
  obtain ⟨ps, s5, q2, q7, q13, c5, hg, hl, e5⟩ := pairs_loop ht (.scr ns) (K := K) g0 g1 o3 o4 o5 o6 o8 o9 (List.range N.toNat) [] s4 900 o2 o7 none (c4.le (by rw [List.length_range]; omega)) (fun _ h => nomatch h) (by rw [List.length_range, List.length_nil]; omega)
  obtain ⟨ps', q7', q13', ok, e6⟩ := L5_ok pt (.scr ns) (G := G) (K := K) q2 o3 o4 o5 o6 q7 o8 o9 q13 s5 ps hg hl
  obtain ⟨V, hV, hV3⟩ : ∃ V, (∀ μ, p_jr [prs ps'] μ = some (V, μ)) ∧ tre 3 V 8 = true := by
    have aok : PyData.strOk (Str.ofString "apart") = true := by decide +kernel
    have jok : PyData.strOk (Str.ofString "joined") = true := by decide +kernel
    cases hAL : AL ps' with
    | nil =>
      obtain ⟨⟨R, M⟩, h⟩ := (AL_nil ok).mp hAL
      refine ⟨_, fun μ => (jr_ok ok μ).2 hAL R M h, ?_⟩
      show (decide (3 ≤ 3) && (PyData.strOk (Str.ofString "joined") && (true && (true && true)))) = true
      rw [jok]; rfl
    | cons p t =>
      obtain ⟨i, j⟩ := p
      refine ⟨_, fun μ => (jr_ok ok μ).1 i j t hAL, ?_⟩
      show (decide (3 ≤ 3) && (PyData.strOk (Str.ofString "apart") && (true && (true && true)))) = true
      rw [aok]; rfl
  let μ5 : Sto := [s5.ob, .lst (ps'.map pr)]
  obtain ⟨q15, e9⟩ := L9_ok pt (.scr ns) ok μ5 V (hV μ5) q2 o3 o4 o5 o6 q7' o8 (some (.int G)) (some (.int K)) q13' none
  obtain ⟨r2, r6, r16, s6, c6, e10⟩ := turns7 ht (.scr ns) ok V hV3 [.lst (ps'.map pr)] [0, 1, 2, 3, 4, 5, 6] s5 0 (c5.le (by decide)) q2 o3 o4 o5 o6 q7' o8 (some (foldV (foldJ ps' (0, 1)))) (some (.int G)) (some (.int K)) q13' q15 none
  have e11 := L11_ok pt (.scr ns) ok (s6.ob :: [.lst (ps'.map pr)]) r2 o3 o4 o5 r6 q7' o8 (some (foldV (foldJ ps' (0, 1)))) (some (.int G)) (some (.int K)) q13' (some V) q15 r16
  apply Exists.intro
  unfold LL
  apply ev_seq (ρ' := [some (.scr ns), some (.loc 0), none, none, none, none, none, none, none, none, none, none, none, none, none, none, none, none, none, none]) (μ' := [s.ob])
  case ha =>
    unfold L0
    ((first | with_reducible apply ev_set | with_reducible apply ev_par | with_reducible apply ev_par3 | with_reducible apply ev_asg | with_reducible apply ev_ex | with_reducible apply ev_ret | with_reducible exact ev_sNil | (with_reducible apply ev_aug; exact rfl)) <;> (repeat' first | (with_reducible apply ev_var; exact rfl) | with_reducible exact ev_K | with_reducible exact e0 | with_reducible exact ev_aNil | with_reducible exact ev_oNo | with_reducible exact ev_tAll | with_reducible exact ev_gsN | with_reducible apply ev_aCons | with_reducible apply ev_d2 | with_reducible apply ev_d1 | with_reducible apply ev_dN | with_reducible apply ev_dCall | with_reducible apply ev_dTup | with_reducible apply ev_dLst | with_reducible apply ev_dLoc | with_reducible apply ev_sl | with_reducible apply ev_oSo | with_reducible apply ev_ch2b | with_reducible apply ev_ch3b | with_reducible apply ev_tB | with_reducible apply ev_tTru | with_reducible apply ev_tNo | with_reducible apply ev_no | with_reducible apply ev_dML | with_reducible apply ev_gTu | with_reducible apply ev_gsC | with_reducible apply ev_gSb | with_reducible apply ev_gNm | (simp only [List.length_cons, List.length_nil]; exact len_le (by decide)) | exact decide_eq_true (by omega) | exact decide_eq_false (by omega) | exact ne_t (by omega) | exact ne_f (by omega) | with_reducible apply lt_ii | with_reducible apply le_ii | with_reducible apply gt_ii | with_reducible apply ge_ii | with_reducible apply eq_ii | with_reducible apply ne_ii | with_reducible apply eq_ss | exact e0 | with_reducible apply mul_ii | exact okMul_small (by omega) (by omega) | exact mod_ii (by omega) | exact fdiv_ii (by omega) (by omega) | exact mod_ni (by omega) | exact fdiv_ni (by omega) (by omega) | exact pow_ii (by omega) (by omega) (by omega) | with_reducible apply ix_tup | with_reducible apply ix_lst | (simp only [List.set_cons_succ, List.set_cons_zero]; rfl) | exact rfl))
  apply ev_seq e1
  apply ev_seq (ρ' := [some (.scr ns), some (.loc 0), o2, o3, o4, o5, o6, o7, o8, o9, some (.int G), some (.loc 1), none, none, none, none, none, none, none, none]) (μ' := [s2.ob, .lst []])
  case ha =>
    unfold L2
    ((first | with_reducible apply ev_set | with_reducible apply ev_par | with_reducible apply ev_par3 | with_reducible apply ev_asg | with_reducible apply ev_ex | with_reducible apply ev_ret | with_reducible exact ev_sNil | (with_reducible apply ev_aug; exact rfl)) <;> (repeat' first | (with_reducible apply ev_var; exact rfl) | with_reducible exact ev_K | with_reducible exact e2 | with_reducible exact ev_aNil | with_reducible exact ev_oNo | with_reducible exact ev_tAll | with_reducible exact ev_gsN | with_reducible apply ev_aCons | with_reducible apply ev_d2 | with_reducible apply ev_d1 | with_reducible apply ev_dN | with_reducible apply ev_dCall | with_reducible apply ev_dTup | with_reducible apply ev_dLst | with_reducible apply ev_dLoc | with_reducible apply ev_sl | with_reducible apply ev_oSo | with_reducible apply ev_ch2b | with_reducible apply ev_ch3b | with_reducible apply ev_tB | with_reducible apply ev_tTru | with_reducible apply ev_tNo | with_reducible apply ev_no | with_reducible apply ev_dML | with_reducible apply ev_gTu | with_reducible apply ev_gsC | with_reducible apply ev_gSb | with_reducible apply ev_gNm | (simp only [List.length_cons, List.length_nil]; exact len_le (by decide)) | exact decide_eq_true (by omega) | exact decide_eq_false (by omega) | exact ne_t (by omega) | exact ne_f (by omega) | with_reducible apply lt_ii | with_reducible apply le_ii | with_reducible apply gt_ii | with_reducible apply ge_ii | with_reducible apply eq_ii | with_reducible apply ne_ii | with_reducible apply eq_ss | exact e2 | with_reducible apply mul_ii | exact okMul_small (by omega) (by omega) | exact mod_ii (by omega) | exact fdiv_ii (by omega) (by omega) | exact mod_ni (by omega) | exact fdiv_ni (by omega) (by omega) | exact pow_ii (by omega) (by omega) (by omega) | with_reducible apply ix_tup | with_reducible apply ix_lst | (simp only [List.set_cons_succ, List.set_cons_zero]; rfl) | exact rfl))
  apply ev_seq (ρ' := [some (.scr ns), some (.loc 0), o2, o3, o4, o5, o6, o7, o8, o9, some (.int G), some (.loc 1), some (.int K), none, none, none, none, none, none, none]) (μ' := [s3.ob, .lst []])
  case ha =>
    unfold L3
    ((first | with_reducible apply ev_set | with_reducible apply ev_par | with_reducible apply ev_par3 | with_reducible apply ev_asg | with_reducible apply ev_ex | with_reducible apply ev_ret | with_reducible exact ev_sNil | (with_reducible apply ev_aug; exact rfl)) <;> (repeat' first | (with_reducible apply ev_var; exact rfl) | with_reducible exact ev_K | with_reducible exact e3 | with_reducible exact ev_aNil | with_reducible exact ev_oNo | with_reducible exact ev_tAll | with_reducible exact ev_gsN | with_reducible apply ev_aCons | with_reducible apply ev_d2 | with_reducible apply ev_d1 | with_reducible apply ev_dN | with_reducible apply ev_dCall | with_reducible apply ev_dTup | with_reducible apply ev_dLst | with_reducible apply ev_dLoc | with_reducible apply ev_sl | with_reducible apply ev_oSo | with_reducible apply ev_ch2b | with_reducible apply ev_ch3b | with_reducible apply ev_tB | with_reducible apply ev_tTru | with_reducible apply ev_tNo | with_reducible apply ev_no | with_reducible apply ev_dML | with_reducible apply ev_gTu | with_reducible apply ev_gsC | with_reducible apply ev_gSb | with_reducible apply ev_gNm | (simp only [List.length_cons, List.length_nil]; exact len_le (by decide)) | exact decide_eq_true (by omega) | exact decide_eq_false (by omega) | exact ne_t (by omega) | exact ne_f (by omega) | with_reducible apply lt_ii | with_reducible apply le_ii | with_reducible apply gt_ii | with_reducible apply ge_ii | with_reducible apply eq_ii | with_reducible apply ne_ii | with_reducible apply eq_ss | exact e3 | with_reducible apply mul_ii | exact okMul_small (by omega) (by omega) | exact mod_ii (by omega) | exact fdiv_ii (by omega) (by omega) | exact mod_ni (by omega) | exact fdiv_ni (by omega) (by omega) | exact pow_ii (by omega) (by omega) (by omega) | with_reducible apply ix_tup | with_reducible apply ix_lst | (simp only [List.set_cons_succ, List.set_cons_zero]; rfl) | exact rfl))
  apply ev_seq (ρ' := [some (.scr ns), some (.loc 0), q2, o3, o4, o5, o6, q7, o8, o9, some (.int G), some (.loc 1), some (.int K), q13, none, none, none, none, none, none]) (μ' := [s5.ob, .lst (ps.map pr)])
  case ha =>
    unfold L4
    refine ev_for (it_rg1 (j := N) (n := N.toNat) (μ1 := [s4.ob, .lst []]) ?_ (rgIn_of (by omega) (by omega)) rfl) ?_
    · (repeat' first | (with_reducible apply ev_var; exact rfl) | with_reducible exact ev_K | with_reducible exact e4 | with_reducible exact ev_aNil | with_reducible exact ev_oNo | with_reducible exact ev_tAll | with_reducible exact ev_gsN | with_reducible apply ev_aCons | with_reducible apply ev_d2 | with_reducible apply ev_d1 | with_reducible apply ev_dN | with_reducible apply ev_dCall | with_reducible apply ev_dTup | with_reducible apply ev_dLst | with_reducible apply ev_dLoc | with_reducible apply ev_sl | with_reducible apply ev_oSo | with_reducible apply ev_ch2b | with_reducible apply ev_ch3b | with_reducible apply ev_tB | with_reducible apply ev_tTru | with_reducible apply ev_tNo | with_reducible apply ev_no | with_reducible apply ev_dML | with_reducible apply ev_gTu | with_reducible apply ev_gsC | with_reducible apply ev_gSb | with_reducible apply ev_gNm | (simp only [List.length_cons, List.length_nil]; exact len_le (by decide)) | exact decide_eq_true (by omega) | exact decide_eq_false (by omega) | exact ne_t (by omega) | exact ne_f (by omega) | with_reducible apply lt_ii | with_reducible apply le_ii | with_reducible apply gt_ii | with_reducible apply ge_ii | with_reducible apply eq_ii | with_reducible apply ne_ii | with_reducible apply eq_ss | exact e4 | with_reducible apply mul_ii | exact okMul_small (by omega) (by omega) | exact mod_ii (by omega) | exact fdiv_ii (by omega) (by omega) | exact mod_ni (by omega) | exact fdiv_ni (by omega) (by omega) | exact pow_ii (by omega) (by omega) (by omega) | with_reducible apply ix_tup | with_reducible apply ix_lst | (simp only [List.set_cons_succ, List.set_cons_zero]; rfl) | exact rfl)
    · rw [rg0]
      exact e5
  apply ev_seq e6
  apply ev_seq (ρ' := [some (.scr ns), some (.loc 0), q2, o3, o4, o5, o6, q7', o8, o9, some (.int G), some (prs ps'), some (.int K), q13', none, none, none, none, none, none]) (μ' := μ5)
  case ha =>
    unfold L6
    exact ev_set (ev_dN (ev_aCons (ev_var rfl) ev_aNil) (show f_tuple [.loc 1] μ5 = some (prs ps', μ5) from rfl)) rfl
  apply ev_seq (ρ' := [some (.scr ns), some (.loc 0), q2, o3, o4, o5, o6, q7', o8, o9, some (.int G), some (prs ps'), some (.int K), q13', some V, none, none, none, none, none]) (μ' := μ5)
  case ha =>
    have h := hV μ5
    unfold L7
    exact ev_set (ev_dCall (ev_aCons (ev_var rfl) ev_aNil) h rfl) rfl
  apply ev_seq (ρ' := [some (.scr ns), some (.loc 0), q2, o3, o4, o5, o6, q7', o8, some (foldV (foldJ ps' (0, 1))), some (.int G), some (prs ps'), some (.int K), q13', some V, none, none, none, none, none]) (μ' := μ5)
  case ha =>
    have h := lj_ok ok μ5
    unfold L8
    exact ev_set (ev_dCall (ev_aCons (ev_var rfl) ev_aNil) h rfl) rfl
  apply ev_seq e9
  apply ev_seq
  case ha =>
    unfold L10
    exact ev_for (it_rg1 (j := 7) (n := 7) rfl (by decide) rfl) e10
  exact e11
end K10

/-! K10y: the head's run. -/
namespace K10
open PySem PySem.Spec PyProof.Rows L2
def D0 : He.DefD := ⟨("is_integer", none), "is_integer", "is_integer", defArgs s_is_integer, defBody s_is_integer, defScope s_is_integer, [], []⟩
def D1 : He.DefD := ⟨("common_divisor", none), "common_divisor", "common_divisor", defArgs s_common_divisor, defBody s_common_divisor, defScope s_common_divisor, [], []⟩
def D2 : He.DefD := ⟨("with_cofactors", none), "with_cofactors", "with_cofactors", defArgs s_with_cofactors, defBody s_with_cofactors, defScope s_with_cofactors, [], []⟩
def D3 : He.DefD := ⟨("inverse", none), "inverse", "inverse", defArgs s_inverse, defBody s_inverse, defScope s_inverse, [], []⟩
def D4 : He.DefD := ⟨("power", none), "power", "power", defArgs s_power, defBody s_power, defScope s_power, [], []⟩
def D5 : He.DefD := ⟨("joined_two", none), "joined_two", "joined_two", defArgs s_joined_two, defBody s_joined_two, defScope s_joined_two, [], []⟩
def D6 : He.DefD := ⟨("joined_rests", none), "joined_rests", "joined_rests", defArgs s_joined_rests, defBody s_joined_rests, defScope s_joined_rests, [], []⟩
def D7 : He.DefD := ⟨("judge_joined", none), "judge_joined", "judge_joined", defArgs s_judge_joined, defBody s_judge_joined, defScope s_judge_joined, [], []⟩
def D8 : He.DefD := ⟨("_law_start", none), "_law_start", "_law_start", defArgs s__law_start, defBody s__law_start, defScope s__law_start, [], []⟩
def D9 : He.DefD := ⟨("_law_fill", none), "_law_fill", "_law_fill", defArgs s__law_fill, defBody s__law_fill, defScope s__law_fill, [], []⟩
def D10 : He.DefD := ⟨("_law_take", none), "_law_take", "_law_take", defArgs s__law_take, defBody s__law_take, defScope s__law_take, [], []⟩
def D11 : He.DefD := ⟨("_law_is_int", none), "_law_is_int", "_law_is_int", defArgs s__law_is_int, defBody s__law_is_int, defScope s__law_is_int, [], []⟩
def D12 : He.DefD := ⟨("_law_alike", none), "_law_alike", "_law_alike", defArgs s__law_alike, defBody s__law_alike, defScope s__law_alike, [], []⟩
def D13 : He.DefD := ⟨("_law_spoilt", none), "_law_spoilt", "_law_spoilt", defArgs s__law_spoilt, defBody s__law_spoilt, defScope s__law_spoilt, [], []⟩
def D14 : He.DefD := ⟨("_law_bent", none), "_law_bent", "_law_bent", defArgs s__law_bent, defBody s__law_bent, defScope s__law_bent, [], []⟩
def D15 : He.DefD := ⟨("_law_gcd", none), "_law_gcd", "_law_gcd", defArgs s__law_gcd, defBody s__law_gcd, defScope s__law_gcd, [], []⟩
def D16 : He.DefD := ⟨("_law_power", none), "_law_power", "_law_power", defArgs s__law_power, defBody s__law_power, defScope s__law_power, [], []⟩
def D17 : He.DefD := ⟨("_law_integer", none), "_law_integer", "_law_integer", defArgs s__law_integer, defBody s__law_integer, defScope s__law_integer, [], []⟩
def D18 : He.DefD := ⟨("_law_joined", none), "_law_joined", "_law_joined", defArgs s__law_joined, defBody s__law_joined, defScope s__law_joined, [], []⟩
def D19 : He.DefD := ⟨("_law_apart", none), "_law_apart", "_law_apart", defArgs s__law_apart, defBody s__law_apart, defScope s__law_apart, [], []⟩
def D20 : He.DefD := ⟨("_law_is_paper", none), "_law_is_paper", "_law_is_paper", defArgs s__law_is_paper, defBody s__law_is_paper, defScope s__law_is_paper, [], []⟩
def D21 : He.DefD := ⟨("law", none), "law", "law", defArgs s_law, defBody s_law, defScope s_law, [], []⟩
def fn : List He.DefD := [D0, D1, D2, D3, D4, D5, D6, D7, D8, D9, D10, D11, D12, D13, D14, D15, D16, D17, D18, D19, D20, D21]
def fa : List He.Fa := [.glo "is_integer", .glo "common_divisor", .glo "with_cofactors", .glo "inverse", .glo "power", .glo "joined_two", .glo "joined_rests", .glo "judge_joined", .glo "_law_start", .glo "_law_fill", .glo "_law_take", .glo "_law_is_int", .glo "_law_alike", .glo "_law_spoilt", .glo "_law_bent", .glo "_law_gcd", .glo "_law_power", .glo "_law_integer", .glo "_law_joined", .glo "_law_apart", .glo "_law_is_paper", .glo "law", .free "abs", .free "all", .free "bool", .free "int", .free "isinstance", .free "len", .free "list", .free "range", .free "str", .free "tuple"]
def loose : List PySem.Str := (["is_integer", "common_divisor", "with_cofactors", "inverse", "power", "joined_two", "joined_rests", "judge_joined", "_law_start", "_law_fill", "_law_take", "_law_is_int", "_law_alike", "_law_spoilt", "_law_bent", "_law_gcd", "_law_power", "_law_primes", "_law_is_prime", "_law_integer", "_law_joined", "_law_apart", "_law_is_paper"] : List PySem.Str)
abbrev R : PySem.W.OpenRow := PySem.W.OpenLaw.row PySem.Challenge.rw_primeworth_k10_rests_that_are_joined
abbrev hk : PySem.W.Hook := He.hookD 4 fa fn
def ob (s : PySem.W.SharedT) : He.AlD := He.obsDG 4 fa fn (HandSHeadRun.getT s)
theorem ob_eq (s : PySem.W.SharedT) : ob s = hk.obs s.abs := He.obsDG_eq (HandSHeadRun.getT_eq s)
theorem run (w : World) : HandSHeadRun.RunEq R (PySem.W.view R.prog [25]) hk ob 3000 loose w := by
  intro os
  kernel_rfl
end K10

/-! K10z: the joining. -/
namespace K10
open PySem PySem.Spec PyProof.Rows L2 Fd
noncomputable def p_fill : Fn := runF 2 d__law_fill
noncomputable def p_take : Fn := runF 3 (d__law_take p_fill)
theorem p_take_ok : TakeOk p_take := takeOk fillOk1
noncomputable def p_law : Fn := runF 20 (LL p_take)
theorem p_law_ok (ns : List Int) (hn : ns.length ≤ 63) : ∃ μ', p_law [.scr ns] [] = some (.bl true, μ') := by
  obtain ⟨μ, e⟩ := law_ok p_take_ok hn
  exact ⟨μ, runF_rt rfl e⟩
theorem facts {P : Program} {w : World} {K : PySem.W.Frag} {h : Heap} {mg : Str → Option Value} {f : Addr} (X : K.In h) (G : h.Ns mainGlobals mg) (hfa : mg ("law" : Str) = some (.ref f)) (c : He.SaysD fa fn K) :
    ∃ fd : FuncData, (∀ (s : Shared) (v : Value), BindsTo s fd ⟨[v], []⟩ [("script", v)]) ∧ ∀ base : Heap, K.In base → base.Ns mainGlobals mg → FnOk P w K mg base CX0 40 f fd ["script"] (spLaw K) := by
  obtain ⟨fd_is_integer, F_is_integer⟩ := c.def_ 0 (d := D0) rfl
  have g_is_integer := He.glo_ok X G (c.fact 0 (f := .glo "is_integer") rfl)
  have F_is_integer := fun_of (x := "is_integer") (qual := "is_integer") (st := s_is_integer) F_is_integer
  obtain ⟨fd_common_divisor, F_common_divisor⟩ := c.def_ 1 (d := D1) rfl
  have g_common_divisor := He.glo_ok X G (c.fact 1 (f := .glo "common_divisor") rfl)
  have F_common_divisor := fun_of (x := "common_divisor") (qual := "common_divisor") (st := s_common_divisor) F_common_divisor
  obtain ⟨fd_with_cofactors, F_with_cofactors⟩ := c.def_ 2 (d := D2) rfl
  have g_with_cofactors := He.glo_ok X G (c.fact 2 (f := .glo "with_cofactors") rfl)
  have F_with_cofactors := fun_of (x := "with_cofactors") (qual := "with_cofactors") (st := s_with_cofactors) F_with_cofactors
  obtain ⟨fd_inverse, F_inverse⟩ := c.def_ 3 (d := D3) rfl
  have g_inverse := He.glo_ok X G (c.fact 3 (f := .glo "inverse") rfl)
  have F_inverse := fun_of (x := "inverse") (qual := "inverse") (st := s_inverse) F_inverse
  obtain ⟨fd_power, F_power⟩ := c.def_ 4 (d := D4) rfl
  have g_power := He.glo_ok X G (c.fact 4 (f := .glo "power") rfl)
  have F_power := fun_of (x := "power") (qual := "power") (st := s_power) F_power
  obtain ⟨fd_joined_two, F_joined_two⟩ := c.def_ 5 (d := D5) rfl
  have g_joined_two := He.glo_ok X G (c.fact 5 (f := .glo "joined_two") rfl)
  have F_joined_two := fun_of (x := "joined_two") (qual := "joined_two") (st := s_joined_two) F_joined_two
  obtain ⟨fd_joined_rests, F_joined_rests⟩ := c.def_ 6 (d := D6) rfl
  have g_joined_rests := He.glo_ok X G (c.fact 6 (f := .glo "joined_rests") rfl)
  have F_joined_rests := fun_of (x := "joined_rests") (qual := "joined_rests") (st := s_joined_rests) F_joined_rests
  obtain ⟨fd_judge_joined, F_judge_joined⟩ := c.def_ 7 (d := D7) rfl
  have g_judge_joined := He.glo_ok X G (c.fact 7 (f := .glo "judge_joined") rfl)
  have F_judge_joined := fun_of (x := "judge_joined") (qual := "judge_joined") (st := s_judge_joined) F_judge_joined
  obtain ⟨fd__law_start, F__law_start⟩ := c.def_ 8 (d := D8) rfl
  have g__law_start := He.glo_ok X G (c.fact 8 (f := .glo "_law_start") rfl)
  have F__law_start := fun_of (x := "_law_start") (qual := "_law_start") (st := s__law_start) F__law_start
  obtain ⟨fd__law_fill, F__law_fill⟩ := c.def_ 9 (d := D9) rfl
  have g__law_fill := He.glo_ok X G (c.fact 9 (f := .glo "_law_fill") rfl)
  have F__law_fill := fun_of (x := "_law_fill") (qual := "_law_fill") (st := s__law_fill) F__law_fill
  obtain ⟨fd__law_take, F__law_take⟩ := c.def_ 10 (d := D10) rfl
  have g__law_take := He.glo_ok X G (c.fact 10 (f := .glo "_law_take") rfl)
  have F__law_take := fun_of (x := "_law_take") (qual := "_law_take") (st := s__law_take) F__law_take
  obtain ⟨fd__law_is_int, F__law_is_int⟩ := c.def_ 11 (d := D11) rfl
  have g__law_is_int := He.glo_ok X G (c.fact 11 (f := .glo "_law_is_int") rfl)
  have F__law_is_int := fun_of (x := "_law_is_int") (qual := "_law_is_int") (st := s__law_is_int) F__law_is_int
  obtain ⟨fd__law_alike, F__law_alike⟩ := c.def_ 12 (d := D12) rfl
  have g__law_alike := He.glo_ok X G (c.fact 12 (f := .glo "_law_alike") rfl)
  have F__law_alike := fun_of (x := "_law_alike") (qual := "_law_alike") (st := s__law_alike) F__law_alike
  obtain ⟨fd__law_spoilt, F__law_spoilt⟩ := c.def_ 13 (d := D13) rfl
  have g__law_spoilt := He.glo_ok X G (c.fact 13 (f := .glo "_law_spoilt") rfl)
  have F__law_spoilt := fun_of (x := "_law_spoilt") (qual := "_law_spoilt") (st := s__law_spoilt) F__law_spoilt
  obtain ⟨fd__law_bent, F__law_bent⟩ := c.def_ 14 (d := D14) rfl
  have g__law_bent := He.glo_ok X G (c.fact 14 (f := .glo "_law_bent") rfl)
  have F__law_bent := fun_of (x := "_law_bent") (qual := "_law_bent") (st := s__law_bent) F__law_bent
  obtain ⟨fd__law_gcd, F__law_gcd⟩ := c.def_ 15 (d := D15) rfl
  have g__law_gcd := He.glo_ok X G (c.fact 15 (f := .glo "_law_gcd") rfl)
  have F__law_gcd := fun_of (x := "_law_gcd") (qual := "_law_gcd") (st := s__law_gcd) F__law_gcd
  obtain ⟨fd__law_power, F__law_power⟩ := c.def_ 16 (d := D16) rfl
  have g__law_power := He.glo_ok X G (c.fact 16 (f := .glo "_law_power") rfl)
  have F__law_power := fun_of (x := "_law_power") (qual := "_law_power") (st := s__law_power) F__law_power
  obtain ⟨fd__law_integer, F__law_integer⟩ := c.def_ 17 (d := D17) rfl
  have g__law_integer := He.glo_ok X G (c.fact 17 (f := .glo "_law_integer") rfl)
  have F__law_integer := fun_of (x := "_law_integer") (qual := "_law_integer") (st := s__law_integer) F__law_integer
  obtain ⟨fd__law_joined, F__law_joined⟩ := c.def_ 18 (d := D18) rfl
  have g__law_joined := He.glo_ok X G (c.fact 18 (f := .glo "_law_joined") rfl)
  have F__law_joined := fun_of (x := "_law_joined") (qual := "_law_joined") (st := s__law_joined) F__law_joined
  obtain ⟨fd__law_apart, F__law_apart⟩ := c.def_ 19 (d := D19) rfl
  have g__law_apart := He.glo_ok X G (c.fact 19 (f := .glo "_law_apart") rfl)
  have F__law_apart := fun_of (x := "_law_apart") (qual := "_law_apart") (st := s__law_apart) F__law_apart
  obtain ⟨fd__law_is_paper, F__law_is_paper⟩ := c.def_ 20 (d := D20) rfl
  have g__law_is_paper := He.glo_ok X G (c.fact 20 (f := .glo "_law_is_paper") rfl)
  have F__law_is_paper := fun_of (x := "_law_is_paper") (qual := "_law_is_paper") (st := s__law_is_paper) F__law_is_paper
  obtain ⟨fd_law, F_law⟩ := c.def_ 21 (d := D21) rfl
  have g_law := He.glo_ok X G (c.fact 21 (f := .glo "law") rfl)
  have F0_law := F_law
  have F_law := fun_of (x := "law") (qual := "law") (st := s_law) F_law
  have m : MG mg := ⟨He.free_ok X G (c.fact 22 (f := .free "abs") rfl), He.free_ok X G (c.fact 23 (f := .free "all") rfl), He.free_ok X G (c.fact 24 (f := .free "bool") rfl), He.free_ok X G (c.fact 25 (f := .free "int") rfl), He.free_ok X G (c.fact 26 (f := .free "isinstance") rfl), He.free_ok X G (c.fact 27 (f := .free "len") rfl), He.free_ok X G (c.fact 28 (f := .free "list") rfl), He.free_ok X G (c.fact 29 (f := .free "range") rfl), He.free_ok X G (c.fact 30 (f := .free "str") rfl), He.free_ok X G (c.fact 31 (f := .free "tuple") rfl)⟩
  have e := hfa.symm.trans g_law
  cases e
  have hb := FunD.bindsA (ps := ["script"]) F0_law fun _ _ _ _ _ _ us hl => match us, hl with | [_], _ => rfl
  refine ⟨fd_law, fun s v => hb s [v] rfl, fun base _ _ => ?_⟩
  have c_is_integer : Callee P w K mg base 1 "is_integer" 1 p_ii := w_is_integer (j := 0) m  F_is_integer g_is_integer runF_does
  have c_common_divisor : Callee P w K mg base 1 "common_divisor" 2 p_gcd := w_common_divisor (j := 0) m  F_common_divisor g_common_divisor runF_does
  have c_with_cofactors : Callee P w K mg base 1 "with_cofactors" 2 p_wc := w_with_cofactors (j := 0) m  F_with_cofactors g_with_cofactors runF_does
  have c_inverse : Callee P w K mg base 2 "inverse" 2 p_inv := w_inverse (j := 1) m (c_with_cofactors.mono (by decide)) F_inverse g_inverse runF_does
  have c_power : Callee P w K mg base 1 "power" 3 p_pow := w_power (j := 0) m  F_power g_power runF_does
  have c_joined_two : Callee P w K mg base 2 "joined_two" 4 p_jt := w_joined_two (j := 1) m (c_with_cofactors.mono (by decide)) F_joined_two g_joined_two runF_does
  have c_joined_rests : Callee P w K mg base 3 "joined_rests" 1 p_jr := w_joined_rests (j := 2) m (c_common_divisor.mono (by decide)) (c_joined_two.mono (by decide)) F_joined_rests g_joined_rests runF_does
  have c_judge_joined : Callee P w K mg base 4 "judge_joined" 2 p_judge := w_judge_joined (j := 3) m (c_is_integer.mono (by decide)) (c_common_divisor.mono (by decide)) (c_joined_rests.mono (by decide)) F_judge_joined g_judge_joined runF_does
  have c__law_start : Callee P w K mg base 1 "_law_start" 1 p_st := w__law_start (j := 0) m  F__law_start g__law_start runF_does
  have c__law_fill : Callee P w K mg base 1 "_law_fill" 1 p_fill := w__law_fill (j := 0) m  F__law_fill g__law_fill runF_does
  have c__law_take : Callee P w K mg base 2 "_law_take" 2 p_take := w__law_take (j := 1) m (c__law_fill.mono (by decide)) F__law_take g__law_take runF_does
  have c__law_is_int : Callee P w K mg base 1 "_law_is_int" 1 p_ii := w__law_is_int (j := 0) m  F__law_is_int g__law_is_int runF_does
  have r__law_alike : ∀ k : Nat, Callee P w K mg base (k + 0) "_law_alike" 2 (pAlike k) := fun k => by
    induction k with
    | zero => exact (callee_bot (ps := ["value", "due"]) g__law_alike F__law_alike.kp (F__law_alike.binds fun _ _ _ _ _ _ us hl => match us, hl with | [_, _], _ => rfl) : Callee P w K mg base 0 "_law_alike" 2 _).mono (Nat.zero_le _)
    | succ k ih =>
      have ih : Callee P w K mg base (k + 0) "_law_alike" 2 (pAlike k) := ih
      have q := w__law_alike (j := k + 0) m ih F__law_alike g__law_alike runF_does
      rw [show k + 1 + 0 = k + 0 + 1 by omega]
      exact q
  have r__law_spoilt : ∀ k : Nat, Callee P w K mg base (k + 2) "_law_spoilt" 2 (pSpoilt p_take k) := fun k => by
    induction k with
    | zero => exact (callee_bot (ps := ["c", "value"]) g__law_spoilt F__law_spoilt.kp (F__law_spoilt.binds fun _ _ _ _ _ _ us hl => match us, hl with | [_, _], _ => rfl) : Callee P w K mg base 0 "_law_spoilt" 2 _).mono (Nat.zero_le _)
    | succ k ih =>
      have ih : Callee P w K mg base (k + 2) "_law_spoilt" 2 (pSpoilt p_take k) := ih
      have q := w__law_spoilt (j := k + 2) m (c__law_take.mono (by omega)) ih F__law_spoilt g__law_spoilt runF_does
      rw [show k + 1 + 2 = k + 2 + 1 by omega]
      exact q
  have c__law_alike := r__law_alike 8
  have c__law_spoilt := r__law_spoilt 9
  have c__law_bent : Callee P w K mg base 12 "_law_bent" 3 (p_bt p_take) := w__law_bent (j := 11) m (c__law_take.mono (by decide)) (c__law_spoilt.mono (by decide)) F__law_bent g__law_bent runF_does
  have c__law_gcd : Callee P w K mg base 1 "_law_gcd" 2 p_gcd := w__law_gcd (j := 0) m  F__law_gcd g__law_gcd runF_does
  have c__law_power : Callee P w K mg base 1 "_law_power" 3 p_lpow := w__law_power (j := 0) m  F__law_power g__law_power runF_does
  have c__law_integer : Callee P w K mg base 3 "_law_integer" 1 (p_int p_take) := w__law_integer (j := 2) m (c__law_take.mono (by decide)) F__law_integer g__law_integer runF_does
  have c__law_joined : Callee P w K mg base 2 "_law_joined" 1 p_lj := w__law_joined (j := 1) m (c__law_gcd.mono (by decide)) F__law_joined g__law_joined runF_does
  have c__law_apart : Callee P w K mg base 2 "_law_apart" 1 p_ap := w__law_apart (j := 1) m (c__law_gcd.mono (by decide)) F__law_apart g__law_apart runZ_does
  have c__law_is_paper : Callee P w K mg base 3 "_law_is_paper" 2 p_paper := w__law_is_paper (j := 2) m (c__law_is_int.mono (by decide)) (c__law_joined.mono (by decide)) (c__law_gcd.mono (by decide)) F__law_is_paper g__law_is_paper runF_does
  refine FnOk.imp (fn_ok (j := 39) (ψ := p_law) F_law sc_law (fun _ _ _ _ _ _ hr => b_law m (c__law_start.mono (by decide)) (c__law_integer.mono (by decide)) (c__law_take.mono (by decide)) (c__law_gcd.mono (by decide)) (c_with_cofactors.mono (by decide)) (c__law_alike.mono (by decide)) (c_common_divisor.mono (by decide)) (c_inverse.mono (by decide)) (c__law_power.mono (by decide)) (c_power.mono (by decide)) (c_joined_rests.mono (by decide)) (c__law_joined.mono (by decide)) (c__law_apart.mono (by decide)) (c__law_bent.mono (by decide)) (c_judge_joined.mono (by decide)) (c__law_is_paper.mono (by decide)) (c_joined_two.mono (by decide)) hr) ?_) (spLaw_of p_law_ok)
  exact runF_does (n := 20) (k := 1) (d := LL p_take)
end K10
open PySem PySem.W PySem.Calls PyProof.Rows
theorem PySem.Challenge.cw_primeworth_k10_rests_that_are_joined_holds : PySem.Challenge.rw_primeworth_k10_rests_that_are_joined.Holds := by
  w_on; o_law
  refine HandSHeadRun.head_any (r := OpenLaw.row PySem.Challenge.rw_primeworth_k10_rests_that_are_joined) (q := view (OpenLaw.row PySem.Challenge.rw_primeworth_k10_rests_that_are_joined).prog [25]) (H := K10.hk) (ob := K10.ob) (M := 3000) (loose := K10.loose) (d := HandSHeadRun.topDef (OpenLaw.row PySem.Challenge.rw_primeworth_k10_rests_that_are_joined).prog 25) (kwd := []) K10.ob_eq
    (by kernel_rfl) (fun s => by kernel_rfl) K10.run (by kernel_rfl) (by kernel_rfl) (by kernel_rfl) (by rfl) (by first | assumption | decide +kernel) (by decide +kernel) ⟨rfl, rfl, rfl, rfl, rfl, by decide +kernel⟩ ?hw ?hc
  case hw => w_witness2
  case hc =>
    refine L2.walk_ofE (l := PySem.Challenge.rw_primeworth_k10_rests_that_are_joined) (n := 63) (k := 40) (x := "script") (CX := L2.CX0) rfl (by decide) (by kernel_rfl) ⟨rfl, by decide, by decide⟩ ?F (fun _ _ _ _ z => z)
    intro w mg fa h Y G hmg0
    obtain ⟨K, KX, c⟩ := Y
    have hmg : mg ("law" : PySem.Str) = some (.ref fa) := by
      have e : (HandSHeadRun.topDef (OpenLaw.row PySem.Challenge.rw_primeworth_k10_rests_that_are_joined).prog 25).name = ("law" : PySem.Str) := by kernel_rfl
      rw [← e]
      exact hmg0
    obtain ⟨fd, hb, hF⟩ := K10.facts (P := (PySem.Challenge.rw_primeworth_k10_rests_that_are_joined).prog) (w := w) KX G hmg c
    exact ⟨K, fd, Fd.spLaw K, KX, hb, fun H a ns hl ho hS => ⟨a, ns, rfl, ho, hS, hl, fun _ => rfl⟩, hF⟩
