import PyProof.Rows.All
import Wide.All
import OpenK.AllK
import Wide.FinOn
import HandS.ForMost
import HandS.ForExc
import HandS.Walk
import HandS.IsInst
import HandS.WideBits
import HandS.Wide
import HandS.ExcInit
import HandS.ExcField
import HandS.ExcIs
import HandS.CallSlots
import HandS.TryMany
import HandS.WordsExc
import KE.KExcIs
import HandS.Text
import HandS.SortInts
import HandS.More
import PySem.Challenge.RW_spareplank_k14_shapes_refused
set_option Elab.async false
set_option maxRecDepth 100000
set_option maxHeartbeats 4000000
/-! VC: readings of the hand layer over typed plain values. Γ tells by slot what the locals hold. -/
namespace VC
open PySem PySem.Spec L2

/-! ### typed values -/
structure Ty (α : Type) where
  rep : Hp → V → α → Prop
  mono : ∀ {H H' : Hp} {v : V} {x : α}, Same H H' → rep H v x → rep H' v x
def tInt : Ty Int := ⟨fun _ v x => v = .int x, fun _ h => h⟩
def tBool : Ty Bool := ⟨fun _ v x => v = .bl x, fun _ h => h⟩
def tStr : Ty Str := ⟨fun _ v x => v = .str x, fun _ h => h⟩
def tNon : Ty Unit := ⟨fun _ v _ => v = .non, fun _ h => h⟩
def tOpt {α : Type} (τ : Ty α) : Ty (Option α) := ⟨fun H v x => match x with | none => v = .non | some y => v ≠ .non ∧ τ.rep H v y, fun {H H' v x} s h => by
  cases x with
  | none => exact h
  | some y => exact ⟨h.1, τ.mono s h.2⟩⟩
theorem Paired.up {α : Type} {τ : Ty α} {H H' : Hp} (s : Same H H') : ∀ {vs : List V} {xs : List α}, Paired (τ.rep H) vs xs → Paired (τ.rep H') vs xs
  | _, _, .nil => .nil
  | _, _, .cons a t => .cons (τ.mono s a) (Paired.up s t)
def tList {α : Type} (τ : Ty α) : Ty (List α) := ⟨fun H v xs => ∃ a vs, v = .ref a ∧ H a = some (.lst vs) ∧ Paired (τ.rep H) vs xs, fun s ⟨a, vs, e, h, p⟩ => ⟨a, vs, e, s _ _ h, Paired.up s p⟩⟩
def tTup2 {α β : Type} (τ : Ty α) (υ : Ty β) : Ty (α × β) := ⟨fun H v x => ∃ a v1 v2, v = .ref a ∧ H a = some (.tup [v1, v2]) ∧ τ.rep H v1 x.1 ∧ υ.rep H v2 x.2,
  fun s ⟨a, v1, v2, e, h, p, q⟩ => ⟨a, v1, v2, e, s _ _ h, τ.mono s p, υ.mono s q⟩⟩
/-- the script -/
def tScr (K : PySem.W.Frag) : Ty (List Int) := ⟨fun H v ns => ∃ a, v = .ref a ∧ SqL K H a (ns.map V.int), fun s ⟨a, e, h⟩ => ⟨a, e, Same.seq s h⟩⟩

theorem paired_len {α β : Type} {F : α → β → Prop} : ∀ {l : List α} {m : List β}, Paired F l m → l.length = m.length
  | _, _, .nil => rfl
  | _, _, .cons _ t => by simp [paired_len t]
theorem paired_get {α β : Type} {F : α → β → Prop} : ∀ {l : List α} {m : List β} {i : Nat} {x : α}, Paired F l m → l[i]? = some x → ∃ y, m[i]? = some y ∧ F x y
  | _, _, 0, _, .cons a _, e => by
    simp at e
    subst e
    exact ⟨_, rfl, a⟩
  | _, _, i + 1, x, .cons _ t, e => by
    obtain ⟨y, h1, h2⟩ := paired_get (i := i) (x := x) t (by simpa using e)
    exact ⟨y, by simpa using h1, h2⟩
theorem paired_get' {α β : Type} {F : α → β → Prop} : ∀ {l : List α} {m : List β} {i : Nat} {y : β}, Paired F l m → m[i]? = some y → ∃ x, l[i]? = some x ∧ F x y
  | _, _, 0, _, .cons a _, e => by
    simp at e
    subst e
    exact ⟨_, rfl, a⟩
  | _, _, i + 1, y, .cons _ t, e => by
    obtain ⟨x, h1, h2⟩ := paired_get' (i := i) (y := y) t (by simpa using e)
    exact ⟨x, by simpa using h1, h2⟩
theorem paired_app {α β : Type} {F : α → β → Prop} : ∀ {l l' : List α} {m m' : List β}, Paired F l m → Paired F l' m' → Paired F (l ++ l') (m ++ m')
  | _, _, _, _, .nil, q => q
  | _, _, _, _, .cons a t, q => .cons a (paired_app t q)
theorem paired_set {α β : Type} {F : α → β → Prop} {x : α} {y : β} (r : F x y) : ∀ {l : List α} {m : List β} (i : Nat), Paired F l m → Paired F (l.set i x) (m.set i y)
  | _, _, _, .nil => .nil
  | _, _, 0, .cons _ t => .cons r t
  | _, _, i + 1, .cons q t => .cons q (paired_set r i t)
theorem paired_take {α β : Type} {F : α → β → Prop} : ∀ {l : List α} {m : List β} (n : Nat), Paired F l m → Paired F (l.take n) (m.take n)
  | _, _, 0, _ => .nil
  | _, _, _ + 1, .nil => .nil
  | _, _, n + 1, .cons r t => .cons r (paired_take n t)
theorem paired_drop {α β : Type} {F : α → β → Prop} : ∀ {l : List α} {m : List β} (n : Nat), Paired F l m → Paired F (l.drop n) (m.drop n)
  | _, _, 0, r => r
  | _, _, _ + 1, .nil => .nil
  | _, _, n + 1, .cons _ t => paired_drop n t
theorem paired_rep {α β : Type} {F : α → β → Prop} {x : α} {y : β} (r : F x y) : ∀ n : Nat, Paired F (List.replicate n x) (List.replicate n y)
  | 0 => .nil
  | n + 1 => .cons r (paired_rep r n)
theorem paired_int {H : Hp} : ∀ {vs : List V} {ns : List Int}, Paired (tInt.rep H) vs ns → vs = ns.map V.int
  | _, _, .nil => rfl
  | _, _, .cons e t => by
    have e : _ = V.int _ := e
    rw [e, paired_int t]
    rfl
theorem int_paired {H : Hp} : ∀ {ns : List Int}, Paired (tInt.rep H) (ns.map V.int) ns
  | [] => .nil
  | _ :: _ => .cons rfl int_paired
theorem paired_bl {H : Hp} : ∀ {vs : List V} {ns : List Bool}, Paired (tBool.rep H) vs ns → vs = ns.map V.bl
  | _, _, .nil => rfl
  | _, _, .cons e t => by
    have e : _ = V.bl _ := e
    rw [e, paired_bl t]
    rfl

/-! ### heaps: Hv is what stands still, H all -/
structure Grow (Hv H Hv' H' : Hp) : Prop where
  s : Same H H'
  v : Same Hv Hv'
  vis : Same Hv' H'
  nw : ∀ b, H b ≠ none → Hv b = none → Hv' b = none
theorem Grow.refl {Hv H : Hp} (h : Same Hv H) : Grow Hv H Hv H := ⟨Same.refl _, Same.refl _, h, fun _ _ h => h⟩
theorem Same.some_ne {H H' : Hp} (s : Same H H') {b : Addr} (h : H b ≠ none) : H' b ≠ none := by
  cases e : H b with
  | none => exact absurd e h
  | some o =>
    rw [s _ _ e]
    exact fun z => nomatch z
theorem Grow.trans {A B C D E F : Hp} (g : Grow A B C D) (h : Grow C D E F) : Grow A B E F :=
  ⟨Same.trans g.s h.s, Same.trans g.v h.v, h.vis, fun b n z => h.nw b (Same.some_ne g.s n) (g.nw b n z)⟩
theorem same_upd {H : Hp} {p : Addr} {o : HO} (h : H p = none) : Same H (upd H p o) := fun b u e => by
  rw [upd_ne (ne_of_none e h)]
  exact e
theorem same_upd2 {H H' : Hp} {p : Addr} {o : HO} (s : Same H H') : Same (upd H p o) (upd H' p o) := fun b u e => by
  by_cases hb : b = p
  · subst hb
    rw [upd_same] at e ⊢
    exact e
  · rw [upd_ne hb] at e ⊢
    exact s _ _ e
theorem same_updR {H H' : Hp} {p : Addr} {o : HO} (s : Same H H') (h : H p = none) : Same H (upd H' p o) := fun b u e => by
  rw [upd_ne (ne_of_none e h)]
  exact s _ _ e
/-- a new thing, seen at once -/
theorem Grow.new {Hv H : Hp} {p : Addr} {o : HO} (vis : Same Hv H) (h : H p = none) : Grow Hv H (upd Hv p o) (upd H p o) :=
  ⟨same_upd h, same_upd (Same.free vis h), same_upd2 vis, fun b n z => by
    have hb : b ≠ p := fun q => n (q ▸ h)
    rw [upd_ne hb]
    exact z⟩
/-- a new thing, not seen -/
theorem Grow.newO {Hv H : Hp} {p : Addr} {o : HO} (vis : Same Hv H) (h : H p = none) : Grow Hv H Hv (upd H p o) :=
  ⟨same_upd h, Same.refl _, same_updR vis (Same.free vis h), fun _ _ z => z⟩
/-- a thing that is there is seen from now on -/
theorem Grow.see {Hv H : Hp} {p : Addr} {o : HO} (vis : Same Hv H) (h : H p = some o) (hv : Hv p = none) : Same Hv (upd Hv p o) ∧ Same (upd Hv p o) H :=
  ⟨same_upd hv, fun b u e => by
    by_cases hb : b = p
    · subst hb
      rw [upd_same] at e
      cases e
      exact h
    · rw [upd_ne hb] at e
      exact vis _ _ e⟩

/-! ### contexts -/
/-- arguments -/
structure As : Type 1 where
  {α : Type}
  τ : Ty α
  x : α
inductive FsRep (H : Hp) : List (Str × V) → List (Str × As) → Prop
  | nil : FsRep H [] []
  | cons {n : Str} {v : V} {fs : List (Str × V)} {a : As} {as : List (Str × As)} : a.τ.rep H v a.x → FsRep H fs as → FsRep H ((n, v) :: fs) ((n, a) :: as)
theorem FsRep.up {H H' : Hp} (s : Same H H') {fs : List (Str × V)} {as : List (Str × As)} (h : FsRep H fs as) : FsRep H' fs as := by
  induction h with
  | nil => exact .nil
  | cons r _ ih => exact .cons (Ty.mono _ s r) ih
inductive Ent : Type 1
  | fz {α : Type} (τ : Ty α) (x : α)
  | cl {α : Type} (τ : Ty α) (xs : List α)
  | gh {α : Type} (v : V) (τ : Ty α) (x : α)
  | ob (x dx C : Addr) (as : List (Str × As))
def Ent.isCl : Ent → Bool
  | .cl _ _ => true
  | .ob _ _ _ _ => true
  | _ => false
def EntOk (σ : St) (Hv H : Hp) (i : Nat) : Ent → Prop
  | .fz τ x => ∃ v, σ[i]? = some (some v) ∧ τ.rep Hv v x
  | .cl τ xs => ∃ l vs, σ[i]? = some (some (.ref l)) ∧ H l = some (.lst vs) ∧ Hv l = none ∧ Paired (τ.rep Hv) vs xs
  | .gh v τ x => τ.rep Hv v x
  | .ob x dx C as => ∃ fs, σ[i]? = some (some (.ref x)) ∧ H x = some (.ins C dx fs) ∧ Hv x = none ∧ FsRep Hv fs as
abbrev Cxt := List (Nat × Ent)
def get (i : Nat) : Cxt → Option Ent
  | [] => none
  | (j, e) :: Γ => bif Nat.beq j i then some e else get i Γ
def del (i : Nat) : Cxt → Cxt
  | [] => []
  | (j, e) :: Γ => bif Nat.beq j i then del i Γ else (j, e) :: del i Γ
def put (i : Nat) (e : Ent) (Γ : Cxt) : Cxt := (i, e) :: del i Γ
theorem get_mem {i : Nat} {e : Ent} : ∀ {Γ : Cxt}, get i Γ = some e → (i, e) ∈ Γ
  | [], h => nomatch h
  | (j, f) :: Γ, h => by
    unfold get at h
    cases q : Nat.beq j i with
    | true =>
      rw [q] at h
      have e1 : some f = some e := h
      cases e1
      have := Nat.eq_of_beq_eq_true q
      subst this
      exact List.mem_cons_self
    | false =>
      rw [q] at h
      exact List.mem_cons_of_mem _ (get_mem h)
theorem del_mem {i j : Nat} {e : Ent} : ∀ {Γ : Cxt}, (j, e) ∈ del i Γ → j ≠ i ∧ (j, e) ∈ Γ
  | (k, f) :: Γ, h => by
    unfold del at h
    cases q : Nat.beq k i with
    | true =>
      rw [q] at h
      have z := del_mem (Γ := Γ) h
      exact ⟨z.1, List.mem_cons_of_mem _ z.2⟩
    | false =>
      rw [q] at h
      rcases List.mem_cons.mp h with h | h
      · cases h
        exact ⟨Nat.ne_of_beq_eq_false q, List.mem_cons_self⟩
      · have z := del_mem (Γ := Γ) h
        exact ⟨z.1, List.mem_cons_of_mem _ z.2⟩
theorem put_mem {i j : Nat} {e f : Ent} {Γ : Cxt} (h : (j, f) ∈ put i e Γ) : (j = i ∧ f = e) ∨ (j ≠ i ∧ (j, f) ∈ Γ) := by
  rcases List.mem_cons.mp h with h | h
  · cases h
    exact .inl ⟨rfl, rfl⟩
  · exact .inr (del_mem h)

/-! ### the base: what stood at the entry; own: what may be changed of it -/
structure Bs where
  H0 : Hp
  Hv0 : Hp
  own : Addr → Prop
  n : Nat
structure Wd (B : Bs) (Γ : Cxt) (σ : St) (Hv H : Hp) : Prop where
  len : σ.length = B.n
  vis : Same Hv H
  s0 : ∀ b o, ¬ B.own b → B.H0 b = some o → H b = some o
  a0 : ∀ b, B.H0 b ≠ none → H b ≠ none
  v0 : Same B.Hv0 Hv
  nw : ∀ b, ¬ B.own b → B.H0 b ≠ none → B.Hv0 b = none → Hv b = none
  ent : ∀ i e, (i, e) ∈ Γ → EntOk σ Hv H i e
  new : ∀ i e l, (i, e) ∈ Γ → e.isCl = true → σ[i]? = some (some (.ref l)) → B.H0 l = none ∨ B.own l
  dis : ∀ i j e f l, (i, e) ∈ Γ → (j, f) ∈ Γ → e.isCl = true → f.isCl = true → i ≠ j → σ[i]? = some (some (.ref l)) → σ[j]? = some (some (.ref l)) → False
section
variable {B : Bs} {Γ : Cxt} {σ : St} {Hv H Hv' H' : Hp}
theorem EntOk.grow {i : Nat} {e : Ent} (g : Grow Hv H Hv' H') (h : EntOk σ Hv H i e) : EntOk σ Hv' H' i e := by
  cases e with
  | fz τ x =>
    obtain ⟨v, h1, h2⟩ := h
    exact ⟨v, h1, τ.mono g.v h2⟩
  | cl τ xs =>
    obtain ⟨l, vs, h1, h2, h3, h4⟩ := h
    exact ⟨l, vs, h1, g.s _ _ h2, g.nw _ (by rw [h2]; exact fun z => nomatch z) h3, Paired.up g.v h4⟩
  | gh v τ x => exact τ.mono g.v h
  | ob x dx C as =>
    obtain ⟨fs, h1, h2, h3, h4⟩ := h
    exact ⟨fs, h1, g.s _ _ h2, g.nw _ (by rw [h2]; exact fun z => nomatch z) h3, h4.up g.v⟩
theorem Wd.grow (w : Wd B Γ σ Hv H) (g : Grow Hv H Hv' H') : Wd B Γ σ Hv' H' where
  len := w.len
  vis := g.vis
  s0 := fun b o n e => g.s _ _ (w.s0 b o n e)
  a0 := fun b n => Same.some_ne g.s (w.a0 b n)
  v0 := Same.trans w.v0 g.v
  nw := fun b no n z => g.nw b (w.a0 b n) (w.nw b no n z)
  ent := fun i e m => (w.ent i e m).grow g
  new := w.new
  dis := w.dis
/-- fewer facts -/
theorem Wd.sub {Δ : Cxt} (w : Wd B Γ σ Hv H) (h : ∀ p ∈ Δ, p ∈ Γ) : Wd B Δ σ Hv H where
  len := w.len
  vis := w.vis
  s0 := w.s0
  a0 := w.a0
  v0 := w.v0
  nw := w.nw
  ent := fun i e m => w.ent i e (h _ m)
  new := fun i e l m => w.new i e l (h _ m)
  dis := fun i j e f l m m' => w.dis i j e f l (h _ m) (h _ m')
/-- a slot takes a value that stands still -/
theorem Wd.put {α : Type} {τ : Ty α} {x : α} {v : V} (w : Wd B Γ σ Hv H) (i : Nat) (hi : i < B.n) (r : τ.rep Hv v x) : Wd B (put i (.fz τ x) Γ) (σ.set i (some v)) Hv H where
  len := by rw [List.length_set]; exact w.len
  vis := w.vis
  s0 := w.s0
  a0 := w.a0
  v0 := w.v0
  nw := w.nw
  ent := fun j e m => by
    rcases put_mem m with ⟨rfl, rfl⟩ | ⟨hj, m⟩
    · exact ⟨v, by rw [List.getElem?_set_self (by rw [w.len]; exact hi)], r⟩
    · have z := w.ent j e m
      cases e with
      | fz => obtain ⟨u, h1, h2⟩ := z; exact ⟨u, by rw [List.getElem?_set_ne (Ne.symm hj)]; exact h1, h2⟩
      | cl => obtain ⟨l, vs, h1, h2⟩ := z; exact ⟨l, vs, by rw [List.getElem?_set_ne (Ne.symm hj)]; exact h1, h2⟩
      | gh => exact z
      | ob => obtain ⟨fs, h1, h2⟩ := z; exact ⟨fs, by rw [List.getElem?_set_ne (Ne.symm hj)]; exact h1, h2⟩
  new := fun j e l m c s => by
    rcases put_mem m with ⟨rfl, rfl⟩ | ⟨hj, m⟩
    · cases c
    · rw [List.getElem?_set_ne (Ne.symm hj)] at s
      exact w.new j e l m c s
  dis := fun j k e f l m m' c c' n s s' => by
    rcases put_mem m with ⟨rfl, rfl⟩ | ⟨hj, m⟩
    · cases c
    · rcases put_mem m' with ⟨rfl, rfl⟩ | ⟨hk, m'⟩
      · cases c'
      · rw [List.getElem?_set_ne (Ne.symm hj)] at s
        rw [List.getElem?_set_ne (Ne.symm hk)] at s'
        exact w.dis j k e f l m m' c c' n s s'
/-- a list of one's own at l: new, and no other slot's -/
structure Own (B : Bs) (Γ : Cxt) (σ : St) (Hv H : Hp) (l : Addr) (vs : List V) : Prop where
  at_ : H l = some (.lst vs)
  hid : Hv l = none
  new : B.H0 l = none ∨ B.own l
  dis : ∀ i e, (i, e) ∈ Γ → e.isCl = true → σ[i]? = some (some (.ref l)) → False
theorem Wd.putO {α : Type} {τ : Ty α} {xs : List α} {l : Addr} {vs : List V} (w : Wd B Γ σ Hv H) (i : Nat) (hi : i < B.n) (o : Own B Γ σ Hv H l vs) (r : Paired (τ.rep Hv) vs xs) : Wd B (VC.put i (.cl τ xs) Γ) (σ.set i (some (.ref l))) Hv H where
  len := by rw [List.length_set]; exact w.len
  vis := w.vis
  s0 := w.s0
  a0 := w.a0
  v0 := w.v0
  nw := w.nw
  ent := fun j e m => by
    rcases put_mem m with ⟨rfl, rfl⟩ | ⟨hj, m⟩
    · exact ⟨l, vs, by rw [List.getElem?_set_self (by rw [w.len]; exact hi)], o.at_, o.hid, r⟩
    · have z := w.ent j e m
      cases e with
      | fz => obtain ⟨u, h1, h2⟩ := z; exact ⟨u, by rw [List.getElem?_set_ne (Ne.symm hj)]; exact h1, h2⟩
      | cl => obtain ⟨l, vs, h1, h2⟩ := z; exact ⟨l, vs, by rw [List.getElem?_set_ne (Ne.symm hj)]; exact h1, h2⟩
      | gh => exact z
      | ob => obtain ⟨fs, h1, h2⟩ := z; exact ⟨fs, by rw [List.getElem?_set_ne (Ne.symm hj)]; exact h1, h2⟩
  new := fun j e k m c s => by
    rcases put_mem m with ⟨rfl, rfl⟩ | ⟨hj, m⟩
    · rw [List.getElem?_set_self (by rw [w.len]; exact hi)] at s
      cases s
      exact o.new
    · rw [List.getElem?_set_ne (Ne.symm hj)] at s
      exact w.new j e k m c s
  dis := fun j k e f q m m' c c' n s s' => by
    rcases put_mem m with ⟨rfl, rfl⟩ | ⟨hj, mm⟩
    · rw [List.getElem?_set_self (by rw [w.len]; exact hi)] at s
      cases s
      rcases put_mem m' with ⟨rfl, rfl⟩ | ⟨hk, m'⟩
      · exact n rfl
      · rw [List.getElem?_set_ne (Ne.symm hk)] at s'
        exact o.dis k f m' c' s'
    · rw [List.getElem?_set_ne (Ne.symm hj)] at s
      rcases put_mem m' with ⟨rfl, rfl⟩ | ⟨hk, m'⟩
      · rw [List.getElem?_set_self (by rw [w.len]; exact hi)] at s'
        cases s'
        exact o.dis j e mm c s
      · rw [List.getElem?_set_ne (Ne.symm hk)] at s'
        exact w.dis j k e f q mm m' c c' n s s'
/-- a list of one's own is changed -/
theorem Wd.chg {α : Type} {τ : Ty α} {xs ys : List α} {l : Addr} {ws : List V} (w : Wd B Γ σ Hv H) (i : Nat) (m : (i, .cl τ xs) ∈ Γ) (hs : σ[i]? = some (some (.ref l))) (r : Paired (τ.rep Hv) ws ys) : Wd B (VC.put i (.cl τ ys) Γ) σ Hv (upd H l (.lst ws)) := by
  obtain ⟨l', vs, e1, e2, e3, _⟩ := w.ent i _ m
  rw [hs] at e1
  cases e1
  have nv : ∀ b o, Hv b = some o → b ≠ l := fun b o e q => by
    subst q
    rw [e3] at e
    cases e
  have nl := w.new i _ l m rfl hs
  refine ⟨w.len, fun b o e => ?_, fun b o n e => ?_, fun b n => ?_, w.v0, w.nw, fun j e m' => ?_, fun j e k m' c s => ?_, fun j k e f q m1 m2 c1 c2 n s1 s2 => ?_⟩
  · rw [upd_ne (nv b o e)]
    exact w.vis _ _ e
  · have hb : b ≠ l := fun q => by
      subst q
      rcases nl with z | z
      · rw [z] at e
        cases e
      · exact n z
    rw [upd_ne hb]
    exact w.s0 b o n e
  · by_cases hb : b = l
    · subst hb
      rw [upd_same]
      exact fun z => nomatch z
    · rw [upd_ne hb]
      exact w.a0 b n
  · rcases put_mem m' with ⟨rfl, rfl⟩ | ⟨hj, m'⟩
    · exact ⟨l, ws, hs, upd_same, e3, r⟩
    · have z := w.ent j e m'
      cases e with
      | fz => exact z
      | gh => exact z
      | cl τ' zs =>
        obtain ⟨k, us, h1, h2, h3, h4⟩ := z
        refine ⟨k, us, h1, ?_, h3, h4⟩
        rw [upd_ne fun q => w.dis i j _ _ l m m' rfl rfl (Ne.symm hj) hs (by rw [h1, q])]
        exact h2
      | ob k dx C as =>
        obtain ⟨fs, h1, h2, h3, h4⟩ := z
        refine ⟨fs, h1, ?_, h3, h4⟩
        rw [upd_ne fun q => w.dis i j _ _ l m m' rfl rfl (Ne.symm hj) hs (by rw [h1, q])]
        exact h2
  · rcases put_mem m' with ⟨rfl, rfl⟩ | ⟨hj, m'⟩
    · exact w.new j _ k m rfl s
    · exact w.new j e k m' c s
  · rcases put_mem m1 with ⟨rfl, rfl⟩ | ⟨hj, mm⟩
    · rcases put_mem m2 with ⟨rfl, rfl⟩ | ⟨hk, m2⟩
      · exact n rfl
      · exact w.dis j k _ f q m m2 rfl c2 n s1 s2
    · rcases put_mem m2 with ⟨rfl, rfl⟩ | ⟨hk, m2⟩
      · exact w.dis j k e _ q mm m c1 rfl n s1 s2
      · exact w.dis j k e f q mm m2 c1 c2 n s1 s2
/-- a list of one's own is left as it is from now on -/
theorem Wd.freeze {α : Type} {τ : Ty α} {xs : List α} (w : Wd B Γ σ Hv H) (i : Nat) (m : (i, .cl τ xs) ∈ Γ) : ∃ Hv', Same Hv Hv' ∧ Wd B (VC.put i (.fz (tList τ) xs) Γ) σ Hv' H := by
  obtain ⟨l, vs, e1, e2, e3, e4⟩ := w.ent i _ m
  obtain ⟨s1, s2⟩ := Grow.see w.vis e2 e3
  refine ⟨upd Hv l (.lst vs), s1, w.len, s2, w.s0, w.a0, Same.trans w.v0 s1, fun b no n z => ?_, fun j e m' => ?_, fun j e k m' c s => ?_, fun j k e f q m1 m2 c1 c2 n t1 t2 => ?_⟩
  · have hb : b ≠ l := fun q => by
      subst q
      rcases w.new i _ b m rfl e1 with y | y
      · exact n y
      · exact no y
    rw [upd_ne hb]
    exact w.nw b no n z
  · rcases put_mem m' with ⟨rfl, rfl⟩ | ⟨hj, m'⟩
    · exact ⟨.ref l, e1, l, vs, rfl, upd_same, Paired.up s1 e4⟩
    · have z := w.ent j e m'
      cases e with
      | fz τ' x => obtain ⟨u, h1, h2⟩ := z; exact ⟨u, h1, τ'.mono s1 h2⟩
      | gh v τ' x => exact τ'.mono s1 z
      | cl τ' zs =>
        obtain ⟨k, us, h1, h2, h3, h4⟩ := z
        refine ⟨k, us, h1, h2, ?_, Paired.up s1 h4⟩
        rw [upd_ne fun q => w.dis i j _ _ l m m' rfl rfl (Ne.symm hj) e1 (by rw [h1, q])]
        exact h3
      | ob k dx C as =>
        obtain ⟨fs, h1, h2, h3, h4⟩ := z
        refine ⟨fs, h1, h2, ?_, h4.up s1⟩
        rw [upd_ne fun q => w.dis i j _ _ l m m' rfl rfl (Ne.symm hj) e1 (by rw [h1, q])]
        exact h3
  · rcases put_mem m' with ⟨rfl, rfl⟩ | ⟨hj, m'⟩
    · cases c
    · exact w.new j e k m' c s
  · rcases put_mem m1 with ⟨rfl, rfl⟩ | ⟨hj, m1⟩
    · cases c1
    · rcases put_mem m2 with ⟨rfl, rfl⟩ | ⟨hk, m2⟩
      · cases c2
      · exact w.dis j k e f q m1 m2 c1 c2 n t1 t2
end
end VC

set_option Elab.async false
set_option maxRecDepth 100000
set_option maxHeartbeats 4000000
namespace VC
open PySem PySem.Spec L2

section
variable {B : Bs} {Γ : Cxt} {α β γ δ : Type} {τ : Ty α} {υ : Ty β} {φ : Ty γ} {x : α} {y : β} {z : γ}

/-! ### judgements over readings -/
/-- a value that stands still -/
def Sm (B : Bs) (Γ : Cxt) (t : TE) (τ : Ty α) (x : α) : Prop := ∀ (σ : L2.St) (Hv H : Hp), Wd B Γ σ Hv H → ∀ Q : VK, (∀ v Hv' H', Grow Hv H Hv' H' → τ.rep Hv' v x → Q v H') → t σ H Q
/-- a test -/
def SmT (B : Bs) (Γ : Cxt) (t : TT) (b : Bool) : Prop := ∀ (σ : L2.St) (Hv H : Hp), Wd B Γ σ Hv H → ∀ Q : Bool → Hp → Prop, (∀ Hv' H', Grow Hv H Hv' H' → Q b H') → t σ H Q
/-- a new list -/
def SmO (B : Bs) (Γ : Cxt) (t : TE) (τ : Ty α) (xs : List α) : Prop := ∀ (σ : L2.St) (Hv H : Hp), Wd B Γ σ Hv H → ∀ Q : VK,
  (∀ l vs Hv' H', Grow Hv H Hv' H' → H l = none → H' l = some (.lst vs) → Hv' l = none → Paired (τ.rep Hv') vs xs → Q (.ref l) H') → t σ H Q
/-- a list that is read -/
def SmL (B : Bs) (Γ : Cxt) (t : TE) (τ : Ty α) (xs : List α) : Prop := ∀ (σ : L2.St) (Hv H : Hp), Wd B Γ σ Hv H → ∀ Q : VK,
  (∀ a vs Hv' H', Grow Hv H Hv' H' → H' a = some (.lst vs) → Paired (τ.rep Hv') vs xs → Q (.ref a) H') → t σ H Q
inductive Reps (Hv : Hp) : List V → List As → Prop
  | nil : Reps Hv [] []
  | cons {v : V} {vs : List V} {a : As} {as : List As} : a.τ.rep Hv v a.x → Reps Hv vs as → Reps Hv (v :: vs) (a :: as)
theorem Reps.up {H H' : Hp} (s : Same H H') {vs : List V} {as : List As} (h : Reps H vs as) : Reps H' vs as := by
  induction h with
  | nil => exact .nil
  | cons r _ ih => exact .cons (Ty.mono _ s r) ih
def SmA (B : Bs) (Γ : Cxt) (t : TA) (as : List As) : Prop := ∀ (σ : L2.St) (Hv H : Hp), Wd B Γ σ Hv H → ∀ Q : List V → Hp → Prop, (∀ vs Hv' H', Grow Hv H Hv' H' → Reps Hv' vs as → Q vs H') → t σ H Q

theorem Sm.cast {t : TE} {x' : α} (h : Sm B Γ t τ x) (e : x = x') : Sm B Γ t τ x' := e ▸ h
theorem SmT.cast {t : TT} {b b' : Bool} (h : SmT B Γ t b) (e : b = b') : SmT B Γ t b' := e ▸ h
theorem SmO.cast {t : TE} {xs xs' : List α} (h : SmO B Γ t τ xs) (e : xs = xs') : SmO B Γ t τ xs' := e ▸ h

theorem sma_nil : SmA B Γ tNil [] := fun _ _ _ w _ k => k _ _ _ (Grow.refl w.vis) .nil
theorem sma_cons {ta : TE} {tr : TA} {as : List As} (ha : Sm B Γ ta τ x) (hr : SmA B Γ tr as) : SmA B Γ (tCons ta tr) (⟨τ, x⟩ :: as) := fun σ Hv H w Q k =>
  ha σ Hv H w _ fun v Hv1 H1 g1 r1 => hr σ Hv1 H1 (w.grow g1) _ fun vs Hv2 H2 g2 r2 => k _ _ _ (g1.trans g2) (.cons (τ.mono g2.v r1) r2)

/-! ### own, still, read -/
theorem Sm.of_own {t : TE} {xs : List α} (h : SmO B Γ t τ xs) : Sm B Γ t (tList τ) xs := fun σ Hv H w Q k => h σ Hv H w Q fun l vs Hv' H' g h0 h1 h2 r => by
  obtain ⟨s1, s2⟩ := Grow.see g.vis h1 h2
  refine k _ (upd Hv' l (.lst vs)) H' ⟨g.s, Same.trans g.v s1, s2, fun b n z => ?_⟩ ⟨l, vs, rfl, upd_same, Paired.up s1 r⟩
  have hb : b ≠ l := fun q => n (q ▸ h0)
  rw [upd_ne hb]
  exact g.nw b n z
theorem SmL.of {t : TE} {xs : List α} (h : Sm B Γ t (tList τ) xs) : SmL B Γ t τ xs := fun σ Hv H w Q k => h σ Hv H w Q fun v Hv' H' g r => by
  obtain ⟨a, vs, rfl, e, p⟩ := r
  exact k _ _ _ _ g (g.vis _ _ e) p
theorem SmL.of_own {t : TE} {xs : List α} (h : SmO B Γ t τ xs) : SmL B Γ t τ xs := SmL.of (Sm.of_own h)

/-! ### names and constants -/
theorem sm_var {i : Nat} (h : get i Γ = some (.fz τ x)) : Sm B Γ (tVar i) τ x := fun σ Hv H w Q k => by
  obtain ⟨v, e, r⟩ := w.ent i _ (get_mem h)
  exact ⟨v, e, k _ _ _ (Grow.refl w.vis) r⟩
theorem sml_cell {i : Nat} {xs : List α} (h : get i Γ = some (.cl τ xs)) : SmL B Γ (tVar i) τ xs := fun σ Hv H w Q k => by
  obtain ⟨l, vs, e, h1, h2, r⟩ := w.ent i _ (get_mem h)
  exact ⟨_, e, k _ _ _ _ (Grow.refl w.vis) h1 r⟩
theorem sml_var {i : Nat} {xs : List α} (h : get i Γ = some (.fz (tList τ) xs)) : SmL B Γ (tVar i) τ xs := SmL.of (sm_var h)
theorem sm_int {n : Int} : Sm B Γ (tC (.int n)) tInt n := fun _ _ _ w _ k => k _ _ _ (Grow.refl w.vis) rfl
theorem sm_bl {b : Bool} : Sm B Γ (tC (.bl b)) tBool b := fun _ _ _ w _ k => k _ _ _ (Grow.refl w.vis) rfl
theorem sm_str {s : Str} : Sm B Γ (tC (.str s)) tStr s := fun _ _ _ w _ k => k _ _ _ (Grow.refl w.vis) rfl
theorem sm_non : Sm B Γ (tC .non) tNon () := fun _ _ _ w _ k => k _ _ _ (Grow.refl w.vis) rfl
theorem sm_none : Sm B Γ (tC .non) (tOpt τ) none := fun _ _ _ w _ k => k _ _ _ (Grow.refl w.vis) rfl

/-! ### operators -/
def OpV (r : R2) (τ : Ty α) (υ : Ty β) (φ : Ty γ) (x : α) (y : β) (z : γ) : Prop := ∀ (Hv H : Hp) (v w : V), Same Hv H → τ.rep Hv v x → υ.rep Hv w y → ∀ Q : VK, (∀ u Hv' H', Grow Hv H Hv' H' → φ.rep Hv' u z → Q u H') → r v w H Q
theorem sm_op {r : R2} {ta tb : TE} (ha : Sm B Γ ta τ x) (hb : Sm B Γ tb υ y) (o : OpV r τ υ φ x y z) : Sm B Γ (tOp r ta tb) φ z := fun σ Hv H w Q k =>
  ha σ Hv H w _ fun v Hv1 H1 g1 r1 => hb σ Hv1 H1 (w.grow g1) _ fun u Hv2 H2 g2 r2 => o Hv2 H2 v u g2.vis (τ.mono g2.v r1) r2 Q fun u' Hv3 H3 g3 r3 => k _ _ _ ((g1.trans g2).trans g3) r3
theorem ov_I0 {g : Int → Int → V} {i j : Int} (h : ∀ H, φ.rep H (g i j) z) : OpV (rI0 g) tInt tInt φ i j z := fun Hv H v w s e1 e2 Q k => ⟨i, j, e1, e2, k _ _ _ (Grow.refl s) (h _)⟩
theorem ov_I {C : Int → Int → Prop} {g : Int → Int → V} {i j : Int} (c : C i j) (h : ∀ H, φ.rep H (g i j) z) : OpV (rI C g) tInt tInt φ i j z := fun Hv H v w s e1 e2 Q k => ⟨i, j, e1, e2, c, k _ _ _ (Grow.refl s) (h _)⟩
theorem ov_add {i j : Int} : OpV (rI0 fun i j => .int (i + j)) tInt tInt tInt i j (i + j) := ov_I0 fun _ => rfl
theorem ov_sub {i j : Int} : OpV (rI0 fun i j => .int (i - j)) tInt tInt tInt i j (i - j) := ov_I0 fun _ => rfl
theorem ov_and {i j : Int} : OpV (rI0 fun i j => .int (Builtin.bitAnd i j)) tInt tInt tInt i j (Builtin.bitAnd i j) := ov_I0 fun _ => rfl
theorem ov_or {i j : Int} : OpV (rI0 fun i j => .int (Builtin.bitOr i j)) tInt tInt tInt i j (Builtin.bitOr i j) := ov_I0 fun _ => rfl
theorem ov_xor {i j : Int} : OpV (rI0 fun i j => .int (Builtin.bitXor i j)) tInt tInt tInt i j (Builtin.bitXor i j) := ov_I0 fun _ => rfl
theorem ov_lt {i j : Int} : OpV (rI0 fun i j => .bl (decide (i < j))) tInt tInt tBool i j (decide (i < j)) := ov_I0 fun _ => rfl
theorem ov_le {i j : Int} : OpV (rI0 fun i j => .bl (decide (i ≤ j))) tInt tInt tBool i j (decide (i ≤ j)) := ov_I0 fun _ => rfl
theorem ov_gt {i j : Int} : OpV (rI0 fun i j => .bl (decide (j < i))) tInt tInt tBool i j (decide (j < i)) := ov_I0 fun _ => rfl
theorem ov_ge {i j : Int} : OpV (rI0 fun i j => .bl (decide (j ≤ i))) tInt tInt tBool i j (decide (j ≤ i)) := ov_I0 fun _ => rfl
theorem ov_mod {i j : Int} (c : j ≠ 0) : OpV (rI (fun _ j => j ≠ 0) fun i j => .int (i.fmod j)) tInt tInt tInt i j (i.fmod j) := ov_I c fun _ => rfl
theorem ov_modP {i j : Int} (c : 0 < j) : OpV (rI (fun _ j => j ≠ 0) fun i j => .int (i.fmod j)) tInt tInt tInt i j (i % j) := ov_I (Int.ne_of_gt c) fun _ => congrArg V.int (Int.fmod_eq_emod_of_nonneg i (Int.le_of_lt c))
theorem ov_mulL {i j : Int} (c : -(2 ^ 64) < i ∧ i < 2 ^ 64) : OpV (rI CMul fun i j => .int (i * j)) tInt tInt tInt i j (i * j) := ov_I (.inl c) fun _ => rfl
theorem ov_mulR {i j : Int} (c : -(2 ^ 64) < j ∧ j < 2 ^ 64) : OpV (rI CMul fun i j => .int (i * j)) tInt tInt tInt i j (i * j) := ov_I (.inr c) fun _ => rfl
theorem ov_fdiv {i j : Int} (c : 0 < j ∧ j < 1073741824) : OpV (rI CDivN fun i j => .int (i.fdiv j)) tInt tInt tInt i j (i / j) := ov_I ⟨Int.ne_of_gt c.1, by omega⟩ fun _ => congrArg V.int (Int.fdiv_eq_ediv_of_nonneg i (Int.le_of_lt c.1))
theorem ov_pow {i j : Int} (c : 0 ≤ j ∧ j ≤ 1000000 ∧ i.natAbs < 2 ^ 64) : OpV (rI CPow fun i j => .int (i ^ j.toNat)) tInt tInt tInt i j (i ^ j.toNat) := ov_I c fun _ => rfl
theorem ov_shl {i j : Int} (c : 0 ≤ j ∧ j ≤ 1000000 ∧ i.natAbs < 2 ^ 64) : OpV (rI CPow fun i j => .int (i * 2 ^ j.toNat)) tInt tInt tInt i j (i * 2 ^ j.toNat) := ov_I c fun _ => rfl
theorem ov_shr {i j : Int} (c : 0 ≤ j) : OpV (rI (fun _ j => 0 ≤ j) fun i j => .int (i / 2 ^ j.toNat)) tInt tInt tInt i j (i / 2 ^ j.toNat) := ov_I c fun _ => rfl
theorem ov_eqI {i j : Int} : OpV rEq tInt tInt tBool i j (decide (i = j)) := fun Hv H v w s e1 e2 Q k => by
  cases e1; cases e2
  exact ⟨rfl, k _ _ _ (Grow.refl s) (congrArg V.bl (by by_cases h : i = j <;> simp [h]))⟩
theorem ov_neI {i j : Int} : OpV rNe tInt tInt tBool i j (!decide (i = j)) := fun Hv H v w s e1 e2 Q k => by
  cases e1; cases e2
  exact ⟨rfl, k _ _ _ (Grow.refl s) (congrArg V.bl (by by_cases h : i = j <;> simp [h]))⟩
theorem ov_eqB {i j : Bool} : OpV rEq tBool tBool tBool i j (decide (i = j)) := fun Hv H v w s e1 e2 Q k => by
  cases e1; cases e2
  exact ⟨rfl, k _ _ _ (Grow.refl s) (congrArg V.bl (by by_cases h : i = j <;> simp [h]))⟩
theorem ov_neB {i j : Bool} : OpV rNe tBool tBool tBool i j (!decide (i = j)) := fun Hv H v w s e1 e2 Q k => by
  cases e1; cases e2
  exact ⟨rfl, k _ _ _ (Grow.refl s) (congrArg V.bl (by by_cases h : i = j <;> simp [h]))⟩
theorem ov_eqS {i j : Str} : OpV rEq tStr tStr tBool i j (decide (i = j)) := fun Hv H v w s e1 e2 Q k => by
  cases e1; cases e2
  exact ⟨rfl, k _ _ _ (Grow.refl s) (congrArg V.bl (by by_cases h : i = j <;> simp [h]))⟩
theorem ov_neS {i j : Str} : OpV rNe tStr tStr tBool i j (!decide (i = j)) := fun Hv H v w s e1 e2 Q k => by
  cases e1; cases e2
  exact ⟨rfl, k _ _ _ (Grow.refl s) (congrArg V.bl (by by_cases h : i = j <;> simp [h]))⟩
theorem sm_un {g : Int → V} {t : TE} {i : Int} (h : Sm B Γ t tInt i) (hz : ∀ H, φ.rep H (g i) z) : Sm B Γ (tUn (rU g) t) φ z := fun σ Hv H w Q k =>
  h σ Hv H w _ fun v Hv1 H1 g1 r1 => ⟨i, r1, k _ _ _ g1 (hz _)⟩
theorem sm_neg {t : TE} {i : Int} (h : Sm B Γ t tInt i) : Sm B Γ (tUn (rU fun i => .int (-i)) t) tInt (-i) := sm_un h fun _ => rfl
theorem sm_isN {t : TE} {o : Option α} (h : Sm B Γ t (tOpt τ) o) : Sm B Γ (tOp (fun x y H Q => y = .non ∧ Q (.bl (decide (x = .non))) H) t (tC .non)) tBool o.isNone := fun σ Hv H w Q k =>
  h σ Hv H w _ fun v Hv1 H1 g1 r1 => ⟨rfl, k _ _ _ g1 (congrArg V.bl (by
    cases o with
    | none => exact decide_eq_true r1
    | some y => exact decide_eq_false r1.1))⟩
theorem sm_notN {t : TE} {o : Option α} (h : Sm B Γ t (tOpt τ) o) : Sm B Γ (tOp (fun x y H Q => y = .non ∧ Q (.bl (!decide (x = .non))) H) t (tC .non)) tBool o.isSome := fun σ Hv H w Q k =>
  h σ Hv H w _ fun v Hv1 H1 g1 r1 => ⟨rfl, k _ _ _ g1 (congrArg V.bl (by
    cases o with
    | none => rw [decide_eq_true (show v = V.non from r1)]; rfl
    | some y => rw [decide_eq_false r1.1]; rfl))⟩
theorem sm_chain {r r' : R2} {ta tb tc : TE} {b b' : Bool} {w : δ} {ψ : Ty δ} (ha : Sm B Γ ta τ x) (hb : Sm B Γ tb υ y) (o : OpV r τ υ tBool x y b) (hc : b = true → Sm B Γ tc ψ w) (o' : b = true → OpV r' υ ψ tBool y w b') : Sm B Γ (tChain r r' ta tb tc) tBool (b && b') := fun σ Hv H wd Q k =>
  ha σ Hv H wd _ fun v Hv1 H1 g1 r1 => hb σ Hv1 H1 (wd.grow g1) _ fun u Hv2 H2 g2 r2 => o Hv2 H2 v u g2.vis (τ.mono g2.v r1) r2 _ fun u' Hv3 H3 g3 r3 => by
    refine ⟨b, r3, ?_⟩
    cases b with
    | false => exact k _ _ _ ((g1.trans g2).trans g3) rfl
    | true => exact hc rfl σ Hv3 H3 (wd.grow ((g1.trans g2).trans g3)) _ fun q Hv4 H4 g4 r4 => o' rfl Hv4 H4 u q g4.vis (υ.mono (Same.trans g3.v g4.v) r2) r4 _ fun q' Hv5 H5 g5 r5 => k _ _ _ ((((g1.trans g2).trans g3).trans g4).trans g5) r5

/-! ### tests, truths -/
theorem smt_tt {t : TE} {b : Bool} (h : Sm B Γ t tBool b) : SmT B Γ (tTest t) b := fun σ Hv H w Q k => h σ Hv H w _ fun v Hv1 H1 g1 r1 => ⟨b, r1, k _ _ g1⟩
theorem smt_b {t : TE} {b : Bool} (h : Sm B Γ t tBool b) : SmT B Γ (tB t) b := fun σ Hv H w Q k => h σ Hv H w _ fun v Hv1 H1 g1 r1 => ⟨b, r1, k _ _ g1⟩
theorem smt_and {t u : TT} {b c : Bool} (h : SmT B Γ t b) (h' : b = true → SmT B Γ u c) : SmT B Γ (tAnd t u) (b && c) := fun σ Hv H w Q k => h σ Hv H w _ fun Hv1 H1 g1 => by
  cases b with
  | false => exact k _ _ g1
  | true => exact h' rfl σ Hv1 H1 (w.grow g1) _ fun Hv2 H2 g2 => k _ _ (g1.trans g2)
theorem smt_or {t u : TT} {b c : Bool} (h : SmT B Γ t b) (h' : b = false → SmT B Γ u c) : SmT B Γ (tOr t u) (b || c) := fun σ Hv H w Q k => h σ Hv H w _ fun Hv1 H1 g1 => by
  cases b with
  | true => exact k _ _ g1
  | false => exact h' rfl σ Hv1 H1 (w.grow g1) _ fun Hv2 H2 g2 => k _ _ (g1.trans g2)
theorem smt_not {t : TT} {b : Bool} (h : SmT B Γ t b) : SmT B Γ (tNot t) (!b) := fun σ Hv H w Q k => h σ Hv H w _ fun Hv1 H1 g1 => k _ _ g1
theorem smt_yes : SmT B Γ tYes true := fun _ _ _ w _ k => k _ _ (Grow.refl w.vis)
theorem sm_andV {t u : TE} {b c : Bool} (h : Sm B Γ t tBool b) (h' : b = true → Sm B Γ u tBool c) : Sm B Γ (tAndV t u) tBool (b && c) := fun σ Hv H w Q k => h σ Hv H w _ fun v Hv1 H1 g1 r1 => by
  refine ⟨b, r1, ?_⟩
  cases b with
  | false => exact k _ _ _ g1 rfl
  | true => exact h' rfl σ Hv1 H1 (w.grow g1) _ fun v Hv2 H2 g2 r2 => k _ _ _ (g1.trans g2) r2
theorem sm_orV {t u : TE} {b c : Bool} (h : Sm B Γ t tBool b) (h' : b = false → Sm B Γ u tBool c) : Sm B Γ (tOrV t u) tBool (b || c) := fun σ Hv H w Q k => h σ Hv H w _ fun v Hv1 H1 g1 r1 => by
  refine ⟨b, r1, ?_⟩
  cases b with
  | true => exact k _ _ _ g1 rfl
  | false => exact h' rfl σ Hv1 H1 (w.grow g1) _ fun v Hv2 H2 g2 r2 => k _ _ _ (g1.trans g2) r2
theorem sm_notV {t : TE} {b : Bool} (h : Sm B Γ t tBool b) : Sm B Γ (tNotV t) tBool (!b) := fun σ Hv H w Q k => h σ Hv H w _ fun v Hv1 H1 g1 r1 => ⟨b, r1, k _ _ _ g1 rfl⟩
theorem sm_if {c : TT} {t u : TE} {b : Bool} {x x' : α} (h : SmT B Γ c b) (h1 : b = true → Sm B Γ t τ x) (h2 : b = false → Sm B Γ u τ x') : Sm B Γ (tIf c t u) τ (bif b then x else x') := fun σ Hv H w Q k => h σ Hv H w _ fun Hv1 H1 g1 => by
  cases b with
  | true => exact h1 rfl σ Hv1 H1 (w.grow g1) _ fun v Hv2 H2 g2 r2 => k _ _ _ (g1.trans g2) r2
  | false => exact h2 rfl σ Hv1 H1 (w.grow g1) _ fun v Hv2 H2 g2 r2 => k _ _ _ (g1.trans g2) r2

/-! ### lists -/
variable {K : PySem.W.Frag}
theorem seq_lt {n : Nat} (h : n ≤ 1000) : n ≤ sizeLine := Nat.le_trans h (by decide)
theorem sm_ix {ta tb : TE} {xs : List α} {i : Int} (ha : SmL B Γ ta τ xs) (hb : Sm B Γ tb tInt i) (h0 : 0 ≤ i) (h : xs[i.toNat]? = some x) : Sm B Γ (tOp (rIxL K) ta tb) τ x := fun σ Hv H w Q k =>
  ha σ Hv H w _ fun a vs Hv1 H1 g1 e1 r1 => hb σ Hv1 H1 (w.grow g1) _ fun v Hv2 H2 g2 r2 => by
    obtain ⟨u, hu, ru⟩ := paired_get' (Paired.up g2.v r1) h
    cases r2
    refine ⟨a, vs, i, u, rfl, rfl, SqL.of (g2.s _ _ e1), ?_, k _ _ _ (g1.trans g2) ru⟩
    have := atI_nat hu
    rw [Int.toNat_of_nonneg h0] at this
    exact this
/-- an item counted from the end -/
theorem sm_ixN {ta tb : TE} {xs : List α} {i : Int} (ha : SmL B Γ ta τ xs) (hb : Sm B Γ tb tInt i) (h0 : i < 0) (h1 : -(xs.length : Int) ≤ i) (h : xs[(i + xs.length).toNat]? = some x) : Sm B Γ (tOp (rIxL K) ta tb) τ x := fun σ Hv H w Q k =>
  ha σ Hv H w _ fun a vs Hv1 H1 g1 e1 r1 => hb σ Hv1 H1 (w.grow g1) _ fun v Hv2 H2 g2 r2 => by
    obtain ⟨u, hu, ru⟩ := paired_get' (Paired.up g2.v r1) h
    cases r2
    refine ⟨a, vs, i, u, rfl, rfl, SqL.of (g2.s _ _ e1), ?_, k _ _ _ (g1.trans g2) ru⟩
    unfold atI ixN
    rw [if_neg (by omega), paired_len r1, if_pos h1]
    exact hu
theorem sm_ixScr {ta tb : TE} {ns : List Int} {i : Int} (ha : Sm B Γ ta (tScr K) ns) (hb : Sm B Γ tb tInt i) (h0 : 0 ≤ i) (h : ns[i.toNat]? = some n) : Sm B Γ (tOp (rIxL K) ta tb) tInt n := fun σ Hv H w Q k =>
  ha σ Hv H w _ fun v Hv1 H1 g1 r1 => hb σ Hv1 H1 (w.grow g1) _ fun u Hv2 H2 g2 r2 => by
    obtain ⟨a, rfl, e⟩ := r1
    cases r2
    refine ⟨a, ns.map V.int, i, .int n, rfl, rfl, Same.seq (Same.trans g2.v g2.vis) e, ?_, k _ _ _ (g1.trans g2) rfl⟩
    have := atI_nat (xs := ns.map V.int) (j := i.toNat) (v := .int n) (by rw [List.getElem?_map, h]; rfl)
    rw [Int.toNat_of_nonneg h0] at this
    exact this
theorem ov_ix0 {p : α × β} : OpV (rIxT K) (tTup2 τ υ) tInt τ p 0 p.1 := fun Hv H v w s ⟨a, v1, v2, e, h, r1, r2⟩ e2 Q k => by
  subst e; cases e2
  exact ⟨a, [v1, v2], 0, v1, rfl, rfl, SqT.of (s _ _ h), rfl, k _ _ _ (Grow.refl s) r1⟩
theorem ov_ix1 {p : α × β} : OpV (rIxT K) (tTup2 τ υ) tInt υ p 1 p.2 := fun Hv H v w s ⟨a, v1, v2, e, h, r1, r2⟩ e2 Q k => by
  subst e; cases e2
  exact ⟨a, [v1, v2], 1, v2, rfl, rfl, SqT.of (s _ _ h), rfl, k _ _ _ (Grow.refl s) r2⟩
theorem sm_len {t : TE} {xs : List α} (h : SmL B Γ t τ xs) : Sm B Γ (tCB (fun xs H Q => ∃ p ys, xs = [.ref p] ∧ (SqL K H p ys ∨ SqT K H p ys) ∧ Q (.int ys.length) H) (tCons t tNil)) tInt (xs.length : Int) := fun σ Hv H w Q k =>
  h σ Hv H w _ fun a vs Hv1 H1 g1 e1 r1 => ⟨a, vs, rfl, .inl (SqL.of e1), k _ _ _ g1 (by rw [paired_len r1]; rfl)⟩
theorem sm_lenScr {t : TE} {ns : List Int} (h : Sm B Γ t (tScr K) ns) : Sm B Γ (tCB (fun xs H Q => ∃ p ys, xs = [.ref p] ∧ (SqL K H p ys ∨ SqT K H p ys) ∧ Q (.int ys.length) H) (tCons t tNil)) tInt (ns.length : Int) := fun σ Hv H w Q k =>
  h σ Hv H w _ fun v Hv1 H1 g1 ⟨a, e, r1⟩ => ⟨a, ns.map V.int, by rw [e], .inl (Same.seq g1.vis r1), k _ _ _ g1 (by rw [List.length_map]; rfl)⟩
theorem sm_lenT {t : TE} {p : α × β} (h : Sm B Γ t (tTup2 τ υ) p) : Sm B Γ (tCB (fun xs H Q => ∃ p ys, xs = [.ref p] ∧ (SqL K H p ys ∨ SqT K H p ys) ∧ Q (.int ys.length) H) (tCons t tNil)) tInt 2 := fun σ Hv H w Q k =>
  h σ Hv H w _ fun v Hv1 H1 g1 ⟨a, v1, v2, e, r1, _⟩ => ⟨a, [v1, v2], by rw [e], .inr (SqT.of (g1.vis _ _ r1)), k _ _ _ g1 rfl⟩
/-- items that are written: all of one type -/
inductive SmI (B : Bs) (Γ : Cxt) (τ : Ty α) : TA → List α → Prop
  | nil : SmI B Γ τ tNil []
  | cons {t : TE} {r : TA} {x : α} {xs : List α} : Sm B Γ t τ x → SmI B Γ τ r xs → SmI B Γ τ (tCons t r) (x :: xs)
theorem SmI.run {t : TA} {xs : List α} (h : SmI B Γ τ t xs) : ∀ (σ : L2.St) (Hv H : Hp), Wd B Γ σ Hv H → ∀ Q : List V → Hp → Prop, (∀ vs Hv' H', Grow Hv H Hv' H' → Paired (τ.rep Hv') vs xs → Q vs H') → t σ H Q := by
  induction h with
  | nil => exact fun σ Hv H w Q k => k _ _ _ (Grow.refl w.vis) .nil
  | cons ha hr ih => exact fun σ Hv H w Q k => ha σ Hv H w _ fun v Hv1 H1 g1 r1 => ih σ Hv1 H1 (w.grow g1) _ fun vs Hv2 H2 g2 r2 => k _ _ _ (g1.trans g2) (.cons (τ.mono g2.v r1) r2)
theorem smo_lst {t : TA} {xs : List α} (h : SmI B Γ τ t xs) (hl : xs.length ≤ 1000) : SmO B Γ (tLst t) τ xs := fun σ Hv H w Q k => h.run σ Hv H w _ fun vs Hv1 H1 g1 r1 => by
  refine ⟨by rw [paired_len r1]; exact seq_lt hl, fun p hp => ?_⟩
  refine k p vs Hv1 _ (g1.trans (Grow.newO g1.vis hp)) (Same.free g1.s hp) upd_same (Same.free g1.vis hp) r1
theorem sm_tup2 {t u : TE} (h : Sm B Γ t τ x) (h' : Sm B Γ u υ y) : Sm B Γ (tTup (tCons t (tCons u tNil))) (tTup2 τ υ) (x, y) := fun σ Hv H w Q k =>
  h σ Hv H w _ fun v Hv1 H1 g1 r1 => h' σ Hv1 H1 (w.grow g1) _ fun u Hv2 H2 g2 r2 => ⟨by show 2 ≤ sizeLine; decide, fun p hp =>
    k _ (upd Hv2 p _) _ ((g1.trans g2).trans (Grow.new g2.vis hp)) ⟨p, v, u, rfl, upd_same, τ.mono (Same.trans g2.v (same_upd (Same.free g2.vis hp))) r1, υ.mono (same_upd (Same.free g2.vis hp)) r2⟩⟩
theorem smo_list {t : TE} {xs : List α} (h : SmL B Γ t τ xs) : SmO B Γ (tCB (fun xs H Q => ∃ p ys, xs = [.ref p] ∧ (SqL K H p ys ∨ SqT K H p ys) ∧ ∀ l, H l = none → Q (.ref l) (upd H l (.lst ys))) (tCons t tNil)) τ xs := fun σ Hv H w Q k =>
  h σ Hv H w _ fun a vs Hv1 H1 g1 e1 r1 => ⟨a, vs, rfl, .inl (SqL.of e1), fun p hp => k p vs Hv1 _ (g1.trans (Grow.newO g1.vis hp)) (Same.free g1.s hp) upd_same (Same.free g1.vis hp) r1⟩
theorem smo_cat {t u : TE} {xs ys : List α} (h : SmL B Γ t τ xs) (h' : SmL B Γ u τ ys) (hl : xs.length + ys.length ≤ 1000) : SmO B Γ (tOp rCat t u) τ (xs ++ ys) := fun σ Hv H w Q k =>
  h σ Hv H w _ fun a vs Hv1 H1 g1 e1 r1 => h' σ Hv1 H1 (w.grow g1) _ fun b us Hv2 H2 g2 e2 r2 => ⟨a, b, vs, us, rfl, rfl, g2.s _ _ e1, e2, by rw [paired_len r1, paired_len r2]; exact seq_lt hl, fun p hp =>
    k p _ Hv2 _ ((g1.trans g2).trans (Grow.newO g2.vis hp)) (Same.free (g1.trans g2).s hp) upd_same (Same.free g2.vis hp) (paired_app (Paired.up g2.v r1) r2)⟩
theorem smo_rep {t u : TE} {x : α} {n : Int} (h : SmL B Γ t τ [x]) (h' : Sm B Γ u tInt n) (hl : 0 ≤ n ∧ n ≤ 1000) : SmO B Γ (tOp rRep t u) τ (List.replicate n.toNat x) := fun σ Hv H w Q k =>
  h σ Hv H w _ fun a vs Hv1 H1 g1 e1 r1 => h' σ Hv1 H1 (w.grow g1) _ fun u Hv2 H2 g2 e2 => by
    cases e2
    cases r1 with
    | cons ra rn =>
      cases rn
      rename_i va
      refine ⟨a, n, [va], rfl, rfl, g2.s _ _ e1, by omega, by omega, ?_, fun p hp => ?_⟩
      · show 1 * n.toNat ≤ sizeLine
        rw [Nat.one_mul]
        exact seq_lt (by omega)
      · refine k p _ Hv2 _ ((g1.trans g2).trans (Grow.newO g2.vis hp)) (Same.free (g1.trans g2).s hp) upd_same (Same.free g2.vis hp) ?_
        have e : (List.replicate n.toNat [va]).flatten = List.replicate n.toNat va := by simp
        rw [e]
        exact paired_rep (τ.mono g2.v ra) _
end
end VC

set_option Elab.async false
set_option maxRecDepth 100000
set_option maxHeartbeats 4000000
namespace VC
open PySem PySem.Spec L2

/-! ### slots forgotten -/
def dels : List Nat → Cxt → Cxt
  | [], Γ => Γ
  | i :: is, Γ => del i (dels is Γ)
theorem getElem?_setN {σ : L2.St} {i j : Nat} {x : Option V} : (σ.set i x)[j]? = if i = j then (if j < σ.length then some x else none) else σ[j]? := by
  rw [List.getElem?_set]
  by_cases h : i = j
  · subst h; rfl
  · rw [if_neg h, if_neg h]
theorem Wd.forget {B : Bs} {Γ : Cxt} {σ : L2.St} {Hv H : Hp} (w : Wd B Γ σ Hv H) (i : Nat) (x : Option V) : Wd B (del i Γ) (σ.set i x) Hv H where
  len := by rw [List.length_set]; exact w.len
  vis := w.vis
  s0 := w.s0
  a0 := w.a0
  v0 := w.v0
  nw := w.nw
  ent := fun j e m => by
    obtain ⟨hj, m⟩ := del_mem m
    have z := w.ent j e m
    cases e with
    | fz => obtain ⟨u, h1, h2⟩ := z; exact ⟨u, by rw [List.getElem?_set_ne (Ne.symm hj)]; exact h1, h2⟩
    | cl => obtain ⟨l, vs, h1, h2⟩ := z; exact ⟨l, vs, by rw [List.getElem?_set_ne (Ne.symm hj)]; exact h1, h2⟩
    | gh => exact z
    | ob => obtain ⟨fs, h1, h2⟩ := z; exact ⟨fs, by rw [List.getElem?_set_ne (Ne.symm hj)]; exact h1, h2⟩
  new := fun j e l m c s => by
    obtain ⟨hj, m⟩ := del_mem m
    rw [List.getElem?_set_ne (Ne.symm hj)] at s
    exact w.new j e l m c s
  dis := fun j k e f l m m' c c' n s s' => by
    obtain ⟨hj, m⟩ := del_mem m
    obtain ⟨hk, m'⟩ := del_mem m'
    rw [List.getElem?_set_ne (Ne.symm hj)] at s
    rw [List.getElem?_set_ne (Ne.symm hk)] at s'
    exact w.dis j k e f l m m' c c' n s s'
theorem Wd.wiped {B : Bs} {Γ : Cxt} {σ : L2.St} {Hv H : Hp} (w : Wd B Γ σ Hv H) : ∀ vs : List Nat, Wd B (dels vs Γ) (wipe σ vs) Hv H
  | [] => w
  | i :: vs => (w.wiped vs).forget i none
theorem wipe_get (σ : L2.St) : ∀ (vs : List Nat) (j : Nat), (wipe σ vs)[j]? = if j ∈ vs then (if j < σ.length then some none else none) else σ[j]?
  | [], j => by simp [wipe]
  | i :: vs, j => by
    unfold wipe
    rw [getElem?_setN, wipe_length, wipe_get σ vs j]
    by_cases h : i = j
    · subst h
      simp
    · rw [if_neg h]
      by_cases h' : j ∈ vs
      · simp [h']
      · have : ¬ j ∈ i :: vs := by simp [h', Ne.symm h]
        rw [if_neg h', if_neg this]
theorem wipe_eq {σ σ' : L2.St} {vs is : List Nat} (hl : σ'.length = σ.length) (h : ∀ j, j ∉ is → σ'[j]? = σ[j]?) (hi : ∀ i ∈ is, i ∈ vs) : wipe σ' vs = wipe σ vs := by
  apply List.ext_getElem?
  intro j
  rw [wipe_get, wipe_get, hl]
  by_cases hj : j ∈ vs
  · rw [if_pos hj, if_pos hj]
  · rw [if_neg hj, if_neg hj]
    exact h j fun z => hj (hi j z)
theorem wipe_wipe (σ : L2.St) (vs : List Nat) : wipe (wipe σ vs) vs = wipe σ vs := wipe_eq (is := vs) (wipe_length σ vs) (fun j hj => by rw [wipe_get, if_neg hj]) fun _ h => h

/-! ### targets -/
structure Tgt {α : Type} (B : Bs) (g : TG) (τ : Ty α) (up : α → Cxt → Cxt) (is : List Nat) : Prop where
  run : ∀ (Γ : Cxt) (σ : L2.St) (Hv H : Hp) (v : V) (x : α), Wd B Γ σ Hv H → τ.rep Hv v x → ∀ Q : L2.St → Hp → Prop, (∀ σ', Wd B (up x Γ) σ' Hv H → σ'.length = σ.length → (∀ j, j ∉ is → σ'[j]? = σ[j]?) → Q σ' H) → g v σ H Q
theorem tgt_name {α : Type} {B : Bs} {τ : Ty α} {i : Nat} (hi : i < B.n) : Tgt B (gName i) τ (fun x => put i (.fz τ x)) [i] :=
  ⟨fun Γ σ Hv H v x w r Q k => k _ (w.put i hi r) (List.length_set) fun j hj => by rw [List.getElem?_set_ne]; intro e; exact hj (by simp [e])⟩
theorem tgt_tup {α β : Type} {K : PySem.W.Frag} {B : Bs} {τ : Ty α} {υ : Ty β} {i j : Nat} (hi : i < B.n) (hj : j < B.n) : Tgt B (gTup K 2 (gCons (gName i) (gCons (gName j) gNil))) (tTup2 τ υ) (fun x Γ => put j (.fz υ x.2) (put i (.fz τ x.1) Γ)) [i, j] :=
  ⟨fun Γ σ Hv H v x w ⟨a, v1, v2, e, h, r1, r2⟩ Q k => ⟨a, [v1, v2], e, SqT.of (w.vis _ _ h), rfl, v1, [v2], rfl, v2, [], rfl, rfl, k _ ((w.put i hi r1).put j hj r2) (by rw [List.length_set, List.length_set]) fun k hk => by
    rw [List.getElem?_set_ne, List.getElem?_set_ne]
    · intro e; exact hk (by simp [e])
    · intro e; exact hk (by simp [e])⟩⟩

/-! ### what is walked -/
def SmW {α : Type} (B : Bs) (Γ : Cxt) (fr : Bool) (wi : TI) (τ : Ty α) (ys : List α) : Prop := ∀ (σ : L2.St) (Hv H : Hp), Wd B Γ σ Hv H → ∀ R : It → Hp → Prop,
  (∀ (J : It) (Gd : Hp → Prop) (Y : Nat → Hp → V → Hp → Prop) (Hv' H' : Hp), Grow Hv H Hv' H' → Walk J ys.length Gd Y →
    (∀ Hv'' H'', Same Hv' Hv'' → Same Hv'' H'' → (fr = false → Same H' H'') → Gd H'') →
    (∀ i H1 v H2 Hv1, i < ys.length → Same Hv' Hv1 → Same Hv1 H1 → (fr = false → Same H' H1) → Y i H1 v H2 → ∃ Hv2 y, Grow Hv1 H1 Hv2 H2 ∧ ys[i]? = some y ∧ τ.rep Hv2 v y) → R J H') → wi σ H R
section
variable {B : Bs} {Γ : Cxt} {α β : Type} {τ : Ty α} {υ : Ty β} {K : PySem.W.Frag} {fr : Bool}
theorem smw_core {t : TE} {xs : List α} {a : Addr} {vs : List V} {Hv' H' : Hp} (r : Paired (τ.rep Hv') vs xs) (hG : ∀ Hv'' H'', Same Hv' Hv'' → Same Hv'' H'' → (fr = false → Same H' H'') → SqL K H'' a vs) :
    Walk (Itl K a) xs.length (fun H => SqL K H a vs) (YAt vs) ∧ (∀ i H1 v H2 Hv1, i < xs.length → Same Hv' Hv1 → Same Hv1 H1 → (fr = false → Same H' H1) → YAt vs i H1 v H2 → ∃ Hv2 y, Grow Hv1 H1 Hv2 H2 ∧ xs[i]? = some y ∧ τ.rep Hv2 v y) := by
  refine ⟨paired_len r ▸ walk_list, fun i H1 v H2 Hv1 hi s1 s2 _ y => ?_⟩
  obtain ⟨rfl, e⟩ := y
  obtain ⟨y, e2, r2⟩ := paired_get r e
  exact ⟨Hv1, y, Grow.refl s2, e2, τ.mono s1 r2⟩
/-- a list that is read, in a comprehension -/
theorem smw_list {t : TE} {xs : List α} (h : SmL B Γ t τ xs) : SmW B Γ false (iList K t) τ xs := fun σ Hv H w R k =>
  h σ Hv H w _ fun a vs Hv' H' g e r => by
    have c := smw_core (K := K) (fr := false) (t := t) (a := a) (H' := H') r fun Hv'' H'' s1 s2 s3 => SqL.of (s3 rfl _ _ e)
    exact ⟨a, rfl, ⟨vs, SqL.of e⟩, k _ _ _ Hv' H' g c.1 (fun Hv'' H'' s1 s2 s3 => SqL.of (s3 rfl _ _ e)) c.2⟩
/-- a list that stands still -/
theorem smw_listF {t : TE} {xs : List α} (h : Sm B Γ t (tList τ) xs) : SmW B Γ fr (iList K t) τ xs := fun σ Hv H w R k =>
  h σ Hv H w _ fun v Hv' H' g ⟨a, vs, ev, e, r⟩ => by
    have c := smw_core (K := K) (fr := fr) (t := t) (a := a) (H' := H') r fun Hv'' H'' s1 s2 s3 => SqL.of (s2 _ _ (s1 _ _ e))
    exact ⟨a, ev, ⟨vs, SqL.of (g.vis _ _ e)⟩, k _ _ _ Hv' H' g c.1 (fun Hv'' H'' s1 s2 s3 => SqL.of (s2 _ _ (s1 _ _ e))) c.2⟩
theorem smw_scr {t : TE} {ns : List Int} (h : Sm B Γ t (tScr K) ns) : SmW B Γ fr (iList K t) tInt ns := fun σ Hv H w R k =>
  h σ Hv H w _ fun v Hv' H' g ⟨a, ev, e⟩ => by
    have c := smw_core (τ := tInt) (K := K) (fr := fr) (t := t) (a := a) (H' := H') (Hv' := Hv') int_paired fun Hv'' H'' s1 s2 s3 => Same.seq (Same.trans s1 s2) e
    exact ⟨a, ev, ⟨_, Same.seq g.vis e⟩, k _ _ _ Hv' H' g c.1 (fun Hv'' H'' s1 s2 s3 => Same.seq (Same.trans s1 s2) e) c.2⟩
def rangeL (i j : Int) : List Int := (List.range (j - i).toNat).map fun (k : Nat) => i + (k : Int)
theorem rangeL_len {i j : Int} : (rangeL i j).length = (j - i).toNat := by simp [rangeL]
theorem rangeL_get {i j : Int} {k : Nat} (h : k < (j - i).toNat) : (rangeL i j)[k]? = some (i + k) := by simp [rangeL, h]
theorem rangeL_get_iff {i j : Int} {k : Nat} {x : Int} : (rangeL i j)[k]? = some x ↔ k < (j - i).toNat ∧ x = i + k := by
  unfold rangeL
  rw [List.getElem?_map]
  by_cases h : k < (j - i).toNat
  · rw [List.getElem?_range h]
    simp only [Option.map_some, Option.some.injEq]
    exact ⟨fun e => ⟨h, e.symm⟩, fun e => e.2.symm⟩
  · rw [List.getElem?_eq_none (by simpa using h)]
    simp [h]
theorem rangeL0_iff {j : Int} {k : Nat} {x : Int} : (rangeL 0 j)[k]? = some x ↔ (k : Int) < j ∧ x = k := by
  rw [rangeL_get_iff, Int.zero_add, Int.sub_zero]
  exact ⟨fun ⟨h, e⟩ => ⟨by omega, e⟩, fun ⟨h, e⟩ => ⟨by omega, e⟩⟩
theorem rangeL_mem {i j x : Int} : x ∈ rangeL i j ↔ i ≤ x ∧ x < j := by
  unfold rangeL
  simp only [List.mem_map, List.mem_range]
  constructor
  · rintro ⟨k, h, rfl⟩
    omega
  · intro h
    exact ⟨(x - i).toNat, by omega, by omega⟩
theorem smw_range2 {t u : TE} {i j : Int} (h : Sm B Γ t tInt i) (h' : Sm B Γ u tInt j) (hb : -(2 ^ 62) ≤ i ∧ i < 2 ^ 62 ∧ -(2 ^ 62) ≤ j ∧ j < 2 ^ 62) : SmW B Γ fr (iRng2 (tCons t (tCons u tNil))) tInt (rangeL i j) := fun σ Hv H w R k =>
  h σ Hv H w _ fun v Hv1 H1 g1 r1 => h' σ Hv1 H1 (w.grow g1) _ fun u Hv2 H2 g2 r2 => by
    cases r1; cases r2
    refine ⟨i, j, rfl, hb, k _ _ _ Hv2 H2 (g1.trans g2) (by rw [rangeL_len]; exact walk_range) (fun _ _ _ _ _ => trivial) fun m H1 v H2 Hv1 hm s1 s2 _ y => ?_⟩
    obtain ⟨rfl, rfl⟩ := y
    rw [rangeL_len] at hm
    exact ⟨Hv1, i + m, Grow.refl s2, rangeL_get hm, rfl⟩
theorem smw_range1 {t : TE} {j : Int} (h : Sm B Γ t tInt j) (hb : -(2 ^ 62) ≤ j ∧ j < 2 ^ 62) : SmW B Γ fr (iRng1 (tCons t tNil)) tInt (rangeL 0 j) := fun σ Hv H w R k =>
  h σ Hv H w _ fun v Hv1 H1 g1 r1 => by
    cases r1
    refine ⟨j, rfl, hb.1, hb.2, k _ _ _ Hv1 H1 g1 (by rw [rangeL_len, Int.sub_zero]; exact walk_range) (fun _ _ _ _ _ => trivial) fun m H1 v H2 Hv1 hm s1 s2 _ y => ?_⟩
    obtain ⟨rfl, rfl⟩ := y
    rw [rangeL_len] at hm
    exact ⟨Hv1, 0 + m, Grow.refl s2, rangeL_get hm, rfl⟩
def enumL (xs : List α) : List (Int × α) := xs.mapIdx fun i x => ((i : Int), x)
theorem enumL_len {xs : List α} : (enumL xs).length = xs.length := by simp [enumL]
theorem enumL_get {xs : List α} {i : Nat} : (enumL xs)[i]? = xs[i]?.map fun x => ((i : Int), x) := by simp [enumL]
theorem enumL_iff {xs : List α} {i : Nat} {p : Int × α} : (enumL xs)[i]? = some p ↔ p.1 = i ∧ xs[i]? = some p.2 := by
  rw [enumL_get]
  cases e : xs[i]? with
  | none => simp
  | some x =>
    obtain ⟨a, b⟩ := p
    simp only [Option.map_some, Option.some.injEq, Prod.mk.injEq]
    exact ⟨fun ⟨h1, h2⟩ => ⟨h1.symm, h2⟩, fun ⟨h1, h2⟩ => ⟨h1.symm, h2⟩⟩
theorem smw_enumF {t : TE} {xs : List α} (h : Sm B Γ t (tList τ) xs) : SmW B Γ fr (iEnum K (tCons t tNil)) (tTup2 tInt τ) (enumL xs) := fun σ Hv H w R k =>
  h σ Hv H w _ fun v Hv' H' g ⟨a, vs, ev, e, r⟩ => by
    refine ⟨a, vs, by rw [ev], SqL.of (g.vis _ _ e), k _ _ _ Hv' H' g (by rw [enumL_len, ← paired_len r]; exact walk_enum) (fun Hv'' H'' s1 s2 s3 => SqL.of (s2 _ _ (s1 _ _ e))) fun i H1 v H2 Hv1 hi s1 s2 _ y => ?_⟩
    obtain ⟨T, x, y, rfl, hT, rfl, e1, e2⟩ := y
    cases e1
    obtain ⟨z, e3, r3⟩ := paired_get r e2
    refine ⟨upd Hv1 T _, (i, z), Grow.new s2 hT, by rw [enumL_get, e3]; rfl, T, .int i, y, rfl, upd_same, rfl, ?_⟩
    exact τ.mono (Same.trans s1 (same_upd (Same.free s2 hT))) r3
theorem smw_enum {t : TE} {xs : List α} (h : SmL B Γ t τ xs) : SmW B Γ false (iEnum K (tCons t tNil)) (tTup2 tInt τ) (enumL xs) := fun σ Hv H w R k =>
  h σ Hv H w _ fun a vs Hv' H' g e r => by
    refine ⟨a, vs, rfl, SqL.of e, k _ _ _ Hv' H' g (by rw [enumL_len, ← paired_len r]; exact walk_enum) (fun Hv'' H'' s1 s2 s3 => SqL.of (s3 rfl _ _ e)) fun i H1 v H2 Hv1 hi s1 s2 _ y => ?_⟩
    obtain ⟨T, x, y, rfl, hT, rfl, e1, e2⟩ := y
    cases e1
    obtain ⟨z, e3, r3⟩ := paired_get r e2
    refine ⟨upd Hv1 T _, (i, z), Grow.new s2 hT, by rw [enumL_get, e3]; rfl, T, .int i, y, rfl, upd_same, rfl, ?_⟩
    exact τ.mono (Same.trans s1 (same_upd (Same.free s2 hT))) r3
theorem smw_zipF {t u : TE} {xs : List α} {ys : List β} (h : Sm B Γ t (tList τ) xs) (h' : Sm B Γ u (tList υ) ys) : SmW B Γ fr (iZip K (tCons t (tCons u tNil))) (tTup2 τ υ) (xs.zip ys) := fun σ Hv H w R k =>
  h σ Hv H w _ fun v Hv1 H1 g1 ⟨a, vs, ev, e, r⟩ => h' σ Hv1 H1 (w.grow g1) _ fun v' Hv' H' g2 ⟨b, us, ev', e', r'⟩ => by
    have r := Paired.up g2.v r
    have e := g2.v _ _ e
    refine ⟨a, b, vs, us, by rw [ev, ev'], SqL.of (g2.vis _ _ e), SqL.of (g2.vis _ _ e'), k _ _ _ Hv' H' (g1.trans g2) (walk_zip (by rw [List.length_zip, paired_len r, paired_len r'])) (fun Hv'' H'' s1 s2 s3 => ⟨SqL.of (s2 _ _ (s1 _ _ e)), SqL.of (s2 _ _ (s1 _ _ e'))⟩) fun i H1 v H2 Hv1 hi s1 s2 _ y => ?_⟩
    obtain ⟨T, x, y, rfl, hT, rfl, e1, e2⟩ := y
    obtain ⟨z, e3, r3⟩ := paired_get r e1
    obtain ⟨z', e4, r4⟩ := paired_get r' e2
    have q := same_upd (o := .tup [x, y]) (Same.free s2 hT)
    refine ⟨upd Hv1 T _, (z, z'), Grow.new s2 hT, by rw [List.getElem?_zip_eq_some]; exact ⟨e3, e4⟩, T, x, y, rfl, upd_same, τ.mono (Same.trans s1 q) r3, υ.mono (Same.trans s1 q) r4⟩
theorem smw_zip {t u : TE} {xs : List α} {ys : List β} (h : SmL B Γ t τ xs) (h' : SmL B Γ u υ ys) : SmW B Γ false (iZip K (tCons t (tCons u tNil))) (tTup2 τ υ) (xs.zip ys) := fun σ Hv H w R k =>
  h σ Hv H w _ fun a vs Hv1 H1 g1 e r => h' σ Hv1 H1 (w.grow g1) _ fun b us Hv' H' g2 e' r' => by
    have r := Paired.up g2.v r
    have e := g2.s _ _ e
    refine ⟨a, b, vs, us, rfl, SqL.of e, SqL.of e', k _ _ _ Hv' H' (g1.trans g2) (walk_zip (by rw [List.length_zip, paired_len r, paired_len r'])) (fun Hv'' H'' s1 s2 s3 => ⟨SqL.of (s3 rfl _ _ e), SqL.of (s3 rfl _ _ e')⟩) fun i H1 v H2 Hv1 hi s1 s2 _ y => ?_⟩
    obtain ⟨T, x, y, rfl, hT, rfl, e1, e2⟩ := y
    obtain ⟨z, e3, r3⟩ := paired_get r e1
    obtain ⟨z', e4, r4⟩ := paired_get r' e2
    have q := same_upd (o := .tup [x, y]) (Same.free s2 hT)
    refine ⟨upd Hv1 T _, (z, z'), Grow.new s2 hT, by rw [List.getElem?_zip_eq_some]; exact ⟨e3, e4⟩, T, x, y, rfl, upd_same, τ.mono (Same.trans s1 q) r3, υ.mono (Same.trans s1 q) r4⟩
theorem smw_revF {t : TE} {xs : List α} (h : Sm B Γ t (tList τ) xs) : SmW B Γ fr (iRev K (tCons t tNil)) τ xs.reverse := fun σ Hv H w R k =>
  h σ Hv H w _ fun v Hv' H' g ⟨a, vs, ev, e, r⟩ => by
    refine ⟨a, vs, by rw [ev], SqL.of (g.vis _ _ e), k _ _ _ Hv' H' g (by rw [List.length_reverse, ← paired_len r]; exact walk_rev) (fun Hv'' H'' s1 s2 s3 => SqL.of (s2 _ _ (s1 _ _ e))) fun i H1 v H2 Hv1 hi s1 s2 _ y => ?_⟩
    obtain ⟨rfl, e1⟩ := y
    obtain ⟨z, e3, r3⟩ := paired_get r e1
    rw [List.length_reverse] at hi
    refine ⟨Hv1, z, Grow.refl s2, ?_, τ.mono s1 r3⟩
    rw [List.getElem?_reverse hi]
    rw [paired_len r] at e3
    exact e3

/-! ### comprehensions -/
theorem take_filter_map {ys : List α} {p : α → Bool} {f : α → β} {i : Nat} {y : α} (h : ys[i]? = some y) : ((ys.take (i + 1)).filter p).map f = ((ys.take i).filter p).map f ++ (bif p y then [f y] else []) := by
  obtain ⟨hi, rfl⟩ := List.getElem?_eq_some_iff.mp h
  rw [List.take_succ_eq_append_getElem hi, List.filter_append, List.map_append]
  congr 1
  cases e : p ys[i] <;> simp [e]
theorem smo_lc {wi : TI} {g : TG} {tt : TT} {te : TE} {vs is : List Nat} {up : α → Cxt → Cxt} {ys : List α} {p : α → Bool} {f : α → β} (hs : SmW B Γ false wi τ ys) (hg : Tgt B g τ up is) (hi : ∀ i ∈ is, i ∈ vs) (hl : ys.length ≤ 1000)
    (ht : ∀ x ∈ ys, SmT B (up x (dels vs Γ)) tt (p x)) (he : ∀ x ∈ ys, p x = true → Sm B (up x (dels vs Γ)) te υ (f x)) : SmO B Γ (tLc wi g tt te vs) υ ((ys.filter p).map f) := fun σ Hv H w Q k =>
  hs σ Hv H w _ fun J Gd Y Hv1 H1 g1 wk hG hY => fun D hD => by
    have w1 := w.grow g1
    refine lc_it wk (fun i H' => ∃ Hv' acc, Grow Hv1 H1 Hv' H' ∧ H' D = some (.lst acc) ∧ Hv' D = none ∧ Paired (υ.rep Hv') acc (((ys.take i).filter p).map f)) ?_ ?_ ?_ ?_
    · exact ⟨Hv1, [], Grow.newO g1.vis hD, upd_same, Same.free g1.vis hD, .nil⟩
    · rintro i H' _ ⟨Hv', acc, g2, _⟩
      exact hG Hv' H' g2.v g2.vis fun _ => g2.s
    · rintro i x H' H'' hlt ⟨Hv', acc, g2, hacc, hhid, hp⟩ y
      obtain ⟨Hv2, z, g3, ez, rz⟩ := hY i H' x H'' Hv' hlt g2.v g2.vis (fun _ => g2.s) y
      have mz : z ∈ ys := List.mem_of_getElem? ez
      have w2 := ((w1.grow g2).grow g3).wiped vs
      refine hg.run _ _ Hv2 H'' x z w2 rz _ fun σ' w3 hl' hj => ?_
      refine ⟨by rw [wipe_eq (is := is) hl' hj hi, wipe_wipe], ?_⟩
      refine ht z mz σ' Hv2 H'' w3 _ fun Hv3 H3 g4 => ?_
      have hd3 : H3 D = some (.lst acc) := g4.s _ _ (g3.s _ _ hacc)
      have nD : ∀ {A : Hp}, H'' D ≠ none := fun {A} => by rw [g3.s _ _ hacc]; exact fun z => nomatch z
      have hh2 : Hv2 D = none := g3.nw D (by rw [hacc]; exact fun z => nomatch z) hhid
      have hh3 : Hv3 D = none := g4.nw D (by rw [g3.s _ _ hacc]; exact fun z => nomatch z) hh2
      cases ep : p z with
      | false =>
        refine iteF ⟨Hv3, acc, (g2.trans g3).trans g4, hd3, hh3, ?_⟩
        rw [take_filter_map ez, ep]
        simpa using Paired.up (Same.trans g3.v g4.v) hp
      | true =>
        refine iteT ?_
        refine he z mz ep σ' Hv3 H3 (w3.grow g4) _ fun u Hv4 H4 g5 ru => ?_
        have hd4 : H4 D = some (.lst acc) := g5.s _ _ hd3
        have hh4 : Hv4 D = none := g5.nw D (by rw [hd3]; exact fun z => nomatch z) hh3
        have gg := ((g2.trans g3).trans g4).trans g5
        refine ⟨acc, hd4, ?_, Hv4, acc ++ [u], ⟨?_, gg.v, ?_, gg.nw⟩, upd_same, hh4, ?_⟩
        · rw [paired_len hp, List.length_map]
          refine Nat.lt_of_le_of_lt (Nat.le_trans (List.length_filter_le _ _) (by rw [List.length_take]; omega)) (show 1000 < sizeLine by decide)
        · intro b o e
          have hb : b ≠ D := ne_of_none e hD
          rw [upd_ne hb]
          exact gg.s _ _ e
        · intro b o e
          have hb : b ≠ D := ne_of_none e hh4
          rw [upd_ne hb]
          exact gg.vis _ _ e
        · rw [take_filter_map ez, ep]
          exact paired_app (Paired.up (Same.trans (Same.trans g3.v g4.v) g5.v) hp) (.cons ru .nil)
    · rintro H' ⟨Hv', acc, g2, hacc, hhid, hp⟩
      rw [List.take_length] at hp
      exact k D acc Hv' H' (g1.trans g2) (Same.free g1.s hD) hacc hhid hp
theorem smo_lc0 {wi : TI} {g : TG} {te : TE} {vs is : List Nat} {up : α → Cxt → Cxt} {ys : List α} {f : α → β} (hs : SmW B Γ false wi τ ys) (hg : Tgt B g τ up is) (hi : ∀ i ∈ is, i ∈ vs) (hl : ys.length ≤ 1000)
    (he : ∀ x ∈ ys, Sm B (up x (dels vs Γ)) te υ (f x)) : SmO B Γ (tLc wi g tYes te vs) υ (ys.map f) :=
  (smo_lc (p := fun _ => true) hs hg hi hl (fun _ _ => smt_yes) fun x m _ => he x m).cast (by congr 1; exact List.filter_eq_self.mpr fun _ _ => rfl)
end
end VC

set_option Elab.async false
set_option maxRecDepth 100000
set_option maxHeartbeats 4000000
namespace VC
open PySem PySem.Spec L2

/-! ### statements -/
def G (B : Bs) (t : TS) (Γ : Cxt) (D : Ends) : Prop := ∀ (σ : L2.St) (Hv H : Hp), Wd B Γ σ Hv H → t D σ H
/-- the same entry, later -/
structure Le (B0 B : Bs) : Prop where
  h0 : B.H0 = B0.H0
  ow : B.own = B0.own
  n : B.n = B0.n
  v0 : Same B0.Hv0 B.Hv0
  nw : ∀ b, ¬ B0.own b → B0.H0 b ≠ none → B0.Hv0 b = none → B.Hv0 b = none
theorem Le.refl (B : Bs) : Le B B := ⟨rfl, rfl, rfl, Same.refl _, fun _ _ _ h => h⟩
theorem Le.trans {A B C : Bs} (a : Le A B) (b : Le B C) : Le A C :=
  ⟨b.h0.trans a.h0, b.ow.trans a.ow, b.n.trans a.n, Same.trans a.v0 b.v0, fun x h1 h2 h3 => b.nw x (by rw [a.ow]; exact h1) (by rw [a.h0]; exact h2) (a.nw x h1 h2 h3)⟩
section
variable {B B0 B1 : Bs} {Γ : Cxt} {α β : Type} {τ : Ty α} {υ : Ty β} {x : α} {D : Ends} {K : PySem.W.Frag} {σ : L2.St} {Hv H : Hp}
theorem Wd.down (w : Wd B1 Γ σ Hv H) (l : Le B B1) : Wd B Γ σ Hv H where
  len := w.len.trans l.n
  vis := w.vis
  s0 := fun b o n e => w.s0 b o (by rw [l.ow]; exact n) (by rw [l.h0]; exact e)
  a0 := fun b n => w.a0 b (by rw [l.h0]; exact n)
  v0 := Same.trans l.v0 w.v0
  nw := fun b n h z => w.nw b (by rw [l.ow]; exact n) (by rw [l.h0]; exact h) (l.nw b n h z)
  ent := w.ent
  new := fun i e q m c s => by have := w.new i e q m c s; rw [l.h0, l.ow] at this; exact this
  dis := w.dis
theorem Wd.rise (w : Wd B Γ σ Hv H) : Le B { B with Hv0 := Hv } ∧ Wd { B with Hv0 := Hv } Γ σ Hv H :=
  ⟨⟨rfl, rfl, rfl, w.v0, w.nw⟩, ⟨w.len, w.vis, w.s0, w.a0, Same.refl _, fun _ _ _ h => h, w.ent, w.new, w.dis⟩⟩
theorem Wd.gr (w : Wd B Γ σ Hv H) (no : ∀ b, ¬ B.own b) : Grow B.Hv0 B.H0 Hv H := ⟨fun b o e => w.s0 b o (no b) e, w.v0, w.vis, fun b n z => w.nw b (no b) n z⟩

theorem g_assoc {s r u : TS} (h : G B (tSeq s (tSeq r u)) Γ D) : G B (tSeq (tSeq s r) u) Γ D := h
theorem g_next {u : TS} (h : G B u Γ D) : G B (tSeq tNext u) Γ D := h
theorem g_asg {te : TE} {i : Nat} {u : TS} (hi : i < B.n) (he : Sm B Γ te τ x) (h : ∀ y, y = x → G B u (put i (.fz τ y) Γ) D) : G B (tSeq (tAsg te (gName i)) u) Γ D := fun σ Hv H w =>
  he σ Hv H w _ fun v Hv1 H1 g1 r1 => h x rfl _ Hv1 H1 ((w.grow g1).put i hi r1)
theorem g_asgO {te : TE} {i : Nat} {u : TS} {xs : List α} (hi : i < B.n) (he : SmO B Γ te τ xs) (h : ∀ ys, ys = xs → G B u (put i (.cl τ ys) Γ) D) : G B (tSeq (tAsg te (gName i)) u) Γ D := fun σ Hv H w =>
  he σ Hv H w _ fun l vs Hv1 H1 g1 e0 e1 e2 r1 => by
    have w1 := w.grow g1
    refine h xs rfl _ Hv1 H1 (w1.putO i hi ⟨e1, e2, ?_, fun j e m c s => ?_⟩ r1)
    · cases q : B.H0 l with
      | none => exact .inl rfl
      | some o => exact absurd e0 (w.a0 l (by rw [q]; exact fun z => nomatch z))
    · cases e with
      | cl τ' zs =>
        obtain ⟨l', ws, h1, h2, _⟩ := w.ent j _ m
        rw [s] at h1
        cases h1
        rw [e0] at h2
        cases h2
      | ob l' dx C as =>
        obtain ⟨fs, h1, h2, _⟩ := w.ent j _ m
        rw [s] at h1
        cases h1
        rw [e0] at h2
        cases h2
      | fz => cases c
      | gh => cases c
/-- a, b = e -/
theorem g_asgT {te : TE} {i j : Nat} {u : TS} {p : α × β} (hi : i < B.n) (hj : j < B.n) (he : Sm B Γ te (tTup2 τ υ) p) (h : ∀ y z, y = p.1 → z = p.2 → G B u (put j (.fz υ z) (put i (.fz τ y) Γ)) D) :
    G B (tSeq (tAsg te (gTup K 2 (gCons (gName i) (gCons (gName j) gNil)))) u) Γ D := fun σ Hv H w =>
  he σ Hv H w _ fun v Hv1 H1 g1 r1 => (tgt_tup (τ := τ) (υ := υ) hi hj).run _ _ _ _ _ _ (w.grow g1) r1 _ fun σ' w' _ _ => h _ _ rfl rfl _ _ _ w'
theorem g_if {c : TT} {t e u : TS} {b : Bool} (hc : SmT B Γ c b) (h1 : b = true → G B (tSeq t u) Γ D) (h2 : b = false → G B (tSeq e u) Γ D) : G B (tSeq (tIfS c t e) u) Γ D := fun σ Hv H w =>
  hc σ Hv H w _ fun Hv1 H1 g1 => by
    cases b with
    | true => exact iteT (h1 rfl σ Hv1 H1 (w.grow g1))
    | false => exact iteF (h2 rfl σ Hv1 H1 (w.grow g1))
theorem g_drop {te : TE} {u : TS} (he : Sm B Γ te τ x) (h : G B u Γ D) : G B (tSeq (tDrop te) u) Γ D := fun σ Hv H w => he σ Hv H w _ fun v Hv1 H1 g1 r1 => h σ Hv1 H1 (w.grow g1)
/-- the own list at i stands still from now on -/
theorem g_freeze {t : TS} {xs : List α} (i : Nat) (m : get i Γ = some (.cl τ xs)) (h : G B t (put i (.fz (tList τ) xs) Γ) D) : G B t Γ D := fun σ Hv H w => by
  obtain ⟨Hv', _, w'⟩ := w.freeze i (get_mem m)
  exact h σ Hv' H w'
theorem g_append {te : TE} {i : Nat} {u : TS} {xs : List α} (m : get i Γ = some (.cl τ xs)) (he : Sm B Γ te τ x) (hl : xs.length < 1000) (h : ∀ ys, ys = xs ++ [x] → G B u (put i (.cl τ ys) Γ) D) :
    G B (tSeq (tDrop (tBM K "list" rAppend (tVar i) (tCons te tNil))) u) Γ D := fun σ Hv H w => by
  obtain ⟨l, vs, e1, e2, e3, r⟩ := w.ent i _ (get_mem m)
  refine ⟨_, e1, .inl ⟨rfl, vs, SqL.of e2⟩, he σ Hv H w _ fun v Hv1 H1 g1 r1 => ?_⟩
  refine ⟨l, vs, v, rfl, rfl, g1.s _ _ e2, by rw [paired_len r]; exact Nat.lt_of_lt_of_le hl (by decide), ?_⟩
  exact h _ rfl σ Hv1 _ ((w.grow g1).chg i (get_mem m) e1 (paired_app (Paired.up g1.v r) (.cons r1 .nil)))
theorem g_setI {te ti : TE} {i : Nat} {u : TS} {xs : List α} {k : Int} (m : get i Γ = some (.cl τ xs)) (he : Sm B Γ te τ x) (hk : Sm B Γ ti tInt k) (h0 : 0 ≤ k) (hl : k.toNat < xs.length) (h : ∀ ys, ys = xs.set k.toNat x → G B u (put i (.cl τ ys) Γ) D) :
    G B (tSeq (tAsg te (gSub (tVar i) ti rSetL)) u) Γ D := fun σ Hv H w =>
  he σ Hv H w _ fun v Hv1 H1 g1 r1 => by
    obtain ⟨l, vs, e1, e2, e3, r⟩ := (w.grow g1).ent i _ (get_mem m)
    refine ⟨_, e1, hk σ Hv1 H1 (w.grow g1) _ fun v2 Hv2 H2 g2 r2 => ?_⟩
    cases r2
    refine ⟨l, vs, k, k.toNat, rfl, rfl, g2.s _ _ e2, ?_, ?_⟩
    · unfold ixN
      rw [if_pos h0, paired_len r, if_pos (by omega)]
    · exact h _ rfl σ Hv2 _ (((w.grow g1).grow g2).chg i (get_mem m) e1 (paired_set (τ.mono g2.v r1) _ (Paired.up g2.v r)))
theorem g_aug {te : TE} {i : Nat} {u : TS} {g : Int → Int → Int} {a b : Int} (hi : i < B.n) (m : get i Γ = some (.fz tInt a)) (he : Sm B Γ te tInt b) (h : ∀ y, y = g a b → G B u (put i (.fz tInt y) Γ) D) :
    G B (tSeq (tAug i te (ipI g)) u) Γ D := fun σ Hv H w => by
  obtain ⟨v, e, r⟩ := w.ent i _ (get_mem m)
  cases r
  refine ⟨_, e, he σ Hv H w _ fun v1 Hv1 H1 g1 r1 => ?_⟩
  cases r1
  exact ⟨a, b, rfl, rfl, h _ rfl _ Hv1 H1 ((w.grow g1).put i hi rfl)⟩

/-! ### ends -/
structure RtF (B0 : Bs) (τ : Ty α) (y : α) (Q : VK) : Prop where
  no : ∀ b, ¬ B0.own b
  run : ∀ v Hv H, Grow B0.Hv0 B0.H0 Hv H → τ.rep Hv v y → Q v H
structure RtO (B0 : Bs) (τ : Ty α) (ys : List α) (Q : VK) : Prop where
  no : ∀ b, ¬ B0.own b
  run : ∀ l vs Hv H, Grow B0.Hv0 B0.H0 Hv H → B0.H0 l = none → H l = some (.lst vs) → Hv l = none → Paired (τ.rep Hv) vs ys → Q (.ref l) H
theorem RtO.toF {ys : List α} {Q : VK} (no : ∀ b, ¬ B0.own b) (h : RtF B0 (tList τ) ys Q) : RtO B0 τ ys Q := ⟨no, fun l vs Hv H g e0 e1 e2 r => by
  obtain ⟨s1, s2⟩ := Grow.see g.vis e1 e2
  refine h.run _ (upd Hv l (.lst vs)) H ⟨g.s, Same.trans g.v s1, s2, fun b n z => ?_⟩ ⟨l, vs, rfl, upd_same, Paired.up s1 r⟩
  have hb : b ≠ l := fun q => n (q ▸ e0)
  rw [upd_ne hb]
  exact g.nw b n z⟩
theorem g_ret {te : TE} {u : TS} {y : α} (l : Le B0 B) (R : RtF B0 τ y D.rt) (he : Sm B Γ te τ x) (e : x = y) : G B (tSeq (tRet te) u) Γ D := fun σ Hv H w =>
  he σ Hv H w _ fun v Hv1 H1 g1 r1 => R.run v Hv1 H1 (((w.grow g1).down l).gr R.no) (e ▸ r1)
theorem g_retN {u : TS} {y : Unit} (l : Le B0 B) (R : RtF B0 tNon y D.rt) : G B (tSeq tRetN u) Γ D := fun σ Hv H w => R.run .non Hv H ((w.down l).gr R.no) rfl
theorem g_retNo {u : TS} {y : Option α} (l : Le B0 B) (R : RtF B0 (tOpt τ) y D.rt) (e : none = y) : G B (tSeq tRetN u) Γ D := fun σ Hv H w => R.run .non Hv H ((w.down l).gr R.no) (e ▸ rfl)
theorem Le.noo (l : Le B0 B) (no : ∀ b, ¬ B0.own b) : ∀ b, ¬ B.own b := fun b => by rw [l.ow]; exact no b
/-- return of a new list -/
theorem g_retO {te : TE} {u : TS} {xs ys : List α} (l : Le B0 B) (R : RtO B0 τ ys D.rt) (he : SmO B Γ te τ xs) (e : xs = ys) : G B (tSeq (tRet te) u) Γ D := fun σ Hv H w =>
  he σ Hv H w _ fun p vs Hv1 H1 g1 e0 e1 e2 r1 => by
    refine R.run p vs Hv1 H1 (((w.grow g1).down l).gr R.no) ?_ e1 e2 (e ▸ r1)
    cases q : B0.H0 p with
    | none => rfl
    | some o => exact absurd e0 ((w.down l).a0 p (by rw [q]; exact fun z => nomatch z))
/-- return of the own list at i -/
theorem g_retC {i : Nat} {u : TS} {xs ys : List α} (l : Le B0 B) (R : RtO B0 τ ys D.rt) (m : get i Γ = some (.cl τ xs)) (e : xs = ys) : G B (tSeq (tRet (tVar i)) u) Γ D := fun σ Hv H w => by
  obtain ⟨p, vs, e1, e2, e3, r⟩ := w.ent i _ (get_mem m)
  refine ⟨_, e1, R.run p vs Hv H ((w.down l).gr R.no) ?_ e2 e3 (e ▸ r)⟩
  have := (w.down l).new i _ p (get_mem m) rfl e1
  exact this.resolve_right (R.no p)
theorem g_end {y : Unit} (l : Le B0 B) (R : RtF B0 tNon y Q) (hn : D.nx = fun _ H' => Q .non H') : G B tNext Γ D := fun σ Hv H w => by
  show D.nx σ H
  rw [hn]
  exact R.run .non Hv H ((w.down l).gr R.no) rfl

/-! ### loops -/
def Sub : Cxt → Cxt → Prop
  | [], _ => True
  | (i, e) :: L, Γ => get i Γ = some e ∧ Sub L Γ
theorem Sub.mem : ∀ {L Γ : Cxt}, Sub L Γ → ∀ p ∈ L, p ∈ Γ
  | (i, e) :: L, Γ, ⟨h1, h2⟩, p, m => by
    rcases List.mem_cons.mp m with rfl | m
    · exact get_mem h1
    · exact Sub.mem h2 p m
def LoopN {S : Type} (B : Bs) (I : S → Prop) (L : S → Cxt) : L2.St → Hp → Prop := fun σ H => ∃ s Hv, I s ∧ Wd B (L s) σ Hv H
theorem g_for {S : Type} {wi : TI} {g : TG} {tb u : TS} {ys : List α} {up : α → Cxt → Cxt} {is : List Nat} (hs : SmW B Γ true wi τ ys) (hg : ∀ B1 : Bs, B1.n = B.n → Tgt B1 g τ up is) (I : Nat → S → Prop) (L : S → Cxt) (s0 : S) (hL : Sub (L s0) Γ) (h0 : I 0 s0)
    (hb : ∀ B1, Le B B1 → ∀ i s x, ys[i]? = some x → I i s → G B1 tb (up x (L s)) { nx := LoopN B1 (I (i + 1)) L, rt := D.rt, ct := LoopN B1 (I (i + 1)) L, bk := u D })
    (hr : ∀ s, I ys.length s → G B u (L s) D) : G B (tSeq (tFor wi g tb) u) Γ D := fun σ Hv H w =>
  hs σ Hv H w _ fun J Gd Y Hv1 H1 g1 wk hG hY => by
    obtain ⟨l1, w1⟩ := (w.grow g1).rise
    refine for_it wk (D := { D with nx := u D }) (fun i σ' H' => LoopN { B with Hv0 := Hv1 } (I i) L σ' H') ⟨s0, Hv1, h0, w1.sub hL.mem⟩ ?_ ?_ ?_
    · rintro i σ' H' _ ⟨s, Hv', _, w'⟩
      exact hG Hv' H' w'.v0 w'.vis fun z => nomatch z
    · rintro i v σ' H' H'' hlt ⟨s, Hv', hI, w'⟩ y
      obtain ⟨Hv2, z, g3, ez, rz⟩ := hY i H' v H'' Hv' hlt w'.v0 w'.vis (fun z => nomatch z) y
      exact (hg { B with Hv0 := Hv1 } rfl).run _ _ Hv2 H'' v z (w'.grow g3) rz _ fun σ2 w2 _ _ => hb _ l1 i s z ez hI σ2 Hv2 H'' w2
    · rintro σ' H' ⟨s, Hv', hI, w'⟩
      exact hr s hI σ' Hv' H' (w'.down l1)
theorem g_loop {S : Type} {I : S → Prop} {L : S → Cxt} (s : S) (hn : D.nx = LoopN B I L) (hL : Sub (L s) Γ) (h : I s) : G B tNext Γ D := fun σ Hv H w => by
  show D.nx σ H
  rw [hn]
  exact ⟨s, Hv, h, w.sub hL.mem⟩
theorem g_cont {S : Type} {I : S → Prop} {L : S → Cxt} {u : TS} (s : S) (hn : D.ct = LoopN B I L) (hL : Sub (L s) Γ) (h : I s) : G B (tSeq tCont u) Γ D := fun σ Hv H w => by
  show D.ct σ H
  rw [hn]
  exact ⟨s, Hv, h, w.sub hL.mem⟩
theorem g_break {D' : Ends} {u r : TS} (hb : D.bk = u D') (h : G B u Γ D') : G B (tSeq tBreak r) Γ D := fun σ Hv H w => by
  show D.bk σ H
  rw [hb]
  exact h σ Hv H w
theorem g_while {S : Type} {c : TT} {tb u : TS} (I : S → Prop) (L : S → Cxt) (μ : S → Nat) (b : S → Bool) (s0 : S) (hL : Sub (L s0) Γ) (h0 : I s0) (hc : ∀ s, I s → SmT B (L s) c (b s))
    (hb : ∀ s, I s → b s = true → G B tb (L s) { nx := LoopN B (fun s' => I s' ∧ μ s' < μ s) L, rt := D.rt, ct := LoopN B (fun s' => I s' ∧ μ s' < μ s) L, bk := u D })
    (hr : ∀ s, I s → b s = false → G B u (L s) D) : G B (tSeq (tWhile c tb) u) Γ D := fun σ Hv H w => by
  refine ⟨fun m σ' H' => LoopN B (fun s => I s ∧ μ s = m) L σ' H', ⟨μ s0, s0, Hv, ⟨h0, rfl⟩, w.sub hL.mem⟩, ?_⟩
  rintro m σ' H' ⟨s, Hv', ⟨hI, rfl⟩, w'⟩
  refine hc s hI σ' Hv' H' w' _ fun Hv1 H1 g1 => ?_
  cases e : b s with
  | true => exact iteT ⟨_, fun σ2 H2 ⟨s2, Hv2, ⟨i2, lt⟩, w2⟩ => ⟨_, lt, s2, Hv2, ⟨i2, rfl⟩, w2⟩, hb s hI e σ' Hv1 H1 (w'.grow g1)⟩
  | false => exact iteF (hr s hI e σ' Hv1 H1 (w'.grow g1))

/-! ### defs -/
def argC : Nat → List As → Cxt
  | _, [] => []
  | i, a :: as => (i, .fz a.τ a.x) :: argC (i + 1) as
theorem argC_ge : ∀ {as : List As} {i j : Nat} {e : Ent}, (j, e) ∈ argC i as → i ≤ j ∧ e.isCl = false
  | a :: as, i, j, e, m => by
    rcases List.mem_cons.mp m with h | m
    · cases h
      exact ⟨Nat.le_refl _, rfl⟩
    · have := argC_ge m
      exact ⟨by omega, this.2⟩
theorem argC_at {Hv : Hp} {σ : L2.St} {H : Hp} {vs : List V} {as : List As} (r : Reps Hv vs as) : ∀ {i : Nat}, (∀ k v, vs[k]? = some v → σ[i + k]? = some (some v)) → ∀ j e, (j, e) ∈ argC i as → EntOk σ Hv H j e := by
  induction r with
  | nil => intro i _ j e m; cases m
  | cons ra _ ih =>
    intro i hσ j e m
    rcases List.mem_cons.mp m with h | m
    · cases h
      exact ⟨_, hσ 0 _ rfl, ra⟩
    · exact ih (i := i + 1) (fun k v hk => by rw [show i + 1 + k = i + (k + 1) by omega]; exact hσ (k + 1) v (by simpa using hk)) j e m
theorem Reps.len {Hv : Hp} {vs : List V} {as : List As} (r : Reps Hv vs as) : vs.length = as.length := by
  induction r with
  | nil => rfl
  | cons _ _ ih => simp [ih]
theorem wd_start {N : List Str} {vs : List V} {as : List As} (vis : Same Hv H) (r : Reps Hv vs as) (hl : as.length ≤ N.length) : Wd ⟨H, Hv, fun _ => False, N.length⟩ (argC 0 as) (L2.start N vs) Hv H where
  len := by
    unfold L2.start
    rw [List.length_append, List.length_map, List.length_replicate]
    have := r.len
    show vs.length + (N.length - vs.length) = N.length
    omega
  vis := vis
  s0 := fun _ _ _ e => e
  a0 := fun _ n => n
  v0 := Same.refl _
  nw := fun _ _ _ h => h
  ent := argC_at r fun k v hk => by
    have hk' := (List.getElem?_eq_some_iff.mp hk).1
    unfold L2.start
    rw [Nat.zero_add, List.getElem?_append_left (by simpa using hk'), List.getElem?_map, hk]
    rfl
  new := fun i e l m c => by
    rw [(argC_ge m).2] at c
    cases c
  dis := fun i j e f l m _ c => by
    rw [(argC_ge m).2] at c
    cases c
/-- a def that gives a value that stands still -/
def spF {ρ γ : Type} (as : ρ → List As) (pre : ρ → Prop) (τ : Ty γ) (f : ρ → γ) : Sp := fun vs H Q _ => ∃ (r : ρ) (Hv : Hp), Same Hv H ∧ Reps Hv vs (as r) ∧ pre r ∧ ∀ v Hv' H', Grow Hv H Hv' H' → τ.rep Hv' v (f r) → Q v H'
/-- a def that gives a new list -/
def spO {ρ γ : Type} (as : ρ → List As) (pre : ρ → Prop) (τ : Ty γ) (f : ρ → List γ) : Sp := fun vs H Q _ => ∃ (r : ρ) (Hv : Hp), Same Hv H ∧ Reps Hv vs (as r) ∧ pre r ∧
  ∀ l us Hv' H', Grow Hv H Hv' H' → H l = none → H' l = some (.lst us) → Hv' l = none → Paired (τ.rep Hv') us (f r) → Q (.ref l) H'
section
variable {ρ γ : Type} {as : ρ → List As} {pre : ρ → Prop} {φ : Ty γ} {vs : List V} {Q : VK} {E : XK}
theorem spF_len {f : ρ → γ} {n : Nat} (hn : ∀ r, (as r).length = n) (h : spF as pre φ f vs H Q E) : vs.length = n := by
  obtain ⟨r, _, _, h, _⟩ := h
  rw [h.len, hn]
theorem spO_len {f : ρ → List γ} {n : Nat} (hn : ∀ r, (as r).length = n) (h : spO as pre φ f vs H Q E) : vs.length = n := by
  obtain ⟨r, _, _, h, _⟩ := h
  rw [h.len, hn]
theorem spF_body {f : ρ → γ} {N : List Str} {t : TS} (hl : ∀ r, (as r).length ≤ N.length) (h : spF as pre φ f vs H Q E) (hb : ∀ B0 : Bs, B0.n = N.length → ∀ r, pre r → RtF B0 φ (f r) Q → G B0 t (argC 0 (as r)) { nx := fun _ H' => Q .non H', rt := Q }) : t { nx := fun _ H' => Q .non H', rt := Q } (L2.start N vs) H := by
  obtain ⟨r, Hv, vis, rs, p, k⟩ := h
  exact hb ⟨H, Hv, fun _ => False, N.length⟩ rfl r p ⟨fun _ z => z, k⟩ _ _ _ (wd_start vis rs (hl r))
theorem spO_body {f : ρ → List γ} {N : List Str} {t : TS} (hl : ∀ r, (as r).length ≤ N.length) (h : spO as pre φ f vs H Q E) (hb : ∀ B0 : Bs, B0.n = N.length → ∀ r, pre r → RtO B0 φ (f r) Q → G B0 t (argC 0 (as r)) { nx := fun _ H' => Q .non H', rt := Q }) : t { nx := fun _ H' => Q .non H', rt := Q } (L2.start N vs) H := by
  obtain ⟨r, Hv, vis, rs, p, k⟩ := h
  exact hb ⟨H, Hv, fun _ => False, N.length⟩ rfl r p ⟨fun _ z => z, k⟩ _ _ _ (wd_start vis rs (hl r))
theorem sm_call {f : ρ → γ} {t : TA} (r : ρ) (ha : SmA B Γ t (as r)) (hp : pre r) : Sm B Γ (tCall (spF as pre φ f) [] E t) φ (f r) := fun σ Hv H w Q k =>
  ha σ Hv H w _ fun us Hv1 H1 g1 rs => by
    show spF as pre φ f (us ++ []) H1 Q E
    rw [List.append_nil]
    exact ⟨r, Hv1, g1.vis, rs, hp, fun v Hv2 H2 g2 r2 => k _ _ _ (g1.trans g2) r2⟩
theorem smo_call {f : ρ → List γ} {t : TA} (r : ρ) (ha : SmA B Γ t (as r)) (hp : pre r) : SmO B Γ (tCall (spO as pre φ f) [] E t) φ (f r) := fun σ Hv H w Q k =>
  ha σ Hv H w _ fun us Hv1 H1 g1 rs => by
    show spO as pre φ f (us ++ []) H1 Q E
    rw [List.append_nil]
    exact ⟨r, Hv1, g1.vis, rs, hp, fun l us Hv2 H2 g2 e0 e1 e2 r2 => k _ _ _ _ (g1.trans g2) (Same.free g1.s e0) e1 e2 r2⟩
end

/-! ### objects that stand still -/
def tObj {α : Type} (C : Addr) (sch : α → List (Str × As)) : Ty α := ⟨fun H v x => ∃ a dx fs, v = .ref a ∧ H a = some (.ins C dx fs) ∧ FsRep H fs (sch x), fun s ⟨a, dx, fs, e, h, r⟩ => ⟨a, dx, fs, e, s _ _ h, r.up s⟩⟩
def ixOf : List Str → Str → Option Nat
  | [], _ => none
  | n :: ns, m => if m = n then some 0 else (ixOf ns m).map (· + 1)
theorem FsRep.get {H : Hp} {fs : List (Str × V)} {as : List (Str × As)} {n : Str} (h : FsRep H fs as) : ∀ {k : Nat} {a : As}, ixOf (as.map (·.1)) n = some k → as[k]? = some (n, a) → ∃ v, fs.lookup n = some v ∧ a.τ.rep H v a.x := by
  induction h with
  | nil => intro k a e; cases e
  | cons r _ ih =>
    intro k a e e2
    rename_i m v fs b as _
    by_cases hn : n = m
    · subst hn
      simp only [List.map_cons, ixOf, if_pos] at e
      cases e
      cases e2
      exact ⟨v, by simp [List.lookup], r⟩
    · simp only [List.map_cons, ixOf, if_neg hn] at e
      cases q : ixOf (as.map (·.1)) n with
      | none => rw [q] at e; cases e
      | some j =>
        rw [q] at e
        cases e
        obtain ⟨v, h1, h2⟩ := ih q e2
        refine ⟨v, ?_, h2⟩
        have : (n == m) = false := by simpa using hn
        simp [List.lookup, this, h1]
theorem FsRep.none {H : Hp} {fs : List (Str × V)} {as : List (Str × As)} {n : Str} (h : FsRep H fs as) : ixOf (as.map (·.1)) n = none → fs.lookup n = none := by
  induction h with
  | nil => intro _; rfl
  | cons r _ ih =>
    intro e
    rename_i m v fs b as _
    by_cases hn : n = m
    · subst hn
      simp only [List.map_cons, ixOf, if_pos] at e
      cases e
    · simp only [List.map_cons, ixOf, if_neg hn] at e
      cases q : ixOf (as.map (·.1)) n with
      | none =>
        have : (n == m) = false := by simpa using hn
        simp [List.lookup, this, ih q]
      | some j => rw [q] at e; cases e
theorem sm_fld {C : Addr} {sch : α → List (Str × As)} {t : TE} {f : Str} {y : β} (h : Sm B Γ t (tObj C sch) x) (ns : List Str) (k : Nat) (hk : ixOf ns f = some k) (c : Cls K C) (n : NoAttr K C f) (hns : (sch x).map (·.1) = ns) (e : (sch x)[k]? = some (f, ⟨υ, y⟩)) : Sm B Γ (tFld K t f) υ y := fun σ Hv H w Q q =>
  h σ Hv H w _ fun v Hv1 H1 g1 ⟨a, dx, fs, ev, ha, r⟩ => by
    obtain ⟨u, h1, h2⟩ := r.get (by rw [hns]; exact hk) e
    exact ⟨a, C, dx, fs, u, ev, g1.vis _ _ ha, c, n, h1, q _ _ _ g1 h2⟩
section
variable {ρ γ : Type} {as : ρ → List As} {pre : ρ → Prop} {φ : Ty γ} {E : XK}
theorem sm_meth {C : Addr} {sch : α → List (Str × As)} {m : Str} {f : ρ → γ} {ta : TE} {t : TA} {as' : List As} (r : ρ) (h : Sm B Γ ta (tObj C sch) x) (ns : List Str) (hm : ixOf ns m = none) (hns : (sch x).map (·.1) = ns) (e : as r = ⟨tObj C sch, x⟩ :: as') (ha : SmA B Γ t as') (hp : pre r) :
    Sm B Γ (tMeth C m (spF as pre φ f) [] E ta t) φ (f r) := fun σ Hv H w Q k =>
  h σ Hv H w _ fun v Hv1 H1 g1 rv => by
    have rv' := rv
    obtain ⟨a, dx, fs, ev, h1, r1⟩ := rv
    refine ⟨a, dx, fs, ev, g1.vis _ _ h1, r1.none (by rw [hns]; exact hm), ha σ Hv1 H1 (w.grow g1) _ fun us Hv2 H2 g2 rs => ?_⟩
    show spF as pre φ f (v :: (us ++ [])) H2 Q E
    rw [List.append_nil]
    exact ⟨r, Hv2, g2.vis, e.symm ▸ .cons ((tObj C sch).mono g2.v rv') rs, hp, fun v Hv3 H3 g3 r3 => k _ _ _ ((g1.trans g2).trans g3) r3⟩
theorem smo_meth {C : Addr} {sch : α → List (Str × As)} {m : Str} {f : ρ → List γ} {ta : TE} {t : TA} {as' : List As} (r : ρ) (h : Sm B Γ ta (tObj C sch) x) (ns : List Str) (hm : ixOf ns m = none) (hns : (sch x).map (·.1) = ns) (e : as r = ⟨tObj C sch, x⟩ :: as') (ha : SmA B Γ t as') (hp : pre r) :
    SmO B Γ (tMeth C m (spO as pre φ f) [] E ta t) φ (f r) := fun σ Hv H w Q k =>
  h σ Hv H w _ fun v Hv1 H1 g1 rv => by
    have rv' := rv
    obtain ⟨a, dx, fs, ev, h1, r1⟩ := rv
    refine ⟨a, dx, fs, ev, g1.vis _ _ h1, r1.none (by rw [hns]; exact hm), ha σ Hv1 H1 (w.grow g1) _ fun us Hv2 H2 g2 rs => ?_⟩
    show spO as pre φ f (v :: (us ++ [])) H2 Q E
    rw [List.append_nil]
    exact ⟨r, Hv2, g2.vis, e.symm ▸ .cons ((tObj C sch).mono g2.v rv') rs, hp, fun l us Hv3 H3 g3 e0 e1 e2 r3 => k _ _ _ _ ((g1.trans g2).trans g3) (Same.free (g1.trans g2).s e0) e1 e2 r3⟩
end
end
end VC

set_option Elab.async false
set_option maxRecDepth 100000
set_option maxHeartbeats 4000000
namespace VC
open PySem PySem.Spec L2

/-! ### names of the top -/
theorem bb_len : bootBuiltins "len" = some (.builtin "len") := by decide +kernel
theorem bb_isinstance : bootBuiltins "isinstance" = some (.builtin "isinstance") := by decide +kernel
theorem bb_min : bootBuiltins "min" = some (.builtin "min") := by decide +kernel
theorem bb_max : bootBuiltins "max" = some (.builtin "max") := by decide +kernel
theorem bb_list : bootBuiltins "list" = some (.type "list") := by decide +kernel
theorem bb_int : bootBuiltins "int" = some (.type "int") := by decide +kernel
theorem bb_bool : bootBuiltins "bool" = some (.type "bool") := by decide +kernel
theorem bb_str : bootBuiltins "str" = some (.type "str") := by decide +kernel
theorem bb_tuple : bootBuiltins "tuple" = some (.type "tuple") := by decide +kernel
theorem bb_dict : bootBuiltins "dict" = some (.type "dict") := by decide +kernel
theorem bb_ValueError : bootBuiltins "ValueError" = some (.type "ValueError") := by decide +kernel
theorem bb_sum : bootBuiltins "sum" = some (.builtin "sum") := by decide +kernel
theorem bb_all : bootBuiltins "all" = some (.builtin "all") := by decide +kernel
theorem bb_any : bootBuiltins "any" = some (.builtin "any") := by decide +kernel
theorem bb_abs : bootBuiltins "abs" = some (.builtin "abs") := by decide +kernel
theorem bb_divmod : bootBuiltins "divmod" = some (.builtin "divmod") := by decide +kernel
theorem bb_sorted : bootBuiltins "sorted" = some (.builtin "sorted") := by decide +kernel
section
variable {X : Cx}
theorem pe_gI {x : Str} {n : Int} {pos : Pos} (hm : ∃ t, X.mg x = some (.int n t)) (hg : Gl X x := by rfl) (hd : (x == ("__debug__" : Str)) = false := by decide) : PE X (.Name x pos) (tC (.int n)) := by
  obtain ⟨t, h⟩ := hm
  exact pe_glob hg h ⟨_, rfl⟩ hd
theorem pe_gS {x : Str} {n : Str} {pos : Pos} (hm : ∃ t, X.mg x = some (.str n t)) (hg : Gl X x := by rfl) (hd : (x == ("__debug__" : Str)) = false := by decide) : PE X (.Name x pos) (tC (.str n)) := by
  obtain ⟨t, h⟩ := hm
  exact pe_glob hg h ⟨_, rfl⟩ hd
/-- a built-in class as a value -/
theorem pe_ty {x : Str} {T : String} {pos : Pos} (hm : X.mg x = none) (hv : bootBuiltins x = some (.type T)) (hg : Gl X x := by rfl) (hn : x ≠ "__name__" := by decide) (hd : (x == ("__debug__" : Str)) = false := by decide) : PE X (.Name x pos) (tC (.ty T)) := pe_bltn hg hm hv rfl hn hd
/-- a class of the text as a value -/
theorem pe_cls {x : Str} {C : Addr} {pos : Pos} (hm : X.mg x = some (.ref C)) (hg : Gl X x := by rfl) (hd : (x == ("__debug__" : Str)) = false := by decide) : PE X (.Name x pos) (tC (.ref C)) := pe_glob hg hm rfl hd

/-! ### written ints -/
def isInts : List Expr → Option (List Int)
  | [] => some []
  | .Constant (.int i) _ _ :: es => (isInts es).map (i :: ·)
  | _ => none
def tInts (ns : List Int) : TA := fun _ H Q => Q (ns.map V.int) H
theorem pa_ints : ∀ {es : List Expr} {ns : List Int}, isInts es = some ns → PA X es (tInts ns)
  | [], ns, h => by
    cases h
    exact pa_nil
  | e :: es, ns, h => by
    cases e with
    | Constant c j pos =>
      cases c with
      | int i =>
        unfold isInts at h
        cases q : isInts es with
        | none => rw [q] at h; cases h
        | some ms =>
          rw [q] at h
          cases h
          have r := pa_cons (X := X) (pe_int (i := i) (j := j) (pos := pos)) (pa_ints q)
          exact r
      | _ => cases h
    | _ => cases h
end
section
variable {B : Bs} {Γ : Cxt} {α β : Type} {τ : Ty α} {υ : Ty β} {x : α} {y : β} {K : PySem.W.Frag}
theorem smo_ints {ns : List Int} (h : ns.length ≤ 1000) : SmO B Γ (tLst (tInts ns)) tInt ns := fun σ Hv H w Q k => by
  refine ⟨by rw [List.length_map]; exact seq_lt h, fun p hp => ?_⟩
  exact k p _ Hv _ (Grow.newO w.vis hp) hp upd_same (Same.free w.vis hp) int_paired

/-! ### isinstance -/
structure TyIs (K : PySem.W.Frag) (τ : Ty α) (t : Value) : Prop where
  run : ∀ H v x, τ.rep H v x → TyX K H v t
theorem ti_int : TyIs K tInt (.type "int") := ⟨fun H v x h => by cases h; exact .base (.int x)⟩
theorem ti_bool : TyIs K tBool (.type "bool") := ⟨fun H v x h => by cases h; exact .base (.bl x)⟩
theorem ti_str : TyIs K tStr (.type "str") := ⟨fun H v x h => by cases h; exact .base (.str x)⟩
theorem ti_list : TyIs K (tList τ) (.type "list") := ⟨fun H v x ⟨a, vs, e, h, _⟩ => by subst e; exact .base (.lst h)⟩
theorem ti_tup2 : TyIs K (tTup2 τ υ) (.type "tuple") := ⟨fun H v x ⟨a, v1, v2, e, h, _⟩ => by subst e; exact .base (.tup h)⟩
theorem TyX.up {H H' : Hp} {v : V} {t : Value} (s : Same H H') (h : TyX K H v t) : TyX K H' v t := by
  cases h with
  | base b =>
    cases b with
    | non => exact .base .non
    | bl b => exact .base (.bl b)
    | int i => exact .base (.int i)
    | str z => exact .base (.str z)
    | flt b => exact .base (.flt b)
    | lst e => exact .base (.lst (s _ _ e))
    | frz e => exact .base (.frz (s _ _ e))
    | tup e => exact .base (.tup (s _ _ e))
    | dK e => exact .base (.dK (s _ _ e))
    | dT e => exact .base (.dT (s _ _ e))
    | ins e c h1 h2 h3 h4 => exact .base (.ins (s _ _ e) c h1 h2 h3 h4)
  | byt b => exact .byt b
  | set e => exact .set (s _ _ e)
  | kList e c => exact .kList e c
  | kTuple e c => exact .kTuple e c
  | kDict e c => exact .kDict e c
  | fTuple e => exact .fTuple (s _ _ e)
  | fDict e => exact .fDict (s _ _ e)
theorem sm_isi {t : TE} {c : String} {T : String} {b : Bool} (h : Sm B Γ t τ x) (ti : TyIs K τ (.type T)) (e : kitB T c = some b) : Sm B Γ (tCB (rIsi K) (tCons t (tCons (tC (.ty c)) tNil))) tBool b := fun σ Hv H w Q k =>
  h σ Hv H w _ fun v Hv1 H1 g1 r1 => ⟨v, .ty c, .type T, .type c, b, rfl, .ty c, TyX.up g1.vis (ti.run _ _ _ r1), kit_ty e, k _ _ _ g1 rfl⟩
/-- of a list of one's own -/
theorem sm_isiL {t : TE} {c : String} {b : Bool} {xs : List α} (h : SmL B Γ t τ xs) (e : kitB "list" c = some b) : Sm B Γ (tCB (rIsi K) (tCons t (tCons (tC (.ty c)) tNil))) tBool b := fun σ Hv H w Q k =>
  h σ Hv H w _ fun a vs Hv1 H1 g1 e1 r1 => ⟨.ref a, .ty c, .type "list", .type c, b, rfl, .ty c, .base (.lst e1), kit_ty e, k _ _ _ g1 rfl⟩

/-! ### built-ins -/
theorem sm_max2 {t u : TE} {i j : Int} (h : Sm B Γ t tInt i) (h' : Sm B Γ u tInt j) : Sm B Γ (tCB (fun xs H Q => ∃ i j, xs = [.int i, .int j] ∧ Q (.int (if j > i then j else i)) H) (tCons t (tCons u tNil))) tInt (max i j) := fun σ Hv H w Q k =>
  h σ Hv H w _ fun v Hv1 H1 g1 r1 => h' σ Hv1 H1 (w.grow g1) _ fun u Hv2 H2 g2 r2 => by
    cases r1; cases r2
    refine ⟨i, j, rfl, k _ _ _ (g1.trans g2) (congrArg V.int ?_)⟩
    by_cases h : j > i
    · rw [if_pos h]; omega
    · rw [if_neg h]; omega
theorem sm_min2 {t u : TE} {i j : Int} (h : Sm B Γ t tInt i) (h' : Sm B Γ u tInt j) : Sm B Γ (tCB (fun xs H Q => ∃ i j, xs = [.int i, .int j] ∧ Q (.int (if j < i then j else i)) H) (tCons t (tCons u tNil))) tInt (min i j) := fun σ Hv H w Q k =>
  h σ Hv H w _ fun v Hv1 H1 g1 r1 => h' σ Hv1 H1 (w.grow g1) _ fun u Hv2 H2 g2 r2 => by
    cases r1; cases r2
    refine ⟨i, j, rfl, k _ _ _ (g1.trans g2) (congrArg V.int ?_)⟩
    by_cases h : j < i
    · rw [if_pos h]; omega
    · rw [if_neg h]; omega
theorem sm_bits {t : TE} {i : Int} (h : Sm B Γ t tInt i) : Sm B Γ (tBits t) tInt (Builtin.Int.intBits i : Nat) := fun σ Hv H w Q k => h σ Hv H w _ fun v Hv1 H1 g1 r1 => by
  cases r1
  exact ⟨i, rfl, k _ _ _ g1 rfl⟩
theorem sm_sum {t : TE} {ns : List Int} (h : SmL B Γ t tInt ns) : Sm B Γ (tCB (rSum K) (tCons t tNil)) tInt ns.sum := fun σ Hv H w Q k =>
  h σ Hv H w _ fun a vs Hv1 H1 g1 e1 r1 => ⟨a, ns, rfl, by rw [← paired_int r1]; exact SqL.of e1, k _ _ _ g1 rfl⟩
theorem sm_all {t : TE} {bs : List Bool} (h : SmL B Γ t tBool bs) : Sm B Γ (tCB (rAll K) (tCons t tNil)) tBool (bs.all id) := fun σ Hv H w Q k =>
  h σ Hv H w _ fun a vs Hv1 H1 g1 e1 r1 => ⟨a, bs, rfl, by rw [← paired_bl r1]; exact SqL.of e1, k _ _ _ g1 rfl⟩
theorem sm_any {t : TE} {bs : List Bool} (h : SmL B Γ t tBool bs) : Sm B Γ (tCB (rAny K) (tCons t tNil)) tBool (bs.any id) := fun σ Hv H w Q k =>
  h σ Hv H w _ fun a vs Hv1 H1 g1 e1 r1 => ⟨a, bs, rfl, by rw [← paired_bl r1]; exact SqL.of e1, k _ _ _ g1 rfl⟩

/-! ### more statements -/
variable {D : Ends}
theorem g_ifAsg {c : TT} {te : TE} {u : TS} {i : Nat} {b : Bool} {x0 x : α} (hi : i < B.n) (hc : SmT B Γ c b) (m : get i Γ = some (.fz τ x0)) (he : b = true → Sm B Γ te τ x) (h : ∀ y, y = (bif b then x else x0) → G B u (put i (.fz τ y) Γ) D) :
    G B (tSeq (tIfS c (tSeq (tAsg te (gName i)) tNext) tNext) u) Γ D := fun σ Hv H w =>
  hc σ Hv H w _ fun Hv1 H1 g1 => by
    have w1 := w.grow g1
    cases b with
    | true => exact iteT (he rfl σ Hv1 H1 w1 _ fun v Hv2 H2 g2 r2 => h _ rfl _ Hv2 H2 ((w1.grow g2).put i hi r2))
    | false =>
      obtain ⟨v, e, r⟩ := w1.ent i _ (get_mem m)
      have w2 := w1.put i hi r
      have : σ.set i (some v) = σ := by
        apply List.ext_getElem?
        intro j
        rw [getElem?_setN]
        by_cases hj : i = j
        · subst hj
          rw [if_pos rfl, if_pos (by rw [w.len]; exact hi), e]
        · rw [if_neg hj]
      rw [this] at w2
      exact iteF (h _ rfl σ Hv1 H1 w2)
theorem g_ifAsg2 {c : TT} {te te' : TE} {u : TS} {i : Nat} {b : Bool} {x x' : α} (hi : i < B.n) (hc : SmT B Γ c b) (he : b = true → Sm B Γ te τ x) (he' : b = false → Sm B Γ te' τ x') (h : ∀ y, y = (bif b then x else x') → G B u (put i (.fz τ y) Γ) D) :
    G B (tSeq (tIfS c (tSeq (tAsg te (gName i)) tNext) (tSeq (tAsg te' (gName i)) tNext)) u) Γ D := fun σ Hv H w =>
  hc σ Hv H w _ fun Hv1 H1 g1 => by
    have w1 := w.grow g1
    cases b with
    | true => exact iteT (he rfl σ Hv1 H1 w1 _ fun v Hv2 H2 g2 r2 => h _ rfl _ Hv2 H2 ((w1.grow g2).put i hi r2))
    | false => exact iteF (he' rfl σ Hv1 H1 w1 _ fun v Hv2 H2 g2 r2 => h _ rfl _ Hv2 H2 ((w1.grow g2).put i hi r2))
theorem g_ifApp {c : TT} {te : TE} {u : TS} {i : Nat} {b : Bool} {xs : List α} (hc : SmT B Γ c b) (m : get i Γ = some (.cl τ xs)) (he : b = true → Sm B Γ te τ x) (hl : xs.length < 1000) (h : ∀ ys, ys = (bif b then xs ++ [x] else xs) → G B u (put i (.cl τ ys) Γ) D) :
    G B (tSeq (tIfS c (tSeq (tDrop (tBM K "list" rAppend (tVar i) (tCons te tNil))) tNext) tNext) u) Γ D := by
  refine g_if hc (fun e => ?_) fun e => ?_
  · refine g_assoc (g_append m (he e) hl fun ys hy => g_next (h ys ?_))
    rw [e]
    exact hy
  · refine g_next fun σ Hv H w => h xs (by rw [e]; rfl) σ Hv H (w.sub fun p m' => ?_)
    rcases put_mem m' with ⟨h1, h2⟩ | ⟨_, h2⟩
    · obtain ⟨i', e'⟩ := p
      cases h1
      cases h2
      exact get_mem m
    · exact h2
end
end VC

set_option Elab.async false
set_option maxRecDepth 100000
set_option maxHeartbeats 4000000
namespace VC
open PySem PySem.Spec L2
section
variable {B : Bs} {Γ : Cxt} {γ : Type} {φ : Ty γ} {H : Hp} {vs : List V} {Q : VK} {E : XK} {K : PySem.W.Frag}
def spF0   (pre : Prop) (φ : Ty γ) (f : γ) : Sp := fun vs H Q _ => ∃ Hv, Same Hv H ∧ Reps Hv vs [] ∧ pre ∧ ∀ v Hv' H', Grow Hv H Hv' H' → φ.rep Hv' v (f) → Q v H'
theorem spF0_len   {pre : Prop} {f : γ} (h : spF0 pre φ f vs H Q E) : vs.length = 0 := by
  obtain ⟨_, _, r, _⟩ := h
  exact r.len
theorem spF0_body   {pre : Prop} {f : γ} {N : List Str} {t : TS} (hl : 0 ≤ N.length) (h : spF0 pre φ f vs H Q E) (hb : ∀ B0 : Bs, B0.n = N.length → pre → RtF B0 φ (f) Q → G B0 t [] { nx := fun _ H' => Q .non H', rt := Q }) : t { nx := fun _ H' => Q .non H', rt := Q } (L2.start N vs) H := by
  obtain ⟨Hv, vis, rs, p, k⟩ := h
  exact hb ⟨H, Hv, fun _ => False, N.length⟩ rfl  p ⟨fun _ z => z, k⟩ _ _ _ (wd_start vis rs hl)
theorem sm_call0   {pre : Prop} {f : γ}  {t : TA} (ha : SmA B Γ t []) (hp : pre) : Sm B Γ (tCall (spF0 pre φ f) [] E t) φ (f) := fun σ Hv H w Q k =>
  ha σ Hv H w _ fun us Hv1 H1 g1 rs => by
    show spF0 pre φ f (us ++ []) H1 Q E
    rw [List.append_nil]
    exact ⟨Hv1, g1.vis, rs, hp, fun v Hv2 H2 g2 r2 => k _ _ _ (g1.trans g2) r2⟩
def spO0   (pre : Prop) (φ : Ty γ) (f : List γ) : Sp := fun vs H Q _ => ∃ Hv, Same Hv H ∧ Reps Hv vs [] ∧ pre ∧ ∀ l us Hv' H', Grow Hv H Hv' H' → H l = none → H' l = some (.lst us) → Hv' l = none → Paired (φ.rep Hv') us (f) → Q (.ref l) H'
theorem spO0_len   {pre : Prop} {f : List γ} (h : spO0 pre φ f vs H Q E) : vs.length = 0 := by
  obtain ⟨_, _, r, _⟩ := h
  exact r.len
theorem spO0_body   {pre : Prop} {f : List γ} {N : List Str} {t : TS} (hl : 0 ≤ N.length) (h : spO0 pre φ f vs H Q E) (hb : ∀ B0 : Bs, B0.n = N.length → pre → RtO B0 φ (f) Q → G B0 t [] { nx := fun _ H' => Q .non H', rt := Q }) : t { nx := fun _ H' => Q .non H', rt := Q } (L2.start N vs) H := by
  obtain ⟨Hv, vis, rs, p, k⟩ := h
  exact hb ⟨H, Hv, fun _ => False, N.length⟩ rfl  p ⟨fun _ z => z, k⟩ _ _ _ (wd_start vis rs hl)
theorem smo_call0   {pre : Prop} {f : List γ}  {t : TA} (ha : SmA B Γ t []) (hp : pre) : SmO B Γ (tCall (spO0 pre φ f) [] E t) φ (f) := fun σ Hv H w Q k =>
  ha σ Hv H w _ fun us Hv1 H1 g1 rs => by
    show spO0 pre φ f (us ++ []) H1 Q E
    rw [List.append_nil]
    exact ⟨Hv1, g1.vis, rs, hp, fun l us Hv2 H2 g2 e0 e1 e2 r2 => k _ _ _ _ (g1.trans g2) (Same.free g1.s e0) e1 e2 r2⟩
def spF1 {α1 : Type} (τ1 : Ty α1) (pre : α1 → Prop) (φ : Ty γ) (f : α1 → γ) : Sp := fun vs H Q _ => ∃ (x1 : α1), ∃ Hv, Same Hv H ∧ Reps Hv vs [⟨τ1, x1⟩] ∧ pre x1 ∧ ∀ v Hv' H', Grow Hv H Hv' H' → φ.rep Hv' v (f x1) → Q v H'
theorem spF1_len {α1 : Type} {τ1 : Ty α1} {pre : α1 → Prop} {f : α1 → γ} (h : spF1 τ1 pre φ f vs H Q E) : vs.length = 1 := by
  obtain ⟨_, _, _, r, _⟩ := h
  exact r.len
theorem spF1_body {α1 : Type} {τ1 : Ty α1} {pre : α1 → Prop} {f : α1 → γ} {N : List Str} {t : TS} (hl : 1 ≤ N.length) (h : spF1 τ1 pre φ f vs H Q E) (hb : ∀ B0 : Bs, B0.n = N.length → ∀ (x1 : α1), pre x1 → RtF B0 φ (f x1) Q → G B0 t [(0, .fz τ1 x1)] { nx := fun _ H' => Q .non H', rt := Q }) : t { nx := fun _ H' => Q .non H', rt := Q } (L2.start N vs) H := by
  obtain ⟨x1, Hv, vis, rs, p, k⟩ := h
  exact hb ⟨H, Hv, fun _ => False, N.length⟩ rfl x1 p ⟨fun _ z => z, k⟩ _ _ _ (wd_start vis rs hl)
theorem sm_call1 {α1 : Type} {τ1 : Ty α1} {pre : α1 → Prop} {f : α1 → γ} {x1 : α1} {t : TA} (ha : SmA B Γ t [⟨τ1, x1⟩]) (hp : pre x1) : Sm B Γ (tCall (spF1 τ1 pre φ f) [] E t) φ (f x1) := fun σ Hv H w Q k =>
  ha σ Hv H w _ fun us Hv1 H1 g1 rs => by
    show spF1 τ1 pre φ f (us ++ []) H1 Q E
    rw [List.append_nil]
    exact ⟨x1, Hv1, g1.vis, rs, hp, fun v Hv2 H2 g2 r2 => k _ _ _ (g1.trans g2) r2⟩
theorem sm_meth1 {α1 : Type} {C : Addr} {sch : α1 → List (Str × As)}  {pre : α1 → Prop} {f : α1 → γ} {m : Str} {x1 : α1} {ta : TE} {t : TA} (h : Sm B Γ ta (tObj C sch) x1) (ns : List Str) (hm : ixOf ns m = none) (hns : (sch x1).map (·.1) = ns) (ha : SmA B Γ t []) (hp : pre x1) : Sm B Γ (tMeth C m (spF1 (tObj C sch) pre φ f) [] E ta t) φ (f x1) := fun σ Hv H w Q k =>
  h σ Hv H w _ fun v Hv1 H1 g1 rv => by
    have rv' := rv
    obtain ⟨a, dx, fs, ev, h1, r1⟩ := rv
    refine ⟨a, dx, fs, ev, g1.vis _ _ h1, r1.none (by rw [hns]; exact hm), ha σ Hv1 H1 (w.grow g1) _ fun us Hv2 H2 g2 rs => ?_⟩
    show spF1 (tObj C sch) pre φ f (v :: (us ++ [])) H2 Q E
    rw [List.append_nil]
    exact ⟨x1, Hv2, g2.vis, .cons ((tObj C sch).mono g2.v rv') rs, hp, fun v Hv3 H3 g3 r3 => k _ _ _ ((g1.trans g2).trans g3) r3⟩
def spO1 {α1 : Type} (τ1 : Ty α1) (pre : α1 → Prop) (φ : Ty γ) (f : α1 → List γ) : Sp := fun vs H Q _ => ∃ (x1 : α1), ∃ Hv, Same Hv H ∧ Reps Hv vs [⟨τ1, x1⟩] ∧ pre x1 ∧ ∀ l us Hv' H', Grow Hv H Hv' H' → H l = none → H' l = some (.lst us) → Hv' l = none → Paired (φ.rep Hv') us (f x1) → Q (.ref l) H'
theorem spO1_len {α1 : Type} {τ1 : Ty α1} {pre : α1 → Prop} {f : α1 → List γ} (h : spO1 τ1 pre φ f vs H Q E) : vs.length = 1 := by
  obtain ⟨_, _, _, r, _⟩ := h
  exact r.len
theorem spO1_body {α1 : Type} {τ1 : Ty α1} {pre : α1 → Prop} {f : α1 → List γ} {N : List Str} {t : TS} (hl : 1 ≤ N.length) (h : spO1 τ1 pre φ f vs H Q E) (hb : ∀ B0 : Bs, B0.n = N.length → ∀ (x1 : α1), pre x1 → RtO B0 φ (f x1) Q → G B0 t [(0, .fz τ1 x1)] { nx := fun _ H' => Q .non H', rt := Q }) : t { nx := fun _ H' => Q .non H', rt := Q } (L2.start N vs) H := by
  obtain ⟨x1, Hv, vis, rs, p, k⟩ := h
  exact hb ⟨H, Hv, fun _ => False, N.length⟩ rfl x1 p ⟨fun _ z => z, k⟩ _ _ _ (wd_start vis rs hl)
theorem smo_call1 {α1 : Type} {τ1 : Ty α1} {pre : α1 → Prop} {f : α1 → List γ} {x1 : α1} {t : TA} (ha : SmA B Γ t [⟨τ1, x1⟩]) (hp : pre x1) : SmO B Γ (tCall (spO1 τ1 pre φ f) [] E t) φ (f x1) := fun σ Hv H w Q k =>
  ha σ Hv H w _ fun us Hv1 H1 g1 rs => by
    show spO1 τ1 pre φ f (us ++ []) H1 Q E
    rw [List.append_nil]
    exact ⟨x1, Hv1, g1.vis, rs, hp, fun l us Hv2 H2 g2 e0 e1 e2 r2 => k _ _ _ _ (g1.trans g2) (Same.free g1.s e0) e1 e2 r2⟩
theorem smo_meth1 {α1 : Type} {C : Addr} {sch : α1 → List (Str × As)}  {pre : α1 → Prop} {f : α1 → List γ} {m : Str} {x1 : α1} {ta : TE} {t : TA} (h : Sm B Γ ta (tObj C sch) x1) (ns : List Str) (hm : ixOf ns m = none) (hns : (sch x1).map (·.1) = ns) (ha : SmA B Γ t []) (hp : pre x1) : SmO B Γ (tMeth C m (spO1 (tObj C sch) pre φ f) [] E ta t) φ (f x1) := fun σ Hv H w Q k =>
  h σ Hv H w _ fun v Hv1 H1 g1 rv => by
    have rv' := rv
    obtain ⟨a, dx, fs, ev, h1, r1⟩ := rv
    refine ⟨a, dx, fs, ev, g1.vis _ _ h1, r1.none (by rw [hns]; exact hm), ha σ Hv1 H1 (w.grow g1) _ fun us Hv2 H2 g2 rs => ?_⟩
    show spO1 (tObj C sch) pre φ f (v :: (us ++ [])) H2 Q E
    rw [List.append_nil]
    exact ⟨x1, Hv2, g2.vis, .cons ((tObj C sch).mono g2.v rv') rs, hp, fun l us Hv3 H3 g3 e0 e1 e2 r3 => k _ _ _ _ ((g1.trans g2).trans g3) (Same.free (g1.trans g2).s e0) e1 e2 r3⟩
def spF2 {α1 : Type} {α2 : Type} (τ1 : Ty α1) (τ2 : Ty α2) (pre : α1 → α2 → Prop) (φ : Ty γ) (f : α1 → α2 → γ) : Sp := fun vs H Q _ => ∃ (x1 : α1) (x2 : α2), ∃ Hv, Same Hv H ∧ Reps Hv vs [⟨τ1, x1⟩, ⟨τ2, x2⟩] ∧ pre x1 x2 ∧ ∀ v Hv' H', Grow Hv H Hv' H' → φ.rep Hv' v (f x1 x2) → Q v H'
theorem spF2_len {α1 : Type} {α2 : Type} {τ1 : Ty α1} {τ2 : Ty α2} {pre : α1 → α2 → Prop} {f : α1 → α2 → γ} (h : spF2 τ1 τ2 pre φ f vs H Q E) : vs.length = 2 := by
  obtain ⟨_, _, _, _, r, _⟩ := h
  exact r.len
theorem spF2_body {α1 : Type} {α2 : Type} {τ1 : Ty α1} {τ2 : Ty α2} {pre : α1 → α2 → Prop} {f : α1 → α2 → γ} {N : List Str} {t : TS} (hl : 2 ≤ N.length) (h : spF2 τ1 τ2 pre φ f vs H Q E) (hb : ∀ B0 : Bs, B0.n = N.length → ∀ (x1 : α1) (x2 : α2), pre x1 x2 → RtF B0 φ (f x1 x2) Q → G B0 t [(0, .fz τ1 x1), (1, .fz τ2 x2)] { nx := fun _ H' => Q .non H', rt := Q }) : t { nx := fun _ H' => Q .non H', rt := Q } (L2.start N vs) H := by
  obtain ⟨x1, x2, Hv, vis, rs, p, k⟩ := h
  exact hb ⟨H, Hv, fun _ => False, N.length⟩ rfl x1 x2 p ⟨fun _ z => z, k⟩ _ _ _ (wd_start vis rs hl)
theorem sm_call2 {α1 : Type} {α2 : Type} {τ1 : Ty α1} {τ2 : Ty α2} {pre : α1 → α2 → Prop} {f : α1 → α2 → γ} {x1 : α1} {x2 : α2} {t : TA} (ha : SmA B Γ t [⟨τ1, x1⟩, ⟨τ2, x2⟩]) (hp : pre x1 x2) : Sm B Γ (tCall (spF2 τ1 τ2 pre φ f) [] E t) φ (f x1 x2) := fun σ Hv H w Q k =>
  ha σ Hv H w _ fun us Hv1 H1 g1 rs => by
    show spF2 τ1 τ2 pre φ f (us ++ []) H1 Q E
    rw [List.append_nil]
    exact ⟨x1, x2, Hv1, g1.vis, rs, hp, fun v Hv2 H2 g2 r2 => k _ _ _ (g1.trans g2) r2⟩
theorem sm_meth2 {α1 : Type} {α2 : Type} {C : Addr} {sch : α1 → List (Str × As)} {τ2 : Ty α2} {pre : α1 → α2 → Prop} {f : α1 → α2 → γ} {m : Str} {x1 : α1} {x2 : α2} {ta : TE} {t : TA} (h : Sm B Γ ta (tObj C sch) x1) (ns : List Str) (hm : ixOf ns m = none) (hns : (sch x1).map (·.1) = ns) (ha : SmA B Γ t [⟨τ2, x2⟩]) (hp : pre x1 x2) : Sm B Γ (tMeth C m (spF2 (tObj C sch) τ2 pre φ f) [] E ta t) φ (f x1 x2) := fun σ Hv H w Q k =>
  h σ Hv H w _ fun v Hv1 H1 g1 rv => by
    have rv' := rv
    obtain ⟨a, dx, fs, ev, h1, r1⟩ := rv
    refine ⟨a, dx, fs, ev, g1.vis _ _ h1, r1.none (by rw [hns]; exact hm), ha σ Hv1 H1 (w.grow g1) _ fun us Hv2 H2 g2 rs => ?_⟩
    show spF2 (tObj C sch) τ2 pre φ f (v :: (us ++ [])) H2 Q E
    rw [List.append_nil]
    exact ⟨x1, x2, Hv2, g2.vis, .cons ((tObj C sch).mono g2.v rv') rs, hp, fun v Hv3 H3 g3 r3 => k _ _ _ ((g1.trans g2).trans g3) r3⟩
def spO2 {α1 : Type} {α2 : Type} (τ1 : Ty α1) (τ2 : Ty α2) (pre : α1 → α2 → Prop) (φ : Ty γ) (f : α1 → α2 → List γ) : Sp := fun vs H Q _ => ∃ (x1 : α1) (x2 : α2), ∃ Hv, Same Hv H ∧ Reps Hv vs [⟨τ1, x1⟩, ⟨τ2, x2⟩] ∧ pre x1 x2 ∧ ∀ l us Hv' H', Grow Hv H Hv' H' → H l = none → H' l = some (.lst us) → Hv' l = none → Paired (φ.rep Hv') us (f x1 x2) → Q (.ref l) H'
theorem spO2_len {α1 : Type} {α2 : Type} {τ1 : Ty α1} {τ2 : Ty α2} {pre : α1 → α2 → Prop} {f : α1 → α2 → List γ} (h : spO2 τ1 τ2 pre φ f vs H Q E) : vs.length = 2 := by
  obtain ⟨_, _, _, _, r, _⟩ := h
  exact r.len
theorem spO2_body {α1 : Type} {α2 : Type} {τ1 : Ty α1} {τ2 : Ty α2} {pre : α1 → α2 → Prop} {f : α1 → α2 → List γ} {N : List Str} {t : TS} (hl : 2 ≤ N.length) (h : spO2 τ1 τ2 pre φ f vs H Q E) (hb : ∀ B0 : Bs, B0.n = N.length → ∀ (x1 : α1) (x2 : α2), pre x1 x2 → RtO B0 φ (f x1 x2) Q → G B0 t [(0, .fz τ1 x1), (1, .fz τ2 x2)] { nx := fun _ H' => Q .non H', rt := Q }) : t { nx := fun _ H' => Q .non H', rt := Q } (L2.start N vs) H := by
  obtain ⟨x1, x2, Hv, vis, rs, p, k⟩ := h
  exact hb ⟨H, Hv, fun _ => False, N.length⟩ rfl x1 x2 p ⟨fun _ z => z, k⟩ _ _ _ (wd_start vis rs hl)
theorem smo_call2 {α1 : Type} {α2 : Type} {τ1 : Ty α1} {τ2 : Ty α2} {pre : α1 → α2 → Prop} {f : α1 → α2 → List γ} {x1 : α1} {x2 : α2} {t : TA} (ha : SmA B Γ t [⟨τ1, x1⟩, ⟨τ2, x2⟩]) (hp : pre x1 x2) : SmO B Γ (tCall (spO2 τ1 τ2 pre φ f) [] E t) φ (f x1 x2) := fun σ Hv H w Q k =>
  ha σ Hv H w _ fun us Hv1 H1 g1 rs => by
    show spO2 τ1 τ2 pre φ f (us ++ []) H1 Q E
    rw [List.append_nil]
    exact ⟨x1, x2, Hv1, g1.vis, rs, hp, fun l us Hv2 H2 g2 e0 e1 e2 r2 => k _ _ _ _ (g1.trans g2) (Same.free g1.s e0) e1 e2 r2⟩
theorem smo_meth2 {α1 : Type} {α2 : Type} {C : Addr} {sch : α1 → List (Str × As)} {τ2 : Ty α2} {pre : α1 → α2 → Prop} {f : α1 → α2 → List γ} {m : Str} {x1 : α1} {x2 : α2} {ta : TE} {t : TA} (h : Sm B Γ ta (tObj C sch) x1) (ns : List Str) (hm : ixOf ns m = none) (hns : (sch x1).map (·.1) = ns) (ha : SmA B Γ t [⟨τ2, x2⟩]) (hp : pre x1 x2) : SmO B Γ (tMeth C m (spO2 (tObj C sch) τ2 pre φ f) [] E ta t) φ (f x1 x2) := fun σ Hv H w Q k =>
  h σ Hv H w _ fun v Hv1 H1 g1 rv => by
    have rv' := rv
    obtain ⟨a, dx, fs, ev, h1, r1⟩ := rv
    refine ⟨a, dx, fs, ev, g1.vis _ _ h1, r1.none (by rw [hns]; exact hm), ha σ Hv1 H1 (w.grow g1) _ fun us Hv2 H2 g2 rs => ?_⟩
    show spO2 (tObj C sch) τ2 pre φ f (v :: (us ++ [])) H2 Q E
    rw [List.append_nil]
    exact ⟨x1, x2, Hv2, g2.vis, .cons ((tObj C sch).mono g2.v rv') rs, hp, fun l us Hv3 H3 g3 e0 e1 e2 r3 => k _ _ _ _ ((g1.trans g2).trans g3) (Same.free (g1.trans g2).s e0) e1 e2 r3⟩
def spF3 {α1 : Type} {α2 : Type} {α3 : Type} (τ1 : Ty α1) (τ2 : Ty α2) (τ3 : Ty α3) (pre : α1 → α2 → α3 → Prop) (φ : Ty γ) (f : α1 → α2 → α3 → γ) : Sp := fun vs H Q _ => ∃ (x1 : α1) (x2 : α2) (x3 : α3), ∃ Hv, Same Hv H ∧ Reps Hv vs [⟨τ1, x1⟩, ⟨τ2, x2⟩, ⟨τ3, x3⟩] ∧ pre x1 x2 x3 ∧ ∀ v Hv' H', Grow Hv H Hv' H' → φ.rep Hv' v (f x1 x2 x3) → Q v H'
theorem spF3_len {α1 : Type} {α2 : Type} {α3 : Type} {τ1 : Ty α1} {τ2 : Ty α2} {τ3 : Ty α3} {pre : α1 → α2 → α3 → Prop} {f : α1 → α2 → α3 → γ} (h : spF3 τ1 τ2 τ3 pre φ f vs H Q E) : vs.length = 3 := by
  obtain ⟨_, _, _, _, _, r, _⟩ := h
  exact r.len
theorem spF3_body {α1 : Type} {α2 : Type} {α3 : Type} {τ1 : Ty α1} {τ2 : Ty α2} {τ3 : Ty α3} {pre : α1 → α2 → α3 → Prop} {f : α1 → α2 → α3 → γ} {N : List Str} {t : TS} (hl : 3 ≤ N.length) (h : spF3 τ1 τ2 τ3 pre φ f vs H Q E) (hb : ∀ B0 : Bs, B0.n = N.length → ∀ (x1 : α1) (x2 : α2) (x3 : α3), pre x1 x2 x3 → RtF B0 φ (f x1 x2 x3) Q → G B0 t [(0, .fz τ1 x1), (1, .fz τ2 x2), (2, .fz τ3 x3)] { nx := fun _ H' => Q .non H', rt := Q }) : t { nx := fun _ H' => Q .non H', rt := Q } (L2.start N vs) H := by
  obtain ⟨x1, x2, x3, Hv, vis, rs, p, k⟩ := h
  exact hb ⟨H, Hv, fun _ => False, N.length⟩ rfl x1 x2 x3 p ⟨fun _ z => z, k⟩ _ _ _ (wd_start vis rs hl)
theorem sm_call3 {α1 : Type} {α2 : Type} {α3 : Type} {τ1 : Ty α1} {τ2 : Ty α2} {τ3 : Ty α3} {pre : α1 → α2 → α3 → Prop} {f : α1 → α2 → α3 → γ} {x1 : α1} {x2 : α2} {x3 : α3} {t : TA} (ha : SmA B Γ t [⟨τ1, x1⟩, ⟨τ2, x2⟩, ⟨τ3, x3⟩]) (hp : pre x1 x2 x3) : Sm B Γ (tCall (spF3 τ1 τ2 τ3 pre φ f) [] E t) φ (f x1 x2 x3) := fun σ Hv H w Q k =>
  ha σ Hv H w _ fun us Hv1 H1 g1 rs => by
    show spF3 τ1 τ2 τ3 pre φ f (us ++ []) H1 Q E
    rw [List.append_nil]
    exact ⟨x1, x2, x3, Hv1, g1.vis, rs, hp, fun v Hv2 H2 g2 r2 => k _ _ _ (g1.trans g2) r2⟩
theorem sm_meth3 {α1 : Type} {α2 : Type} {α3 : Type} {C : Addr} {sch : α1 → List (Str × As)} {τ2 : Ty α2} {τ3 : Ty α3} {pre : α1 → α2 → α3 → Prop} {f : α1 → α2 → α3 → γ} {m : Str} {x1 : α1} {x2 : α2} {x3 : α3} {ta : TE} {t : TA} (h : Sm B Γ ta (tObj C sch) x1) (ns : List Str) (hm : ixOf ns m = none) (hns : (sch x1).map (·.1) = ns) (ha : SmA B Γ t [⟨τ2, x2⟩, ⟨τ3, x3⟩]) (hp : pre x1 x2 x3) : Sm B Γ (tMeth C m (spF3 (tObj C sch) τ2 τ3 pre φ f) [] E ta t) φ (f x1 x2 x3) := fun σ Hv H w Q k =>
  h σ Hv H w _ fun v Hv1 H1 g1 rv => by
    have rv' := rv
    obtain ⟨a, dx, fs, ev, h1, r1⟩ := rv
    refine ⟨a, dx, fs, ev, g1.vis _ _ h1, r1.none (by rw [hns]; exact hm), ha σ Hv1 H1 (w.grow g1) _ fun us Hv2 H2 g2 rs => ?_⟩
    show spF3 (tObj C sch) τ2 τ3 pre φ f (v :: (us ++ [])) H2 Q E
    rw [List.append_nil]
    exact ⟨x1, x2, x3, Hv2, g2.vis, .cons ((tObj C sch).mono g2.v rv') rs, hp, fun v Hv3 H3 g3 r3 => k _ _ _ ((g1.trans g2).trans g3) r3⟩
def spO3 {α1 : Type} {α2 : Type} {α3 : Type} (τ1 : Ty α1) (τ2 : Ty α2) (τ3 : Ty α3) (pre : α1 → α2 → α3 → Prop) (φ : Ty γ) (f : α1 → α2 → α3 → List γ) : Sp := fun vs H Q _ => ∃ (x1 : α1) (x2 : α2) (x3 : α3), ∃ Hv, Same Hv H ∧ Reps Hv vs [⟨τ1, x1⟩, ⟨τ2, x2⟩, ⟨τ3, x3⟩] ∧ pre x1 x2 x3 ∧ ∀ l us Hv' H', Grow Hv H Hv' H' → H l = none → H' l = some (.lst us) → Hv' l = none → Paired (φ.rep Hv') us (f x1 x2 x3) → Q (.ref l) H'
theorem spO3_len {α1 : Type} {α2 : Type} {α3 : Type} {τ1 : Ty α1} {τ2 : Ty α2} {τ3 : Ty α3} {pre : α1 → α2 → α3 → Prop} {f : α1 → α2 → α3 → List γ} (h : spO3 τ1 τ2 τ3 pre φ f vs H Q E) : vs.length = 3 := by
  obtain ⟨_, _, _, _, _, r, _⟩ := h
  exact r.len
theorem spO3_body {α1 : Type} {α2 : Type} {α3 : Type} {τ1 : Ty α1} {τ2 : Ty α2} {τ3 : Ty α3} {pre : α1 → α2 → α3 → Prop} {f : α1 → α2 → α3 → List γ} {N : List Str} {t : TS} (hl : 3 ≤ N.length) (h : spO3 τ1 τ2 τ3 pre φ f vs H Q E) (hb : ∀ B0 : Bs, B0.n = N.length → ∀ (x1 : α1) (x2 : α2) (x3 : α3), pre x1 x2 x3 → RtO B0 φ (f x1 x2 x3) Q → G B0 t [(0, .fz τ1 x1), (1, .fz τ2 x2), (2, .fz τ3 x3)] { nx := fun _ H' => Q .non H', rt := Q }) : t { nx := fun _ H' => Q .non H', rt := Q } (L2.start N vs) H := by
  obtain ⟨x1, x2, x3, Hv, vis, rs, p, k⟩ := h
  exact hb ⟨H, Hv, fun _ => False, N.length⟩ rfl x1 x2 x3 p ⟨fun _ z => z, k⟩ _ _ _ (wd_start vis rs hl)
theorem smo_call3 {α1 : Type} {α2 : Type} {α3 : Type} {τ1 : Ty α1} {τ2 : Ty α2} {τ3 : Ty α3} {pre : α1 → α2 → α3 → Prop} {f : α1 → α2 → α3 → List γ} {x1 : α1} {x2 : α2} {x3 : α3} {t : TA} (ha : SmA B Γ t [⟨τ1, x1⟩, ⟨τ2, x2⟩, ⟨τ3, x3⟩]) (hp : pre x1 x2 x3) : SmO B Γ (tCall (spO3 τ1 τ2 τ3 pre φ f) [] E t) φ (f x1 x2 x3) := fun σ Hv H w Q k =>
  ha σ Hv H w _ fun us Hv1 H1 g1 rs => by
    show spO3 τ1 τ2 τ3 pre φ f (us ++ []) H1 Q E
    rw [List.append_nil]
    exact ⟨x1, x2, x3, Hv1, g1.vis, rs, hp, fun l us Hv2 H2 g2 e0 e1 e2 r2 => k _ _ _ _ (g1.trans g2) (Same.free g1.s e0) e1 e2 r2⟩
theorem smo_meth3 {α1 : Type} {α2 : Type} {α3 : Type} {C : Addr} {sch : α1 → List (Str × As)} {τ2 : Ty α2} {τ3 : Ty α3} {pre : α1 → α2 → α3 → Prop} {f : α1 → α2 → α3 → List γ} {m : Str} {x1 : α1} {x2 : α2} {x3 : α3} {ta : TE} {t : TA} (h : Sm B Γ ta (tObj C sch) x1) (ns : List Str) (hm : ixOf ns m = none) (hns : (sch x1).map (·.1) = ns) (ha : SmA B Γ t [⟨τ2, x2⟩, ⟨τ3, x3⟩]) (hp : pre x1 x2 x3) : SmO B Γ (tMeth C m (spO3 (tObj C sch) τ2 τ3 pre φ f) [] E ta t) φ (f x1 x2 x3) := fun σ Hv H w Q k =>
  h σ Hv H w _ fun v Hv1 H1 g1 rv => by
    have rv' := rv
    obtain ⟨a, dx, fs, ev, h1, r1⟩ := rv
    refine ⟨a, dx, fs, ev, g1.vis _ _ h1, r1.none (by rw [hns]; exact hm), ha σ Hv1 H1 (w.grow g1) _ fun us Hv2 H2 g2 rs => ?_⟩
    show spO3 (tObj C sch) τ2 τ3 pre φ f (v :: (us ++ [])) H2 Q E
    rw [List.append_nil]
    exact ⟨x1, x2, x3, Hv2, g2.vis, .cons ((tObj C sch).mono g2.v rv') rs, hp, fun l us Hv3 H3 g3 e0 e1 e2 r3 => k _ _ _ _ ((g1.trans g2).trans g3) (Same.free (g1.trans g2).s e0) e1 e2 r3⟩
def spF4 {α1 : Type} {α2 : Type} {α3 : Type} {α4 : Type} (τ1 : Ty α1) (τ2 : Ty α2) (τ3 : Ty α3) (τ4 : Ty α4) (pre : α1 → α2 → α3 → α4 → Prop) (φ : Ty γ) (f : α1 → α2 → α3 → α4 → γ) : Sp := fun vs H Q _ => ∃ (x1 : α1) (x2 : α2) (x3 : α3) (x4 : α4), ∃ Hv, Same Hv H ∧ Reps Hv vs [⟨τ1, x1⟩, ⟨τ2, x2⟩, ⟨τ3, x3⟩, ⟨τ4, x4⟩] ∧ pre x1 x2 x3 x4 ∧ ∀ v Hv' H', Grow Hv H Hv' H' → φ.rep Hv' v (f x1 x2 x3 x4) → Q v H'
theorem spF4_len {α1 : Type} {α2 : Type} {α3 : Type} {α4 : Type} {τ1 : Ty α1} {τ2 : Ty α2} {τ3 : Ty α3} {τ4 : Ty α4} {pre : α1 → α2 → α3 → α4 → Prop} {f : α1 → α2 → α3 → α4 → γ} (h : spF4 τ1 τ2 τ3 τ4 pre φ f vs H Q E) : vs.length = 4 := by
  obtain ⟨_, _, _, _, _, _, r, _⟩ := h
  exact r.len
theorem spF4_body {α1 : Type} {α2 : Type} {α3 : Type} {α4 : Type} {τ1 : Ty α1} {τ2 : Ty α2} {τ3 : Ty α3} {τ4 : Ty α4} {pre : α1 → α2 → α3 → α4 → Prop} {f : α1 → α2 → α3 → α4 → γ} {N : List Str} {t : TS} (hl : 4 ≤ N.length) (h : spF4 τ1 τ2 τ3 τ4 pre φ f vs H Q E) (hb : ∀ B0 : Bs, B0.n = N.length → ∀ (x1 : α1) (x2 : α2) (x3 : α3) (x4 : α4), pre x1 x2 x3 x4 → RtF B0 φ (f x1 x2 x3 x4) Q → G B0 t [(0, .fz τ1 x1), (1, .fz τ2 x2), (2, .fz τ3 x3), (3, .fz τ4 x4)] { nx := fun _ H' => Q .non H', rt := Q }) : t { nx := fun _ H' => Q .non H', rt := Q } (L2.start N vs) H := by
  obtain ⟨x1, x2, x3, x4, Hv, vis, rs, p, k⟩ := h
  exact hb ⟨H, Hv, fun _ => False, N.length⟩ rfl x1 x2 x3 x4 p ⟨fun _ z => z, k⟩ _ _ _ (wd_start vis rs hl)
theorem sm_call4 {α1 : Type} {α2 : Type} {α3 : Type} {α4 : Type} {τ1 : Ty α1} {τ2 : Ty α2} {τ3 : Ty α3} {τ4 : Ty α4} {pre : α1 → α2 → α3 → α4 → Prop} {f : α1 → α2 → α3 → α4 → γ} {x1 : α1} {x2 : α2} {x3 : α3} {x4 : α4} {t : TA} (ha : SmA B Γ t [⟨τ1, x1⟩, ⟨τ2, x2⟩, ⟨τ3, x3⟩, ⟨τ4, x4⟩]) (hp : pre x1 x2 x3 x4) : Sm B Γ (tCall (spF4 τ1 τ2 τ3 τ4 pre φ f) [] E t) φ (f x1 x2 x3 x4) := fun σ Hv H w Q k =>
  ha σ Hv H w _ fun us Hv1 H1 g1 rs => by
    show spF4 τ1 τ2 τ3 τ4 pre φ f (us ++ []) H1 Q E
    rw [List.append_nil]
    exact ⟨x1, x2, x3, x4, Hv1, g1.vis, rs, hp, fun v Hv2 H2 g2 r2 => k _ _ _ (g1.trans g2) r2⟩
theorem sm_meth4 {α1 : Type} {α2 : Type} {α3 : Type} {α4 : Type} {C : Addr} {sch : α1 → List (Str × As)} {τ2 : Ty α2} {τ3 : Ty α3} {τ4 : Ty α4} {pre : α1 → α2 → α3 → α4 → Prop} {f : α1 → α2 → α3 → α4 → γ} {m : Str} {x1 : α1} {x2 : α2} {x3 : α3} {x4 : α4} {ta : TE} {t : TA} (h : Sm B Γ ta (tObj C sch) x1) (ns : List Str) (hm : ixOf ns m = none) (hns : (sch x1).map (·.1) = ns) (ha : SmA B Γ t [⟨τ2, x2⟩, ⟨τ3, x3⟩, ⟨τ4, x4⟩]) (hp : pre x1 x2 x3 x4) : Sm B Γ (tMeth C m (spF4 (tObj C sch) τ2 τ3 τ4 pre φ f) [] E ta t) φ (f x1 x2 x3 x4) := fun σ Hv H w Q k =>
  h σ Hv H w _ fun v Hv1 H1 g1 rv => by
    have rv' := rv
    obtain ⟨a, dx, fs, ev, h1, r1⟩ := rv
    refine ⟨a, dx, fs, ev, g1.vis _ _ h1, r1.none (by rw [hns]; exact hm), ha σ Hv1 H1 (w.grow g1) _ fun us Hv2 H2 g2 rs => ?_⟩
    show spF4 (tObj C sch) τ2 τ3 τ4 pre φ f (v :: (us ++ [])) H2 Q E
    rw [List.append_nil]
    exact ⟨x1, x2, x3, x4, Hv2, g2.vis, .cons ((tObj C sch).mono g2.v rv') rs, hp, fun v Hv3 H3 g3 r3 => k _ _ _ ((g1.trans g2).trans g3) r3⟩
def spO4 {α1 : Type} {α2 : Type} {α3 : Type} {α4 : Type} (τ1 : Ty α1) (τ2 : Ty α2) (τ3 : Ty α3) (τ4 : Ty α4) (pre : α1 → α2 → α3 → α4 → Prop) (φ : Ty γ) (f : α1 → α2 → α3 → α4 → List γ) : Sp := fun vs H Q _ => ∃ (x1 : α1) (x2 : α2) (x3 : α3) (x4 : α4), ∃ Hv, Same Hv H ∧ Reps Hv vs [⟨τ1, x1⟩, ⟨τ2, x2⟩, ⟨τ3, x3⟩, ⟨τ4, x4⟩] ∧ pre x1 x2 x3 x4 ∧ ∀ l us Hv' H', Grow Hv H Hv' H' → H l = none → H' l = some (.lst us) → Hv' l = none → Paired (φ.rep Hv') us (f x1 x2 x3 x4) → Q (.ref l) H'
theorem spO4_len {α1 : Type} {α2 : Type} {α3 : Type} {α4 : Type} {τ1 : Ty α1} {τ2 : Ty α2} {τ3 : Ty α3} {τ4 : Ty α4} {pre : α1 → α2 → α3 → α4 → Prop} {f : α1 → α2 → α3 → α4 → List γ} (h : spO4 τ1 τ2 τ3 τ4 pre φ f vs H Q E) : vs.length = 4 := by
  obtain ⟨_, _, _, _, _, _, r, _⟩ := h
  exact r.len
theorem spO4_body {α1 : Type} {α2 : Type} {α3 : Type} {α4 : Type} {τ1 : Ty α1} {τ2 : Ty α2} {τ3 : Ty α3} {τ4 : Ty α4} {pre : α1 → α2 → α3 → α4 → Prop} {f : α1 → α2 → α3 → α4 → List γ} {N : List Str} {t : TS} (hl : 4 ≤ N.length) (h : spO4 τ1 τ2 τ3 τ4 pre φ f vs H Q E) (hb : ∀ B0 : Bs, B0.n = N.length → ∀ (x1 : α1) (x2 : α2) (x3 : α3) (x4 : α4), pre x1 x2 x3 x4 → RtO B0 φ (f x1 x2 x3 x4) Q → G B0 t [(0, .fz τ1 x1), (1, .fz τ2 x2), (2, .fz τ3 x3), (3, .fz τ4 x4)] { nx := fun _ H' => Q .non H', rt := Q }) : t { nx := fun _ H' => Q .non H', rt := Q } (L2.start N vs) H := by
  obtain ⟨x1, x2, x3, x4, Hv, vis, rs, p, k⟩ := h
  exact hb ⟨H, Hv, fun _ => False, N.length⟩ rfl x1 x2 x3 x4 p ⟨fun _ z => z, k⟩ _ _ _ (wd_start vis rs hl)
theorem smo_call4 {α1 : Type} {α2 : Type} {α3 : Type} {α4 : Type} {τ1 : Ty α1} {τ2 : Ty α2} {τ3 : Ty α3} {τ4 : Ty α4} {pre : α1 → α2 → α3 → α4 → Prop} {f : α1 → α2 → α3 → α4 → List γ} {x1 : α1} {x2 : α2} {x3 : α3} {x4 : α4} {t : TA} (ha : SmA B Γ t [⟨τ1, x1⟩, ⟨τ2, x2⟩, ⟨τ3, x3⟩, ⟨τ4, x4⟩]) (hp : pre x1 x2 x3 x4) : SmO B Γ (tCall (spO4 τ1 τ2 τ3 τ4 pre φ f) [] E t) φ (f x1 x2 x3 x4) := fun σ Hv H w Q k =>
  ha σ Hv H w _ fun us Hv1 H1 g1 rs => by
    show spO4 τ1 τ2 τ3 τ4 pre φ f (us ++ []) H1 Q E
    rw [List.append_nil]
    exact ⟨x1, x2, x3, x4, Hv1, g1.vis, rs, hp, fun l us Hv2 H2 g2 e0 e1 e2 r2 => k _ _ _ _ (g1.trans g2) (Same.free g1.s e0) e1 e2 r2⟩
theorem smo_meth4 {α1 : Type} {α2 : Type} {α3 : Type} {α4 : Type} {C : Addr} {sch : α1 → List (Str × As)} {τ2 : Ty α2} {τ3 : Ty α3} {τ4 : Ty α4} {pre : α1 → α2 → α3 → α4 → Prop} {f : α1 → α2 → α3 → α4 → List γ} {m : Str} {x1 : α1} {x2 : α2} {x3 : α3} {x4 : α4} {ta : TE} {t : TA} (h : Sm B Γ ta (tObj C sch) x1) (ns : List Str) (hm : ixOf ns m = none) (hns : (sch x1).map (·.1) = ns) (ha : SmA B Γ t [⟨τ2, x2⟩, ⟨τ3, x3⟩, ⟨τ4, x4⟩]) (hp : pre x1 x2 x3 x4) : SmO B Γ (tMeth C m (spO4 (tObj C sch) τ2 τ3 τ4 pre φ f) [] E ta t) φ (f x1 x2 x3 x4) := fun σ Hv H w Q k =>
  h σ Hv H w _ fun v Hv1 H1 g1 rv => by
    have rv' := rv
    obtain ⟨a, dx, fs, ev, h1, r1⟩ := rv
    refine ⟨a, dx, fs, ev, g1.vis _ _ h1, r1.none (by rw [hns]; exact hm), ha σ Hv1 H1 (w.grow g1) _ fun us Hv2 H2 g2 rs => ?_⟩
    show spO4 (tObj C sch) τ2 τ3 τ4 pre φ f (v :: (us ++ [])) H2 Q E
    rw [List.append_nil]
    exact ⟨x1, x2, x3, x4, Hv2, g2.vis, .cons ((tObj C sch).mono g2.v rv') rs, hp, fun l us Hv3 H3 g3 e0 e1 e2 r3 => k _ _ _ _ ((g1.trans g2).trans g3) (Same.free (g1.trans g2).s e0) e1 e2 r3⟩
def spF5 {α1 : Type} {α2 : Type} {α3 : Type} {α4 : Type} {α5 : Type} (τ1 : Ty α1) (τ2 : Ty α2) (τ3 : Ty α3) (τ4 : Ty α4) (τ5 : Ty α5) (pre : α1 → α2 → α3 → α4 → α5 → Prop) (φ : Ty γ) (f : α1 → α2 → α3 → α4 → α5 → γ) : Sp := fun vs H Q _ => ∃ (x1 : α1) (x2 : α2) (x3 : α3) (x4 : α4) (x5 : α5), ∃ Hv, Same Hv H ∧ Reps Hv vs [⟨τ1, x1⟩, ⟨τ2, x2⟩, ⟨τ3, x3⟩, ⟨τ4, x4⟩, ⟨τ5, x5⟩] ∧ pre x1 x2 x3 x4 x5 ∧ ∀ v Hv' H', Grow Hv H Hv' H' → φ.rep Hv' v (f x1 x2 x3 x4 x5) → Q v H'
theorem spF5_len {α1 : Type} {α2 : Type} {α3 : Type} {α4 : Type} {α5 : Type} {τ1 : Ty α1} {τ2 : Ty α2} {τ3 : Ty α3} {τ4 : Ty α4} {τ5 : Ty α5} {pre : α1 → α2 → α3 → α4 → α5 → Prop} {f : α1 → α2 → α3 → α4 → α5 → γ} (h : spF5 τ1 τ2 τ3 τ4 τ5 pre φ f vs H Q E) : vs.length = 5 := by
  obtain ⟨_, _, _, _, _, _, _, r, _⟩ := h
  exact r.len
theorem spF5_body {α1 : Type} {α2 : Type} {α3 : Type} {α4 : Type} {α5 : Type} {τ1 : Ty α1} {τ2 : Ty α2} {τ3 : Ty α3} {τ4 : Ty α4} {τ5 : Ty α5} {pre : α1 → α2 → α3 → α4 → α5 → Prop} {f : α1 → α2 → α3 → α4 → α5 → γ} {N : List Str} {t : TS} (hl : 5 ≤ N.length) (h : spF5 τ1 τ2 τ3 τ4 τ5 pre φ f vs H Q E) (hb : ∀ B0 : Bs, B0.n = N.length → ∀ (x1 : α1) (x2 : α2) (x3 : α3) (x4 : α4) (x5 : α5), pre x1 x2 x3 x4 x5 → RtF B0 φ (f x1 x2 x3 x4 x5) Q → G B0 t [(0, .fz τ1 x1), (1, .fz τ2 x2), (2, .fz τ3 x3), (3, .fz τ4 x4), (4, .fz τ5 x5)] { nx := fun _ H' => Q .non H', rt := Q }) : t { nx := fun _ H' => Q .non H', rt := Q } (L2.start N vs) H := by
  obtain ⟨x1, x2, x3, x4, x5, Hv, vis, rs, p, k⟩ := h
  exact hb ⟨H, Hv, fun _ => False, N.length⟩ rfl x1 x2 x3 x4 x5 p ⟨fun _ z => z, k⟩ _ _ _ (wd_start vis rs hl)
theorem sm_call5 {α1 : Type} {α2 : Type} {α3 : Type} {α4 : Type} {α5 : Type} {τ1 : Ty α1} {τ2 : Ty α2} {τ3 : Ty α3} {τ4 : Ty α4} {τ5 : Ty α5} {pre : α1 → α2 → α3 → α4 → α5 → Prop} {f : α1 → α2 → α3 → α4 → α5 → γ} {x1 : α1} {x2 : α2} {x3 : α3} {x4 : α4} {x5 : α5} {t : TA} (ha : SmA B Γ t [⟨τ1, x1⟩, ⟨τ2, x2⟩, ⟨τ3, x3⟩, ⟨τ4, x4⟩, ⟨τ5, x5⟩]) (hp : pre x1 x2 x3 x4 x5) : Sm B Γ (tCall (spF5 τ1 τ2 τ3 τ4 τ5 pre φ f) [] E t) φ (f x1 x2 x3 x4 x5) := fun σ Hv H w Q k =>
  ha σ Hv H w _ fun us Hv1 H1 g1 rs => by
    show spF5 τ1 τ2 τ3 τ4 τ5 pre φ f (us ++ []) H1 Q E
    rw [List.append_nil]
    exact ⟨x1, x2, x3, x4, x5, Hv1, g1.vis, rs, hp, fun v Hv2 H2 g2 r2 => k _ _ _ (g1.trans g2) r2⟩
theorem sm_meth5 {α1 : Type} {α2 : Type} {α3 : Type} {α4 : Type} {α5 : Type} {C : Addr} {sch : α1 → List (Str × As)} {τ2 : Ty α2} {τ3 : Ty α3} {τ4 : Ty α4} {τ5 : Ty α5} {pre : α1 → α2 → α3 → α4 → α5 → Prop} {f : α1 → α2 → α3 → α4 → α5 → γ} {m : Str} {x1 : α1} {x2 : α2} {x3 : α3} {x4 : α4} {x5 : α5} {ta : TE} {t : TA} (h : Sm B Γ ta (tObj C sch) x1) (ns : List Str) (hm : ixOf ns m = none) (hns : (sch x1).map (·.1) = ns) (ha : SmA B Γ t [⟨τ2, x2⟩, ⟨τ3, x3⟩, ⟨τ4, x4⟩, ⟨τ5, x5⟩]) (hp : pre x1 x2 x3 x4 x5) : Sm B Γ (tMeth C m (spF5 (tObj C sch) τ2 τ3 τ4 τ5 pre φ f) [] E ta t) φ (f x1 x2 x3 x4 x5) := fun σ Hv H w Q k =>
  h σ Hv H w _ fun v Hv1 H1 g1 rv => by
    have rv' := rv
    obtain ⟨a, dx, fs, ev, h1, r1⟩ := rv
    refine ⟨a, dx, fs, ev, g1.vis _ _ h1, r1.none (by rw [hns]; exact hm), ha σ Hv1 H1 (w.grow g1) _ fun us Hv2 H2 g2 rs => ?_⟩
    show spF5 (tObj C sch) τ2 τ3 τ4 τ5 pre φ f (v :: (us ++ [])) H2 Q E
    rw [List.append_nil]
    exact ⟨x1, x2, x3, x4, x5, Hv2, g2.vis, .cons ((tObj C sch).mono g2.v rv') rs, hp, fun v Hv3 H3 g3 r3 => k _ _ _ ((g1.trans g2).trans g3) r3⟩
def spO5 {α1 : Type} {α2 : Type} {α3 : Type} {α4 : Type} {α5 : Type} (τ1 : Ty α1) (τ2 : Ty α2) (τ3 : Ty α3) (τ4 : Ty α4) (τ5 : Ty α5) (pre : α1 → α2 → α3 → α4 → α5 → Prop) (φ : Ty γ) (f : α1 → α2 → α3 → α4 → α5 → List γ) : Sp := fun vs H Q _ => ∃ (x1 : α1) (x2 : α2) (x3 : α3) (x4 : α4) (x5 : α5), ∃ Hv, Same Hv H ∧ Reps Hv vs [⟨τ1, x1⟩, ⟨τ2, x2⟩, ⟨τ3, x3⟩, ⟨τ4, x4⟩, ⟨τ5, x5⟩] ∧ pre x1 x2 x3 x4 x5 ∧ ∀ l us Hv' H', Grow Hv H Hv' H' → H l = none → H' l = some (.lst us) → Hv' l = none → Paired (φ.rep Hv') us (f x1 x2 x3 x4 x5) → Q (.ref l) H'
theorem spO5_len {α1 : Type} {α2 : Type} {α3 : Type} {α4 : Type} {α5 : Type} {τ1 : Ty α1} {τ2 : Ty α2} {τ3 : Ty α3} {τ4 : Ty α4} {τ5 : Ty α5} {pre : α1 → α2 → α3 → α4 → α5 → Prop} {f : α1 → α2 → α3 → α4 → α5 → List γ} (h : spO5 τ1 τ2 τ3 τ4 τ5 pre φ f vs H Q E) : vs.length = 5 := by
  obtain ⟨_, _, _, _, _, _, _, r, _⟩ := h
  exact r.len
theorem spO5_body {α1 : Type} {α2 : Type} {α3 : Type} {α4 : Type} {α5 : Type} {τ1 : Ty α1} {τ2 : Ty α2} {τ3 : Ty α3} {τ4 : Ty α4} {τ5 : Ty α5} {pre : α1 → α2 → α3 → α4 → α5 → Prop} {f : α1 → α2 → α3 → α4 → α5 → List γ} {N : List Str} {t : TS} (hl : 5 ≤ N.length) (h : spO5 τ1 τ2 τ3 τ4 τ5 pre φ f vs H Q E) (hb : ∀ B0 : Bs, B0.n = N.length → ∀ (x1 : α1) (x2 : α2) (x3 : α3) (x4 : α4) (x5 : α5), pre x1 x2 x3 x4 x5 → RtO B0 φ (f x1 x2 x3 x4 x5) Q → G B0 t [(0, .fz τ1 x1), (1, .fz τ2 x2), (2, .fz τ3 x3), (3, .fz τ4 x4), (4, .fz τ5 x5)] { nx := fun _ H' => Q .non H', rt := Q }) : t { nx := fun _ H' => Q .non H', rt := Q } (L2.start N vs) H := by
  obtain ⟨x1, x2, x3, x4, x5, Hv, vis, rs, p, k⟩ := h
  exact hb ⟨H, Hv, fun _ => False, N.length⟩ rfl x1 x2 x3 x4 x5 p ⟨fun _ z => z, k⟩ _ _ _ (wd_start vis rs hl)
theorem smo_call5 {α1 : Type} {α2 : Type} {α3 : Type} {α4 : Type} {α5 : Type} {τ1 : Ty α1} {τ2 : Ty α2} {τ3 : Ty α3} {τ4 : Ty α4} {τ5 : Ty α5} {pre : α1 → α2 → α3 → α4 → α5 → Prop} {f : α1 → α2 → α3 → α4 → α5 → List γ} {x1 : α1} {x2 : α2} {x3 : α3} {x4 : α4} {x5 : α5} {t : TA} (ha : SmA B Γ t [⟨τ1, x1⟩, ⟨τ2, x2⟩, ⟨τ3, x3⟩, ⟨τ4, x4⟩, ⟨τ5, x5⟩]) (hp : pre x1 x2 x3 x4 x5) : SmO B Γ (tCall (spO5 τ1 τ2 τ3 τ4 τ5 pre φ f) [] E t) φ (f x1 x2 x3 x4 x5) := fun σ Hv H w Q k =>
  ha σ Hv H w _ fun us Hv1 H1 g1 rs => by
    show spO5 τ1 τ2 τ3 τ4 τ5 pre φ f (us ++ []) H1 Q E
    rw [List.append_nil]
    exact ⟨x1, x2, x3, x4, x5, Hv1, g1.vis, rs, hp, fun l us Hv2 H2 g2 e0 e1 e2 r2 => k _ _ _ _ (g1.trans g2) (Same.free g1.s e0) e1 e2 r2⟩
theorem smo_meth5 {α1 : Type} {α2 : Type} {α3 : Type} {α4 : Type} {α5 : Type} {C : Addr} {sch : α1 → List (Str × As)} {τ2 : Ty α2} {τ3 : Ty α3} {τ4 : Ty α4} {τ5 : Ty α5} {pre : α1 → α2 → α3 → α4 → α5 → Prop} {f : α1 → α2 → α3 → α4 → α5 → List γ} {m : Str} {x1 : α1} {x2 : α2} {x3 : α3} {x4 : α4} {x5 : α5} {ta : TE} {t : TA} (h : Sm B Γ ta (tObj C sch) x1) (ns : List Str) (hm : ixOf ns m = none) (hns : (sch x1).map (·.1) = ns) (ha : SmA B Γ t [⟨τ2, x2⟩, ⟨τ3, x3⟩, ⟨τ4, x4⟩, ⟨τ5, x5⟩]) (hp : pre x1 x2 x3 x4 x5) : SmO B Γ (tMeth C m (spO5 (tObj C sch) τ2 τ3 τ4 τ5 pre φ f) [] E ta t) φ (f x1 x2 x3 x4 x5) := fun σ Hv H w Q k =>
  h σ Hv H w _ fun v Hv1 H1 g1 rv => by
    have rv' := rv
    obtain ⟨a, dx, fs, ev, h1, r1⟩ := rv
    refine ⟨a, dx, fs, ev, g1.vis _ _ h1, r1.none (by rw [hns]; exact hm), ha σ Hv1 H1 (w.grow g1) _ fun us Hv2 H2 g2 rs => ?_⟩
    show spO5 (tObj C sch) τ2 τ3 τ4 τ5 pre φ f (v :: (us ++ [])) H2 Q E
    rw [List.append_nil]
    exact ⟨x1, x2, x3, x4, x5, Hv2, g2.vis, .cons ((tObj C sch).mono g2.v rv') rs, hp, fun l us Hv3 H3 g3 e0 e1 e2 r3 => k _ _ _ _ ((g1.trans g2).trans g3) (Same.free (g1.trans g2).s e0) e1 e2 r3⟩
def spF6 {α1 : Type} {α2 : Type} {α3 : Type} {α4 : Type} {α5 : Type} {α6 : Type} (τ1 : Ty α1) (τ2 : Ty α2) (τ3 : Ty α3) (τ4 : Ty α4) (τ5 : Ty α5) (τ6 : Ty α6) (pre : α1 → α2 → α3 → α4 → α5 → α6 → Prop) (φ : Ty γ) (f : α1 → α2 → α3 → α4 → α5 → α6 → γ) : Sp := fun vs H Q _ => ∃ (x1 : α1) (x2 : α2) (x3 : α3) (x4 : α4) (x5 : α5) (x6 : α6), ∃ Hv, Same Hv H ∧ Reps Hv vs [⟨τ1, x1⟩, ⟨τ2, x2⟩, ⟨τ3, x3⟩, ⟨τ4, x4⟩, ⟨τ5, x5⟩, ⟨τ6, x6⟩] ∧ pre x1 x2 x3 x4 x5 x6 ∧ ∀ v Hv' H', Grow Hv H Hv' H' → φ.rep Hv' v (f x1 x2 x3 x4 x5 x6) → Q v H'
theorem spF6_len {α1 : Type} {α2 : Type} {α3 : Type} {α4 : Type} {α5 : Type} {α6 : Type} {τ1 : Ty α1} {τ2 : Ty α2} {τ3 : Ty α3} {τ4 : Ty α4} {τ5 : Ty α5} {τ6 : Ty α6} {pre : α1 → α2 → α3 → α4 → α5 → α6 → Prop} {f : α1 → α2 → α3 → α4 → α5 → α6 → γ} (h : spF6 τ1 τ2 τ3 τ4 τ5 τ6 pre φ f vs H Q E) : vs.length = 6 := by
  obtain ⟨_, _, _, _, _, _, _, _, r, _⟩ := h
  exact r.len
theorem spF6_body {α1 : Type} {α2 : Type} {α3 : Type} {α4 : Type} {α5 : Type} {α6 : Type} {τ1 : Ty α1} {τ2 : Ty α2} {τ3 : Ty α3} {τ4 : Ty α4} {τ5 : Ty α5} {τ6 : Ty α6} {pre : α1 → α2 → α3 → α4 → α5 → α6 → Prop} {f : α1 → α2 → α3 → α4 → α5 → α6 → γ} {N : List Str} {t : TS} (hl : 6 ≤ N.length) (h : spF6 τ1 τ2 τ3 τ4 τ5 τ6 pre φ f vs H Q E) (hb : ∀ B0 : Bs, B0.n = N.length → ∀ (x1 : α1) (x2 : α2) (x3 : α3) (x4 : α4) (x5 : α5) (x6 : α6), pre x1 x2 x3 x4 x5 x6 → RtF B0 φ (f x1 x2 x3 x4 x5 x6) Q → G B0 t [(0, .fz τ1 x1), (1, .fz τ2 x2), (2, .fz τ3 x3), (3, .fz τ4 x4), (4, .fz τ5 x5), (5, .fz τ6 x6)] { nx := fun _ H' => Q .non H', rt := Q }) : t { nx := fun _ H' => Q .non H', rt := Q } (L2.start N vs) H := by
  obtain ⟨x1, x2, x3, x4, x5, x6, Hv, vis, rs, p, k⟩ := h
  exact hb ⟨H, Hv, fun _ => False, N.length⟩ rfl x1 x2 x3 x4 x5 x6 p ⟨fun _ z => z, k⟩ _ _ _ (wd_start vis rs hl)
theorem sm_call6 {α1 : Type} {α2 : Type} {α3 : Type} {α4 : Type} {α5 : Type} {α6 : Type} {τ1 : Ty α1} {τ2 : Ty α2} {τ3 : Ty α3} {τ4 : Ty α4} {τ5 : Ty α5} {τ6 : Ty α6} {pre : α1 → α2 → α3 → α4 → α5 → α6 → Prop} {f : α1 → α2 → α3 → α4 → α5 → α6 → γ} {x1 : α1} {x2 : α2} {x3 : α3} {x4 : α4} {x5 : α5} {x6 : α6} {t : TA} (ha : SmA B Γ t [⟨τ1, x1⟩, ⟨τ2, x2⟩, ⟨τ3, x3⟩, ⟨τ4, x4⟩, ⟨τ5, x5⟩, ⟨τ6, x6⟩]) (hp : pre x1 x2 x3 x4 x5 x6) : Sm B Γ (tCall (spF6 τ1 τ2 τ3 τ4 τ5 τ6 pre φ f) [] E t) φ (f x1 x2 x3 x4 x5 x6) := fun σ Hv H w Q k =>
  ha σ Hv H w _ fun us Hv1 H1 g1 rs => by
    show spF6 τ1 τ2 τ3 τ4 τ5 τ6 pre φ f (us ++ []) H1 Q E
    rw [List.append_nil]
    exact ⟨x1, x2, x3, x4, x5, x6, Hv1, g1.vis, rs, hp, fun v Hv2 H2 g2 r2 => k _ _ _ (g1.trans g2) r2⟩
theorem sm_meth6 {α1 : Type} {α2 : Type} {α3 : Type} {α4 : Type} {α5 : Type} {α6 : Type} {C : Addr} {sch : α1 → List (Str × As)} {τ2 : Ty α2} {τ3 : Ty α3} {τ4 : Ty α4} {τ5 : Ty α5} {τ6 : Ty α6} {pre : α1 → α2 → α3 → α4 → α5 → α6 → Prop} {f : α1 → α2 → α3 → α4 → α5 → α6 → γ} {m : Str} {x1 : α1} {x2 : α2} {x3 : α3} {x4 : α4} {x5 : α5} {x6 : α6} {ta : TE} {t : TA} (h : Sm B Γ ta (tObj C sch) x1) (ns : List Str) (hm : ixOf ns m = none) (hns : (sch x1).map (·.1) = ns) (ha : SmA B Γ t [⟨τ2, x2⟩, ⟨τ3, x3⟩, ⟨τ4, x4⟩, ⟨τ5, x5⟩, ⟨τ6, x6⟩]) (hp : pre x1 x2 x3 x4 x5 x6) : Sm B Γ (tMeth C m (spF6 (tObj C sch) τ2 τ3 τ4 τ5 τ6 pre φ f) [] E ta t) φ (f x1 x2 x3 x4 x5 x6) := fun σ Hv H w Q k =>
  h σ Hv H w _ fun v Hv1 H1 g1 rv => by
    have rv' := rv
    obtain ⟨a, dx, fs, ev, h1, r1⟩ := rv
    refine ⟨a, dx, fs, ev, g1.vis _ _ h1, r1.none (by rw [hns]; exact hm), ha σ Hv1 H1 (w.grow g1) _ fun us Hv2 H2 g2 rs => ?_⟩
    show spF6 (tObj C sch) τ2 τ3 τ4 τ5 τ6 pre φ f (v :: (us ++ [])) H2 Q E
    rw [List.append_nil]
    exact ⟨x1, x2, x3, x4, x5, x6, Hv2, g2.vis, .cons ((tObj C sch).mono g2.v rv') rs, hp, fun v Hv3 H3 g3 r3 => k _ _ _ ((g1.trans g2).trans g3) r3⟩
def spO6 {α1 : Type} {α2 : Type} {α3 : Type} {α4 : Type} {α5 : Type} {α6 : Type} (τ1 : Ty α1) (τ2 : Ty α2) (τ3 : Ty α3) (τ4 : Ty α4) (τ5 : Ty α5) (τ6 : Ty α6) (pre : α1 → α2 → α3 → α4 → α5 → α6 → Prop) (φ : Ty γ) (f : α1 → α2 → α3 → α4 → α5 → α6 → List γ) : Sp := fun vs H Q _ => ∃ (x1 : α1) (x2 : α2) (x3 : α3) (x4 : α4) (x5 : α5) (x6 : α6), ∃ Hv, Same Hv H ∧ Reps Hv vs [⟨τ1, x1⟩, ⟨τ2, x2⟩, ⟨τ3, x3⟩, ⟨τ4, x4⟩, ⟨τ5, x5⟩, ⟨τ6, x6⟩] ∧ pre x1 x2 x3 x4 x5 x6 ∧ ∀ l us Hv' H', Grow Hv H Hv' H' → H l = none → H' l = some (.lst us) → Hv' l = none → Paired (φ.rep Hv') us (f x1 x2 x3 x4 x5 x6) → Q (.ref l) H'
theorem spO6_len {α1 : Type} {α2 : Type} {α3 : Type} {α4 : Type} {α5 : Type} {α6 : Type} {τ1 : Ty α1} {τ2 : Ty α2} {τ3 : Ty α3} {τ4 : Ty α4} {τ5 : Ty α5} {τ6 : Ty α6} {pre : α1 → α2 → α3 → α4 → α5 → α6 → Prop} {f : α1 → α2 → α3 → α4 → α5 → α6 → List γ} (h : spO6 τ1 τ2 τ3 τ4 τ5 τ6 pre φ f vs H Q E) : vs.length = 6 := by
  obtain ⟨_, _, _, _, _, _, _, _, r, _⟩ := h
  exact r.len
theorem spO6_body {α1 : Type} {α2 : Type} {α3 : Type} {α4 : Type} {α5 : Type} {α6 : Type} {τ1 : Ty α1} {τ2 : Ty α2} {τ3 : Ty α3} {τ4 : Ty α4} {τ5 : Ty α5} {τ6 : Ty α6} {pre : α1 → α2 → α3 → α4 → α5 → α6 → Prop} {f : α1 → α2 → α3 → α4 → α5 → α6 → List γ} {N : List Str} {t : TS} (hl : 6 ≤ N.length) (h : spO6 τ1 τ2 τ3 τ4 τ5 τ6 pre φ f vs H Q E) (hb : ∀ B0 : Bs, B0.n = N.length → ∀ (x1 : α1) (x2 : α2) (x3 : α3) (x4 : α4) (x5 : α5) (x6 : α6), pre x1 x2 x3 x4 x5 x6 → RtO B0 φ (f x1 x2 x3 x4 x5 x6) Q → G B0 t [(0, .fz τ1 x1), (1, .fz τ2 x2), (2, .fz τ3 x3), (3, .fz τ4 x4), (4, .fz τ5 x5), (5, .fz τ6 x6)] { nx := fun _ H' => Q .non H', rt := Q }) : t { nx := fun _ H' => Q .non H', rt := Q } (L2.start N vs) H := by
  obtain ⟨x1, x2, x3, x4, x5, x6, Hv, vis, rs, p, k⟩ := h
  exact hb ⟨H, Hv, fun _ => False, N.length⟩ rfl x1 x2 x3 x4 x5 x6 p ⟨fun _ z => z, k⟩ _ _ _ (wd_start vis rs hl)
theorem smo_call6 {α1 : Type} {α2 : Type} {α3 : Type} {α4 : Type} {α5 : Type} {α6 : Type} {τ1 : Ty α1} {τ2 : Ty α2} {τ3 : Ty α3} {τ4 : Ty α4} {τ5 : Ty α5} {τ6 : Ty α6} {pre : α1 → α2 → α3 → α4 → α5 → α6 → Prop} {f : α1 → α2 → α3 → α4 → α5 → α6 → List γ} {x1 : α1} {x2 : α2} {x3 : α3} {x4 : α4} {x5 : α5} {x6 : α6} {t : TA} (ha : SmA B Γ t [⟨τ1, x1⟩, ⟨τ2, x2⟩, ⟨τ3, x3⟩, ⟨τ4, x4⟩, ⟨τ5, x5⟩, ⟨τ6, x6⟩]) (hp : pre x1 x2 x3 x4 x5 x6) : SmO B Γ (tCall (spO6 τ1 τ2 τ3 τ4 τ5 τ6 pre φ f) [] E t) φ (f x1 x2 x3 x4 x5 x6) := fun σ Hv H w Q k =>
  ha σ Hv H w _ fun us Hv1 H1 g1 rs => by
    show spO6 τ1 τ2 τ3 τ4 τ5 τ6 pre φ f (us ++ []) H1 Q E
    rw [List.append_nil]
    exact ⟨x1, x2, x3, x4, x5, x6, Hv1, g1.vis, rs, hp, fun l us Hv2 H2 g2 e0 e1 e2 r2 => k _ _ _ _ (g1.trans g2) (Same.free g1.s e0) e1 e2 r2⟩
theorem smo_meth6 {α1 : Type} {α2 : Type} {α3 : Type} {α4 : Type} {α5 : Type} {α6 : Type} {C : Addr} {sch : α1 → List (Str × As)} {τ2 : Ty α2} {τ3 : Ty α3} {τ4 : Ty α4} {τ5 : Ty α5} {τ6 : Ty α6} {pre : α1 → α2 → α3 → α4 → α5 → α6 → Prop} {f : α1 → α2 → α3 → α4 → α5 → α6 → List γ} {m : Str} {x1 : α1} {x2 : α2} {x3 : α3} {x4 : α4} {x5 : α5} {x6 : α6} {ta : TE} {t : TA} (h : Sm B Γ ta (tObj C sch) x1) (ns : List Str) (hm : ixOf ns m = none) (hns : (sch x1).map (·.1) = ns) (ha : SmA B Γ t [⟨τ2, x2⟩, ⟨τ3, x3⟩, ⟨τ4, x4⟩, ⟨τ5, x5⟩, ⟨τ6, x6⟩]) (hp : pre x1 x2 x3 x4 x5 x6) : SmO B Γ (tMeth C m (spO6 (tObj C sch) τ2 τ3 τ4 τ5 τ6 pre φ f) [] E ta t) φ (f x1 x2 x3 x4 x5 x6) := fun σ Hv H w Q k =>
  h σ Hv H w _ fun v Hv1 H1 g1 rv => by
    have rv' := rv
    obtain ⟨a, dx, fs, ev, h1, r1⟩ := rv
    refine ⟨a, dx, fs, ev, g1.vis _ _ h1, r1.none (by rw [hns]; exact hm), ha σ Hv1 H1 (w.grow g1) _ fun us Hv2 H2 g2 rs => ?_⟩
    show spO6 (tObj C sch) τ2 τ3 τ4 τ5 τ6 pre φ f (v :: (us ++ [])) H2 Q E
    rw [List.append_nil]
    exact ⟨x1, x2, x3, x4, x5, x6, Hv2, g2.vis, .cons ((tObj C sch).mono g2.v rv') rs, hp, fun l us Hv3 H3 g3 e0 e1 e2 r3 => k _ _ _ _ ((g1.trans g2).trans g3) (Same.free (g1.trans g2).s e0) e1 e2 r3⟩
def spF7 {α1 : Type} {α2 : Type} {α3 : Type} {α4 : Type} {α5 : Type} {α6 : Type} {α7 : Type} (τ1 : Ty α1) (τ2 : Ty α2) (τ3 : Ty α3) (τ4 : Ty α4) (τ5 : Ty α5) (τ6 : Ty α6) (τ7 : Ty α7) (pre : α1 → α2 → α3 → α4 → α5 → α6 → α7 → Prop) (φ : Ty γ) (f : α1 → α2 → α3 → α4 → α5 → α6 → α7 → γ) : Sp := fun vs H Q _ => ∃ (x1 : α1) (x2 : α2) (x3 : α3) (x4 : α4) (x5 : α5) (x6 : α6) (x7 : α7), ∃ Hv, Same Hv H ∧ Reps Hv vs [⟨τ1, x1⟩, ⟨τ2, x2⟩, ⟨τ3, x3⟩, ⟨τ4, x4⟩, ⟨τ5, x5⟩, ⟨τ6, x6⟩, ⟨τ7, x7⟩] ∧ pre x1 x2 x3 x4 x5 x6 x7 ∧ ∀ v Hv' H', Grow Hv H Hv' H' → φ.rep Hv' v (f x1 x2 x3 x4 x5 x6 x7) → Q v H'
theorem spF7_len {α1 : Type} {α2 : Type} {α3 : Type} {α4 : Type} {α5 : Type} {α6 : Type} {α7 : Type} {τ1 : Ty α1} {τ2 : Ty α2} {τ3 : Ty α3} {τ4 : Ty α4} {τ5 : Ty α5} {τ6 : Ty α6} {τ7 : Ty α7} {pre : α1 → α2 → α3 → α4 → α5 → α6 → α7 → Prop} {f : α1 → α2 → α3 → α4 → α5 → α6 → α7 → γ} (h : spF7 τ1 τ2 τ3 τ4 τ5 τ6 τ7 pre φ f vs H Q E) : vs.length = 7 := by
  obtain ⟨_, _, _, _, _, _, _, _, _, r, _⟩ := h
  exact r.len
theorem spF7_body {α1 : Type} {α2 : Type} {α3 : Type} {α4 : Type} {α5 : Type} {α6 : Type} {α7 : Type} {τ1 : Ty α1} {τ2 : Ty α2} {τ3 : Ty α3} {τ4 : Ty α4} {τ5 : Ty α5} {τ6 : Ty α6} {τ7 : Ty α7} {pre : α1 → α2 → α3 → α4 → α5 → α6 → α7 → Prop} {f : α1 → α2 → α3 → α4 → α5 → α6 → α7 → γ} {N : List Str} {t : TS} (hl : 7 ≤ N.length) (h : spF7 τ1 τ2 τ3 τ4 τ5 τ6 τ7 pre φ f vs H Q E) (hb : ∀ B0 : Bs, B0.n = N.length → ∀ (x1 : α1) (x2 : α2) (x3 : α3) (x4 : α4) (x5 : α5) (x6 : α6) (x7 : α7), pre x1 x2 x3 x4 x5 x6 x7 → RtF B0 φ (f x1 x2 x3 x4 x5 x6 x7) Q → G B0 t [(0, .fz τ1 x1), (1, .fz τ2 x2), (2, .fz τ3 x3), (3, .fz τ4 x4), (4, .fz τ5 x5), (5, .fz τ6 x6), (6, .fz τ7 x7)] { nx := fun _ H' => Q .non H', rt := Q }) : t { nx := fun _ H' => Q .non H', rt := Q } (L2.start N vs) H := by
  obtain ⟨x1, x2, x3, x4, x5, x6, x7, Hv, vis, rs, p, k⟩ := h
  exact hb ⟨H, Hv, fun _ => False, N.length⟩ rfl x1 x2 x3 x4 x5 x6 x7 p ⟨fun _ z => z, k⟩ _ _ _ (wd_start vis rs hl)
theorem sm_call7 {α1 : Type} {α2 : Type} {α3 : Type} {α4 : Type} {α5 : Type} {α6 : Type} {α7 : Type} {τ1 : Ty α1} {τ2 : Ty α2} {τ3 : Ty α3} {τ4 : Ty α4} {τ5 : Ty α5} {τ6 : Ty α6} {τ7 : Ty α7} {pre : α1 → α2 → α3 → α4 → α5 → α6 → α7 → Prop} {f : α1 → α2 → α3 → α4 → α5 → α6 → α7 → γ} {x1 : α1} {x2 : α2} {x3 : α3} {x4 : α4} {x5 : α5} {x6 : α6} {x7 : α7} {t : TA} (ha : SmA B Γ t [⟨τ1, x1⟩, ⟨τ2, x2⟩, ⟨τ3, x3⟩, ⟨τ4, x4⟩, ⟨τ5, x5⟩, ⟨τ6, x6⟩, ⟨τ7, x7⟩]) (hp : pre x1 x2 x3 x4 x5 x6 x7) : Sm B Γ (tCall (spF7 τ1 τ2 τ3 τ4 τ5 τ6 τ7 pre φ f) [] E t) φ (f x1 x2 x3 x4 x5 x6 x7) := fun σ Hv H w Q k =>
  ha σ Hv H w _ fun us Hv1 H1 g1 rs => by
    show spF7 τ1 τ2 τ3 τ4 τ5 τ6 τ7 pre φ f (us ++ []) H1 Q E
    rw [List.append_nil]
    exact ⟨x1, x2, x3, x4, x5, x6, x7, Hv1, g1.vis, rs, hp, fun v Hv2 H2 g2 r2 => k _ _ _ (g1.trans g2) r2⟩
theorem sm_meth7 {α1 : Type} {α2 : Type} {α3 : Type} {α4 : Type} {α5 : Type} {α6 : Type} {α7 : Type} {C : Addr} {sch : α1 → List (Str × As)} {τ2 : Ty α2} {τ3 : Ty α3} {τ4 : Ty α4} {τ5 : Ty α5} {τ6 : Ty α6} {τ7 : Ty α7} {pre : α1 → α2 → α3 → α4 → α5 → α6 → α7 → Prop} {f : α1 → α2 → α3 → α4 → α5 → α6 → α7 → γ} {m : Str} {x1 : α1} {x2 : α2} {x3 : α3} {x4 : α4} {x5 : α5} {x6 : α6} {x7 : α7} {ta : TE} {t : TA} (h : Sm B Γ ta (tObj C sch) x1) (ns : List Str) (hm : ixOf ns m = none) (hns : (sch x1).map (·.1) = ns) (ha : SmA B Γ t [⟨τ2, x2⟩, ⟨τ3, x3⟩, ⟨τ4, x4⟩, ⟨τ5, x5⟩, ⟨τ6, x6⟩, ⟨τ7, x7⟩]) (hp : pre x1 x2 x3 x4 x5 x6 x7) : Sm B Γ (tMeth C m (spF7 (tObj C sch) τ2 τ3 τ4 τ5 τ6 τ7 pre φ f) [] E ta t) φ (f x1 x2 x3 x4 x5 x6 x7) := fun σ Hv H w Q k =>
  h σ Hv H w _ fun v Hv1 H1 g1 rv => by
    have rv' := rv
    obtain ⟨a, dx, fs, ev, h1, r1⟩ := rv
    refine ⟨a, dx, fs, ev, g1.vis _ _ h1, r1.none (by rw [hns]; exact hm), ha σ Hv1 H1 (w.grow g1) _ fun us Hv2 H2 g2 rs => ?_⟩
    show spF7 (tObj C sch) τ2 τ3 τ4 τ5 τ6 τ7 pre φ f (v :: (us ++ [])) H2 Q E
    rw [List.append_nil]
    exact ⟨x1, x2, x3, x4, x5, x6, x7, Hv2, g2.vis, .cons ((tObj C sch).mono g2.v rv') rs, hp, fun v Hv3 H3 g3 r3 => k _ _ _ ((g1.trans g2).trans g3) r3⟩
def spO7 {α1 : Type} {α2 : Type} {α3 : Type} {α4 : Type} {α5 : Type} {α6 : Type} {α7 : Type} (τ1 : Ty α1) (τ2 : Ty α2) (τ3 : Ty α3) (τ4 : Ty α4) (τ5 : Ty α5) (τ6 : Ty α6) (τ7 : Ty α7) (pre : α1 → α2 → α3 → α4 → α5 → α6 → α7 → Prop) (φ : Ty γ) (f : α1 → α2 → α3 → α4 → α5 → α6 → α7 → List γ) : Sp := fun vs H Q _ => ∃ (x1 : α1) (x2 : α2) (x3 : α3) (x4 : α4) (x5 : α5) (x6 : α6) (x7 : α7), ∃ Hv, Same Hv H ∧ Reps Hv vs [⟨τ1, x1⟩, ⟨τ2, x2⟩, ⟨τ3, x3⟩, ⟨τ4, x4⟩, ⟨τ5, x5⟩, ⟨τ6, x6⟩, ⟨τ7, x7⟩] ∧ pre x1 x2 x3 x4 x5 x6 x7 ∧ ∀ l us Hv' H', Grow Hv H Hv' H' → H l = none → H' l = some (.lst us) → Hv' l = none → Paired (φ.rep Hv') us (f x1 x2 x3 x4 x5 x6 x7) → Q (.ref l) H'
theorem spO7_len {α1 : Type} {α2 : Type} {α3 : Type} {α4 : Type} {α5 : Type} {α6 : Type} {α7 : Type} {τ1 : Ty α1} {τ2 : Ty α2} {τ3 : Ty α3} {τ4 : Ty α4} {τ5 : Ty α5} {τ6 : Ty α6} {τ7 : Ty α7} {pre : α1 → α2 → α3 → α4 → α5 → α6 → α7 → Prop} {f : α1 → α2 → α3 → α4 → α5 → α6 → α7 → List γ} (h : spO7 τ1 τ2 τ3 τ4 τ5 τ6 τ7 pre φ f vs H Q E) : vs.length = 7 := by
  obtain ⟨_, _, _, _, _, _, _, _, _, r, _⟩ := h
  exact r.len
theorem spO7_body {α1 : Type} {α2 : Type} {α3 : Type} {α4 : Type} {α5 : Type} {α6 : Type} {α7 : Type} {τ1 : Ty α1} {τ2 : Ty α2} {τ3 : Ty α3} {τ4 : Ty α4} {τ5 : Ty α5} {τ6 : Ty α6} {τ7 : Ty α7} {pre : α1 → α2 → α3 → α4 → α5 → α6 → α7 → Prop} {f : α1 → α2 → α3 → α4 → α5 → α6 → α7 → List γ} {N : List Str} {t : TS} (hl : 7 ≤ N.length) (h : spO7 τ1 τ2 τ3 τ4 τ5 τ6 τ7 pre φ f vs H Q E) (hb : ∀ B0 : Bs, B0.n = N.length → ∀ (x1 : α1) (x2 : α2) (x3 : α3) (x4 : α4) (x5 : α5) (x6 : α6) (x7 : α7), pre x1 x2 x3 x4 x5 x6 x7 → RtO B0 φ (f x1 x2 x3 x4 x5 x6 x7) Q → G B0 t [(0, .fz τ1 x1), (1, .fz τ2 x2), (2, .fz τ3 x3), (3, .fz τ4 x4), (4, .fz τ5 x5), (5, .fz τ6 x6), (6, .fz τ7 x7)] { nx := fun _ H' => Q .non H', rt := Q }) : t { nx := fun _ H' => Q .non H', rt := Q } (L2.start N vs) H := by
  obtain ⟨x1, x2, x3, x4, x5, x6, x7, Hv, vis, rs, p, k⟩ := h
  exact hb ⟨H, Hv, fun _ => False, N.length⟩ rfl x1 x2 x3 x4 x5 x6 x7 p ⟨fun _ z => z, k⟩ _ _ _ (wd_start vis rs hl)
theorem smo_call7 {α1 : Type} {α2 : Type} {α3 : Type} {α4 : Type} {α5 : Type} {α6 : Type} {α7 : Type} {τ1 : Ty α1} {τ2 : Ty α2} {τ3 : Ty α3} {τ4 : Ty α4} {τ5 : Ty α5} {τ6 : Ty α6} {τ7 : Ty α7} {pre : α1 → α2 → α3 → α4 → α5 → α6 → α7 → Prop} {f : α1 → α2 → α3 → α4 → α5 → α6 → α7 → List γ} {x1 : α1} {x2 : α2} {x3 : α3} {x4 : α4} {x5 : α5} {x6 : α6} {x7 : α7} {t : TA} (ha : SmA B Γ t [⟨τ1, x1⟩, ⟨τ2, x2⟩, ⟨τ3, x3⟩, ⟨τ4, x4⟩, ⟨τ5, x5⟩, ⟨τ6, x6⟩, ⟨τ7, x7⟩]) (hp : pre x1 x2 x3 x4 x5 x6 x7) : SmO B Γ (tCall (spO7 τ1 τ2 τ3 τ4 τ5 τ6 τ7 pre φ f) [] E t) φ (f x1 x2 x3 x4 x5 x6 x7) := fun σ Hv H w Q k =>
  ha σ Hv H w _ fun us Hv1 H1 g1 rs => by
    show spO7 τ1 τ2 τ3 τ4 τ5 τ6 τ7 pre φ f (us ++ []) H1 Q E
    rw [List.append_nil]
    exact ⟨x1, x2, x3, x4, x5, x6, x7, Hv1, g1.vis, rs, hp, fun l us Hv2 H2 g2 e0 e1 e2 r2 => k _ _ _ _ (g1.trans g2) (Same.free g1.s e0) e1 e2 r2⟩
theorem smo_meth7 {α1 : Type} {α2 : Type} {α3 : Type} {α4 : Type} {α5 : Type} {α6 : Type} {α7 : Type} {C : Addr} {sch : α1 → List (Str × As)} {τ2 : Ty α2} {τ3 : Ty α3} {τ4 : Ty α4} {τ5 : Ty α5} {τ6 : Ty α6} {τ7 : Ty α7} {pre : α1 → α2 → α3 → α4 → α5 → α6 → α7 → Prop} {f : α1 → α2 → α3 → α4 → α5 → α6 → α7 → List γ} {m : Str} {x1 : α1} {x2 : α2} {x3 : α3} {x4 : α4} {x5 : α5} {x6 : α6} {x7 : α7} {ta : TE} {t : TA} (h : Sm B Γ ta (tObj C sch) x1) (ns : List Str) (hm : ixOf ns m = none) (hns : (sch x1).map (·.1) = ns) (ha : SmA B Γ t [⟨τ2, x2⟩, ⟨τ3, x3⟩, ⟨τ4, x4⟩, ⟨τ5, x5⟩, ⟨τ6, x6⟩, ⟨τ7, x7⟩]) (hp : pre x1 x2 x3 x4 x5 x6 x7) : SmO B Γ (tMeth C m (spO7 (tObj C sch) τ2 τ3 τ4 τ5 τ6 τ7 pre φ f) [] E ta t) φ (f x1 x2 x3 x4 x5 x6 x7) := fun σ Hv H w Q k =>
  h σ Hv H w _ fun v Hv1 H1 g1 rv => by
    have rv' := rv
    obtain ⟨a, dx, fs, ev, h1, r1⟩ := rv
    refine ⟨a, dx, fs, ev, g1.vis _ _ h1, r1.none (by rw [hns]; exact hm), ha σ Hv1 H1 (w.grow g1) _ fun us Hv2 H2 g2 rs => ?_⟩
    show spO7 (tObj C sch) τ2 τ3 τ4 τ5 τ6 τ7 pre φ f (v :: (us ++ [])) H2 Q E
    rw [List.append_nil]
    exact ⟨x1, x2, x3, x4, x5, x6, x7, Hv2, g2.vis, .cons ((tObj C sch).mono g2.v rv') rs, hp, fun l us Hv3 H3 g3 e0 e1 e2 r3 => k _ _ _ _ ((g1.trans g2).trans g3) (Same.free (g1.trans g2).s e0) e1 e2 r3⟩
def spF8 {α1 : Type} {α2 : Type} {α3 : Type} {α4 : Type} {α5 : Type} {α6 : Type} {α7 : Type} {α8 : Type} (τ1 : Ty α1) (τ2 : Ty α2) (τ3 : Ty α3) (τ4 : Ty α4) (τ5 : Ty α5) (τ6 : Ty α6) (τ7 : Ty α7) (τ8 : Ty α8) (pre : α1 → α2 → α3 → α4 → α5 → α6 → α7 → α8 → Prop) (φ : Ty γ) (f : α1 → α2 → α3 → α4 → α5 → α6 → α7 → α8 → γ) : Sp := fun vs H Q _ => ∃ (x1 : α1) (x2 : α2) (x3 : α3) (x4 : α4) (x5 : α5) (x6 : α6) (x7 : α7) (x8 : α8), ∃ Hv, Same Hv H ∧ Reps Hv vs [⟨τ1, x1⟩, ⟨τ2, x2⟩, ⟨τ3, x3⟩, ⟨τ4, x4⟩, ⟨τ5, x5⟩, ⟨τ6, x6⟩, ⟨τ7, x7⟩, ⟨τ8, x8⟩] ∧ pre x1 x2 x3 x4 x5 x6 x7 x8 ∧ ∀ v Hv' H', Grow Hv H Hv' H' → φ.rep Hv' v (f x1 x2 x3 x4 x5 x6 x7 x8) → Q v H'
theorem spF8_len {α1 : Type} {α2 : Type} {α3 : Type} {α4 : Type} {α5 : Type} {α6 : Type} {α7 : Type} {α8 : Type} {τ1 : Ty α1} {τ2 : Ty α2} {τ3 : Ty α3} {τ4 : Ty α4} {τ5 : Ty α5} {τ6 : Ty α6} {τ7 : Ty α7} {τ8 : Ty α8} {pre : α1 → α2 → α3 → α4 → α5 → α6 → α7 → α8 → Prop} {f : α1 → α2 → α3 → α4 → α5 → α6 → α7 → α8 → γ} (h : spF8 τ1 τ2 τ3 τ4 τ5 τ6 τ7 τ8 pre φ f vs H Q E) : vs.length = 8 := by
  obtain ⟨_, _, _, _, _, _, _, _, _, _, r, _⟩ := h
  exact r.len
theorem spF8_body {α1 : Type} {α2 : Type} {α3 : Type} {α4 : Type} {α5 : Type} {α6 : Type} {α7 : Type} {α8 : Type} {τ1 : Ty α1} {τ2 : Ty α2} {τ3 : Ty α3} {τ4 : Ty α4} {τ5 : Ty α5} {τ6 : Ty α6} {τ7 : Ty α7} {τ8 : Ty α8} {pre : α1 → α2 → α3 → α4 → α5 → α6 → α7 → α8 → Prop} {f : α1 → α2 → α3 → α4 → α5 → α6 → α7 → α8 → γ} {N : List Str} {t : TS} (hl : 8 ≤ N.length) (h : spF8 τ1 τ2 τ3 τ4 τ5 τ6 τ7 τ8 pre φ f vs H Q E) (hb : ∀ B0 : Bs, B0.n = N.length → ∀ (x1 : α1) (x2 : α2) (x3 : α3) (x4 : α4) (x5 : α5) (x6 : α6) (x7 : α7) (x8 : α8), pre x1 x2 x3 x4 x5 x6 x7 x8 → RtF B0 φ (f x1 x2 x3 x4 x5 x6 x7 x8) Q → G B0 t [(0, .fz τ1 x1), (1, .fz τ2 x2), (2, .fz τ3 x3), (3, .fz τ4 x4), (4, .fz τ5 x5), (5, .fz τ6 x6), (6, .fz τ7 x7), (7, .fz τ8 x8)] { nx := fun _ H' => Q .non H', rt := Q }) : t { nx := fun _ H' => Q .non H', rt := Q } (L2.start N vs) H := by
  obtain ⟨x1, x2, x3, x4, x5, x6, x7, x8, Hv, vis, rs, p, k⟩ := h
  exact hb ⟨H, Hv, fun _ => False, N.length⟩ rfl x1 x2 x3 x4 x5 x6 x7 x8 p ⟨fun _ z => z, k⟩ _ _ _ (wd_start vis rs hl)
theorem sm_call8 {α1 : Type} {α2 : Type} {α3 : Type} {α4 : Type} {α5 : Type} {α6 : Type} {α7 : Type} {α8 : Type} {τ1 : Ty α1} {τ2 : Ty α2} {τ3 : Ty α3} {τ4 : Ty α4} {τ5 : Ty α5} {τ6 : Ty α6} {τ7 : Ty α7} {τ8 : Ty α8} {pre : α1 → α2 → α3 → α4 → α5 → α6 → α7 → α8 → Prop} {f : α1 → α2 → α3 → α4 → α5 → α6 → α7 → α8 → γ} {x1 : α1} {x2 : α2} {x3 : α3} {x4 : α4} {x5 : α5} {x6 : α6} {x7 : α7} {x8 : α8} {t : TA} (ha : SmA B Γ t [⟨τ1, x1⟩, ⟨τ2, x2⟩, ⟨τ3, x3⟩, ⟨τ4, x4⟩, ⟨τ5, x5⟩, ⟨τ6, x6⟩, ⟨τ7, x7⟩, ⟨τ8, x8⟩]) (hp : pre x1 x2 x3 x4 x5 x6 x7 x8) : Sm B Γ (tCall (spF8 τ1 τ2 τ3 τ4 τ5 τ6 τ7 τ8 pre φ f) [] E t) φ (f x1 x2 x3 x4 x5 x6 x7 x8) := fun σ Hv H w Q k =>
  ha σ Hv H w _ fun us Hv1 H1 g1 rs => by
    show spF8 τ1 τ2 τ3 τ4 τ5 τ6 τ7 τ8 pre φ f (us ++ []) H1 Q E
    rw [List.append_nil]
    exact ⟨x1, x2, x3, x4, x5, x6, x7, x8, Hv1, g1.vis, rs, hp, fun v Hv2 H2 g2 r2 => k _ _ _ (g1.trans g2) r2⟩
theorem sm_meth8 {α1 : Type} {α2 : Type} {α3 : Type} {α4 : Type} {α5 : Type} {α6 : Type} {α7 : Type} {α8 : Type} {C : Addr} {sch : α1 → List (Str × As)} {τ2 : Ty α2} {τ3 : Ty α3} {τ4 : Ty α4} {τ5 : Ty α5} {τ6 : Ty α6} {τ7 : Ty α7} {τ8 : Ty α8} {pre : α1 → α2 → α3 → α4 → α5 → α6 → α7 → α8 → Prop} {f : α1 → α2 → α3 → α4 → α5 → α6 → α7 → α8 → γ} {m : Str} {x1 : α1} {x2 : α2} {x3 : α3} {x4 : α4} {x5 : α5} {x6 : α6} {x7 : α7} {x8 : α8} {ta : TE} {t : TA} (h : Sm B Γ ta (tObj C sch) x1) (ns : List Str) (hm : ixOf ns m = none) (hns : (sch x1).map (·.1) = ns) (ha : SmA B Γ t [⟨τ2, x2⟩, ⟨τ3, x3⟩, ⟨τ4, x4⟩, ⟨τ5, x5⟩, ⟨τ6, x6⟩, ⟨τ7, x7⟩, ⟨τ8, x8⟩]) (hp : pre x1 x2 x3 x4 x5 x6 x7 x8) : Sm B Γ (tMeth C m (spF8 (tObj C sch) τ2 τ3 τ4 τ5 τ6 τ7 τ8 pre φ f) [] E ta t) φ (f x1 x2 x3 x4 x5 x6 x7 x8) := fun σ Hv H w Q k =>
  h σ Hv H w _ fun v Hv1 H1 g1 rv => by
    have rv' := rv
    obtain ⟨a, dx, fs, ev, h1, r1⟩ := rv
    refine ⟨a, dx, fs, ev, g1.vis _ _ h1, r1.none (by rw [hns]; exact hm), ha σ Hv1 H1 (w.grow g1) _ fun us Hv2 H2 g2 rs => ?_⟩
    show spF8 (tObj C sch) τ2 τ3 τ4 τ5 τ6 τ7 τ8 pre φ f (v :: (us ++ [])) H2 Q E
    rw [List.append_nil]
    exact ⟨x1, x2, x3, x4, x5, x6, x7, x8, Hv2, g2.vis, .cons ((tObj C sch).mono g2.v rv') rs, hp, fun v Hv3 H3 g3 r3 => k _ _ _ ((g1.trans g2).trans g3) r3⟩
def spO8 {α1 : Type} {α2 : Type} {α3 : Type} {α4 : Type} {α5 : Type} {α6 : Type} {α7 : Type} {α8 : Type} (τ1 : Ty α1) (τ2 : Ty α2) (τ3 : Ty α3) (τ4 : Ty α4) (τ5 : Ty α5) (τ6 : Ty α6) (τ7 : Ty α7) (τ8 : Ty α8) (pre : α1 → α2 → α3 → α4 → α5 → α6 → α7 → α8 → Prop) (φ : Ty γ) (f : α1 → α2 → α3 → α4 → α5 → α6 → α7 → α8 → List γ) : Sp := fun vs H Q _ => ∃ (x1 : α1) (x2 : α2) (x3 : α3) (x4 : α4) (x5 : α5) (x6 : α6) (x7 : α7) (x8 : α8), ∃ Hv, Same Hv H ∧ Reps Hv vs [⟨τ1, x1⟩, ⟨τ2, x2⟩, ⟨τ3, x3⟩, ⟨τ4, x4⟩, ⟨τ5, x5⟩, ⟨τ6, x6⟩, ⟨τ7, x7⟩, ⟨τ8, x8⟩] ∧ pre x1 x2 x3 x4 x5 x6 x7 x8 ∧ ∀ l us Hv' H', Grow Hv H Hv' H' → H l = none → H' l = some (.lst us) → Hv' l = none → Paired (φ.rep Hv') us (f x1 x2 x3 x4 x5 x6 x7 x8) → Q (.ref l) H'
theorem spO8_len {α1 : Type} {α2 : Type} {α3 : Type} {α4 : Type} {α5 : Type} {α6 : Type} {α7 : Type} {α8 : Type} {τ1 : Ty α1} {τ2 : Ty α2} {τ3 : Ty α3} {τ4 : Ty α4} {τ5 : Ty α5} {τ6 : Ty α6} {τ7 : Ty α7} {τ8 : Ty α8} {pre : α1 → α2 → α3 → α4 → α5 → α6 → α7 → α8 → Prop} {f : α1 → α2 → α3 → α4 → α5 → α6 → α7 → α8 → List γ} (h : spO8 τ1 τ2 τ3 τ4 τ5 τ6 τ7 τ8 pre φ f vs H Q E) : vs.length = 8 := by
  obtain ⟨_, _, _, _, _, _, _, _, _, _, r, _⟩ := h
  exact r.len
theorem spO8_body {α1 : Type} {α2 : Type} {α3 : Type} {α4 : Type} {α5 : Type} {α6 : Type} {α7 : Type} {α8 : Type} {τ1 : Ty α1} {τ2 : Ty α2} {τ3 : Ty α3} {τ4 : Ty α4} {τ5 : Ty α5} {τ6 : Ty α6} {τ7 : Ty α7} {τ8 : Ty α8} {pre : α1 → α2 → α3 → α4 → α5 → α6 → α7 → α8 → Prop} {f : α1 → α2 → α3 → α4 → α5 → α6 → α7 → α8 → List γ} {N : List Str} {t : TS} (hl : 8 ≤ N.length) (h : spO8 τ1 τ2 τ3 τ4 τ5 τ6 τ7 τ8 pre φ f vs H Q E) (hb : ∀ B0 : Bs, B0.n = N.length → ∀ (x1 : α1) (x2 : α2) (x3 : α3) (x4 : α4) (x5 : α5) (x6 : α6) (x7 : α7) (x8 : α8), pre x1 x2 x3 x4 x5 x6 x7 x8 → RtO B0 φ (f x1 x2 x3 x4 x5 x6 x7 x8) Q → G B0 t [(0, .fz τ1 x1), (1, .fz τ2 x2), (2, .fz τ3 x3), (3, .fz τ4 x4), (4, .fz τ5 x5), (5, .fz τ6 x6), (6, .fz τ7 x7), (7, .fz τ8 x8)] { nx := fun _ H' => Q .non H', rt := Q }) : t { nx := fun _ H' => Q .non H', rt := Q } (L2.start N vs) H := by
  obtain ⟨x1, x2, x3, x4, x5, x6, x7, x8, Hv, vis, rs, p, k⟩ := h
  exact hb ⟨H, Hv, fun _ => False, N.length⟩ rfl x1 x2 x3 x4 x5 x6 x7 x8 p ⟨fun _ z => z, k⟩ _ _ _ (wd_start vis rs hl)
theorem smo_call8 {α1 : Type} {α2 : Type} {α3 : Type} {α4 : Type} {α5 : Type} {α6 : Type} {α7 : Type} {α8 : Type} {τ1 : Ty α1} {τ2 : Ty α2} {τ3 : Ty α3} {τ4 : Ty α4} {τ5 : Ty α5} {τ6 : Ty α6} {τ7 : Ty α7} {τ8 : Ty α8} {pre : α1 → α2 → α3 → α4 → α5 → α6 → α7 → α8 → Prop} {f : α1 → α2 → α3 → α4 → α5 → α6 → α7 → α8 → List γ} {x1 : α1} {x2 : α2} {x3 : α3} {x4 : α4} {x5 : α5} {x6 : α6} {x7 : α7} {x8 : α8} {t : TA} (ha : SmA B Γ t [⟨τ1, x1⟩, ⟨τ2, x2⟩, ⟨τ3, x3⟩, ⟨τ4, x4⟩, ⟨τ5, x5⟩, ⟨τ6, x6⟩, ⟨τ7, x7⟩, ⟨τ8, x8⟩]) (hp : pre x1 x2 x3 x4 x5 x6 x7 x8) : SmO B Γ (tCall (spO8 τ1 τ2 τ3 τ4 τ5 τ6 τ7 τ8 pre φ f) [] E t) φ (f x1 x2 x3 x4 x5 x6 x7 x8) := fun σ Hv H w Q k =>
  ha σ Hv H w _ fun us Hv1 H1 g1 rs => by
    show spO8 τ1 τ2 τ3 τ4 τ5 τ6 τ7 τ8 pre φ f (us ++ []) H1 Q E
    rw [List.append_nil]
    exact ⟨x1, x2, x3, x4, x5, x6, x7, x8, Hv1, g1.vis, rs, hp, fun l us Hv2 H2 g2 e0 e1 e2 r2 => k _ _ _ _ (g1.trans g2) (Same.free g1.s e0) e1 e2 r2⟩
theorem smo_meth8 {α1 : Type} {α2 : Type} {α3 : Type} {α4 : Type} {α5 : Type} {α6 : Type} {α7 : Type} {α8 : Type} {C : Addr} {sch : α1 → List (Str × As)} {τ2 : Ty α2} {τ3 : Ty α3} {τ4 : Ty α4} {τ5 : Ty α5} {τ6 : Ty α6} {τ7 : Ty α7} {τ8 : Ty α8} {pre : α1 → α2 → α3 → α4 → α5 → α6 → α7 → α8 → Prop} {f : α1 → α2 → α3 → α4 → α5 → α6 → α7 → α8 → List γ} {m : Str} {x1 : α1} {x2 : α2} {x3 : α3} {x4 : α4} {x5 : α5} {x6 : α6} {x7 : α7} {x8 : α8} {ta : TE} {t : TA} (h : Sm B Γ ta (tObj C sch) x1) (ns : List Str) (hm : ixOf ns m = none) (hns : (sch x1).map (·.1) = ns) (ha : SmA B Γ t [⟨τ2, x2⟩, ⟨τ3, x3⟩, ⟨τ4, x4⟩, ⟨τ5, x5⟩, ⟨τ6, x6⟩, ⟨τ7, x7⟩, ⟨τ8, x8⟩]) (hp : pre x1 x2 x3 x4 x5 x6 x7 x8) : SmO B Γ (tMeth C m (spO8 (tObj C sch) τ2 τ3 τ4 τ5 τ6 τ7 τ8 pre φ f) [] E ta t) φ (f x1 x2 x3 x4 x5 x6 x7 x8) := fun σ Hv H w Q k =>
  h σ Hv H w _ fun v Hv1 H1 g1 rv => by
    have rv' := rv
    obtain ⟨a, dx, fs, ev, h1, r1⟩ := rv
    refine ⟨a, dx, fs, ev, g1.vis _ _ h1, r1.none (by rw [hns]; exact hm), ha σ Hv1 H1 (w.grow g1) _ fun us Hv2 H2 g2 rs => ?_⟩
    show spO8 (tObj C sch) τ2 τ3 τ4 τ5 τ6 τ7 τ8 pre φ f (v :: (us ++ [])) H2 Q E
    rw [List.append_nil]
    exact ⟨x1, x2, x3, x4, x5, x6, x7, x8, Hv2, g2.vis, .cons ((tObj C sch).mono g2.v rv') rs, hp, fun l us Hv3 H3 g3 e0 e1 e2 r3 => k _ _ _ _ ((g1.trans g2).trans g3) (Same.free (g1.trans g2).s e0) e1 e2 r3⟩
end
end VC

set_option Elab.async false
set_option maxRecDepth 100000
set_option maxHeartbeats 4000000
namespace VC
open PySem PySem.Spec L2
section
variable {B : Bs} {Γ : Cxt} {α β : Type} {τ : Ty α} {υ : Ty β} {x : α} {y : β} {K : PySem.W.Frag}
/-! ### slices -/
theorem sIx_pos {n d : Nat} {v : Int} (h : 0 ≤ v) : HT.sIx n d (some v) = min v.toNat n := by
  show (if v < 0 then (v + (n : Int)).toNat else min v.toNat n) = _
  rw [if_neg (by omega)]
theorem take_min {xs : List α} {k n : Nat} (h : n = xs.length) : xs.take (min k n) = xs.take k := by
  subst h
  rw [← List.take_take, List.take_length]
theorem cut_lo {xs : List V} {i : Int} (h : 0 ≤ i) : cutV xs (some i) none = xs.drop i.toNat := by
  unfold cutV
  rw [sIx_pos h, HT.sIx_none]
  by_cases c : i.toNat ≤ xs.length
  · rw [Nat.min_eq_left c, List.take_of_length_le]
    rw [List.length_drop]
    omega
  · rw [Nat.min_eq_right (by omega), List.drop_of_length_le (by omega), List.drop_of_length_le (i := i.toNat) (by omega)]
    simp
theorem cut_hi {xs : List V} {j : Int} (h : 0 ≤ j) : cutV xs none (some j) = xs.take j.toNat := by
  unfold cutV
  rw [sIx_pos h, HT.sIx_none, List.drop_zero, Nat.sub_zero, take_min rfl]
theorem cut_both {xs : List V} {i j : Int} (h : 0 ≤ i) (h' : 0 ≤ j) : cutV xs (some i) (some j) = (xs.take j.toNat).drop i.toNat := by
  unfold cutV
  rw [sIx_pos h, sIx_pos h']
  apply List.ext_getElem?
  intro k
  rw [List.getElem?_take, List.getElem?_drop, List.getElem?_drop, List.getElem?_take]
  by_cases c : i.toNat ≤ xs.length
  · have m : min i.toNat xs.length = i.toNat := Nat.min_eq_left c
    rw [m]
    by_cases d : i.toNat + k < j.toNat
    · rw [if_pos d]
      by_cases e : i.toNat + k < xs.length
      · rw [if_pos (by omega)]
      · rw [List.getElem?_eq_none (Nat.le_of_not_lt e)]
        simp
    · rw [if_neg d, if_neg (by omega)]
  · have m : min i.toNat xs.length = xs.length := Nat.min_eq_right (by omega)
    rw [m, List.getElem?_eq_none (l := xs) (i := i.toNat + k) (by omega), List.getElem?_eq_none (l := xs) (i := xs.length + k) (by omega)]
    simp
theorem cut_all {xs : List V} : cutV xs none none = xs := by
  unfold cutV
  rw [HT.sIx_none, HT.sIx_none]
  simp
theorem smo_sl10 {t u : TE} {xs : List α} {i : Int} (h : SmL B Γ t τ xs) (h' : Sm B Γ u tInt i) (h0 : 0 ≤ i) : SmO B Γ (tSl (rSlL K) t (tPart u) tNoPart) τ (xs.drop i.toNat) := fun σ Hv H w Q k =>
  h σ Hv H w _ fun a vs Hv1 H1 g1 e1 r1 => h' σ Hv1 H1 (w.grow g1) _ fun v Hv2 H2 g2 r2 => by
    cases r2
    refine ⟨i, rfl, a, vs, rfl, SqL.of (g2.s _ _ e1), fun p hp => ?_⟩
    rw [cut_lo h0]
    exact k p _ Hv2 _ ((g1.trans g2).trans (Grow.newO g2.vis hp)) (Same.free (g1.trans g2).s hp) upd_same (Same.free g2.vis hp) (paired_drop _ (Paired.up g2.v r1))
theorem smo_sl01 {t u : TE} {xs : List α} {i : Int} (h : SmL B Γ t τ xs) (h' : Sm B Γ u tInt i) (h0 : 0 ≤ i) : SmO B Γ (tSl (rSlL K) t tNoPart (tPart u)) τ (xs.take i.toNat) := fun σ Hv H w Q k =>
  h σ Hv H w _ fun a vs Hv1 H1 g1 e1 r1 => h' σ Hv1 H1 (w.grow g1) _ fun v Hv2 H2 g2 r2 => by
    cases r2
    refine ⟨i, rfl, a, vs, rfl, SqL.of (g2.s _ _ e1), fun p hp => ?_⟩
    rw [cut_hi h0]
    exact k p _ Hv2 _ ((g1.trans g2).trans (Grow.newO g2.vis hp)) (Same.free (g1.trans g2).s hp) upd_same (Same.free g2.vis hp) (paired_take _ (Paired.up g2.v r1))
theorem smo_sl11 {t u u' : TE} {xs : List α} {i j : Int} (h : SmL B Γ t τ xs) (h' : Sm B Γ u tInt i) (h'' : Sm B Γ u' tInt j) (h0 : 0 ≤ i ∧ 0 ≤ j) : SmO B Γ (tSl (rSlL K) t (tPart u) (tPart u')) τ ((xs.take j.toNat).drop i.toNat) := fun σ Hv H w Q k =>
  h σ Hv H w _ fun a vs Hv1 H1 g1 e1 r1 => h' σ Hv1 H1 (w.grow g1) _ fun v Hv2 H2 g2 r2 => by
    cases r2
    refine ⟨i, rfl, h'' σ Hv2 H2 ((w.grow g1).grow g2) _ fun v Hv3 H3 g3 r3 => ?_⟩
    cases r3
    refine ⟨j, rfl, a, vs, rfl, SqL.of (g3.s _ _ (g2.s _ _ e1)), fun p hp => ?_⟩
    rw [cut_both h0.1 h0.2]
    have gg := (g1.trans g2).trans g3
    exact k p _ Hv3 _ (gg.trans (Grow.newO g3.vis hp)) (Same.free gg.s hp) upd_same (Same.free g3.vis hp) (paired_drop _ (paired_take _ (Paired.up (Same.trans g2.v g3.v) r1)))
theorem smo_sl00 {t : TE} {xs : List α} (h : SmL B Γ t τ xs) : SmO B Γ (tSl (rSlL K) t tNoPart tNoPart) τ xs := fun σ Hv H w Q k =>
  h σ Hv H w _ fun a vs Hv1 H1 g1 e1 r1 => by
    refine ⟨a, vs, rfl, SqL.of e1, fun p hp => ?_⟩
    rw [cut_all]
    exact k p _ Hv1 _ (g1.trans (Grow.newO g1.vis hp)) (Same.free g1.s hp) upd_same (Same.free g1.vis hp) r1
theorem smo_slS10 {t u : TE} {ns : List Int} {i : Int} (h : Sm B Γ t (tScr K) ns) (h' : Sm B Γ u tInt i) (h0 : 0 ≤ i) : SmO B Γ (tSl (rSlL K) t (tPart u) tNoPart) tInt (ns.drop i.toNat) := fun σ Hv H w Q k =>
  h σ Hv H w _ fun v Hv1 H1 g1 ⟨a, ev, e1⟩ => h' σ Hv1 H1 (w.grow g1) _ fun v' Hv2 H2 g2 r2 => by
    cases r2
    subst ev
    refine ⟨i, rfl, a, ns.map V.int, rfl, Same.seq g2.vis (Same.seq g2.v e1), fun p hp => ?_⟩
    rw [cut_lo h0, ← List.map_drop]
    exact k p _ Hv2 _ ((g1.trans g2).trans (Grow.newO g2.vis hp)) (Same.free (g1.trans g2).s hp) upd_same (Same.free g2.vis hp) int_paired
theorem smo_slS01 {t u : TE} {ns : List Int} {i : Int} (h : Sm B Γ t (tScr K) ns) (h' : Sm B Γ u tInt i) (h0 : 0 ≤ i) : SmO B Γ (tSl (rSlL K) t tNoPart (tPart u)) tInt (ns.take i.toNat) := fun σ Hv H w Q k =>
  h σ Hv H w _ fun v Hv1 H1 g1 ⟨a, ev, e1⟩ => h' σ Hv1 H1 (w.grow g1) _ fun v' Hv2 H2 g2 r2 => by
    cases r2
    subst ev
    refine ⟨i, rfl, a, ns.map V.int, rfl, Same.seq g2.vis (Same.seq g2.v e1), fun p hp => ?_⟩
    rw [cut_hi h0, ← List.map_take]
    exact k p _ Hv2 _ ((g1.trans g2).trans (Grow.newO g2.vis hp)) (Same.free (g1.trans g2).s hp) upd_same (Same.free g2.vis hp) int_paired
theorem smo_slS11 {t u u' : TE} {ns : List Int} {i j : Int} (h : Sm B Γ t (tScr K) ns) (h' : Sm B Γ u tInt i) (h'' : Sm B Γ u' tInt j) (h0 : 0 ≤ i ∧ 0 ≤ j) : SmO B Γ (tSl (rSlL K) t (tPart u) (tPart u')) tInt ((ns.take j.toNat).drop i.toNat) := fun σ Hv H w Q k =>
  h σ Hv H w _ fun v Hv1 H1 g1 ⟨a, ev, e1⟩ => h' σ Hv1 H1 (w.grow g1) _ fun v' Hv2 H2 g2 r2 => by
    cases r2
    subst ev
    refine ⟨i, rfl, h'' σ Hv2 H2 ((w.grow g1).grow g2) _ fun v Hv3 H3 g3 r3 => ?_⟩
    cases r3
    refine ⟨j, rfl, a, ns.map V.int, rfl, Same.seq g3.vis (Same.seq g3.v (Same.seq g2.v e1)), fun p hp => ?_⟩
    rw [cut_both h0.1 h0.2, ← List.map_take, ← List.map_drop]
    have gg := (g1.trans g2).trans g3
    exact k p _ Hv3 _ (gg.trans (Grow.newO g3.vis hp)) (Same.free gg.s hp) upd_same (Same.free g3.vis hp) int_paired

/-! ### equality of data -/
/-- values of this type are data, and equal data are equal values -/
structure EqT (K : PySem.W.Frag) {α : Type} [DecidableEq α] (τ : Ty α) (n : Nat) where
  dat : α → PyData
  at_ : ∀ {H v x}, τ.rep H v x → Dp K H v (dat x)
  lay : ∀ x, (dat x).canLay0 = true
  dep : ∀ x, (dat x).depth ≤ n
  eqv : ∀ x y, PyData.eqv (dat x) (dat y) = decide (x = y)
def eq_int : EqT K tInt 0 := ⟨.int, fun {H v x} h => by cases h; exact .int x, fun _ => by simp [PyData.canLay0], fun _ => by simp [PyData.depth], fun x y => by
  show (x == y) = _
  by_cases e : x = y <;> simp [e]⟩
def eq_bool : EqT K tBool 0 := ⟨.bool, fun {H v x} h => by cases h; exact .bl x, fun _ => by simp [PyData.canLay0], fun _ => by simp [PyData.depth], fun x y => by
  show (x == y) = _
  by_cases e : x = y <;> simp [e]⟩
section
variable [DecidableEq α] [DecidableEq β] {n m : Nat}
theorem EqT.all (E : EqT K τ n) {H : Hp} : ∀ {vs : List V} {xs : List α}, Paired (τ.rep H) vs xs → DpAll K H vs (xs.map E.dat)
  | _, _, .nil => .nil
  | _, _, .cons r t => .cons (E.at_ r) (EqT.all E t)
theorem EqT.layAll (E : EqT K τ n) : ∀ xs : List α, PyData.canLayAll0 (xs.map E.dat) = true
  | [] => by simp [PyData.canLayAll0]
  | x :: xs => by simp [PyData.canLayAll0, E.lay x, EqT.layAll E xs]
theorem EqT.depAll (E : EqT K τ n) : ∀ xs : List α, PyData.depthAll (xs.map E.dat) ≤ n
  | [] => by simp [PyData.depthAll]
  | x :: xs => by
    have h1 := E.dep x
    have h2 := EqT.depAll E xs
    simp only [List.map_cons, PyData.depthAll]
    omega
theorem EqT.eqAll (E : EqT K τ n) : ∀ xs ys : List α, PyData.eqvAll (xs.map E.dat) (ys.map E.dat) = decide (xs = ys)
  | [], [] => by simp [PyData.eqvAll]
  | [], y :: ys => by simp [PyData.eqvAll]
  | x :: xs, [] => by simp [PyData.eqvAll]
  | x :: xs, y :: ys => by
    simp only [List.map_cons, PyData.eqvAll, E.eqv x y, EqT.eqAll E xs ys]
    by_cases e : x = y <;> by_cases e' : xs = ys <;> simp [e, e']
def eq_list (E : EqT K τ n) : EqT K (tList τ) (n + 1) := ⟨fun xs => .list (xs.map E.dat), fun {H v x} ⟨a, vs, e, h, r⟩ => by subst e; exact .lst (SqL.of h) (E.all r), fun x => by simp only [PyData.canLay0]; exact E.layAll x,
  fun x => by simp only [PyData.depth]; exact Nat.succ_le_succ (E.depAll x), fun x y => by simp only [PyData.eqv]; exact E.eqAll x y⟩
def eq_tup (E : EqT K τ n) (F : EqT K υ m) : EqT K (tTup2 τ υ) (max n m + 1) := ⟨fun p => .tuple [E.dat p.1, F.dat p.2], fun {H v x} ⟨a, v1, v2, e, h, r1, r2⟩ => by subst e; exact .tup (SqT.of h) (.cons (E.at_ r1) (.cons (F.at_ r2) .nil)),
  fun x => by simp [PyData.canLay0, PyData.canLayAll0, E.lay, F.lay], fun x => by
    have h1 := E.dep x.1
    have h2 := F.dep x.2
    simp only [PyData.depth, PyData.depthAll]
    omega, fun x y => by
    simp only [PyData.eqv, PyData.eqvAll, E.eqv, F.eqv]
    obtain ⟨x1, x2⟩ := x
    obtain ⟨y1, y2⟩ := y
    by_cases e : x1 = y1 <;> by_cases e' : x2 = y2 <;> simp [e, e']⟩
theorem EqT.shp (E : EqT K τ n) (hn : n ≤ 64) (x : α) : SeqAt.shaped (E.dat x) = true := by
  unfold SeqAt.shaped
  rw [E.lay x, Bool.true_and, decide_eq_true_iff]
  exact Nat.le_trans (E.dep x) hn
theorem sm_eqL {t u : TE} {xs ys : List α} (E : EqT K τ n) (hn : n + 1 ≤ 64) (h : SmL B Γ t τ xs) (h' : SmL B Γ u τ ys) : Sm B Γ (tOp (rEqD K) t u) tBool (decide (xs = ys)) := fun σ Hv H w Q k =>
  h σ Hv H w _ fun a vs Hv1 H1 g1 e1 r1 => h' σ Hv1 H1 (w.grow g1) _ fun b us Hv2 H2 g2 e2 r2 => by
    have d1 : Dp K H2 (.ref a) (.list (xs.map E.dat)) := .lst (SqL.of (g2.s _ _ e1)) (E.all (Paired.up g2.vis (Paired.up g2.v r1)))
    have d2 : Dp K H2 (.ref b) (.list (ys.map E.dat)) := .lst (SqL.of e2) (E.all (Paired.up g2.vis r2))
    exact ⟨_, _, d1, d2, (eq_list E).shp hn xs, (eq_list E).shp hn ys, k _ _ _ (g1.trans g2) (congrArg V.bl ((eq_list E).eqv xs ys))⟩
theorem sm_neL {t u : TE} {xs ys : List α} (E : EqT K τ n) (hn : n + 1 ≤ 64) (h : SmL B Γ t τ xs) (h' : SmL B Γ u τ ys) : Sm B Γ (tOp (rNeD K) t u) tBool (!decide (xs = ys)) := fun σ Hv H w Q k =>
  h σ Hv H w _ fun a vs Hv1 H1 g1 e1 r1 => h' σ Hv1 H1 (w.grow g1) _ fun b us Hv2 H2 g2 e2 r2 => by
    have d1 : Dp K H2 (.ref a) (.list (xs.map E.dat)) := .lst (SqL.of (g2.s _ _ e1)) (E.all (Paired.up g2.vis (Paired.up g2.v r1)))
    have d2 : Dp K H2 (.ref b) (.list (ys.map E.dat)) := .lst (SqL.of e2) (E.all (Paired.up g2.vis r2))
    exact ⟨_, _, d1, d2, (eq_list E).shp hn xs, (eq_list E).shp hn ys, k _ _ _ (g1.trans g2) (congrArg V.bl (congrArg _ ((eq_list E).eqv xs ys)))⟩
theorem sm_eqT {t u : TE} {x y : α} (E : EqT K τ n) (hn : n ≤ 64) (h : Sm B Γ t τ x) (h' : Sm B Γ u τ y) : Sm B Γ (tOp (rEqD K) t u) tBool (decide (x = y)) := fun σ Hv H w Q k =>
  h σ Hv H w _ fun v Hv1 H1 g1 r1 => h' σ Hv1 H1 (w.grow g1) _ fun v' Hv2 H2 g2 r2 =>
    ⟨_, _, E.at_ (τ.mono g2.vis (τ.mono g2.v r1)), E.at_ (τ.mono g2.vis r2), E.shp hn x, E.shp hn y, k _ _ _ (g1.trans g2) (congrArg V.bl (E.eqv x y))⟩
theorem sm_neT {t u : TE} {x y : α} (E : EqT K τ n) (hn : n ≤ 64) (h : Sm B Γ t τ x) (h' : Sm B Γ u τ y) : Sm B Γ (tOp (rNeD K) t u) tBool (!decide (x = y)) := fun σ Hv H w Q k =>
  h σ Hv H w _ fun v Hv1 H1 g1 r1 => h' σ Hv1 H1 (w.grow g1) _ fun v' Hv2 H2 g2 r2 =>
    ⟨_, _, E.at_ (τ.mono g2.vis (τ.mono g2.v r1)), E.at_ (τ.mono g2.vis r2), E.shp hn x, E.shp hn y, k _ _ _ (g1.trans g2) (congrArg V.bl (congrArg _ (E.eqv x y)))⟩
end
/-! ### in, for ints -/
theorem inV_int {x : Int} {xs : List Int} : inV (.int x) (xs.map V.int) = decide (x ∈ xs) := by
  induction xs with
  | nil => simp [inV]
  | cons y ys ih =>
    have e : inV (.int x) ((y :: ys).map V.int) = (eqV (.int y) (.int x) || inV (.int x) (ys.map V.int)) := by simp [inV]
    rw [e, ih]
    have e2 : eqV (.int y) (.int x) = decide (y = x) := by
      by_cases h : y = x <;> simp [eqV, h]
    rw [e2]
    by_cases h : y = x
    · simp [h]
    · have h' : ¬ x = y := fun q => h q.symm
      simp [h, h']
theorem flat_ints (xs : List Int) : (xs.map V.int).all flatV = true := by
  rw [List.all_map]
  exact List.all_eq_true.mpr fun _ _ => rfl
theorem sm_in {t u : TE} {x : Int} {xs : List Int} (h : Sm B Γ t tInt x) (h' : SmL B Γ u tInt xs) : Sm B Γ (tOp (rIn K false) t u) tBool (decide (x ∈ xs)) := fun σ Hv H w Q k =>
  h σ Hv H w _ fun v Hv1 H1 g1 r1 => h' σ Hv1 H1 (w.grow g1) _ fun b us Hv2 H2 g2 e2 r2 => by
    cases r1
    have e := paired_int r2
    subst e
    exact ⟨b, _, rfl, .inl (SqL.of e2), rfl, flat_ints xs, k _ _ _ (g1.trans g2) (congrArg V.bl inV_int)⟩
theorem sm_notIn {t u : TE} {x : Int} {xs : List Int} (h : Sm B Γ t tInt x) (h' : SmL B Γ u tInt xs) : Sm B Γ (tOp (rIn K true) t u) tBool (!decide (x ∈ xs)) := fun σ Hv H w Q k =>
  h σ Hv H w _ fun v Hv1 H1 g1 r1 => h' σ Hv1 H1 (w.grow g1) _ fun b us Hv2 H2 g2 e2 r2 => by
    cases r1
    have e := paired_int r2
    subst e
    exact ⟨b, _, rfl, .inl (SqL.of e2), rfl, flat_ints xs, k _ _ _ (g1.trans g2) (congrArg V.bl (show (!inV (V.int x) (xs.map V.int)) = !decide (x ∈ xs) by rw [inV_int]))⟩
/-! ### a list of one's own, lent to a call that gives a plain value -/
structure Sc (τ : Ty α) : Prop where
  run : ∀ {H H' : Hp} {v : V} {x : α}, τ.rep H v x → τ.rep H' v x
theorem sc_int : Sc tInt := ⟨fun h => h⟩
theorem sc_bool : Sc tBool := ⟨fun h => h⟩
theorem sc_str : Sc tStr := ⟨fun h => h⟩
theorem sc_non : Sc tNon := ⟨fun h => h⟩
theorem sc_opt (h : Sc τ) : Sc (tOpt τ) := ⟨fun {H H' v x} r => by
  cases x with
  | none => exact r
  | some y => exact ⟨r.1, h.run r.2⟩⟩
theorem Wd.lend {σ : L2.St} {Hv H : Hp} {xs : List α} {i : Nat} (w : Wd B Γ σ Hv H) (m : get i Γ = some (.cl τ xs)) : ∃ Hv', Wd B (VC.put i (.fz (tList τ) xs) Γ) σ Hv' H := by
  obtain ⟨Hv', _, w'⟩ := w.freeze i (get_mem m)
  exact ⟨Hv', w'⟩
theorem sm_lend {i : Nat} {t : TE} {xs : List α} (sc : Sc υ) (m : get i Γ = some (.cl τ xs)) (h : Sm B (put i (.fz (tList τ) xs) Γ) t υ y) : Sm B Γ t υ y := fun σ Hv H w Q k => by
  obtain ⟨Hv', w'⟩ := w.lend m
  exact h σ Hv' H w' Q fun v Hv2 H2 g r => k v Hv H2 ⟨g.s, Same.refl _, Same.trans w.vis g.s, fun _ _ z => z⟩ (sc.run r)
theorem paired_sc (sc : Sc υ) {H H' : Hp} : ∀ {vs : List V} {ys : List β}, Paired (υ.rep H) vs ys → Paired (υ.rep H') vs ys
  | _, _, .nil => .nil
  | _, _, .cons a t => .cons (sc.run a) (paired_sc sc t)
theorem smo_lend {i : Nat} {t : TE} {xs : List α} {ys : List β} (sc : Sc υ) (m : get i Γ = some (.cl τ xs)) (h : SmO B (put i (.fz (tList τ) xs) Γ) t υ ys) : SmO B Γ t υ ys := fun σ Hv H w Q k => by
  obtain ⟨Hv', w'⟩ := w.lend m
  exact h σ Hv' H w' Q fun l vs Hv2 H2 g e0 e1 e2 r => k l vs Hv H2 ⟨g.s, Same.refl _, Same.trans w.vis g.s, fun _ _ z => z⟩ e0 e1 (Same.free w.vis e0) (paired_sc sc r)
theorem sml_lend {i : Nat} {t : TE} {xs : List α} {ys : List β} (sc : Sc υ) (m : get i Γ = some (.cl τ xs)) (h : SmL B (put i (.fz (tList τ) xs) Γ) t υ ys) : SmL B Γ t υ ys := fun σ Hv H w Q k => by
  obtain ⟨Hv', w'⟩ := w.lend m
  exact h σ Hv' H w' Q fun a vs Hv2 H2 g e1 r => k a vs Hv H2 ⟨g.s, Same.refl _, Same.trans w.vis g.s, fun _ _ z => z⟩ e1 (paired_sc sc r)
/-! ### wide shifts, changes in place -/
theorem bits_lt {x : Int} {n : Nat} (h : x.natAbs < 2 ^ n) : Builtin.Int.intBits x ≤ n := by
  unfold Builtin.Int.intBits
  by_cases e : x = 0
  · subst e; simp
  · have e2 : (x == 0) = false := by simpa using e
    rw [e2, if_neg (by decide)]
    have := (Nat.log2_lt (n := x.natAbs) (k := n) (by omega)).mpr h
    omega
theorem shlW {i j : Int} (n : Nat) (h : i.natAbs < 2 ^ n) (h0 : 0 ≤ j) (h1 : (n : Int) + j ≤ 100000000) : CShl i j := by
  have := bits_lt h
  exact ⟨h0, by omega⟩
theorem ov_shlW {i j : Int} (c : CShl i j) : OpV (rI CShl fun i j => .int (i * 2 ^ j.toNat)) tInt tInt tInt i j (i * 2 ^ j.toNat) := ov_I c fun _ => rfl
theorem ip_xor {X : Cx} : PIp X .BitXor (ipI fun i j => Builtin.bitXor i j) := iop_xor
theorem ip_shr {X : Cx} : PIp X .RShift (rI (fun _ j => 0 ≤ j) fun i j => .int (i / 2 ^ j.toNat)) := iop_shr
variable {D : Ends}
theorem g_augShr {te : TE} {i : Nat} {u : TS} {a b : Int} (hi : i < B.n) (m : get i Γ = some (.fz tInt a)) (he : Sm B Γ te tInt b) (h0 : 0 ≤ b) (h : ∀ y, y = a / 2 ^ b.toNat → G B u (put i (.fz tInt y) Γ) D) :
    G B (tSeq (tAug i te (rI (fun _ j => 0 ≤ j) fun i j => .int (i / 2 ^ j.toNat))) u) Γ D := fun σ Hv H w => by
  obtain ⟨v, e, r⟩ := w.ent i _ (get_mem m)
  cases r
  refine ⟨_, e, he σ Hv H w _ fun v1 Hv1 H1 g1 r1 => ?_⟩
  cases r1
  exact ⟨a, b, rfl, rfl, h0, h _ rfl _ Hv1 H1 ((w.grow g1).put i hi rfl)⟩
theorem g_ifAug {c : TT} {te : TE} {u : TS} {g : Int → Int → Int} {i : Nat} {b : Bool} {x0 x : Int} (hi : i < B.n) (hc : SmT B Γ c b) (m : get i Γ = some (.fz tInt x0)) (he : b = true → Sm B Γ te tInt x) (h : ∀ y, y = (bif b then g x0 x else x0) → G B u (put i (.fz tInt y) Γ) D) :
    G B (tSeq (tIfS c (tSeq (tAug i te (ipI g)) tNext) tNext) u) Γ D := by
  refine g_if hc (fun e => ?_) fun e => ?_
  · refine g_assoc (g_aug hi m (he e) fun y hy => g_next (h y ?_))
    rw [e]
    exact hy
  · refine g_next fun σ Hv H w => ?_
    obtain ⟨v, e1, r⟩ := w.ent i _ (get_mem m)
    have w2 := w.put i hi r
    have : σ.set i (some v) = σ := by
      apply List.ext_getElem?
      intro j
      rw [getElem?_setN]
      by_cases hj : i = j
      · subst hj
        rw [if_pos rfl, if_pos (by rw [w.len]; exact hi), e1]
      · rw [if_neg hj]
    rw [this] at w2
    exact h _ (by rw [e]; rfl) σ Hv H w2
theorem ov_fdivW {i j : Int} (c : CDivW i j) : OpV (rI CDivW fun i j => .int (i / j)) tInt tInt tInt i j (i / j) := ov_I c fun _ => rfl
theorem divW {i j : Int} (n : Nat) (h0 : 0 < j) (h : j.natAbs < 2 ^ n) (hn : n ≤ 9000) : CDivW i j := by
  refine ⟨h0, ?_⟩
  have := (Nat.log2_lt (n := j.natAbs) (k := n) (by omega)).mpr h
  omega
end
end VC

set_option Elab.async false
set_option maxRecDepth 100000
set_option maxHeartbeats 4000000
namespace VC
open PySem PySem.Spec L2
section
variable {B B0 : Bs} {Γ : Cxt} {α β : Type} {τ : Ty α} {υ : Ty β} {x : α} {y : β} {K : PySem.W.Frag} {σ : L2.St} {Hv H : Hp} {D : Ends}
/-! ### objects while they are made -/
theorem FsRep.app {H : Hp} {fs : List (Str × V)} {as : List (Str × As)} {n : Str} {v : V} {a : As} (h : FsRep H fs as) (r : a.τ.rep H v a.x) (hn : ixOf (as.map (·.1)) n = Option.none) : FsRep H (putF n v fs) (as ++ [(n, a)]) := by
  induction h with
  | nil => exact .cons r .nil
  | cons q _ ih =>
    rename_i m u fs b as _
    have hnm : ¬ n = m := fun e => by
      subst e
      simp [ixOf] at hn
    have hn' : ixOf (as.map (·.1)) n = Option.none := by
      simp only [List.map_cons, ixOf, if_neg hnm] at hn
      cases e : ixOf (as.map (·.1)) n with
      | none => rfl
      | some j => rw [e] at hn; cases hn
    show FsRep H (if m = n then (m, v) :: fs else (m, u) :: putF n v fs) _
    rw [if_neg fun e => hnm e.symm]
    exact .cons q (ih hn')
theorem FsRep.len {H : Hp} {fs : List (Str × V)} {as : List (Str × As)} (h : FsRep H fs as) : fs.length = as.length := by
  induction h with
  | nil => rfl
  | cons _ _ ih => simp [ih]
theorem Wd.chgO {p dx C : Addr} {as as' : List (Str × As)} {fs' : List (Str × V)} (w : Wd B Γ σ Hv H) (i : Nat) (m : (i, .ob p dx C as) ∈ Γ) (r : FsRep Hv fs' as') : Wd B (VC.put i (.ob p dx C as') Γ) σ Hv (upd H p (.ins C dx fs')) := by
  obtain ⟨fs, hs, e2, e3, _⟩ := w.ent i _ m
  have nv : ∀ b o, Hv b = some o → b ≠ p := fun b o e q => by
    subst q
    rw [e3] at e
    cases e
  have nl := w.new i _ p m rfl hs
  refine ⟨w.len, fun b o e => ?_, fun b o n e => ?_, fun b n => ?_, w.v0, w.nw, fun j e m' => ?_, fun j e k m' c s => ?_, fun j k e f q m1 m2 c1 c2 n s1 s2 => ?_⟩
  · rw [upd_ne (nv b o e)]
    exact w.vis _ _ e
  · have hb : b ≠ p := fun q => by
      subst q
      rcases nl with z | z
      · rw [z] at e
        cases e
      · exact n z
    rw [upd_ne hb]
    exact w.s0 b o n e
  · by_cases hb : b = p
    · subst hb
      rw [upd_same]
      exact fun z => nomatch z
    · rw [upd_ne hb]
      exact w.a0 b n
  · rcases put_mem m' with ⟨rfl, rfl⟩ | ⟨hj, m'⟩
    · exact ⟨fs', hs, upd_same, e3, r⟩
    · have z := w.ent j e m'
      cases e with
      | fz => exact z
      | gh => exact z
      | cl τ' zs =>
        obtain ⟨k, us, h1, h2, h3, h4⟩ := z
        refine ⟨k, us, h1, ?_, h3, h4⟩
        rw [upd_ne fun q => w.dis i j _ _ p m m' rfl rfl (Ne.symm hj) hs (by rw [h1, q])]
        exact h2
      | ob k dx' C' bs =>
        obtain ⟨gs, h1, h2, h3, h4⟩ := z
        refine ⟨gs, h1, ?_, h3, h4⟩
        rw [upd_ne fun q => w.dis i j _ _ p m m' rfl rfl (Ne.symm hj) hs (by rw [h1, q])]
        exact h2
  · rcases put_mem m' with ⟨rfl, rfl⟩ | ⟨hj, m'⟩
    · exact w.new j _ k m rfl s
    · exact w.new j e k m' c s
  · rcases put_mem m1 with ⟨rfl, rfl⟩ | ⟨hj, mm⟩
    · rcases put_mem m2 with ⟨rfl, rfl⟩ | ⟨hk, m2⟩
      · exact n rfl
      · exact w.dis j k _ f q m m2 rfl c2 n s1 s2
    · rcases put_mem m2 with ⟨rfl, rfl⟩ | ⟨hk, m2⟩
      · exact w.dis j k e _ q mm m c1 rfl n s1 s2
      · exact w.dis j k e f q mm m2 c1 c2 n s1 s2
/-- self.f = e, f new -/
theorem g_fld {p dx C : Addr} {as : List (Str × As)} {te : TE} {f : Str} {i : Nat} {u : TS} (m : get i Γ = some (.ob p dx C as)) (ns : List Str) (hns : as.map (·.1) = ns) (hn : ixOf ns f = none) (c : Cls K C) (n : NoAttr K C f) (hl : as.length < 900) (he : Sm B Γ te τ x)
    (h : ∀ y, y = x → G B u (put i (.ob p dx C (as ++ [(f, ⟨τ, y⟩)])) Γ) D) : G B (tSeq (sFld K (tVar i) te f) u) Γ D := fun σ Hv H w =>
  he σ Hv H w _ fun v Hv1 H1 g1 r1 => by
    have w1 := w.grow g1
    obtain ⟨fs, e1, e2, e3, r⟩ := w1.ent i _ (get_mem m)
    refine ⟨_, e1, p, C, dx, fs, rfl, e2, c, n, by rw [r.len]; omega, ?_⟩
    exact h x rfl σ Hv1 _ (w1.chgO i (get_mem m) (r.app (a := ⟨τ, x⟩) r1 (by rw [hns]; exact hn)))
/-- self.f, while the object is made -/
theorem sm_fldO {p dx C : Addr} {as : List (Str × As)} {f : Str} {i : Nat} (m : get i Γ = some (.ob p dx C as)) (ns : List Str) (k : Nat) (hk : ixOf ns f = some k) (hns : as.map (·.1) = ns) (c : Cls K C) (n : NoAttr K C f) (e : as[k]? = some (f, ⟨υ, y⟩)) : Sm B Γ (tFld K (tVar i) f) υ y := fun σ Hv H w Q q => by
  obtain ⟨fs, e1, e2, e3, r⟩ := w.ent i _ (get_mem m)
  obtain ⟨u, h1, h2⟩ := r.get (by rw [hns]; exact hk) e
  exact ⟨_, e1, p, C, dx, fs, u, rfl, e2, c, n, h1, q _ _ _ (Grow.refl w.vis) h2⟩
/-- what an __init__ is to leave -/
structure RtI (B0 : Bs) (p dx C : Addr) (as : List (Str × As)) (Q : VK) : Prop where
  ow : ∀ b, B0.own b → b = p
  run : ∀ Hv' H' fs, (∀ b o, b ≠ p → B0.H0 b = some o → H' b = some o) → Same B0.Hv0 Hv' → Same Hv' H' → (∀ b, b ≠ p → B0.H0 b ≠ none → B0.Hv0 b = none → Hv' b = none) → H' p = some (.ins C dx fs) → Hv' p = none → FsRep Hv' fs as → Q .non H'
theorem g_endI {p dx C : Addr} {as bs : List (Str × As)} {Q : VK} (l : Le B0 B) (R : RtI B0 p dx C bs Q) (hn : D.nx = fun _ H' => Q .non H') (m : get 0 Γ = some (.ob p dx C as)) (e : as = bs) : G B tNext Γ D := fun σ Hv H w => by
  show D.nx σ H
  rw [hn]
  subst e
  have w' := w.down l
  obtain ⟨fs, e1, e2, e3, r⟩ := w'.ent 0 _ (get_mem m)
  exact R.run Hv H fs (fun b o hb e => w'.s0 b o (fun z => hb (R.ow b z)) e) w'.v0 w'.vis (fun b hb n z => w'.nw b (fun z => hb (R.ow b z)) n z) e2 e3 r
end
section
variable {B : Bs} {Γ : Cxt} {H : Hp} {vs : List V} {Q : VK} {E : XK} {K : PySem.W.Frag} {δ : Type} {C : Addr} {sch : δ → List (Str × As)}
def spI0   (pre : Prop) (C : Addr) (sch : δ → List (Str × As)) (f : δ) : Sp := fun vs H Q _ => ∃ (p dx : Addr) (us : List V) (Hv : Hp), vs = .ref p :: us ∧ H p = some (.ins C dx []) ∧ Hv p = none ∧ Same Hv H ∧ Reps Hv us [] ∧ pre ∧ ∀ Hv' H' fs, (∀ b o, b ≠ p → H b = some o → H' b = some o) → Same Hv Hv' → Same Hv' H' → (∀ b, b ≠ p → H b ≠ none → Hv b = none → Hv' b = none) → H' p = some (.ins C dx fs) → Hv' p = none → FsRep Hv' fs (sch (f)) → Q .non H'
theorem spI0_len   {pre : Prop} {f : δ} (h : spI0 pre C sch f vs H Q E) : vs.length = 1 := by
  obtain ⟨_, _, us, _, rfl, _, _, _, r, _⟩ := h
  exact congrArg (· + 1) r.len
theorem spI0_body   {pre : Prop} {f : δ} {N : List Str} {t : TS} (hl : 1 ≤ N.length) (h : spI0 pre C sch f vs H Q E) (hb : ∀ B0 : Bs, B0.n = N.length → ∀ p dx, pre → RtI B0 p dx C (sch (f)) Q → G B0 t [(0, .ob p dx C [])] { nx := fun _ H' => Q .non H', rt := Q }) : t { nx := fun _ H' => Q .non H', rt := Q } (L2.start N vs) H := by
  obtain ⟨p, dx, us, Hv, rfl, hp, hv, vis, rs, pr, k⟩ := h
  have hlen : us.length = 0 := rs.len
  refine hb ⟨H, Hv, (· = p), N.length⟩ rfl p dx  pr ⟨fun _ z => z, fun Hv' H' fs h1 h2 h3 h4 h5 h6 h7 => k Hv' H' fs h1 h2 h3 h4 h5 h6 h7⟩ _ Hv H ?_
  have hat : ∀ k v, us[k]? = some v → (L2.start N (V.ref p :: us))[1 + k]? = some (some v) := fun k v hk => by
    have hk' := (List.getElem?_eq_some_iff.mp hk).1
    unfold L2.start
    rw [List.getElem?_append_left (by simp; omega), Nat.add_comm, List.getElem?_map, List.getElem?_cons_succ, hk]
    rfl
  have h0 : (L2.start N (V.ref p :: us))[0]? = some (some (.ref p)) := rfl
  refine ⟨?_, vis, fun _ _ _ e => e, fun _ n => n, Same.refl _, fun _ _ _ z => z, fun i e m => ?_, fun i e l m c s => ?_, fun i j e f l m m' c c' n s s' => ?_⟩
  · unfold L2.start
    rw [List.length_append, List.length_map, List.length_replicate, List.length_cons]
    show us.length + 1 + (N.length - (us.length + 1)) = N.length
    omega
  · rcases List.mem_cons.mp m with q | m
    · cases q
      exact ⟨[], h0, hp, hv, .nil⟩
    · exact argC_at (i := 1) (as := []) rs hat i e m
  · rcases List.mem_cons.mp m with q | m
    · cases q
      rw [h0] at s
      cases s
      exact .inr rfl
    · rw [(argC_ge (as := []) (i := 1) m).2] at c
      cases c
  · rcases List.mem_cons.mp m with q | m
    · rcases List.mem_cons.mp m' with q' | m'
      · cases q
        cases q'
        exact n rfl
      · rw [(argC_ge (as := []) (i := 1) m').2] at c'
        cases c'
    · rw [(argC_ge (as := []) (i := 1) m).2] at c
      cases c
theorem sm_make0   {pre : Prop} {f : δ}  {t : TA} (ha : SmA B Γ t []) (hp : pre) : Sm B Γ (tMake C (spI0 pre C sch f) [] E t) (tObj C sch) (f) := fun σ Hv H w Q k =>
  ha σ Hv H w _ fun us Hv1 H1 g1 rs => fun x dx hx hdx ndx => by
    show spI0 pre C sch f (V.ref x :: (us ++ [])) _ _ E
    rw [List.append_nil]
    have vx := Same.free g1.vis hx
    have s0 : Same H1 (upd (upd H1 dx (.own x)) x (.ins C dx [])) := fun b o e => by
      rw [upd_ne (ne_of_none e hx), upd_ne (ne_of_none e hdx)]
      exact e
    refine ⟨x, dx, us, Hv1, rfl, upd_same, vx, Same.trans g1.vis s0, rs, hp, fun Hv' H' fs h1 h2 h3 h4 h5 h6 h7 => ⟨rfl, ?_⟩⟩
    have s1 := same_upd (o := .ins C dx fs) h6
    refine k (.ref x) (upd Hv' x (.ins C dx fs)) H' (g1.trans ⟨fun b o e => h1 b o (ne_of_none e hx) (s0 _ _ e), Same.trans h2 s1, fun b o e => ?_, fun b n z => ?_⟩) ⟨x, dx, fs, rfl, upd_same, h7.up s1⟩
    · by_cases hb : b = x
      · subst hb
        rw [upd_same] at e
        cases e
        exact h5
      · rw [upd_ne hb] at e
        exact h3 _ _ e
    · have hb : b ≠ x := fun q => n (by rw [q]; exact hx)
      rw [upd_ne hb]
      exact h4 b hb (Same.some_ne s0 n) z
def spI1 {α1 : Type} (τ1 : Ty α1) (pre : α1 → Prop) (C : Addr) (sch : δ → List (Str × As)) (f : α1 → δ) : Sp := fun vs H Q _ => ∃ (x1 : α1), ∃ (p dx : Addr) (us : List V) (Hv : Hp), vs = .ref p :: us ∧ H p = some (.ins C dx []) ∧ Hv p = none ∧ Same Hv H ∧ Reps Hv us [⟨τ1, x1⟩] ∧ pre x1 ∧ ∀ Hv' H' fs, (∀ b o, b ≠ p → H b = some o → H' b = some o) → Same Hv Hv' → Same Hv' H' → (∀ b, b ≠ p → H b ≠ none → Hv b = none → Hv' b = none) → H' p = some (.ins C dx fs) → Hv' p = none → FsRep Hv' fs (sch (f x1)) → Q .non H'
theorem spI1_len {α1 : Type} {τ1 : Ty α1} {pre : α1 → Prop} {f : α1 → δ} (h : spI1 τ1 pre C sch f vs H Q E) : vs.length = 2 := by
  obtain ⟨_, _, _, us, _, rfl, _, _, _, r, _⟩ := h
  exact congrArg (· + 1) r.len
theorem spI1_body {α1 : Type} {τ1 : Ty α1} {pre : α1 → Prop} {f : α1 → δ} {N : List Str} {t : TS} (hl : 2 ≤ N.length) (h : spI1 τ1 pre C sch f vs H Q E) (hb : ∀ B0 : Bs, B0.n = N.length → ∀ p dx, ∀ (x1 : α1), pre x1 → RtI B0 p dx C (sch (f x1)) Q → G B0 t [(0, .ob p dx C []), (1, .fz τ1 x1)] { nx := fun _ H' => Q .non H', rt := Q }) : t { nx := fun _ H' => Q .non H', rt := Q } (L2.start N vs) H := by
  obtain ⟨x1, p, dx, us, Hv, rfl, hp, hv, vis, rs, pr, k⟩ := h
  have hlen : us.length = 1 := rs.len
  refine hb ⟨H, Hv, (· = p), N.length⟩ rfl p dx x1 pr ⟨fun _ z => z, fun Hv' H' fs h1 h2 h3 h4 h5 h6 h7 => k Hv' H' fs h1 h2 h3 h4 h5 h6 h7⟩ _ Hv H ?_
  have hat : ∀ k v, us[k]? = some v → (L2.start N (V.ref p :: us))[1 + k]? = some (some v) := fun k v hk => by
    have hk' := (List.getElem?_eq_some_iff.mp hk).1
    unfold L2.start
    rw [List.getElem?_append_left (by simp; omega), Nat.add_comm, List.getElem?_map, List.getElem?_cons_succ, hk]
    rfl
  have h0 : (L2.start N (V.ref p :: us))[0]? = some (some (.ref p)) := rfl
  refine ⟨?_, vis, fun _ _ _ e => e, fun _ n => n, Same.refl _, fun _ _ _ z => z, fun i e m => ?_, fun i e l m c s => ?_, fun i j e f l m m' c c' n s s' => ?_⟩
  · unfold L2.start
    rw [List.length_append, List.length_map, List.length_replicate, List.length_cons]
    show us.length + 1 + (N.length - (us.length + 1)) = N.length
    omega
  · rcases List.mem_cons.mp m with q | m
    · cases q
      exact ⟨[], h0, hp, hv, .nil⟩
    · exact argC_at (i := 1) (as := [⟨τ1, x1⟩]) rs hat i e m
  · rcases List.mem_cons.mp m with q | m
    · cases q
      rw [h0] at s
      cases s
      exact .inr rfl
    · rw [(argC_ge (as := [⟨τ1, x1⟩]) (i := 1) m).2] at c
      cases c
  · rcases List.mem_cons.mp m with q | m
    · rcases List.mem_cons.mp m' with q' | m'
      · cases q
        cases q'
        exact n rfl
      · rw [(argC_ge (as := [⟨τ1, x1⟩]) (i := 1) m').2] at c'
        cases c'
    · rw [(argC_ge (as := [⟨τ1, x1⟩]) (i := 1) m).2] at c
      cases c
theorem sm_make1 {α1 : Type} {τ1 : Ty α1} {pre : α1 → Prop} {f : α1 → δ} {x1 : α1} {t : TA} (ha : SmA B Γ t [⟨τ1, x1⟩]) (hp : pre x1) : Sm B Γ (tMake C (spI1 τ1 pre C sch f) [] E t) (tObj C sch) (f x1) := fun σ Hv H w Q k =>
  ha σ Hv H w _ fun us Hv1 H1 g1 rs => fun x dx hx hdx ndx => by
    show spI1 τ1 pre C sch f (V.ref x :: (us ++ [])) _ _ E
    rw [List.append_nil]
    have vx := Same.free g1.vis hx
    have s0 : Same H1 (upd (upd H1 dx (.own x)) x (.ins C dx [])) := fun b o e => by
      rw [upd_ne (ne_of_none e hx), upd_ne (ne_of_none e hdx)]
      exact e
    refine ⟨x1, x, dx, us, Hv1, rfl, upd_same, vx, Same.trans g1.vis s0, rs, hp, fun Hv' H' fs h1 h2 h3 h4 h5 h6 h7 => ⟨rfl, ?_⟩⟩
    have s1 := same_upd (o := .ins C dx fs) h6
    refine k (.ref x) (upd Hv' x (.ins C dx fs)) H' (g1.trans ⟨fun b o e => h1 b o (ne_of_none e hx) (s0 _ _ e), Same.trans h2 s1, fun b o e => ?_, fun b n z => ?_⟩) ⟨x, dx, fs, rfl, upd_same, h7.up s1⟩
    · by_cases hb : b = x
      · subst hb
        rw [upd_same] at e
        cases e
        exact h5
      · rw [upd_ne hb] at e
        exact h3 _ _ e
    · have hb : b ≠ x := fun q => n (by rw [q]; exact hx)
      rw [upd_ne hb]
      exact h4 b hb (Same.some_ne s0 n) z
def spI2 {α1 : Type} {α2 : Type} (τ1 : Ty α1) (τ2 : Ty α2) (pre : α1 → α2 → Prop) (C : Addr) (sch : δ → List (Str × As)) (f : α1 → α2 → δ) : Sp := fun vs H Q _ => ∃ (x1 : α1) (x2 : α2), ∃ (p dx : Addr) (us : List V) (Hv : Hp), vs = .ref p :: us ∧ H p = some (.ins C dx []) ∧ Hv p = none ∧ Same Hv H ∧ Reps Hv us [⟨τ1, x1⟩, ⟨τ2, x2⟩] ∧ pre x1 x2 ∧ ∀ Hv' H' fs, (∀ b o, b ≠ p → H b = some o → H' b = some o) → Same Hv Hv' → Same Hv' H' → (∀ b, b ≠ p → H b ≠ none → Hv b = none → Hv' b = none) → H' p = some (.ins C dx fs) → Hv' p = none → FsRep Hv' fs (sch (f x1 x2)) → Q .non H'
theorem spI2_len {α1 : Type} {α2 : Type} {τ1 : Ty α1} {τ2 : Ty α2} {pre : α1 → α2 → Prop} {f : α1 → α2 → δ} (h : spI2 τ1 τ2 pre C sch f vs H Q E) : vs.length = 3 := by
  obtain ⟨_, _, _, _, us, _, rfl, _, _, _, r, _⟩ := h
  exact congrArg (· + 1) r.len
theorem spI2_body {α1 : Type} {α2 : Type} {τ1 : Ty α1} {τ2 : Ty α2} {pre : α1 → α2 → Prop} {f : α1 → α2 → δ} {N : List Str} {t : TS} (hl : 3 ≤ N.length) (h : spI2 τ1 τ2 pre C sch f vs H Q E) (hb : ∀ B0 : Bs, B0.n = N.length → ∀ p dx, ∀ (x1 : α1) (x2 : α2), pre x1 x2 → RtI B0 p dx C (sch (f x1 x2)) Q → G B0 t [(0, .ob p dx C []), (1, .fz τ1 x1), (2, .fz τ2 x2)] { nx := fun _ H' => Q .non H', rt := Q }) : t { nx := fun _ H' => Q .non H', rt := Q } (L2.start N vs) H := by
  obtain ⟨x1, x2, p, dx, us, Hv, rfl, hp, hv, vis, rs, pr, k⟩ := h
  have hlen : us.length = 2 := rs.len
  refine hb ⟨H, Hv, (· = p), N.length⟩ rfl p dx x1 x2 pr ⟨fun _ z => z, fun Hv' H' fs h1 h2 h3 h4 h5 h6 h7 => k Hv' H' fs h1 h2 h3 h4 h5 h6 h7⟩ _ Hv H ?_
  have hat : ∀ k v, us[k]? = some v → (L2.start N (V.ref p :: us))[1 + k]? = some (some v) := fun k v hk => by
    have hk' := (List.getElem?_eq_some_iff.mp hk).1
    unfold L2.start
    rw [List.getElem?_append_left (by simp; omega), Nat.add_comm, List.getElem?_map, List.getElem?_cons_succ, hk]
    rfl
  have h0 : (L2.start N (V.ref p :: us))[0]? = some (some (.ref p)) := rfl
  refine ⟨?_, vis, fun _ _ _ e => e, fun _ n => n, Same.refl _, fun _ _ _ z => z, fun i e m => ?_, fun i e l m c s => ?_, fun i j e f l m m' c c' n s s' => ?_⟩
  · unfold L2.start
    rw [List.length_append, List.length_map, List.length_replicate, List.length_cons]
    show us.length + 1 + (N.length - (us.length + 1)) = N.length
    omega
  · rcases List.mem_cons.mp m with q | m
    · cases q
      exact ⟨[], h0, hp, hv, .nil⟩
    · exact argC_at (i := 1) (as := [⟨τ1, x1⟩, ⟨τ2, x2⟩]) rs hat i e m
  · rcases List.mem_cons.mp m with q | m
    · cases q
      rw [h0] at s
      cases s
      exact .inr rfl
    · rw [(argC_ge (as := [⟨τ1, x1⟩, ⟨τ2, x2⟩]) (i := 1) m).2] at c
      cases c
  · rcases List.mem_cons.mp m with q | m
    · rcases List.mem_cons.mp m' with q' | m'
      · cases q
        cases q'
        exact n rfl
      · rw [(argC_ge (as := [⟨τ1, x1⟩, ⟨τ2, x2⟩]) (i := 1) m').2] at c'
        cases c'
    · rw [(argC_ge (as := [⟨τ1, x1⟩, ⟨τ2, x2⟩]) (i := 1) m).2] at c
      cases c
theorem sm_make2 {α1 : Type} {α2 : Type} {τ1 : Ty α1} {τ2 : Ty α2} {pre : α1 → α2 → Prop} {f : α1 → α2 → δ} {x1 : α1} {x2 : α2} {t : TA} (ha : SmA B Γ t [⟨τ1, x1⟩, ⟨τ2, x2⟩]) (hp : pre x1 x2) : Sm B Γ (tMake C (spI2 τ1 τ2 pre C sch f) [] E t) (tObj C sch) (f x1 x2) := fun σ Hv H w Q k =>
  ha σ Hv H w _ fun us Hv1 H1 g1 rs => fun x dx hx hdx ndx => by
    show spI2 τ1 τ2 pre C sch f (V.ref x :: (us ++ [])) _ _ E
    rw [List.append_nil]
    have vx := Same.free g1.vis hx
    have s0 : Same H1 (upd (upd H1 dx (.own x)) x (.ins C dx [])) := fun b o e => by
      rw [upd_ne (ne_of_none e hx), upd_ne (ne_of_none e hdx)]
      exact e
    refine ⟨x1, x2, x, dx, us, Hv1, rfl, upd_same, vx, Same.trans g1.vis s0, rs, hp, fun Hv' H' fs h1 h2 h3 h4 h5 h6 h7 => ⟨rfl, ?_⟩⟩
    have s1 := same_upd (o := .ins C dx fs) h6
    refine k (.ref x) (upd Hv' x (.ins C dx fs)) H' (g1.trans ⟨fun b o e => h1 b o (ne_of_none e hx) (s0 _ _ e), Same.trans h2 s1, fun b o e => ?_, fun b n z => ?_⟩) ⟨x, dx, fs, rfl, upd_same, h7.up s1⟩
    · by_cases hb : b = x
      · subst hb
        rw [upd_same] at e
        cases e
        exact h5
      · rw [upd_ne hb] at e
        exact h3 _ _ e
    · have hb : b ≠ x := fun q => n (by rw [q]; exact hx)
      rw [upd_ne hb]
      exact h4 b hb (Same.some_ne s0 n) z
def spI3 {α1 : Type} {α2 : Type} {α3 : Type} (τ1 : Ty α1) (τ2 : Ty α2) (τ3 : Ty α3) (pre : α1 → α2 → α3 → Prop) (C : Addr) (sch : δ → List (Str × As)) (f : α1 → α2 → α3 → δ) : Sp := fun vs H Q _ => ∃ (x1 : α1) (x2 : α2) (x3 : α3), ∃ (p dx : Addr) (us : List V) (Hv : Hp), vs = .ref p :: us ∧ H p = some (.ins C dx []) ∧ Hv p = none ∧ Same Hv H ∧ Reps Hv us [⟨τ1, x1⟩, ⟨τ2, x2⟩, ⟨τ3, x3⟩] ∧ pre x1 x2 x3 ∧ ∀ Hv' H' fs, (∀ b o, b ≠ p → H b = some o → H' b = some o) → Same Hv Hv' → Same Hv' H' → (∀ b, b ≠ p → H b ≠ none → Hv b = none → Hv' b = none) → H' p = some (.ins C dx fs) → Hv' p = none → FsRep Hv' fs (sch (f x1 x2 x3)) → Q .non H'
theorem spI3_len {α1 : Type} {α2 : Type} {α3 : Type} {τ1 : Ty α1} {τ2 : Ty α2} {τ3 : Ty α3} {pre : α1 → α2 → α3 → Prop} {f : α1 → α2 → α3 → δ} (h : spI3 τ1 τ2 τ3 pre C sch f vs H Q E) : vs.length = 4 := by
  obtain ⟨_, _, _, _, _, us, _, rfl, _, _, _, r, _⟩ := h
  exact congrArg (· + 1) r.len
theorem spI3_body {α1 : Type} {α2 : Type} {α3 : Type} {τ1 : Ty α1} {τ2 : Ty α2} {τ3 : Ty α3} {pre : α1 → α2 → α3 → Prop} {f : α1 → α2 → α3 → δ} {N : List Str} {t : TS} (hl : 4 ≤ N.length) (h : spI3 τ1 τ2 τ3 pre C sch f vs H Q E) (hb : ∀ B0 : Bs, B0.n = N.length → ∀ p dx, ∀ (x1 : α1) (x2 : α2) (x3 : α3), pre x1 x2 x3 → RtI B0 p dx C (sch (f x1 x2 x3)) Q → G B0 t [(0, .ob p dx C []), (1, .fz τ1 x1), (2, .fz τ2 x2), (3, .fz τ3 x3)] { nx := fun _ H' => Q .non H', rt := Q }) : t { nx := fun _ H' => Q .non H', rt := Q } (L2.start N vs) H := by
  obtain ⟨x1, x2, x3, p, dx, us, Hv, rfl, hp, hv, vis, rs, pr, k⟩ := h
  have hlen : us.length = 3 := rs.len
  refine hb ⟨H, Hv, (· = p), N.length⟩ rfl p dx x1 x2 x3 pr ⟨fun _ z => z, fun Hv' H' fs h1 h2 h3 h4 h5 h6 h7 => k Hv' H' fs h1 h2 h3 h4 h5 h6 h7⟩ _ Hv H ?_
  have hat : ∀ k v, us[k]? = some v → (L2.start N (V.ref p :: us))[1 + k]? = some (some v) := fun k v hk => by
    have hk' := (List.getElem?_eq_some_iff.mp hk).1
    unfold L2.start
    rw [List.getElem?_append_left (by simp; omega), Nat.add_comm, List.getElem?_map, List.getElem?_cons_succ, hk]
    rfl
  have h0 : (L2.start N (V.ref p :: us))[0]? = some (some (.ref p)) := rfl
  refine ⟨?_, vis, fun _ _ _ e => e, fun _ n => n, Same.refl _, fun _ _ _ z => z, fun i e m => ?_, fun i e l m c s => ?_, fun i j e f l m m' c c' n s s' => ?_⟩
  · unfold L2.start
    rw [List.length_append, List.length_map, List.length_replicate, List.length_cons]
    show us.length + 1 + (N.length - (us.length + 1)) = N.length
    omega
  · rcases List.mem_cons.mp m with q | m
    · cases q
      exact ⟨[], h0, hp, hv, .nil⟩
    · exact argC_at (i := 1) (as := [⟨τ1, x1⟩, ⟨τ2, x2⟩, ⟨τ3, x3⟩]) rs hat i e m
  · rcases List.mem_cons.mp m with q | m
    · cases q
      rw [h0] at s
      cases s
      exact .inr rfl
    · rw [(argC_ge (as := [⟨τ1, x1⟩, ⟨τ2, x2⟩, ⟨τ3, x3⟩]) (i := 1) m).2] at c
      cases c
  · rcases List.mem_cons.mp m with q | m
    · rcases List.mem_cons.mp m' with q' | m'
      · cases q
        cases q'
        exact n rfl
      · rw [(argC_ge (as := [⟨τ1, x1⟩, ⟨τ2, x2⟩, ⟨τ3, x3⟩]) (i := 1) m').2] at c'
        cases c'
    · rw [(argC_ge (as := [⟨τ1, x1⟩, ⟨τ2, x2⟩, ⟨τ3, x3⟩]) (i := 1) m).2] at c
      cases c
theorem sm_make3 {α1 : Type} {α2 : Type} {α3 : Type} {τ1 : Ty α1} {τ2 : Ty α2} {τ3 : Ty α3} {pre : α1 → α2 → α3 → Prop} {f : α1 → α2 → α3 → δ} {x1 : α1} {x2 : α2} {x3 : α3} {t : TA} (ha : SmA B Γ t [⟨τ1, x1⟩, ⟨τ2, x2⟩, ⟨τ3, x3⟩]) (hp : pre x1 x2 x3) : Sm B Γ (tMake C (spI3 τ1 τ2 τ3 pre C sch f) [] E t) (tObj C sch) (f x1 x2 x3) := fun σ Hv H w Q k =>
  ha σ Hv H w _ fun us Hv1 H1 g1 rs => fun x dx hx hdx ndx => by
    show spI3 τ1 τ2 τ3 pre C sch f (V.ref x :: (us ++ [])) _ _ E
    rw [List.append_nil]
    have vx := Same.free g1.vis hx
    have s0 : Same H1 (upd (upd H1 dx (.own x)) x (.ins C dx [])) := fun b o e => by
      rw [upd_ne (ne_of_none e hx), upd_ne (ne_of_none e hdx)]
      exact e
    refine ⟨x1, x2, x3, x, dx, us, Hv1, rfl, upd_same, vx, Same.trans g1.vis s0, rs, hp, fun Hv' H' fs h1 h2 h3 h4 h5 h6 h7 => ⟨rfl, ?_⟩⟩
    have s1 := same_upd (o := .ins C dx fs) h6
    refine k (.ref x) (upd Hv' x (.ins C dx fs)) H' (g1.trans ⟨fun b o e => h1 b o (ne_of_none e hx) (s0 _ _ e), Same.trans h2 s1, fun b o e => ?_, fun b n z => ?_⟩) ⟨x, dx, fs, rfl, upd_same, h7.up s1⟩
    · by_cases hb : b = x
      · subst hb
        rw [upd_same] at e
        cases e
        exact h5
      · rw [upd_ne hb] at e
        exact h3 _ _ e
    · have hb : b ≠ x := fun q => n (by rw [q]; exact hx)
      rw [upd_ne hb]
      exact h4 b hb (Same.some_ne s0 n) z
def spI4 {α1 : Type} {α2 : Type} {α3 : Type} {α4 : Type} (τ1 : Ty α1) (τ2 : Ty α2) (τ3 : Ty α3) (τ4 : Ty α4) (pre : α1 → α2 → α3 → α4 → Prop) (C : Addr) (sch : δ → List (Str × As)) (f : α1 → α2 → α3 → α4 → δ) : Sp := fun vs H Q _ => ∃ (x1 : α1) (x2 : α2) (x3 : α3) (x4 : α4), ∃ (p dx : Addr) (us : List V) (Hv : Hp), vs = .ref p :: us ∧ H p = some (.ins C dx []) ∧ Hv p = none ∧ Same Hv H ∧ Reps Hv us [⟨τ1, x1⟩, ⟨τ2, x2⟩, ⟨τ3, x3⟩, ⟨τ4, x4⟩] ∧ pre x1 x2 x3 x4 ∧ ∀ Hv' H' fs, (∀ b o, b ≠ p → H b = some o → H' b = some o) → Same Hv Hv' → Same Hv' H' → (∀ b, b ≠ p → H b ≠ none → Hv b = none → Hv' b = none) → H' p = some (.ins C dx fs) → Hv' p = none → FsRep Hv' fs (sch (f x1 x2 x3 x4)) → Q .non H'
theorem spI4_len {α1 : Type} {α2 : Type} {α3 : Type} {α4 : Type} {τ1 : Ty α1} {τ2 : Ty α2} {τ3 : Ty α3} {τ4 : Ty α4} {pre : α1 → α2 → α3 → α4 → Prop} {f : α1 → α2 → α3 → α4 → δ} (h : spI4 τ1 τ2 τ3 τ4 pre C sch f vs H Q E) : vs.length = 5 := by
  obtain ⟨_, _, _, _, _, _, us, _, rfl, _, _, _, r, _⟩ := h
  exact congrArg (· + 1) r.len
theorem spI4_body {α1 : Type} {α2 : Type} {α3 : Type} {α4 : Type} {τ1 : Ty α1} {τ2 : Ty α2} {τ3 : Ty α3} {τ4 : Ty α4} {pre : α1 → α2 → α3 → α4 → Prop} {f : α1 → α2 → α3 → α4 → δ} {N : List Str} {t : TS} (hl : 5 ≤ N.length) (h : spI4 τ1 τ2 τ3 τ4 pre C sch f vs H Q E) (hb : ∀ B0 : Bs, B0.n = N.length → ∀ p dx, ∀ (x1 : α1) (x2 : α2) (x3 : α3) (x4 : α4), pre x1 x2 x3 x4 → RtI B0 p dx C (sch (f x1 x2 x3 x4)) Q → G B0 t [(0, .ob p dx C []), (1, .fz τ1 x1), (2, .fz τ2 x2), (3, .fz τ3 x3), (4, .fz τ4 x4)] { nx := fun _ H' => Q .non H', rt := Q }) : t { nx := fun _ H' => Q .non H', rt := Q } (L2.start N vs) H := by
  obtain ⟨x1, x2, x3, x4, p, dx, us, Hv, rfl, hp, hv, vis, rs, pr, k⟩ := h
  have hlen : us.length = 4 := rs.len
  refine hb ⟨H, Hv, (· = p), N.length⟩ rfl p dx x1 x2 x3 x4 pr ⟨fun _ z => z, fun Hv' H' fs h1 h2 h3 h4 h5 h6 h7 => k Hv' H' fs h1 h2 h3 h4 h5 h6 h7⟩ _ Hv H ?_
  have hat : ∀ k v, us[k]? = some v → (L2.start N (V.ref p :: us))[1 + k]? = some (some v) := fun k v hk => by
    have hk' := (List.getElem?_eq_some_iff.mp hk).1
    unfold L2.start
    rw [List.getElem?_append_left (by simp; omega), Nat.add_comm, List.getElem?_map, List.getElem?_cons_succ, hk]
    rfl
  have h0 : (L2.start N (V.ref p :: us))[0]? = some (some (.ref p)) := rfl
  refine ⟨?_, vis, fun _ _ _ e => e, fun _ n => n, Same.refl _, fun _ _ _ z => z, fun i e m => ?_, fun i e l m c s => ?_, fun i j e f l m m' c c' n s s' => ?_⟩
  · unfold L2.start
    rw [List.length_append, List.length_map, List.length_replicate, List.length_cons]
    show us.length + 1 + (N.length - (us.length + 1)) = N.length
    omega
  · rcases List.mem_cons.mp m with q | m
    · cases q
      exact ⟨[], h0, hp, hv, .nil⟩
    · exact argC_at (i := 1) (as := [⟨τ1, x1⟩, ⟨τ2, x2⟩, ⟨τ3, x3⟩, ⟨τ4, x4⟩]) rs hat i e m
  · rcases List.mem_cons.mp m with q | m
    · cases q
      rw [h0] at s
      cases s
      exact .inr rfl
    · rw [(argC_ge (as := [⟨τ1, x1⟩, ⟨τ2, x2⟩, ⟨τ3, x3⟩, ⟨τ4, x4⟩]) (i := 1) m).2] at c
      cases c
  · rcases List.mem_cons.mp m with q | m
    · rcases List.mem_cons.mp m' with q' | m'
      · cases q
        cases q'
        exact n rfl
      · rw [(argC_ge (as := [⟨τ1, x1⟩, ⟨τ2, x2⟩, ⟨τ3, x3⟩, ⟨τ4, x4⟩]) (i := 1) m').2] at c'
        cases c'
    · rw [(argC_ge (as := [⟨τ1, x1⟩, ⟨τ2, x2⟩, ⟨τ3, x3⟩, ⟨τ4, x4⟩]) (i := 1) m).2] at c
      cases c
theorem sm_make4 {α1 : Type} {α2 : Type} {α3 : Type} {α4 : Type} {τ1 : Ty α1} {τ2 : Ty α2} {τ3 : Ty α3} {τ4 : Ty α4} {pre : α1 → α2 → α3 → α4 → Prop} {f : α1 → α2 → α3 → α4 → δ} {x1 : α1} {x2 : α2} {x3 : α3} {x4 : α4} {t : TA} (ha : SmA B Γ t [⟨τ1, x1⟩, ⟨τ2, x2⟩, ⟨τ3, x3⟩, ⟨τ4, x4⟩]) (hp : pre x1 x2 x3 x4) : Sm B Γ (tMake C (spI4 τ1 τ2 τ3 τ4 pre C sch f) [] E t) (tObj C sch) (f x1 x2 x3 x4) := fun σ Hv H w Q k =>
  ha σ Hv H w _ fun us Hv1 H1 g1 rs => fun x dx hx hdx ndx => by
    show spI4 τ1 τ2 τ3 τ4 pre C sch f (V.ref x :: (us ++ [])) _ _ E
    rw [List.append_nil]
    have vx := Same.free g1.vis hx
    have s0 : Same H1 (upd (upd H1 dx (.own x)) x (.ins C dx [])) := fun b o e => by
      rw [upd_ne (ne_of_none e hx), upd_ne (ne_of_none e hdx)]
      exact e
    refine ⟨x1, x2, x3, x4, x, dx, us, Hv1, rfl, upd_same, vx, Same.trans g1.vis s0, rs, hp, fun Hv' H' fs h1 h2 h3 h4 h5 h6 h7 => ⟨rfl, ?_⟩⟩
    have s1 := same_upd (o := .ins C dx fs) h6
    refine k (.ref x) (upd Hv' x (.ins C dx fs)) H' (g1.trans ⟨fun b o e => h1 b o (ne_of_none e hx) (s0 _ _ e), Same.trans h2 s1, fun b o e => ?_, fun b n z => ?_⟩) ⟨x, dx, fs, rfl, upd_same, h7.up s1⟩
    · by_cases hb : b = x
      · subst hb
        rw [upd_same] at e
        cases e
        exact h5
      · rw [upd_ne hb] at e
        exact h3 _ _ e
    · have hb : b ≠ x := fun q => n (by rw [q]; exact hx)
      rw [upd_ne hb]
      exact h4 b hb (Same.some_ne s0 n) z
def spI5 {α1 : Type} {α2 : Type} {α3 : Type} {α4 : Type} {α5 : Type} (τ1 : Ty α1) (τ2 : Ty α2) (τ3 : Ty α3) (τ4 : Ty α4) (τ5 : Ty α5) (pre : α1 → α2 → α3 → α4 → α5 → Prop) (C : Addr) (sch : δ → List (Str × As)) (f : α1 → α2 → α3 → α4 → α5 → δ) : Sp := fun vs H Q _ => ∃ (x1 : α1) (x2 : α2) (x3 : α3) (x4 : α4) (x5 : α5), ∃ (p dx : Addr) (us : List V) (Hv : Hp), vs = .ref p :: us ∧ H p = some (.ins C dx []) ∧ Hv p = none ∧ Same Hv H ∧ Reps Hv us [⟨τ1, x1⟩, ⟨τ2, x2⟩, ⟨τ3, x3⟩, ⟨τ4, x4⟩, ⟨τ5, x5⟩] ∧ pre x1 x2 x3 x4 x5 ∧ ∀ Hv' H' fs, (∀ b o, b ≠ p → H b = some o → H' b = some o) → Same Hv Hv' → Same Hv' H' → (∀ b, b ≠ p → H b ≠ none → Hv b = none → Hv' b = none) → H' p = some (.ins C dx fs) → Hv' p = none → FsRep Hv' fs (sch (f x1 x2 x3 x4 x5)) → Q .non H'
theorem spI5_len {α1 : Type} {α2 : Type} {α3 : Type} {α4 : Type} {α5 : Type} {τ1 : Ty α1} {τ2 : Ty α2} {τ3 : Ty α3} {τ4 : Ty α4} {τ5 : Ty α5} {pre : α1 → α2 → α3 → α4 → α5 → Prop} {f : α1 → α2 → α3 → α4 → α5 → δ} (h : spI5 τ1 τ2 τ3 τ4 τ5 pre C sch f vs H Q E) : vs.length = 6 := by
  obtain ⟨_, _, _, _, _, _, _, us, _, rfl, _, _, _, r, _⟩ := h
  exact congrArg (· + 1) r.len
theorem spI5_body {α1 : Type} {α2 : Type} {α3 : Type} {α4 : Type} {α5 : Type} {τ1 : Ty α1} {τ2 : Ty α2} {τ3 : Ty α3} {τ4 : Ty α4} {τ5 : Ty α5} {pre : α1 → α2 → α3 → α4 → α5 → Prop} {f : α1 → α2 → α3 → α4 → α5 → δ} {N : List Str} {t : TS} (hl : 6 ≤ N.length) (h : spI5 τ1 τ2 τ3 τ4 τ5 pre C sch f vs H Q E) (hb : ∀ B0 : Bs, B0.n = N.length → ∀ p dx, ∀ (x1 : α1) (x2 : α2) (x3 : α3) (x4 : α4) (x5 : α5), pre x1 x2 x3 x4 x5 → RtI B0 p dx C (sch (f x1 x2 x3 x4 x5)) Q → G B0 t [(0, .ob p dx C []), (1, .fz τ1 x1), (2, .fz τ2 x2), (3, .fz τ3 x3), (4, .fz τ4 x4), (5, .fz τ5 x5)] { nx := fun _ H' => Q .non H', rt := Q }) : t { nx := fun _ H' => Q .non H', rt := Q } (L2.start N vs) H := by
  obtain ⟨x1, x2, x3, x4, x5, p, dx, us, Hv, rfl, hp, hv, vis, rs, pr, k⟩ := h
  have hlen : us.length = 5 := rs.len
  refine hb ⟨H, Hv, (· = p), N.length⟩ rfl p dx x1 x2 x3 x4 x5 pr ⟨fun _ z => z, fun Hv' H' fs h1 h2 h3 h4 h5 h6 h7 => k Hv' H' fs h1 h2 h3 h4 h5 h6 h7⟩ _ Hv H ?_
  have hat : ∀ k v, us[k]? = some v → (L2.start N (V.ref p :: us))[1 + k]? = some (some v) := fun k v hk => by
    have hk' := (List.getElem?_eq_some_iff.mp hk).1
    unfold L2.start
    rw [List.getElem?_append_left (by simp; omega), Nat.add_comm, List.getElem?_map, List.getElem?_cons_succ, hk]
    rfl
  have h0 : (L2.start N (V.ref p :: us))[0]? = some (some (.ref p)) := rfl
  refine ⟨?_, vis, fun _ _ _ e => e, fun _ n => n, Same.refl _, fun _ _ _ z => z, fun i e m => ?_, fun i e l m c s => ?_, fun i j e f l m m' c c' n s s' => ?_⟩
  · unfold L2.start
    rw [List.length_append, List.length_map, List.length_replicate, List.length_cons]
    show us.length + 1 + (N.length - (us.length + 1)) = N.length
    omega
  · rcases List.mem_cons.mp m with q | m
    · cases q
      exact ⟨[], h0, hp, hv, .nil⟩
    · exact argC_at (i := 1) (as := [⟨τ1, x1⟩, ⟨τ2, x2⟩, ⟨τ3, x3⟩, ⟨τ4, x4⟩, ⟨τ5, x5⟩]) rs hat i e m
  · rcases List.mem_cons.mp m with q | m
    · cases q
      rw [h0] at s
      cases s
      exact .inr rfl
    · rw [(argC_ge (as := [⟨τ1, x1⟩, ⟨τ2, x2⟩, ⟨τ3, x3⟩, ⟨τ4, x4⟩, ⟨τ5, x5⟩]) (i := 1) m).2] at c
      cases c
  · rcases List.mem_cons.mp m with q | m
    · rcases List.mem_cons.mp m' with q' | m'
      · cases q
        cases q'
        exact n rfl
      · rw [(argC_ge (as := [⟨τ1, x1⟩, ⟨τ2, x2⟩, ⟨τ3, x3⟩, ⟨τ4, x4⟩, ⟨τ5, x5⟩]) (i := 1) m').2] at c'
        cases c'
    · rw [(argC_ge (as := [⟨τ1, x1⟩, ⟨τ2, x2⟩, ⟨τ3, x3⟩, ⟨τ4, x4⟩, ⟨τ5, x5⟩]) (i := 1) m).2] at c
      cases c
theorem sm_make5 {α1 : Type} {α2 : Type} {α3 : Type} {α4 : Type} {α5 : Type} {τ1 : Ty α1} {τ2 : Ty α2} {τ3 : Ty α3} {τ4 : Ty α4} {τ5 : Ty α5} {pre : α1 → α2 → α3 → α4 → α5 → Prop} {f : α1 → α2 → α3 → α4 → α5 → δ} {x1 : α1} {x2 : α2} {x3 : α3} {x4 : α4} {x5 : α5} {t : TA} (ha : SmA B Γ t [⟨τ1, x1⟩, ⟨τ2, x2⟩, ⟨τ3, x3⟩, ⟨τ4, x4⟩, ⟨τ5, x5⟩]) (hp : pre x1 x2 x3 x4 x5) : Sm B Γ (tMake C (spI5 τ1 τ2 τ3 τ4 τ5 pre C sch f) [] E t) (tObj C sch) (f x1 x2 x3 x4 x5) := fun σ Hv H w Q k =>
  ha σ Hv H w _ fun us Hv1 H1 g1 rs => fun x dx hx hdx ndx => by
    show spI5 τ1 τ2 τ3 τ4 τ5 pre C sch f (V.ref x :: (us ++ [])) _ _ E
    rw [List.append_nil]
    have vx := Same.free g1.vis hx
    have s0 : Same H1 (upd (upd H1 dx (.own x)) x (.ins C dx [])) := fun b o e => by
      rw [upd_ne (ne_of_none e hx), upd_ne (ne_of_none e hdx)]
      exact e
    refine ⟨x1, x2, x3, x4, x5, x, dx, us, Hv1, rfl, upd_same, vx, Same.trans g1.vis s0, rs, hp, fun Hv' H' fs h1 h2 h3 h4 h5 h6 h7 => ⟨rfl, ?_⟩⟩
    have s1 := same_upd (o := .ins C dx fs) h6
    refine k (.ref x) (upd Hv' x (.ins C dx fs)) H' (g1.trans ⟨fun b o e => h1 b o (ne_of_none e hx) (s0 _ _ e), Same.trans h2 s1, fun b o e => ?_, fun b n z => ?_⟩) ⟨x, dx, fs, rfl, upd_same, h7.up s1⟩
    · by_cases hb : b = x
      · subst hb
        rw [upd_same] at e
        cases e
        exact h5
      · rw [upd_ne hb] at e
        exact h3 _ _ e
    · have hb : b ≠ x := fun q => n (by rw [q]; exact hx)
      rw [upd_ne hb]
      exact h4 b hb (Same.some_ne s0 n) z
end
end VC

set_option Elab.async false
set_option linter.all false
set_option maxRecDepth 100000
set_option maxHeartbeats 4000000
/-! VXa: exceptions as values that stand in the abstract heap; try, raise, isinstance, fields. -/
namespace VX
open PySem PySem.Spec PyProof.Rows L2
/-- an exception of the class cls with its dict d, at a -/
def ExV (cls : Value) (d : Option Addr) (a : Addr) : HO := .ext fun h => ∃ (oe : Obj) (vs : Array Value), h.get? a = some oe ∧ Zc cls d oe ∧ oe.data = .fields vs
theorem exV_ok {P : Program} {w : World} {H : Hp} {h : Heap} {a : Addr} {cls : Value} {d : Option Addr} {oe : Obj} {vs : Array Value} (e : h.get? a = some oe) (z : Zc cls d oe) (f : oe.data = .fields vs) : ObjOk P w H h a (ExV cls d a) :=
  ⟨⟨oe, vs, e, z, f⟩, ⟨oe, e⟩, fun _ _ ⟨o, v, q, r⟩ k => ⟨o, v, k o q, r⟩⟩
theorem exV_at {P : Program} {w : World} {H : Hp} {h : Heap} {a : Addr} {cls : Value} {d : Option Addr} (hok : HOk P w H h) (e : H a = some (ExV cls d a)) : ∃ (oe : Obj) (vs : Array Value), h.get? a = some oe ∧ Zc cls d oe ∧ oe.data = .fields vs := by
  have x : ObjOk P w H h a (.ext fun h => ∃ (oe : Obj) (vs : Array Value), h.get? a = some oe ∧ Zc cls d oe ∧ oe.data = .fields vs) := hok a _ e
  exact x.1
section
variable {X : Cx} {pins : List (Addr × Obj)} {σ : L2.St} {H : Hp} {sI s s' : Shared} {B : Heap}
/-- back on the ground, the exception tracked -/
theorem landedV {a : Addr} {o : HO} (I : Inv X pins σ H sI) (nb : ∀ b o, sI.heap.get? b = some o → b ∉ frs X.stack → B.get? b = some o) (st : B.StaysIn s'.heap) (up : sI.heap.UpToSlots s'.heap) (os : s'.os = sI.os) (ag : AllBare s'.gens)
    (na : H a = none) (nB : B.get? a = none) (nF : a ∉ frs X.stack) (new : ObjOk X.prog X.w (upd H a o) s'.heap a o) : Inv X pins σ (upd H a o) s' := by
  have nf : ∀ b ∈ frs X.stack, ∀ o, sI.heap.get? b = some o → ∃ sl, s'.heap.get? b = some { o with slots := sl } := fun b hb o e => by
    obtain ⟨_, o', e', hd⟩ := I.stack.mem hb
    rw [e] at e'; cases e'
    exact up b o e hd
  have ne : ∀ b u, sI.heap.get? b = some u → b ≠ a := fun b u e q => by
    subst q
    have z := nb b u e nF
    rw [nB] at z; cases z
  have J := I.call (ch := []) (h' := s'.heap) (g' := s'.gens) (t' := s'.toks) (d' := s'.drawn) (H' := upd H a o)
    ⟨fun b o e _ hb _ => st b o (nb b o e hb), fun b o e _ hb _ => nf b hb o e, fun b u e n _ => by rw [upd_ne (ne b u e)]; exact n, fun b o e _ => by
      by_cases hb : b ∈ frs X.stack
      · obtain ⟨sl, q⟩ := nf b hb o e
        exact ⟨_, q⟩
      · exact ⟨o, st b o (nb b o e hb)⟩, fun b xs e => by rw [upd_ne (ne_of_none e na)]; exact e, fun b o xs e => by rw [upd_ne (ne_of_none e na)]; exact e, fun b ps e => ⟨#[], by rw [upd_ne (ne_of_none e na), e]; simp⟩⟩
    (fun b u e => by
      by_cases hb : b = a
      · subst hb
        rw [upd_same] at e
        cases e
        exact new
      · rw [upd_ne hb] at e
        exact ((I.inGround nb).kept st b u e).stay (fun c v _ q => q) (fun c q => by rw [upd_ne (ne_of_none q na)]; exact q) fun c xs q => by rw [upd_ne (ne_of_none q na)]; exact q) ag (fun _ z => nomatch z)
  obtain ⟨a1, a2, a3, a4, a5⟩ := s'
  have e5 : a5 = sI.os := os
  subst e5
  exact J
theorem suiteV (I : Inv X pins σ H s) {a : Addr} : Inv (X.suite a (X.pn ++ pins)) [] σ H s :=
  ⟨I.ok.suite _ _, I.os, I.bare, I.base, I.loc, I.cell, I.free, I.freeC, fun p hp => I.pin p (by rw [List.append_nil] at hp; exact hp), I.hok, I.len⟩
theorem unsuiteV {a : Addr} {pn' : List (Addr × Obj)} (I : Inv (X.suite a (X.pn ++ pins)) pn' σ H s) (ok : X.Ok) : Inv X pins σ H s :=
  ⟨ok, I.os, I.bare, I.base, I.loc, I.cell, I.free, I.freeC, fun p hp => I.pin p (List.mem_append_left _ hp), I.hok, I.len⟩
end
/-- what 'except x as n' wishes: the exception is tracked -/
def wAsV (K : PySem.W.Frag) (c : Value) (i : Nat) (ts : Addr → List (Addr × Obj) → TS) (Wout : WX) (D : Ends) : WX := fun cls d σ H =>
  ∃ b, PySem.W.exmOne K cls c = some b ∧ (b = true → ∀ a pn, H a = none → ts a pn { nx := fun σ' H' => D.nx (σ'.set i none) H', rt := D.rt, bk := fun σ' H' => D.bk (σ'.set i none) H', ct := fun σ' H' => D.ct (σ'.set i none) H' } (σ.set i (some (.ref a))) (upd H a (ExV cls d a))) ∧
    (b = false → Wout cls d σ H)
def tTry (K : PySem.W.Frag) (c : Value) (i : Nat) (ts : Addr → List (Addr × Obj) → TS) (Wout : WX) (tb : WX → TS) : TS := fun D σ H => tb (wAsV K c i ts Wout D) D σ H
section
variable {X : Cx} {x n : Str} {c : Value} {i : Nat} {body suite : List Stmt} {b₀ : Stmt} {np pos pos' : Pos} {tb : WX → TS} {ts : Addr → List (Addr × Obj) → TS} {Wout : WX}
theorem ps_try_asV (hs : X.stack = X.env :: X.outer) (hf : X.env.frame = some X.env.locals) (hN : X.N.Nodup) (hi : X.N[i]? = some n) (hln : X.env.kindOf n = some .local) (hc : Names X x c) (tk : Takes X Wout)
    (hb : ∀ (W : WX) (pn : List (Addr × Obj)) (xe : Value → Shared → Prop), Takes (X.tr pn xe) W → PassesOwn (model X.prog X.w) X.A X.env xe → PSs (X.tr pn xe) body (tb W))
    (hsu : ∀ (a : Addr) (pn : List (Addr × Obj)), PSs (X.suite a pn) (b₀ :: suite) (ts a pn)) :
    PS X (.Try body [.ExceptHandler (some (.Name x np)) (some n) (b₀ :: suite) pos'] [] [] pos) (tTry X.K c i ts Wout tb) := by
  refine ⟨fun pins s σ H D I h => ?_⟩
  have ok := I.ok
  have hfr : X.A.frames = some (X.env :: X.outer) := by rw [ok.frames, hs]
  have hloc : Loc X.env.scope n := .inl hln
  refine wpAny_Try_except ?_
  refine wpAny_mono ((hb (wAsV X.K c i ts Wout D) (X.pn ++ pins) (fun e s₁ => wpAny (model X.prog X.w) X.A (noteFrame e X.env) (fun _ s₂ => wpAny (model X.prog X.w) X.A (setFlight e none) (fun _ s₃ =>
    wpAny (model X.prog X.w) X.A (handleBy e X.env [.ExceptHandler (some (.Name x np)) (some n) (b₀ :: suite) pos']) (SP X pins D) X.xe s₃) X.xe s₂) X.xe s₁) (fun u s' xx => ?_) PassesOwn.looking).run [] s σ H D (I.toTry _) h) (fun f s1 hsp => ?_) (fun e s1 he => he)
  · -- the catch
    obtain ⟨a, B, sI, pins', σ', H', cls, d, rfl, J', nb, up, sky, na, os, ag, b, hb1, hyes, hno⟩ := xx
    have J : Inv X pins σ' H' sI := J'.ofTry ok
    have sky' : Sky B (X.env :: X.outer) a (Zc cls d) X.env.locals s'.heap := by rw [← hs]; exact sky
    show wpAny (model X.prog X.w) X.A (noteFrame (.ref a) X.env) _ _ _
    refine Sky.land Zc.steady hfr hf sky' fun h3 fl3 up3 => ?_
    have J3 : Inv X pins σ' H' { s' with heap := h3 } := J.landed nb fl3.1 (up.trans up3) os ag
    obtain ⟨oe3, vs3, he3, hz3, hd3⟩ := fl3.there
    have notFr : ∀ {h : Heap} {o : Obj} {vs : Array Value}, h.FunFrames B (X.env :: X.outer) → h.get? a = some o → o.data = .fields vs → a ∉ frs (X.env :: X.outer) := fun {h o vs} ff e dd hm => by
      obtain ⟨_, o', e', hnf⟩ := ff.mem hm
      rw [e] at e'; cases e'
      exact hnf _ dd
    have nfr := notFr fl3.2.2.1 he3 hd3
    have nL : a ≠ X.env.locals := fun z => nfr (List.mem_filterMap.mpr ⟨X.env, List.mem_cons_self, by rw [hf, z]⟩)
    have nF : a ∉ X.fs := fun hm => by
      obtain ⟨e, he, q⟩ := List.mem_filterMap.mp hm
      exact nfr (List.mem_filterMap.mpr ⟨e, List.mem_cons_of_mem _ he, q⟩)
    have S3 := J3.suite he3 hd3 na nL nF
    refine wpAny_handleBy_cons (codeAny_handlers_test ?_) (by intro q; cases q)
    have LT : PySem.W.Looks (model X.prog X.w) h3 (typeOf (.ref a)) cls := fun A Q E s k q => wpAny_typeOf_ref (k _ _ he3) (by rw [hz3.1]; exact q)
    have LM := PySem.W.exm_one (M := model X.prog X.w) (J3.kIn) LT hb1
    have test : ∀ {Q : Value → Shared → Prop} {E : Value → Shared → Prop}, Q c { s' with heap := h3 } → wpAny (model X.prog X.w) (X.A.mark (some (.ref a))) (eval (.Name x np) X.env) Q E { s' with heap := h3 } := fun {Q E} q => by
      obtain ⟨hg, hdbg, hm | ⟨hm, hv, hnn⟩⟩ := hc
      · exact ld_glob (X := X.suite a ((a, oe3) :: (X.pn ++ pins))) S3 hg hm q hdbg
      · exact ld_blt (X := X.suite a ((a, oe3) :: (X.pn ++ pins))) S3 hg hm hv q hnn hdbg
    refine test (LM.here ?_)
    cases b with
    | true =>
      refine codeAny_handlers_suite_as ?_
      refine HandSPX.lands_againZ fl3 fun h4 fl4 up4 => ?_
      obtain ⟨oe4, vs4, he4, hz4, hd4⟩ := fl4.there
      have J4 : Inv X pins σ' (upd H' a (ExV cls d a)) { s' with heap := h4 } := landedV (s' := { s' with heap := h4 }) J nb fl4.1 ((up.trans up3).trans up4) os ag na fl4.2.1 (by rw [hs]; exact nfr) (exV_ok he4 hz4 hd4)
      have S4 := suiteV (a := a) J4
      refine store_ok (X := X.suite a (X.pn ++ pins)) (v := .ref a) S4 hN hi hloc rfl (fun s5 S5 => ?_) (.inr hln)
      refine wpAny_mono ((hsu a (X.pn ++ pins)).run [] s5 _ _ _ S5 (hyes rfl a (X.pn ++ pins) na)) (fun f s6 hsp => ?_) (fun _ _ z => False.elim z)
      have end_ : ∀ {σ6 : L2.St} {H6 : Hp} {Q : Shared → Prop}, Inv (X.suite a (X.pn ++ pins)) [] σ6 H6 s6 → (∀ s7, Inv X pins (σ6.set i none) H6 s7 → Q s7) →
          wpAny (model X.prog X.w) X.A (do bindName X.env n .none; unbindBehindTheSuite X.env n pos') (fun _ s7 => Q s7) X.xe s6 := fun {σ6 H6 Q} S6 hq => gone_ok (unsuiteV S6 ok) hN hi hln hq
      cases f with
      | next =>
        obtain ⟨σ6, H6, S6, q6⟩ := hsp
        exact end_ S6 fun s7 J7 => ⟨_, _, J7, q6⟩
      | brk =>
        obtain ⟨σ6, H6, S6, q6⟩ := hsp
        exact end_ S6 fun s7 J7 => ⟨_, _, J7, q6⟩
      | cont =>
        obtain ⟨σ6, H6, S6, q6⟩ := hsp
        exact end_ S6 fun s7 J7 => ⟨_, _, J7, q6⟩
      | ret u =>
        obtain ⟨v, σ6, H6, S6, r6, q6⟩ := hsp
        exact end_ S6 fun s7 J7 => ⟨v, _, _, J7, r6, q6⟩
    | false =>
      show wpAny _ X.A (handleBy (.ref a) X.env []) _ _ _
      refine wpAny_handleBy_nil ?_
      obtain ⟨k1, k2, k3, oe, vs, T, oT, ts', he, hz, hd, h1, hr⟩ := id fl3
      unfold PySem.passOn
      refine wpAny_bind (wpAny_field he hd h1 ?_)
      rw [if_neg (show ¬ ((Value.ref T == Value.none) = true) from by simp)]
      have fin : wpAny (model X.prog X.w) X.A (setFlight (.ref a) X.env.frame) (fun _ s4 => wpAny (model X.prog X.w) X.A (throw (.ref a) : Sem Flow) (SP X pins D) X.xe s4) X.xe { s' with heap := h3 } := by
        rw [hf]
        refine HandSPX.setFlight_upZ fl3 fun h4 hh4 up4 => wpAny_throw (tk _ _ ?_)
        exact ⟨a, B, sI, pins, σ', H', cls, d, rfl, J, nb, (up.trans up3).trans up4, .inr (.inr (by rw [hs]; exact hh4)), na, os, ag, hno rfl⟩
      first
        | exact wpAny_bind (wpAny_pure (wpAny_bind fin))
        | exact wpAny_bind fin
  · cases f with
    | next =>
      obtain ⟨σ', H', J', q⟩ := hsp
      exact wpAny_execs_nil ⟨σ', H', J'.ofTry ok, q⟩
    | brk =>
      obtain ⟨σ', H', J', q⟩ := hsp
      exact ⟨σ', H', J'.ofTry ok, q⟩
    | cont =>
      obtain ⟨σ', H', J', q⟩ := hsp
      exact ⟨σ', H', J'.ofTry ok, q⟩
    | ret u =>
      obtain ⟨v, σ', H', J', r, q⟩ := hsp
      exact ⟨v, σ', H', J'.ofTry ok, r, q⟩
end
/-! ### isinstance and fields of such a value -/
/-- what a class of exceptions must say -/
structure ExcC (K : PySem.W.Frag) (D : Addr) : Prop where
  cl : (PySem.W.clsIn K D).isSome = true
  hg : PySem.W.findIn K (.ref D) "__getattribute__" = some (some (.builtin "BaseException.__getattribute__"))
  hk : PySem.W.findIn K (.ref D) "__getattr__" = some none
  hs : PySem.W.subIn K (.ref D) (.type "BaseException") = some true
  hd : PySem.W.hasDictIn K D = true
  ha : PySem.W.findIn K (.ref D) "__class__" = some (some (.builtin "object.__class__"))
  hn : PySem.W.specialIn K (.builtin "object.__class__") "__get__" = some (some (.builtin "getset_descriptor.__get__"))
  ht : PySem.W.takesIn K (.builtin "object.__class__") = some true
  hm : PySem.W.mroIn K D (.type "object") = some true
  ty : PySem.W.typeIn K (.ref D) = some (.type "type")
def excB (K : PySem.W.Frag) (D : Addr) : Bool :=
  (PySem.W.clsIn K D).isSome && (decide (PySem.W.findIn K (.ref D) "__getattribute__" = some (some (.builtin "BaseException.__getattribute__"))) && (decide (PySem.W.findIn K (.ref D) "__getattr__" = some none) && (decide (PySem.W.subIn K (.ref D) (.type "BaseException") = some true) && (PySem.W.hasDictIn K D &&
    (decide (PySem.W.findIn K (.ref D) "__class__" = some (some (.builtin "object.__class__"))) && (decide (PySem.W.specialIn K (.builtin "object.__class__") "__get__" = some (some (.builtin "getset_descriptor.__get__"))) && (decide (PySem.W.takesIn K (.builtin "object.__class__") = some true) && (decide (PySem.W.mroIn K D (.type "object") = some true) && decide (PySem.W.typeIn K (.ref D) = some (.type "type"))))))))))
theorem excB_ok {K : PySem.W.Frag} {D : Addr} (h : excB K D = true) : ExcC K D := by
  obtain ⟨h1, h⟩ := Bool.and_eq_true_iff.mp h
  obtain ⟨h2, h⟩ := Bool.and_eq_true_iff.mp h
  obtain ⟨h3, h⟩ := Bool.and_eq_true_iff.mp h
  obtain ⟨h4, h⟩ := Bool.and_eq_true_iff.mp h
  obtain ⟨h5, h⟩ := Bool.and_eq_true_iff.mp h
  obtain ⟨h6, h⟩ := Bool.and_eq_true_iff.mp h
  obtain ⟨h7, h⟩ := Bool.and_eq_true_iff.mp h
  obtain ⟨h8, h⟩ := Bool.and_eq_true_iff.mp h
  obtain ⟨h9, h10⟩ := Bool.and_eq_true_iff.mp h
  exact ⟨h1, of_decide_eq_true h2, of_decide_eq_true h3, of_decide_eq_true h4, h5, of_decide_eq_true h6, of_decide_eq_true h7, of_decide_eq_true h8, of_decide_eq_true h9, of_decide_eq_true h10⟩
/-- the dict of an exception stands -/
def DicOk (H : Hp) (d : Option Addr) : Prop := ∀ dd, d = some dd → ∃ fs, H dd = some (.xd fs)
section
variable {X : Cx} {pins : List (Addr × Obj)} {σ : L2.St} {H : Hp} {s : Shared}
theorem inst_of {a D : Addr} {d : Option Addr} (I : Inv X pins σ H s) (e : H a = some (ExV (.ref D) d a)) (hd : DicOk H d) : ∃ oe od, PySem.W.InstAt s.heap a oe D od := by
  obtain ⟨oe, vs, h1, h2, h3⟩ := exV_at I.hok e
  cases d with
  | none => exact ⟨oe, none, h1, h2.1, by unfold PySem.W.notCls; rw [h3] <;> rfl, by rw [h2.2]; trivial⟩
  | some dd =>
    obtain ⟨fs, hfs⟩ := hd dd rfl
    have hx : ObjOk X.prog X.w H s.heap dd (.xd fs) := I.hok dd _ hfs
    obtain ⟨mA, hns, hr⟩ := hx
    obtain ⟨od, ho, hl⟩ := lookIn_ns hns
    exact ⟨oe, some od, h1, h2.1, by unfold PySem.W.notCls; rw [h3] <;> rfl, by rw [h2.2]; exact ho⟩
/-- isinstance(e, c) -/
def rIsV (K : PySem.W.Frag) : List V → Hp → VK → Prop := fun xs H Q => ∃ (a D : Addr) (d : Option Addr) (c : V) (cv : Value) (b : Bool), xs = [.ref a, c] ∧ H a = some (ExV (.ref D) d a) ∧ DicOk H d ∧ ExcC K D ∧ (∀ u, RelV c u → u = cv) ∧ PySem.W.kitOne K (.ref D) cv = some b ∧ Q (.bl b) H
theorem call_isV : CallR X (.builtin "isinstance") (rIsV X.K) := by
  intro pins s σ H xs us Q I r h
  obtain ⟨a, D, d, c, cv, b, rfl, ha, hd, C, hcv, e, q⟩ := h
  cases r with
  | cons rx rr =>
    cases rr with
    | cons rt rr =>
      cases rr
      cases rx
      have ec := hcv _ rt
      subst ec
      obtain ⟨oe, od, J⟩ := inst_of I ha hd
      exact PySem.W.kia_one (PySem.W.kitx_exc C.cl C.hg C.hk C.hs C.ha C.hn C.ht C.hm) I.kIn J e (fun z => nomatch z) fun tk => ⟨.bl b, H, I.kept (t' := tk) fun _ _ z => z, rfl, q⟩
/-- isinstance(e, (c1, c2, ..)) -/
def rIsT (K : PySem.W.Frag) : List V → Hp → VK → Prop := fun xs H Q => ∃ (a D p : Addr) (d : Option Addr) (cs : List Addr) (b : Bool), xs = [.ref a, .ref p] ∧ H a = some (ExV (.ref D) d a) ∧ DicOk H d ∧ ExcC K D ∧ H p = some (.tup (cs.map V.ref)) ∧ PySem.W.kitAny K (.ref D) (cs.map Value.ref) = some b ∧ Q (.bl b) H
theorem refs_eq : ∀ {cs : List Addr} {us : List Value}, Vals (cs.map V.ref) us → us = cs.map Value.ref
  | [], _, .nil => rfl
  | _ :: _, _, .cons e t => by
    rw [refs_eq t]
    obtain rfl := e
    rfl
theorem call_isT : CallR X (.builtin "isinstance") (rIsT X.K) := by
  intro pins s σ H xs us Q I r h
  obtain ⟨a, D, p, d, cs, b, rfl, ha, hd, C, hp, e, q⟩ := h
  cases r with
  | cons rx rr =>
    cases rr with
    | cons rt rr =>
      cases rr
      cases rx
      cases rt
      obtain ⟨oe, od, J⟩ := inst_of I ha hd
      have hx : ObjOk X.prog X.w H s.heap p (.tup (cs.map V.ref)) := I.hok p _ hp
      obtain ⟨z, its, rv, ob, e1, e2, n, e3⟩ := hx
      have ei := refs_eq rv
      subst ei
      obtain ⟨oc, oda, od', osl⟩ := ob
      dsimp only at e2 e3
      subst e2 e3
      exact PySem.W.kia_tup (PySem.W.kitx_exc C.cl C.hg C.hk C.hs C.ha C.hn C.ht C.hm) I.kIn J e1 e (fun z => nomatch z) fun tk => ⟨.bl b, H, I.kept (t' := tk) fun _ _ z => z, rfl, q⟩
end
section
variable {X : Cx} {e : Expr} {te : TE} {pos : Pos} {n : Str}
/-- e.f -/
def tXfV (K : PySem.W.Frag) (f : Str) (te : TE) : TE := fun σ H Q => te σ H fun x H1 => ∃ (a C dd : Addr) (fs : List (Str × V)) (v : V), x = .ref a ∧ H1 a = some (ExV (.ref C) (some dd) a) ∧ ExcC K C ∧ PySem.W.findIn K (.ref C) f = some none ∧ H1 dd = some (.xd fs) ∧ fs.lookup f = some v ∧ Q v H1
theorem pe_xfV (he : PE X e te) (hb : attributeBase e n X.env (eval e X.env) = eval e X.env := by rfl) : PE X (.Attribute e n pos) (tXfV X.K n te) := by
  refine ⟨fun pins s σ H Q I h => ?_⟩
  refine attr_of hb (thn (he.run pins s σ H _ I h) fun u s1 hh => ?_)
  obtain ⟨x, H1, I1, rx, a, C, dd, fs, v, ex, ha, T, hno, hfs, l, q⟩ := hh
  subst ex
  obtain rfl : u = Value.ref a := rx
  obtain ⟨oe, vs, h1, h2, h3⟩ := exV_at I1.hok ha
  have hx : ObjOk X.prog X.w H1 s1.heap dd (.xd fs) := I1.hok dd _ hfs
  obtain ⟨mA, hns, hr⟩ := hx
  obtain ⟨od, ho, hl⟩ := lookIn_ns hns
  obtain ⟨u, hu, ru⟩ := RelO.some_of (v := v) (o := mA n) (by rw [← l]; exact hr n)
  have J : PySem.W.InstAt s1.heap a oe C (some od) := ⟨h1, h2.1, by unfold PySem.W.notCls; rw [h3] <;> rfl, by rw [h2.2]; exact ho⟩
  exact HandSPX.exc_get I1.kIn J T.hg T.hk T.hs (PySem.W.findObj_own T.hd hno rfl (by rw [hl, hu])) (handed_of ru) ⟨v, H1, I1.tok _, ru, q⟩
end
/-! ### Base.__init__(self, ..) of an own base without an __init__ of its own -/
section
variable {X : Cx} {e : Expr} {es : List Expr} {ta : TA} {p1 p2 pos : Pos} {x : Str} {C0 : Addr}
structure BasC (K : PySem.W.Frag) (C0 : Addr) : Prop where
  rd : PySem.W.readsIn K C0 (.type "type") = true
  sg : PySem.W.specialIn K (.ref C0) "__getattribute__" = some (some (.builtin "type.__getattribute__"))
  vV : PySem.W.findCls K (.ref C0) (.type "type") "__init__" = some (.val (.builtin "ValueError.__init__"))
theorem pe_peI {pl : Sem Bool} (hm : X.mg x = some (.ref C0)) (T0 : BasC X.K C0) (ha : PA X (e :: es) ta) (hg : Gl X x := by rfl) (hdb : (x == ("__debug__" : Str)) = false := by decide)
    (hc : eval (.Call (.Attribute (.Name x p1) "__init__" p2) (e :: es) [] pos) X.env = (do
      let ov ← eval (.Name x p1) X.env
      standAt p2.atName
      let (f, first) ← holding [ov] (getMethod ov "__init__" pl)
      callWith pos f first (backTo pos (starEach (e :: es) X.env)) (backToKw pos (keywordEach [] X.env))) := by rfl)
    (he : starEach (e :: es) X.env = (false, eval e X.env) :: starEach es X.env := by rfl) (hpl : (backTo pos (starEach es X.env)).any (·.1) = false := by rfl) :
    PE X (.Call (.Attribute (.Name x p1) "__init__" p2) (e :: es) [] pos) (tVeI X.K ta) := by
  refine ⟨fun pins s σ H Q I h => ?_⟩
  refine PySem.W.methodCall_KW (ld_glob I hg hm ?_ hdb) hc
  refine PySem.W.method_cls I.kIn T0.sg (PySem.W.cls_value I.kIn T0.rd T0.vV (by decide +kernel) ?_)
  show wpAny _ _ (callWith pos (Value.builtin "ValueError.__init__") [] (backTo pos (starEach (e :: es) X.env)) []) _ _ _
  refine PyProof.Rows.callWith_method1 (thn (ha.run pos pins _ σ H _ (I.tok _) h) fun us s1 ⟨vs, H1, I1, r1, a, C, ws, ev, hl, T, ea, q⟩ => ?_) he hpl
  subst ev
  cases r1 with
  | @cons _ u0 _ ur ra rw' =>
    obtain rfl : u0 = Value.ref a := ra
    have hlen : ur.length ≤ sizeLine := by
      rw [← Paired.length rw', sizeLine_eq]
      omega
    exact oinit_ok T I1 ea hlen fun s' J => ⟨.non, H1, J, rfl, q⟩
end
/-- the promise of such an __init__: one field, two -/
def spEI1 (C : Addr) (f1 : Str) : Sp := fun vs H Q _ => ∃ (p : Addr) (y : V), vs = [.ref p, y] ∧ H p = some (exo p C none) ∧
  ∀ dx H', H dx = none → dx ≠ p → (∀ b, b ≠ p → b ≠ dx → H' b = H b) → H' p = some (exo p C (some dx)) → H' dx = some (exd dx [(f1, y)]) → Q .non H'
def spEI2 (C : Addr) (f1 f2 : Str) : Sp := fun vs H Q _ => ∃ (p : Addr) (y z : V), vs = [.ref p, y, z] ∧ H p = some (exo p C none) ∧
  ∀ dx H', H dx = none → dx ≠ p → (∀ b, b ≠ p → b ≠ dx → H' b = H b) → H' p = some (exo p C (some dx)) → H' dx = some (exd dx [(f2, z), (f1, y)]) → Q .non H'
theorem spEI1_len {C : Addr} {f1 : Str} {vs : List V} {H : Hp} {Q : VK} {E : XK} (h : spEI1 C f1 vs H Q E) : vs.length = 2 := by
  obtain ⟨_, _, rfl, _⟩ := h
  rfl
theorem spEI2_len {C : Addr} {f1 f2 : Str} {vs : List V} {H : Hp} {Q : VK} {E : XK} (h : spEI2 C f1 f2 vs H Q E) : vs.length = 3 := by
  obtain ⟨_, _, _, rfl, _⟩ := h
  rfl
theorem ei1_body {K : PySem.W.Frag} {C : Addr} {f1 txt : Str} {n0 n1 : Str} {vs : List V} {H : Hp} {Q : VK} {E : XK} (T : OexC K C) (h1 : PySem.W.findIn K (.ref C) f1 = some none) (h : spEI1 C f1 vs H Q E) :
    tSeq (tDrop (tVeI K (tCons (tVar 0) (tCons (tC (.str txt)) tNil)))) (tSeq (tOst K f1 (tVar 0) (tVar 1)) tNext) { nx := fun _ H' => Q .non H', rt := Q } (start [n0, n1] vs) H := by
  obtain ⟨p, y, rfl, hp, k⟩ := h
  refine ⟨_, rfl, p, C, _, rfl, by simp, T, hp, ?_⟩
  refine ⟨_, rfl, _, rfl, p, C, rfl, T, h1, .inl ⟨hp, fun dx hd ne => ?_⟩⟩
  refine k dx _ hd ne (fun b b1 b2 => ?_) upd_same ?_
  · rw [upd_ne b1, upd_ne b2]
  · rw [upd_ne ne, upd_same]
theorem ei2_body {K : PySem.W.Frag} {C : Addr} {f1 f2 txt : Str} {n0 n1 n2 : Str} {vs : List V} {H : Hp} {Q : VK} {E : XK} (T : OexC K C) (h1 : PySem.W.findIn K (.ref C) f1 = some none) (h2 : PySem.W.findIn K (.ref C) f2 = some none) (h : spEI2 C f1 f2 vs H Q E) :
    tSeq (tDrop (tVeI K (tCons (tVar 0) (tCons (tC (.str txt)) tNil)))) (tSeq (tOst K f1 (tVar 0) (tVar 1)) (tSeq (tOst K f2 (tVar 0) (tVar 2)) tNext)) { nx := fun _ H' => Q .non H', rt := Q } (start [n0, n1, n2] vs) H := by
  obtain ⟨p, y, z, rfl, hp, k⟩ := h
  refine ⟨_, rfl, p, C, _, rfl, by simp, T, hp, ?_⟩
  refine ⟨_, rfl, _, rfl, p, C, rfl, T, h1, .inl ⟨hp, fun dx hd ne => ?_⟩⟩
  refine ⟨_, rfl, _, rfl, p, C, rfl, T, h2, .inr ⟨dx, _, upd_same, by rw [upd_ne ne, upd_same], by simp, ?_⟩⟩
  refine k dx _ hd ne (fun b b1 b2 => ?_) ?_ upd_same
  · rw [upd_ne b2, upd_ne b1, upd_ne b2]
  · rw [upd_ne (Ne.symm ne), upd_same]
end VX

set_option Elab.async false
set_option linter.all false
set_option maxRecDepth 100000
set_option maxHeartbeats 4000000
namespace VC
open PySem PySem.Spec L2 VX
/-! ### exceptions as typed values: the class's place in the table, its fields -/
abbrev Exn := Nat × List Int
abbrev ExTab := List (Addr × List Str)
def FsE (ns : List Str) (xs : List Int) (fs : List (Str × V)) : Prop := ∀ (k : Nat) (n : Str) (x : Int), ns[k]? = some n → xs[k]? = some x → fs.lookup n = some (.int x)
def ExAt (L : ExTab) (Hv : Hp) (e : Exn) (cls : Value) (d : Option Addr) : Prop := ∃ C ns, L[e.1]? = some (C, ns) ∧ cls = .ref C ∧ (ns = [] → d = none) ∧ (ns ≠ [] → ∃ dd fs, d = some dd ∧ Hv dd = some (.xd fs) ∧ FsE ns e.2 fs)
theorem ExAt.up {L : ExTab} {H H' : Hp} {e : Exn} {cls : Value} {d : Option Addr} (s : Same H H') : ExAt L H e cls d → ExAt L H' e cls d
  | ⟨C, ns, h1, h2, h3, h4⟩ => ⟨C, ns, h1, h2, h3, fun n => let ⟨dd, fs, e1, e2, e3⟩ := h4 n; ⟨dd, fs, e1, s _ _ e2, e3⟩⟩
theorem ExAt.dic {L : ExTab} {H : Hp} {e : Exn} {cls : Value} {d : Option Addr} : ExAt L H e cls d → DicOk H d
  | ⟨C, ns, h1, h2, h3, h4⟩ => fun dd q => by
    by_cases n : ns = []
    · rw [h3 n] at q
      cases q
    · obtain ⟨dd', fs, e1, e2, _⟩ := h4 n
      rw [e1] at q
      cases q
      exact ⟨fs, e2⟩
def tEx (L : ExTab) : Ty Exn := ⟨fun H v e => ∃ a cls d, v = .ref a ∧ H a = some (ExV cls d a) ∧ ExAt L H e cls d, fun s ⟨a, cls, d, e, h, x⟩ => ⟨a, cls, d, e, s _ _ h, x.up s⟩⟩
section
variable {B B0 : Bs} {Γ : Cxt} {α β γ : Type} {τ : Ty α} {υ : Ty β} {φ : Ty γ} {x : α} {D : Ends} {K : PySem.W.Frag} {L : ExTab} {W Wout : WX} {e : Exn} {u : TS} {i : Nat}
/-- what is wished of the error e, from here -/
def XOut (L : ExTab) (B : Bs) (Γ : Cxt) (W : WX) (e : Exn) : Prop := ∀ (σ : L2.St) (Hv H : Hp) (cls : Value) (d : Option Addr), Wd B Γ σ Hv H → ExAt L Hv e cls d → W cls d σ H
/-- an expression that may raise -/
def SmX (L : ExTab) (B : Bs) (Γ : Cxt) (t : TE) (τ : Ty α) (r : Except Exn α) (W : WX) : Prop := ∀ (σ : L2.St) (Hv H : Hp), Wd B Γ σ Hv H → ∀ Q : VK,
  (∀ y, r = .ok y → ∀ v Hv' H', Grow Hv H Hv' H' → τ.rep Hv' v y → Q v H') → (∀ e, r = .error e → ∀ cls d Hv' H', Grow Hv H Hv' H' → ExAt L Hv' e cls d → W cls d σ H') → t σ H Q
def SmXO (L : ExTab) (B : Bs) (Γ : Cxt) (t : TE) (τ : Ty α) (r : Except Exn (List α)) (W : WX) : Prop := ∀ (σ : L2.St) (Hv H : Hp), Wd B Γ σ Hv H → ∀ Q : VK,
  (∀ ys, r = .ok ys → ∀ l vs Hv' H', Grow Hv H Hv' H' → H l = none → H' l = some (.lst vs) → Hv' l = none → Paired (τ.rep Hv') vs ys → Q (.ref l) H') → (∀ e, r = .error e → ∀ cls d Hv' H', Grow Hv H Hv' H' → ExAt L Hv' e cls d → W cls d σ H') → t σ H Q
/-- it raises nothing here -/
theorem sm_ofX {t : TE} {r : Except Exn α} (h : SmX L B Γ t τ r W) (hr : r = .ok x) : Sm B Γ t τ x := fun σ Hv H w Q k => h σ Hv H w Q (fun y q v Hv' H' g rr => by
  rw [hr] at q
  cases q
  exact k v Hv' H' g rr) (fun e q => by rw [hr] at q; cases q)
theorem smo_ofX {t : TE} {r : Except Exn (List α)} {xs : List α} (h : SmXO L B Γ t τ r W) (hr : r = .ok xs) : SmO B Γ t τ xs := fun σ Hv H w Q k => h σ Hv H w Q (fun y q l vs Hv' H' g e0 e1 e2 rr => by
  rw [hr] at q
  cases q
  exact k l vs Hv' H' g e0 e1 e2 rr) (fun e q => by rw [hr] at q; cases q)
theorem SmXO.toX {t : TE} {r : Except Exn (List α)} (h : SmXO L B Γ t τ r W) : SmX L B Γ t (tList τ) r W := fun σ Hv H w Q k kx => h σ Hv H w Q (fun ys q l vs Hv' H' g h0 h1 h2 rr => by
  obtain ⟨s1, s2⟩ := Grow.see g.vis h1 h2
  refine k ys q _ (upd Hv' l (.lst vs)) H' ⟨g.s, Same.trans g.v s1, s2, fun b n z => ?_⟩ ⟨l, vs, rfl, upd_same, Paired.up s1 rr⟩
  have hb : b ≠ l := fun q => n (q ▸ h0)
  rw [upd_ne hb]
  exact g.nw b n z) kx
theorem g_asgX {te : TE} {r : Except Exn α} (hi : i < B.n) (he : SmX L B Γ te τ r W) (h1 : ∀ y, r = .ok y → G B u (put i (.fz τ y) Γ) D) (h2 : ∀ e, r = .error e → XOut L B Γ W e) : G B (tSeq (tAsg te (gName i)) u) Γ D := fun σ Hv H w =>
  he σ Hv H w _ (fun y q v Hv1 H1 g1 r1 => h1 y q _ Hv1 H1 ((w.grow g1).put i hi r1)) (fun e q cls d Hv1 H1 g1 x => h2 e q σ Hv1 H1 cls d (w.grow g1) x)
theorem g_asgXO {te : TE} {r : Except Exn (List α)} (hi : i < B.n) (he : SmXO L B Γ te τ r W) (h1 : ∀ ys, r = .ok ys → G B u (put i (.cl τ ys) Γ) D) (h2 : ∀ e, r = .error e → XOut L B Γ W e) : G B (tSeq (tAsg te (gName i)) u) Γ D := fun σ Hv H w =>
  he σ Hv H w _ (fun xs q l vs Hv1 H1 g1 e0 e1 e2 r1 => by
    have w1 := w.grow g1
    refine h1 xs q _ Hv1 H1 (w1.putO i hi ⟨e1, e2, ?_, fun j e m c s => ?_⟩ r1)
    · cases q : B.H0 l with
      | none => exact .inl rfl
      | some o => exact absurd e0 (w.a0 l (by rw [q]; exact fun z => nomatch z))
    · cases e with
      | cl τ' zs =>
        obtain ⟨l', ws, h1, h2, _⟩ := w.ent j _ m
        rw [s] at h1
        cases h1
        rw [e0] at h2
        cases h2
      | ob l' dx C as =>
        obtain ⟨fs, h1, h2, _⟩ := w.ent j _ m
        rw [s] at h1
        cases h1
        rw [e0] at h2
        cases h2
      | fz => cases c
      | gh => cases c) (fun e q cls d Hv1 H1 g1 x => h2 e q σ Hv1 H1 cls d (w.grow g1) x)
theorem g_dropX {te : TE} {r : Except Exn α} (he : SmX L B Γ te τ r W) (h1 : ∀ y, r = .ok y → G B u Γ D) (h2 : ∀ e, r = .error e → XOut L B Γ W e) : G B (tSeq (tDrop te) u) Γ D := fun σ Hv H w =>
  he σ Hv H w _ (fun y q v Hv1 H1 g1 r1 => h1 y q _ Hv1 H1 (w.grow g1)) (fun e q cls d Hv1 H1 g1 x => h2 e q σ Hv1 H1 cls d (w.grow g1) x)
theorem g_retX {te : TE} {r : Except Exn α} {f : α → β → Prop} {y : β} (l : Le B0 B) (R : ∀ y, r = .ok y → RtF B0 τ y D.rt) (he : SmX L B Γ te τ r W) (h2 : ∀ e, r = .error e → XOut L B Γ W e) : G B (tSeq (tRet te) u) Γ D := fun σ Hv H w =>
  he σ Hv H w _ (fun y q v Hv1 H1 g1 r1 => (R y q).run v Hv1 H1 (((w.grow g1).down l).gr (R y q).no) r1) (fun e q cls d Hv1 H1 g1 x => h2 e q σ Hv1 H1 cls d (w.grow g1) x)
/-! ### raise -/
def SmR (L : ExTab) (B : Bs) (Γ : Cxt) (t : L2.St → Hp → XK → Prop) (e : Exn) : Prop := ∀ (σ : L2.St) (Hv H : Hp), Wd B Γ σ Hv H → ∀ Q : XK, (∀ cls d Hv' H', Grow Hv H Hv' H' → ExAt L Hv' e cls d → Q cls d H') → t σ H Q
def tRs (W : WX) (t : L2.St → Hp → XK → Prop) : TS := fun _ σ H => t σ H fun cls d H' => W cls d σ H'
theorem ps_rs {X : Cx} {W : WX} {e : Expr} {t : L2.St → Hp → XK → Prop} {pos : Pos} (hc : X.calm = true) (tk : Takes X W) (he : PMk X e t) : PS X (.Raise (some e) none pos) (tRs W t) := ps_raise hc tk he
theorem g_raise {t : L2.St → Hp → XK → Prop} (h : SmR L B Γ t e) (h2 : XOut L B Γ W e) : G B (tSeq (tRs W t) u) Γ D := fun σ Hv H w =>
  h σ Hv H w _ fun cls d Hv1 H1 g1 x => h2 σ Hv1 H1 cls d (w.grow g1) x
theorem smr_own {C : Addr} {k : Nat} (hk : L[k]? = some (C, [])) : SmR L B Γ (fun _ H Q => Q (.ref C) none H) (k, []) := fun σ Hv H w Q q => q _ _ _ _ (Grow.refl w.vis) ⟨C, [], hk, rfl, fun _ => rfl, fun n => absurd rfl n⟩
theorem oex_heap {H1 H2 : Hp} {p d : Addr} {o1 o2 : HO} {fs : List (Str × V)} (hp : H1 p = none) (hd : H1 d = none) (ne : d ≠ p) (k : ∀ b, b ≠ p → b ≠ d → H2 b = upd H1 p o1 b) : upd (L2.del H2 p) d (.xd fs) = upd H1 d (.xd fs) := by
  funext b
  by_cases hb : b = d
  · subst hb
    rw [upd_same, upd_same]
  · rw [upd_ne hb, upd_ne hb]
    by_cases hbp : b = p
    · subst hbp
      rw [del_same, hp]
    · rw [del_ne hbp, k b hbp hb, upd_ne hbp]
theorem smr_oex1 {C : Addr} {k : Nat} {f1 : Str} {t1 : TE} {x1 : Int} (hk : L[k]? = some (C, [f1])) (ha : Sm B Γ t1 tInt x1) : SmR L B Γ (tMkO C (spEI1 C f1) [] (tCons t1 tNil)) (k, [x1]) := fun σ Hv H w Q q =>
  ha σ Hv H w _ fun v Hv1 H1 g1 r1 => by
    cases r1
    refine ⟨by simp, fun p hp => ?_⟩
    refine ⟨p, .int x1, rfl, upd_same, fun dx H2 hd ne hb hp2 hd2 => ⟨rfl, dx, _, hp2, hd2, by rw [upd_ne ne] at hd; exact hd, ?_⟩⟩
    rw [upd_ne ne] at hd
    rw [oex_heap (o2 := .own 0) hp hd ne hb]
    refine q _ _ _ _ (g1.trans (Grow.new g1.vis hd)) ⟨C, [f1], hk, rfl, fun z => (nomatch z), fun _ => ⟨dx, _, rfl, upd_same, fun j n x h1 h2 => ?_⟩⟩
    match j, h1, h2 with
    | 0, h1, h2 =>
      cases h1
      cases h2
      simp [List.lookup]
    | j + 1, h1, h2 => simp at h1
theorem smr_oex2 {C : Addr} {k : Nat} {f1 f2 : Str} {t1 t2 : TE} {x1 x2 : Int} (hk : L[k]? = some (C, [f1, f2])) (hne : (f1 == f2) = false) (ha : Sm B Γ t1 tInt x1) (hb : Sm B Γ t2 tInt x2) : SmR L B Γ (tMkO C (spEI2 C f1 f2) [] (tCons t1 (tCons t2 tNil))) (k, [x1, x2]) := fun σ Hv H w Q q =>
  ha σ Hv H w _ fun v Hv1 H1 g1 r1 => hb σ Hv1 H1 (w.grow g1) _ fun v' Hv2 H2 g2 r2 => by
    cases r1
    cases r2
    refine ⟨by simp, fun p hp => ?_⟩
    refine ⟨p, .int x1, .int x2, rfl, upd_same, fun dx H3 hd ne hb hp2 hd2 => ⟨rfl, dx, _, hp2, hd2, by rw [upd_ne ne] at hd; exact hd, ?_⟩⟩
    rw [upd_ne ne] at hd
    rw [oex_heap (o2 := .own 0) hp hd ne hb]
    refine q _ _ _ _ ((g1.trans g2).trans (Grow.new g2.vis hd)) ⟨C, [f1, f2], hk, rfl, fun z => (nomatch z), fun _ => ⟨dx, _, rfl, upd_same, fun j n x h1 h2 => ?_⟩⟩
    match j, h1, h2 with
    | 0, h1, h2 =>
      cases h1
      cases h2
      simp [List.lookup, hne]
    | 1, h1, h2 =>
      cases h1
      cases h2
      simp [List.lookup]
    | j + 2, h1, h2 => simp at h1
/-! ### try -/
theorem g_try {tb : WX → TS} {c : Value} {ts : Addr → List (Addr × Obj) → TS} (h : G B (tSeq (tb (wAsV K c i ts Wout { D with nx := u D })) u) Γ D) : G B (tSeq (tTry K c i ts Wout tb) u) Γ D := h
def goneD (i : Nat) (u : TS) (D0 : Ends) : Ends := { nx := fun σ' H' => u D0 (σ'.set i none) H', rt := D0.rt, bk := fun σ' H' => D0.bk (σ'.set i none) H', ct := fun σ' H' => D0.ct (σ'.set i none) H' }
theorem xout_as {c : Value} {ts : Addr → List (Addr × Obj) → TS} {C : Addr} {ns : List Str} {D0 : Ends} (hk : L[e.1]? = some (C, ns)) (hc : PySem.W.exmOne K (.ref C) c = some true) (hi : i < B.n)
    (h : ∀ a pn, G B (ts a pn) (put i (.fz (tEx L) e) Γ) (goneD i u D0)) : XOut L B Γ (wAsV K c i ts Wout { D0 with nx := u D0 }) e := fun σ Hv H cls d w x => by
  obtain ⟨C', ns', h1, h2, h3⟩ := id x
  rw [hk] at h1
  cases h1
  subst h2
  exact ⟨true, hc, fun _ a pn na => h a pn _ (upd Hv a (ExV (.ref C) d a)) _ ((w.grow (Grow.new w.vis na)).put i hi ⟨a, _, d, rfl, upd_same, x.up (same_upd (Same.free w.vis na))⟩), fun z => nomatch z⟩
theorem xout_not {c : Value} {ts : Addr → List (Addr × Obj) → TS} {C : Addr} {ns : List Str} (hk : L[e.1]? = some (C, ns)) (hc : PySem.W.exmOne K (.ref C) c = some false) (h : XOut L B Γ Wout e) : XOut L B Γ (wAsV K c i ts Wout D) e := fun σ Hv H cls d w x => by
  obtain ⟨C', ns', h1, h2, h3⟩ := id x
  rw [hk] at h1
  cases h1
  subst h2
  exact ⟨false, hc, (fun z => nomatch z), fun _ => h σ Hv H _ d w x⟩
theorem g_gone {D0 : Ends} (h : G B u (del i Γ) D0) : G B tNext Γ (goneD i u D0) := fun σ Hv H w => h _ Hv H (w.forget i none)
/-! ### what leaves a def -/
structure RtX (L : ExTab) (B0 : Bs) (τ : Ty α) (r : Except Exn α) (Q : VK) (E : XK) : Prop where
  no : ∀ b, ¬ B0.own b
  ok_ : ∀ y, r = .ok y → ∀ v Hv H, Grow B0.Hv0 B0.H0 Hv H → τ.rep Hv v y → Q v H
  er_ : ∀ e, r = .error e → ∀ cls d Hv H, Grow B0.Hv0 B0.H0 Hv H → ExAt L Hv e cls d → E cls d H
structure RtXO (L : ExTab) (B0 : Bs) (τ : Ty α) (r : Except Exn (List α)) (Q : VK) (E : XK) : Prop where
  no : ∀ b, ¬ B0.own b
  ok_ : ∀ ys, r = .ok ys → ∀ l vs Hv H, Grow B0.Hv0 B0.H0 Hv H → B0.H0 l = none → H l = some (.lst vs) → Hv l = none → Paired (τ.rep Hv) vs ys → Q (.ref l) H
  er_ : ∀ e, r = .error e → ∀ cls d Hv H, Grow B0.Hv0 B0.H0 Hv H → ExAt L Hv e cls d → E cls d H
variable {Q : VK} {E : XK}
theorem RtX.ok {r : Except Exn α} {y : α} (R : RtX L B0 τ r Q E) (h : r = .ok y) : RtF B0 τ y Q := ⟨R.no, R.ok_ y h⟩
theorem RtXO.ok {r : Except Exn (List α)} {ys : List α} (R : RtXO L B0 τ r Q E) (h : r = .ok ys) : RtO B0 τ ys Q := ⟨R.no, R.ok_ ys h⟩
theorem RtX.er {r : Except Exn α} (l : Le B0 B) (R : RtX L B0 τ r Q E) (h : r = .error e) : XOut L B Γ (fun cls d _ H => E cls d H) e := fun _ Hv H cls d w x => R.er_ e h cls d Hv H ((w.down l).gr R.no) x
theorem RtXO.er {r : Except Exn (List α)} (l : Le B0 B) (R : RtXO L B0 τ r Q E) (h : r = .error e) : XOut L B Γ (fun cls d _ H => E cls d H) e := fun _ Hv H cls d w x => R.er_ e h cls d Hv H ((w.down l).gr R.no) x
/-- what an __init__ that may raise is to leave -/
structure RtIX {δ : Type} (L : ExTab) (B0 : Bs) (p dx C : Addr) (sch : δ → List (Str × As)) (r : Except Exn δ) (Q : VK) (E : XK) : Prop where
  ow : ∀ b, B0.own b → b = p
  ok_ : ∀ y, r = .ok y → RtI B0 p dx C (sch y) Q
  er_ : ∀ e, r = .error e → ∀ cls d Hv H, (∀ b o, b ≠ p → B0.H0 b = some o → H b = some o) → Same B0.Hv0 Hv → Same Hv H → (∀ b, b ≠ p → B0.H0 b ≠ none → B0.Hv0 b = none → Hv b = none) → ExAt L Hv e cls d → E cls d H
theorem RtIX.ok {δ : Type} {sch : δ → List (Str × As)} {p dx C : Addr} {r : Except Exn δ} {y : δ} (R : RtIX L B0 p dx C sch r Q E) (h : r = .ok y) : RtI B0 p dx C (sch y) Q := R.ok_ y h
theorem RtIX.er {δ : Type} {sch : δ → List (Str × As)} {p dx C : Addr} {r : Except Exn δ} (l : Le B0 B) (R : RtIX L B0 p dx C sch r Q E) (h : r = .error e) : XOut L B Γ (fun cls d _ H => E cls d H) e := fun _ Hv H cls d w x =>
  have w' := w.down l
  R.er_ e h cls d Hv H (fun b o hb q => w'.s0 b o (fun z => hb (R.ow b z)) q) w'.v0 w'.vis (fun b hb n z => w'.nw b (fun z => hb (R.ow b z)) n z) x
/-! ### isinstance, fields -/
theorem sm_isV {t tc : TE} {D : Addr} {ns : List Str} {cv : Value} {c : V} {b : Bool} (h : Sm B Γ t (tEx L) e) (hk : L[e.1]? = some (D, ns)) (T : VX.ExcC K D) (ht : tc = tC c) (hcv : ∀ u, RelV c u → u = cv) (hb : PySem.W.kitOne K (.ref D) cv = some b) : Sm B Γ (tCB (rIsV K) (tCons t (tCons tc tNil))) tBool b := fun σ Hv H w Q q => by
  subst ht
  refine h σ Hv H w _ fun v Hv1 H1 g1 ⟨a, cls, d, ev, ha, x⟩ => ?_
  obtain ⟨C', ns', h1, h2, h3⟩ := id x
  rw [hk] at h1
  cases h1
  subst h2
  refine ⟨a, D, d, c, cv, b, by rw [ev], g1.vis _ _ ha, fun dd z => ?_, T, hcv, hb, q _ _ _ g1 rfl⟩
  obtain ⟨fs, hf⟩ := x.dic dd z
  exact ⟨fs, g1.vis _ _ hf⟩
/-- isinstance(e, (C1, C2, ..)) -/
inductive ClsL : TA → List Addr → Prop
  | nil : ClsL tNil []
  | cons {C : Addr} {t : TA} {cs : List Addr} : ClsL t cs → ClsL (tCons (tC (.ref C)) t) (C :: cs)
theorem ClsL.run {t : TA} {cs : List Addr} (h : ClsL t cs) : ∀ (σ : L2.St) (H : Hp) (Q : List V → Hp → Prop), Q (cs.map V.ref) H → t σ H Q := by
  induction h with
  | nil => exact fun σ H Q q => q
  | cons _ ih => exact fun σ H Q q => ih σ H _ q
theorem sm_isT {t : TE} {tt : TA} {D : Addr} {ns : List Str} {cs : List Addr} {b : Bool} (h : Sm B Γ t (tEx L) e) (hk : L[e.1]? = some (D, ns)) (T : VX.ExcC K D) (hc : ClsL tt cs) (hl : cs.length ≤ 1000) (hb : PySem.W.kitAny K (.ref D) (cs.map Value.ref) = some b) :
    Sm B Γ (tCB (rIsT K) (tCons t (tCons (tTup tt) tNil))) tBool b := fun σ Hv H w Q q => by
  refine h σ Hv H w _ fun v Hv1 H1 g1 ⟨a, cls, d, ev, ha, x⟩ => ?_
  obtain ⟨C', ns', h1, h2, h3⟩ := id x
  rw [hk] at h1
  cases h1
  subst h2
  refine hc.run σ H1 _ ⟨by rw [List.length_map, sizeLine_eq]; omega, fun p hp => ?_⟩
  have hne : Same H1 (upd H1 p (.tup (cs.map V.ref))) := same_upd hp
  refine ⟨a, D, p, d, cs, b, by rw [ev], hne _ _ (g1.vis _ _ ha), fun dd z => ?_, T, upd_same, hb, q _ _ _ (g1.trans (Grow.new g1.vis hp)) rfl⟩
  obtain ⟨fs, hf⟩ := x.dic dd z
  exact ⟨fs, hne _ _ (g1.vis _ _ hf)⟩
/-- e.f -/
theorem sm_xf {t : TE} {D : Addr} {ns : List Str} {f : Str} {j : Nat} {y : Int} (h : Sm B Γ t (tEx L) e) (hk : L[e.1]? = some (D, ns)) (T : VX.ExcC K D) (hno : PySem.W.findIn K (.ref D) f = some none) (hj : ns[j]? = some f) (hy : e.2[j]? = some y) : Sm B Γ (tXfV K f t) tInt y := fun σ Hv H w Q q => by
  refine h σ Hv H w _ fun v Hv1 H1 g1 ⟨a, cls, d, ev, ha, x⟩ => ?_
  obtain ⟨C', ns', h1, h2, h3, h4⟩ := id x
  rw [hk] at h1
  cases h1
  subst h2
  obtain ⟨dd, fs, e1, e2, e3⟩ := h4 (fun z => by rw [z] at hj; cases hj)
  subst e1
  exact ⟨a, D, dd, fs, _, ev, g1.vis _ _ ha, T, hno, g1.vis _ _ e2, e3 j f y hj hy, q _ _ _ g1 rfl⟩
/-! ### a class known beforehand; None; what is not None -/
def tExS (L : ExTab) (k : Nat) : Ty (List Int) := ⟨fun H v xs => (tEx L).rep H v (k, xs), fun s h => (tEx L).mono s h⟩
theorem ex_dyn {t : TE} {k : Nat} {xs : List Int} (h : Sm B Γ t (tExS L k) xs) : Sm B Γ t (tEx L) (k, xs) := h
theorem ex_sta {t : TE} {k : Nat} {xs : List Int} (h : Sm B Γ t (tEx L) (k, xs)) : Sm B Γ t (tExS L k) xs := h
theorem nn_int {H : Hp} {v : V} {x : Int} (h : tInt.rep H v x) : v ≠ .non := fun z => by cases h; cases z
theorem nn_bool {H : Hp} {v : V} {x : Bool} (h : tBool.rep H v x) : v ≠ .non := fun z => by cases h; cases z
theorem nn_str {H : Hp} {v : V} {x : Str} (h : tStr.rep H v x) : v ≠ .non := fun z => by cases h; cases z
theorem nn_list {H : Hp} {v : V} {x : List α} (h : (tList τ).rep H v x) : v ≠ .non := fun z => by obtain ⟨_, _, rfl, _⟩ := h; cases z
theorem nn_tup {H : Hp} {v : V} {x : α × β} (h : (tTup2 τ υ).rep H v x) : v ≠ .non := fun z => by obtain ⟨_, _, _, rfl, _⟩ := h; cases z
theorem nn_obj {C : Addr} {sch : α → List (Str × As)} {H : Hp} {v : V} {x : α} (h : (tObj C sch).rep H v x) : v ≠ .non := fun z => by obtain ⟨_, _, _, rfl, _⟩ := h; cases z
theorem nn_ex {H : Hp} {v : V} {x : Exn} (h : (tEx L).rep H v x) : v ≠ .non := fun z => by obtain ⟨_, _, _, rfl, _⟩ := h; cases z
theorem nn_exs {k : Nat} {H : Hp} {v : V} {x : List Int} (h : (tExS L k).rep H v x) : v ≠ .non := fun z => by obtain ⟨_, _, _, rfl, _⟩ := h; cases z
theorem sm_some {t : TE} (h : Sm B Γ t τ x) (n : ∀ {H : Hp} {v : V} {x : α}, τ.rep H v x → v ≠ .non) : Sm B Γ t (tOpt τ) (some x) := fun σ Hv H w Q k => h σ Hv H w _ fun v Hv1 H1 g1 r1 => k v Hv1 H1 g1 ⟨n r1, r1⟩
theorem sm_get {t : TE} {o : Option α} (h : Sm B Γ t (tOpt τ) o) (e : o = some x) : Sm B Γ t τ x := fun σ Hv H w Q k => h σ Hv H w _ fun v Hv1 H1 g1 r1 => by
  subst e
  exact k v Hv1 H1 g1 r1.2
theorem sm_isNU {t : TE} {y : Unit} (h : Sm B Γ t tNon y) : Sm B Γ (tOp (fun x y H Q => y = .non ∧ Q (.bl (decide (x = .non))) H) t (tC .non)) tBool true := fun σ Hv H w Q k => h σ Hv H w _ fun v Hv1 H1 g1 r1 => by
  cases r1
  exact ⟨rfl, k _ Hv1 H1 g1 (congrArg V.bl (decide_eq_true rfl))⟩
theorem sm_isNX {t : TE} (h : Sm B Γ t τ x) (n : ∀ {H : Hp} {v : V} {x : α}, τ.rep H v x → v ≠ .non) : Sm B Γ (tOp (fun x y H Q => y = .non ∧ Q (.bl (decide (x = .non))) H) t (tC .non)) tBool false := fun σ Hv H w Q k => h σ Hv H w _ fun v Hv1 H1 g1 r1 =>
  ⟨rfl, k _ Hv1 H1 g1 (congrArg V.bl (decide_eq_false (n r1)))⟩
theorem sm_notNU {t : TE} {y : Unit} (h : Sm B Γ t tNon y) : Sm B Γ (tOp (fun x y H Q => y = .non ∧ Q (.bl (!decide (x = .non))) H) t (tC .non)) tBool false := fun σ Hv H w Q k => h σ Hv H w _ fun v Hv1 H1 g1 r1 => by
  cases r1
  exact ⟨rfl, k _ Hv1 H1 g1 (congrArg V.bl (by rw [decide_eq_true rfl]; rfl))⟩
theorem sm_notNX {t : TE} (h : Sm B Γ t τ x) (n : ∀ {H : Hp} {v : V} {x : α}, τ.rep H v x → v ≠ .non) : Sm B Γ (tOp (fun x y H Q => y = .non ∧ Q (.bl (!decide (x = .non))) H) t (tC .non)) tBool true := fun σ Hv H w Q k => h σ Hv H w _ fun v Hv1 H1 g1 r1 =>
  ⟨rfl, k _ Hv1 H1 g1 (congrArg V.bl (by rw [decide_eq_false (n r1)]; rfl))⟩
theorem rel_ref {C : Addr} (u : Value) (h : RelV (.ref C) u) : u = .ref C := h
theorem rel_ty {T : String} (u : Value) (h : RelV (.ty T) u) : u = .type T := h
theorem kit_ve {D : Addr} {b : Bool} (h : PySem.W.subIn K (.ref D) (.type "ValueError") = some b) : PySem.W.kitOne K (.ref D) (.type "ValueError") = some b := by
  unfold PySem.W.kitOne
  rw [if_neg (by simp)]
  exact h
theorem kit_of {D C : Addr} {b : Bool} (T : VX.ExcC K C) (s : PySem.W.subIn K (.ref D) (.ref D) = some true) (p : PySem.W.subIn K (.ref D) (.ref C) = some b) : PySem.W.kitOne K (.ref D) (.ref C) = some b := by
  unfold PySem.W.kitOne
  by_cases e : D = C
  · subst e
    rw [s] at p
    cases p
    simp
  · rw [if_neg (by simpa using e)]
    show (if ((PySem.W.clsIn K C).isSome && PySem.W.typeIn K (.ref C) == some (.type "type")) = true then PySem.W.subIn K (.ref D) (.ref C) else none) = some b
    rw [if_pos (by rw [T.cl, T.ty] <;> rfl)]
    exact p
theorem kita_nil {D : Addr} : PySem.W.kitAny K (.ref D) (([] : List Addr).map Value.ref) = some false := rfl
theorem kita_t {D C : Addr} {cs : List Addr} (h : PySem.W.kitOne K (.ref D) (.ref C) = some true) : PySem.W.kitAny K (.ref D) ((C :: cs).map Value.ref) = some true := by
  show (match PySem.W.kitOne K (.ref D) (.ref C) with | some true => some true | some false => PySem.W.kitAny K (.ref D) (cs.map Value.ref) | none => none) = _
  rw [h]
theorem kita_f {D C : Addr} {cs : List Addr} {b : Bool} (h : PySem.W.kitOne K (.ref D) (.ref C) = some false) (r : PySem.W.kitAny K (.ref D) (cs.map Value.ref) = some b) : PySem.W.kitAny K (.ref D) ((C :: cs).map Value.ref) = some b := by
  show (match PySem.W.kitOne K (.ref D) (.ref C) with | some true => some true | some false => PySem.W.kitAny K (.ref D) (cs.map Value.ref) | none => none) = _
  rw [h]
  exact r
end
end VC
namespace VX
open PySem PySem.Spec L2
theorem exm_of {K : PySem.W.Frag} {D C : Addr} {b : Bool} (hc : PySem.W.isClsIn K C = true) (hs : PySem.W.subIn K (.ref C) (.type "BaseException") = some true) (ht : PySem.W.typeIn K (.ref C) = some (.type "type")) (p : PySem.W.subIn K (.ref D) (.ref C) = some b) : PySem.W.exmOne K (.ref D) (.ref C) = some b := by
  have e2 : ((PySem.W.clsIn K C).isSome && PySem.W.typeIn K (.ref C) == some (.type "type")) = true := by
    have h2' : (PySem.W.clsIn K C).isSome = true := hc
    rw [h2', ht] <;> rfl
  show (if (PySem.W.subIn K (.ref C) (.type "BaseException") == some true) = true then (if ((PySem.W.clsIn K C).isSome && PySem.W.typeIn K (.ref C) == some (.type "type")) = true then PySem.W.subIn K (.ref D) (.ref C) else none) else none) = some b
  rw [if_pos (by rw [hs] <;> rfl), if_pos e2]
  exact p
end VX

set_option Elab.async false
set_option linter.all false
set_option maxRecDepth 100000
set_option maxHeartbeats 4000000
namespace VX
open PySem PySem.Spec PyProof.Rows L2
section
variable {X : Cx} {CX : CXT} {k : Nat} {f C : Addr} {fd : FuncData} {ps : List Str} {sp : Sp} {dvs : List V} {ds : List Value} {E : L2.St → XK} {x m : Str} {p pos apos : Pos} {e o : Expr} {es : List Expr} {ta : TE} {t : TA}
theorem pe_call0S (F : FnOk X.prog X.w X.K X.mg X.base CX k f fd ps sp) (hr : Room k X.A) (hg : Gl X x) (hm : X.mg x = some (.ref f)) (hk : PySem.W.keepIn X.K (.ref f) = true) (hb : Binds X.K fd ps ds) (hd : Vals dvs ds) (hx : ∀ σ, PassesAt CX X σ (E σ))
    (hdb : (x == ("__debug__" : Str)) = false := by decide) : PE X (.Call (.Name x p) [] [] pos) (tCallSD sp dvs E tNil) := by
  refine ⟨fun pins s σ H Q I h => ?_⟩
  refine wpAny_Call_Name_kw (ld_glob I hg hm ?_ hdb)
  exact PySem.W.callWith_K0 I.kIn hk (run_fnSD (us := []) F hr hb hd (hx σ) I .nil h)
def tMethS (C : Addr) (m : Str) (sp : Sp) (dvs : List V) (E : L2.St → XK) (ta : TE) (t : TA) : TE := fun σ H Q => ta σ H fun x H1 => ∃ a dx fs, x = .ref a ∧ H1 a = some (.ins C dx fs) ∧ fs.lookup m = none ∧
  t σ H1 fun vs H2 => sp (x :: (vs ++ dvs)) H2 Q (E σ)
theorem pe_methS {pl : Sem Bool} (he : PE X o ta) (c : Cls X.K C) (hm : Meth X.K C m f) (F : FnOk X.prog X.w X.K X.mg X.base CX k f fd ps sp) (hr : Room k X.A) (hb : Binds X.K fd ps ds) (hd : Vals dvs ds) (hx : ∀ σ, PassesAt CX X σ (E σ)) (ha : PA X (e :: es) t)
    (hst : starEach (e :: es) X.env = (false, eval e X.env) :: starEach es X.env := by rfl) (hpl : (backTo pos (starEach es X.env)).any (·.1) = false := by rfl)
    (ht : eval (.Call (.Attribute o m apos) (e :: es) [] pos) X.env = (do
      let ov ← eval o X.env
      standAt apos.atName
      let (f, first) ← holding [ov] (getMethod ov m pl)
      callWith pos f first (backTo pos (starEach (e :: es) X.env)) (backToKw pos (keywordEach [] X.env))) := by rfl) :
    PE X (.Call (.Attribute o m apos) (e :: es) [] pos) (tMethS C m sp dvs E ta t) := by
  refine ⟨fun pins s σ H Q I h => ?_⟩
  refine PySem.W.methodCall_KW (pl := pl) (thn (he.run pins s σ H _ I h) fun u s1 ⟨x, H1, I1, rx, a, dx, fs, ex, ea, l, q⟩ => ?_) ht
  subst ex
  obtain rfl : u = Value.ref a := rx
  refine getmeth_ok I1 ea c hm l ?_
  refine PySem.W.callWith_K (first := [.ref a]) (h₀ := X.base) I.ok.mod.kin hm.kp (thn (ha.run pos pins s1 σ H1 _ I1 q) fun us s2 ⟨vs, H2, I2, r, q2⟩ => ⟨I2.kIn, ?_⟩) hst hpl
  exact run_fnSD (us := .ref a :: us) (vs := .ref a :: vs) F hr hb hd (hx σ) I2 (.cons rfl r) q2
theorem pe_meth0S {pl : Sem Bool} (he : PE X o ta) (c : Cls X.K C) (hm : Meth X.K C m f) (F : FnOk X.prog X.w X.K X.mg X.base CX k f fd ps sp) (hr : Room k X.A) (hb : Binds X.K fd ps ds) (hd : Vals dvs ds) (hx : ∀ σ, PassesAt CX X σ (E σ))
    (ht : eval (.Call (.Attribute o m apos) [] [] pos) X.env = (do
      let ov ← eval o X.env
      standAt apos.atName
      let (f, first) ← holding [ov] (getMethod ov m pl)
      callWith pos f first (backTo pos (starEach [] X.env)) (backToKw pos (keywordEach [] X.env))) := by rfl) :
    PE X (.Call (.Attribute o m apos) [] [] pos) (tMethS C m sp dvs E ta tNil) := by
  refine ⟨fun pins s σ H Q I h => ?_⟩
  refine PySem.W.methodCall_KW (pl := pl) (thn (he.run pins s σ H _ I h) fun u s1 ⟨x, H1, I1, rx, a, dx, fs, ex, ea, l, q⟩ => ?_) ht
  subst ex
  obtain rfl : u = Value.ref a := rx
  refine getmeth_ok I1 ea c hm l ?_
  exact PySem.W.callWith_K0 (first := [.ref a]) I1.kIn hm.kp (run_fnSD (us := [.ref a]) (vs := [.ref a]) F hr hb hd (hx σ) I1 (.cons rfl .nil) q)
def tMakeS (C : Addr) (sp : Sp) (dvs : List V) (E : L2.St → XK) (t : TA) : TE := fun σ H Q => t σ H fun vs H1 => ∀ x dx, H1 x = none → H1 dx = none → dx ≠ x →
  sp (.ref x :: (vs ++ dvs)) (upd (upd H1 dx (.own x)) x (.ins C dx [])) (fun v H2 => v = .non ∧ Q (.ref x) H2) (E σ)
theorem run_makeS {pins : List (Addr × Obj)} {σ : L2.St} {H : Hp} {s : Shared} {Q : VK} {us : List Value} {vs : List V} (M : Mk X.K C f) (F : FnOk X.prog X.w X.K X.mg X.base CX k f fd ps sp) (hr : Room (k + 1) X.A) (hb : Binds X.K fd ps ds) (hd : Vals dvs ds)
    (hx : PassesAt CX X σ (E σ)) (I : Inv X pins σ H s) (r : Vals vs us)
    (h : ∀ x dx, H x = none → H dx = none → dx ≠ x → sp (.ref x :: (vs ++ dvs)) (upd (upd H dx (.own x)) x (.ins C dx [])) (fun v H2 => v = .non ∧ Q (.ref x) H2) (E σ)) :
    wpAny (model X.prog X.w) X.A (call (.ref C) us) (EP X pins σ Q) X.xe s := by
  have hq := h (s.heap.objs.size + 1) s.heap.objs.size (I.hok.fresh (Nat.le_succ _)) (I.hok.fresh (Nat.le_refl _)) (Nat.ne_of_lt (Nat.lt_succ_self _))
  have I2 := Inv.made (C := C) I
  have r2 : Vals (V.ref (s.heap.objs.size + 1) :: (vs ++ dvs)) (Value.ref (s.heap.objs.size + 1) :: (us ++ ds)) := .cons rfl (r.append hd)
  have hl : (Value.ref (s.heap.objs.size + 1) :: us ++ ds).length = ps.length := by
    have e := r2.length
    rw [F.len _ _ _ _ hq] at e
    exact e.symm
  refine wpAny_call (make_map (f := f) I.kIn M.makes M.init (beq_iff_eq.mp M.fn) (codeAny_mono (F.run _ X.stack _ _ ⟨Value.ref (s.heap.objs.size + 1) :: us, []⟩ (Value.ref (s.heap.objs.size + 1) :: (us ++ ds)) _ _ (E σ) (hr.make C us [])
    (I2.env0.make C us []) (hb _ (Value.ref (s.heap.objs.size + 1) :: us) I2.kIn hl) r2 hq) fun r s' hq' => ?_))
  cases r with
  | error e => exact hx pins _ _ e s' I2 hq'
  | ok fl =>
    cases fl with
    | ret u =>
      obtain ⟨v, H', I3, rv, ev, q3⟩ := I2.after hq'
      subst ev
      exact ⟨rv, ⟨V.ref (s.heap.objs.size + 1), H', I3, rfl, q3⟩⟩
    | next => exact False.elim hq'
    | brk => exact False.elim hq'
    | cont => exact False.elim hq'
theorem pe_makeS (M : Mk X.K C f) (F : FnOk X.prog X.w X.K X.mg X.base CX k f fd ps sp) (hr : Room (k + 1) X.A) (hg : Gl X x) (hm : X.mg x = some (.ref C)) (hb : Binds X.K fd ps ds) (hd : Vals dvs ds) (hx : ∀ σ, PassesAt CX X σ (E σ))
    (ha : PA X (e :: es) t) (hdb : (x == ("__debug__" : Str)) = false := by decide) (he : starEach (e :: es) X.env = (false, eval e X.env) :: starEach es X.env := by rfl) (hpl : (backTo pos (starEach es X.env)).any (·.1) = false := by rfl) :
    PE X (.Call (.Name x p) (e :: es) [] pos) (tMakeS C sp dvs E t) := by
  refine ⟨fun pins s σ H Q I h => ?_⟩
  refine wpAny_Call_Name_kw (ld_glob I hg hm ?_ hdb)
  refine PySem.W.callWith_K (h₀ := X.base) I.ok.mod.kin M.kp (thn (ha.run pos pins s σ H _ I h) fun us s1 ⟨vs, H1, I1, r, q⟩ => ⟨I1.kIn, ?_⟩) he hpl
  exact run_makeS M F hr hb hd (hx σ) I1 r q
end
end VX
namespace VC
open PySem PySem.Spec L2 VX
section
variable {B : Bs} {Γ : Cxt} {γ : Type} {φ : Ty γ} {H : Hp} {vs : List V} {Q : VK} {E : XK} {K : PySem.W.Frag} {L : ExTab} {W : WX}
def spX0  (L : ExTab)  (pre : Prop) (φ : Ty γ) (f : Except Exn γ) : Sp := fun vs H Q E => ∃ Hv, Same Hv H ∧ Reps Hv vs [] ∧ pre ∧ (∀ y, f = .ok y → ∀ v Hv' H', Grow Hv H Hv' H' → φ.rep Hv' v y → Q v H') ∧ ∀ e, f = .error e → ∀ cls d Hv' H', Grow Hv H Hv' H' → ExAt L Hv' e cls d → E cls d H'
theorem spX0_len   {pre : Prop} {f : Except Exn γ} (h : spX0 L pre φ f vs H Q E) : vs.length = 0 := by
  obtain ⟨_, _, r, _⟩ := h
  exact r.len
theorem spX0_body   {pre : Prop} {f : Except Exn γ} {N : List Str} {t : TS} (hl : 0 ≤ N.length) (h : spX0 L pre φ f vs H Q E) (hb : ∀ B0 : Bs, B0.n = N.length → pre → RtX L B0 φ (f) Q E → G B0 t [] { nx := fun _ H' => Q .non H', rt := Q }) : t { nx := fun _ H' => Q .non H', rt := Q } (L2.start N vs) H := by
  obtain ⟨Hv, vis, rs, p, k, kx⟩ := h
  exact hb ⟨H, Hv, fun _ => False, N.length⟩ rfl  p ⟨fun _ z => z, k, kx⟩ _ _ _ (wd_start vis rs hl)
theorem smx_call0   {pre : Prop} {f : Except Exn γ}  {t : TA} (ha : SmA B Γ t []) (hp : pre) : SmX L B Γ (tCallSD (spX0 L pre φ f) [] (WE W) t) φ (f) W := fun σ Hv H w Q k kx =>
  ha σ Hv H w _ fun us Hv1 H1 g1 rs => by
    show spX0 L pre φ f (us ++ []) H1 Q (WE W σ)
    rw [List.append_nil]
    exact ⟨Hv1, g1.vis, rs, hp, fun y q v Hv2 H2 g2 r2 => k y q _ _ _ (g1.trans g2) r2, fun e q cls d Hv2 H2 g2 x => kx e q cls d _ _ (g1.trans g2) x⟩
def spXO0  (L : ExTab)  (pre : Prop) (φ : Ty γ) (f : Except Exn (List γ)) : Sp := fun vs H Q E => ∃ Hv, Same Hv H ∧ Reps Hv vs [] ∧ pre ∧ (∀ y, f = .ok y → ∀ l us Hv' H', Grow Hv H Hv' H' → H l = none → H' l = some (.lst us) → Hv' l = none → Paired (φ.rep Hv') us y → Q (.ref l) H') ∧ ∀ e, f = .error e → ∀ cls d Hv' H', Grow Hv H Hv' H' → ExAt L Hv' e cls d → E cls d H'
theorem spXO0_len   {pre : Prop} {f : Except Exn (List γ)} (h : spXO0 L pre φ f vs H Q E) : vs.length = 0 := by
  obtain ⟨_, _, r, _⟩ := h
  exact r.len
theorem spXO0_body   {pre : Prop} {f : Except Exn (List γ)} {N : List Str} {t : TS} (hl : 0 ≤ N.length) (h : spXO0 L pre φ f vs H Q E) (hb : ∀ B0 : Bs, B0.n = N.length → pre → RtXO L B0 φ (f) Q E → G B0 t [] { nx := fun _ H' => Q .non H', rt := Q }) : t { nx := fun _ H' => Q .non H', rt := Q } (L2.start N vs) H := by
  obtain ⟨Hv, vis, rs, p, k, kx⟩ := h
  exact hb ⟨H, Hv, fun _ => False, N.length⟩ rfl  p ⟨fun _ z => z, k, kx⟩ _ _ _ (wd_start vis rs hl)
theorem smxo_call0   {pre : Prop} {f : Except Exn (List γ)}  {t : TA} (ha : SmA B Γ t []) (hp : pre) : SmXO L B Γ (tCallSD (spXO0 L pre φ f) [] (WE W) t) φ (f) W := fun σ Hv H w Q k kx =>
  ha σ Hv H w _ fun us Hv1 H1 g1 rs => by
    show spXO0 L pre φ f (us ++ []) H1 Q (WE W σ)
    rw [List.append_nil]
    exact ⟨Hv1, g1.vis, rs, hp, fun y q l us Hv2 H2 g2 e0 e1 e2 r2 => k y q _ _ _ _ (g1.trans g2) (Same.free g1.s e0) e1 e2 r2, fun e q cls d Hv2 H2 g2 x => kx e q cls d _ _ (g1.trans g2) x⟩
def spX1 {α1 : Type} (L : ExTab) (τ1 : Ty α1) (pre : α1 → Prop) (φ : Ty γ) (f : α1 → Except Exn γ) : Sp := fun vs H Q E => ∃ (x1 : α1), ∃ Hv, Same Hv H ∧ Reps Hv vs [⟨τ1, x1⟩] ∧ pre x1 ∧ (∀ y, f x1 = .ok y → ∀ v Hv' H', Grow Hv H Hv' H' → φ.rep Hv' v y → Q v H') ∧ ∀ e, f x1 = .error e → ∀ cls d Hv' H', Grow Hv H Hv' H' → ExAt L Hv' e cls d → E cls d H'
theorem spX1_len {α1 : Type} {τ1 : Ty α1} {pre : α1 → Prop} {f : α1 → Except Exn γ} (h : spX1 L τ1 pre φ f vs H Q E) : vs.length = 1 := by
  obtain ⟨_, _, _, r, _⟩ := h
  exact r.len
theorem spX1_body {α1 : Type} {τ1 : Ty α1} {pre : α1 → Prop} {f : α1 → Except Exn γ} {N : List Str} {t : TS} (hl : 1 ≤ N.length) (h : spX1 L τ1 pre φ f vs H Q E) (hb : ∀ B0 : Bs, B0.n = N.length → ∀ (x1 : α1), pre x1 → RtX L B0 φ (f x1) Q E → G B0 t [(0, .fz τ1 x1)] { nx := fun _ H' => Q .non H', rt := Q }) : t { nx := fun _ H' => Q .non H', rt := Q } (L2.start N vs) H := by
  obtain ⟨x1, Hv, vis, rs, p, k, kx⟩ := h
  exact hb ⟨H, Hv, fun _ => False, N.length⟩ rfl x1 p ⟨fun _ z => z, k, kx⟩ _ _ _ (wd_start vis rs hl)
theorem smx_call1 {α1 : Type} {τ1 : Ty α1} {pre : α1 → Prop} {f : α1 → Except Exn γ} {x1 : α1} {t : TA} (ha : SmA B Γ t [⟨τ1, x1⟩]) (hp : pre x1) : SmX L B Γ (tCallSD (spX1 L τ1 pre φ f) [] (WE W) t) φ (f x1) W := fun σ Hv H w Q k kx =>
  ha σ Hv H w _ fun us Hv1 H1 g1 rs => by
    show spX1 L τ1 pre φ f (us ++ []) H1 Q (WE W σ)
    rw [List.append_nil]
    exact ⟨x1, Hv1, g1.vis, rs, hp, fun y q v Hv2 H2 g2 r2 => k y q _ _ _ (g1.trans g2) r2, fun e q cls d Hv2 H2 g2 x => kx e q cls d _ _ (g1.trans g2) x⟩
theorem smx_meth1 {α1 : Type} {C : Addr} {sch : α1 → List (Str × As)}  {pre : α1 → Prop} {f : α1 → Except Exn γ} {m : Str} {x1 : α1} {ta : TE} {t : TA} (h : Sm B Γ ta (tObj C sch) x1) (ns : List Str) (hm : ixOf ns m = none) (hns : (sch x1).map (·.1) = ns) (ha : SmA B Γ t []) (hp : pre x1) : SmX L B Γ (tMethS C m (spX1 L (tObj C sch) pre φ f) [] (WE W) ta t) φ (f x1) W := fun σ Hv H w Q k kx =>
  h σ Hv H w _ fun v Hv1 H1 g1 rv => by
    have rv' := rv
    obtain ⟨a, dx, fs, ev, h1, r1⟩ := rv
    refine ⟨a, dx, fs, ev, g1.vis _ _ h1, r1.none (by rw [hns]; exact hm), ha σ Hv1 H1 (w.grow g1) _ fun us Hv2 H2 g2 rs => ?_⟩
    show spX1 L (tObj C sch) pre φ f (v :: (us ++ [])) H2 Q (WE W σ)
    rw [List.append_nil]
    exact ⟨x1, Hv2, g2.vis, .cons ((tObj C sch).mono g2.v rv') rs, hp, fun y q v Hv3 H3 g3 r3 => k y q _ _ _ ((g1.trans g2).trans g3) r3, fun e q cls d Hv3 H3 g3 x => kx e q cls d _ _ ((g1.trans g2).trans g3) x⟩
def spXO1 {α1 : Type} (L : ExTab) (τ1 : Ty α1) (pre : α1 → Prop) (φ : Ty γ) (f : α1 → Except Exn (List γ)) : Sp := fun vs H Q E => ∃ (x1 : α1), ∃ Hv, Same Hv H ∧ Reps Hv vs [⟨τ1, x1⟩] ∧ pre x1 ∧ (∀ y, f x1 = .ok y → ∀ l us Hv' H', Grow Hv H Hv' H' → H l = none → H' l = some (.lst us) → Hv' l = none → Paired (φ.rep Hv') us y → Q (.ref l) H') ∧ ∀ e, f x1 = .error e → ∀ cls d Hv' H', Grow Hv H Hv' H' → ExAt L Hv' e cls d → E cls d H'
theorem spXO1_len {α1 : Type} {τ1 : Ty α1} {pre : α1 → Prop} {f : α1 → Except Exn (List γ)} (h : spXO1 L τ1 pre φ f vs H Q E) : vs.length = 1 := by
  obtain ⟨_, _, _, r, _⟩ := h
  exact r.len
theorem spXO1_body {α1 : Type} {τ1 : Ty α1} {pre : α1 → Prop} {f : α1 → Except Exn (List γ)} {N : List Str} {t : TS} (hl : 1 ≤ N.length) (h : spXO1 L τ1 pre φ f vs H Q E) (hb : ∀ B0 : Bs, B0.n = N.length → ∀ (x1 : α1), pre x1 → RtXO L B0 φ (f x1) Q E → G B0 t [(0, .fz τ1 x1)] { nx := fun _ H' => Q .non H', rt := Q }) : t { nx := fun _ H' => Q .non H', rt := Q } (L2.start N vs) H := by
  obtain ⟨x1, Hv, vis, rs, p, k, kx⟩ := h
  exact hb ⟨H, Hv, fun _ => False, N.length⟩ rfl x1 p ⟨fun _ z => z, k, kx⟩ _ _ _ (wd_start vis rs hl)
theorem smxo_call1 {α1 : Type} {τ1 : Ty α1} {pre : α1 → Prop} {f : α1 → Except Exn (List γ)} {x1 : α1} {t : TA} (ha : SmA B Γ t [⟨τ1, x1⟩]) (hp : pre x1) : SmXO L B Γ (tCallSD (spXO1 L τ1 pre φ f) [] (WE W) t) φ (f x1) W := fun σ Hv H w Q k kx =>
  ha σ Hv H w _ fun us Hv1 H1 g1 rs => by
    show spXO1 L τ1 pre φ f (us ++ []) H1 Q (WE W σ)
    rw [List.append_nil]
    exact ⟨x1, Hv1, g1.vis, rs, hp, fun y q l us Hv2 H2 g2 e0 e1 e2 r2 => k y q _ _ _ _ (g1.trans g2) (Same.free g1.s e0) e1 e2 r2, fun e q cls d Hv2 H2 g2 x => kx e q cls d _ _ (g1.trans g2) x⟩
theorem smxo_meth1 {α1 : Type} {C : Addr} {sch : α1 → List (Str × As)}  {pre : α1 → Prop} {f : α1 → Except Exn (List γ)} {m : Str} {x1 : α1} {ta : TE} {t : TA} (h : Sm B Γ ta (tObj C sch) x1) (ns : List Str) (hm : ixOf ns m = none) (hns : (sch x1).map (·.1) = ns) (ha : SmA B Γ t []) (hp : pre x1) : SmXO L B Γ (tMethS C m (spXO1 L (tObj C sch) pre φ f) [] (WE W) ta t) φ (f x1) W := fun σ Hv H w Q k kx =>
  h σ Hv H w _ fun v Hv1 H1 g1 rv => by
    have rv' := rv
    obtain ⟨a, dx, fs, ev, h1, r1⟩ := rv
    refine ⟨a, dx, fs, ev, g1.vis _ _ h1, r1.none (by rw [hns]; exact hm), ha σ Hv1 H1 (w.grow g1) _ fun us Hv2 H2 g2 rs => ?_⟩
    show spXO1 L (tObj C sch) pre φ f (v :: (us ++ [])) H2 Q (WE W σ)
    rw [List.append_nil]
    exact ⟨x1, Hv2, g2.vis, .cons ((tObj C sch).mono g2.v rv') rs, hp, fun y q l us Hv3 H3 g3 e0 e1 e2 r3 => k y q _ _ _ _ ((g1.trans g2).trans g3) (Same.free (g1.trans g2).s e0) e1 e2 r3, fun e q cls d Hv3 H3 g3 x => kx e q cls d _ _ ((g1.trans g2).trans g3) x⟩
def spX2 {α1 : Type} {α2 : Type} (L : ExTab) (τ1 : Ty α1) (τ2 : Ty α2) (pre : α1 → α2 → Prop) (φ : Ty γ) (f : α1 → α2 → Except Exn γ) : Sp := fun vs H Q E => ∃ (x1 : α1) (x2 : α2), ∃ Hv, Same Hv H ∧ Reps Hv vs [⟨τ1, x1⟩, ⟨τ2, x2⟩] ∧ pre x1 x2 ∧ (∀ y, f x1 x2 = .ok y → ∀ v Hv' H', Grow Hv H Hv' H' → φ.rep Hv' v y → Q v H') ∧ ∀ e, f x1 x2 = .error e → ∀ cls d Hv' H', Grow Hv H Hv' H' → ExAt L Hv' e cls d → E cls d H'
theorem spX2_len {α1 : Type} {α2 : Type} {τ1 : Ty α1} {τ2 : Ty α2} {pre : α1 → α2 → Prop} {f : α1 → α2 → Except Exn γ} (h : spX2 L τ1 τ2 pre φ f vs H Q E) : vs.length = 2 := by
  obtain ⟨_, _, _, _, r, _⟩ := h
  exact r.len
theorem spX2_body {α1 : Type} {α2 : Type} {τ1 : Ty α1} {τ2 : Ty α2} {pre : α1 → α2 → Prop} {f : α1 → α2 → Except Exn γ} {N : List Str} {t : TS} (hl : 2 ≤ N.length) (h : spX2 L τ1 τ2 pre φ f vs H Q E) (hb : ∀ B0 : Bs, B0.n = N.length → ∀ (x1 : α1) (x2 : α2), pre x1 x2 → RtX L B0 φ (f x1 x2) Q E → G B0 t [(0, .fz τ1 x1), (1, .fz τ2 x2)] { nx := fun _ H' => Q .non H', rt := Q }) : t { nx := fun _ H' => Q .non H', rt := Q } (L2.start N vs) H := by
  obtain ⟨x1, x2, Hv, vis, rs, p, k, kx⟩ := h
  exact hb ⟨H, Hv, fun _ => False, N.length⟩ rfl x1 x2 p ⟨fun _ z => z, k, kx⟩ _ _ _ (wd_start vis rs hl)
theorem smx_call2 {α1 : Type} {α2 : Type} {τ1 : Ty α1} {τ2 : Ty α2} {pre : α1 → α2 → Prop} {f : α1 → α2 → Except Exn γ} {x1 : α1} {x2 : α2} {t : TA} (ha : SmA B Γ t [⟨τ1, x1⟩, ⟨τ2, x2⟩]) (hp : pre x1 x2) : SmX L B Γ (tCallSD (spX2 L τ1 τ2 pre φ f) [] (WE W) t) φ (f x1 x2) W := fun σ Hv H w Q k kx =>
  ha σ Hv H w _ fun us Hv1 H1 g1 rs => by
    show spX2 L τ1 τ2 pre φ f (us ++ []) H1 Q (WE W σ)
    rw [List.append_nil]
    exact ⟨x1, x2, Hv1, g1.vis, rs, hp, fun y q v Hv2 H2 g2 r2 => k y q _ _ _ (g1.trans g2) r2, fun e q cls d Hv2 H2 g2 x => kx e q cls d _ _ (g1.trans g2) x⟩
theorem smx_meth2 {α1 : Type} {α2 : Type} {C : Addr} {sch : α1 → List (Str × As)} {τ2 : Ty α2} {pre : α1 → α2 → Prop} {f : α1 → α2 → Except Exn γ} {m : Str} {x1 : α1} {x2 : α2} {ta : TE} {t : TA} (h : Sm B Γ ta (tObj C sch) x1) (ns : List Str) (hm : ixOf ns m = none) (hns : (sch x1).map (·.1) = ns) (ha : SmA B Γ t [⟨τ2, x2⟩]) (hp : pre x1 x2) : SmX L B Γ (tMethS C m (spX2 L (tObj C sch) τ2 pre φ f) [] (WE W) ta t) φ (f x1 x2) W := fun σ Hv H w Q k kx =>
  h σ Hv H w _ fun v Hv1 H1 g1 rv => by
    have rv' := rv
    obtain ⟨a, dx, fs, ev, h1, r1⟩ := rv
    refine ⟨a, dx, fs, ev, g1.vis _ _ h1, r1.none (by rw [hns]; exact hm), ha σ Hv1 H1 (w.grow g1) _ fun us Hv2 H2 g2 rs => ?_⟩
    show spX2 L (tObj C sch) τ2 pre φ f (v :: (us ++ [])) H2 Q (WE W σ)
    rw [List.append_nil]
    exact ⟨x1, x2, Hv2, g2.vis, .cons ((tObj C sch).mono g2.v rv') rs, hp, fun y q v Hv3 H3 g3 r3 => k y q _ _ _ ((g1.trans g2).trans g3) r3, fun e q cls d Hv3 H3 g3 x => kx e q cls d _ _ ((g1.trans g2).trans g3) x⟩
def spXO2 {α1 : Type} {α2 : Type} (L : ExTab) (τ1 : Ty α1) (τ2 : Ty α2) (pre : α1 → α2 → Prop) (φ : Ty γ) (f : α1 → α2 → Except Exn (List γ)) : Sp := fun vs H Q E => ∃ (x1 : α1) (x2 : α2), ∃ Hv, Same Hv H ∧ Reps Hv vs [⟨τ1, x1⟩, ⟨τ2, x2⟩] ∧ pre x1 x2 ∧ (∀ y, f x1 x2 = .ok y → ∀ l us Hv' H', Grow Hv H Hv' H' → H l = none → H' l = some (.lst us) → Hv' l = none → Paired (φ.rep Hv') us y → Q (.ref l) H') ∧ ∀ e, f x1 x2 = .error e → ∀ cls d Hv' H', Grow Hv H Hv' H' → ExAt L Hv' e cls d → E cls d H'
theorem spXO2_len {α1 : Type} {α2 : Type} {τ1 : Ty α1} {τ2 : Ty α2} {pre : α1 → α2 → Prop} {f : α1 → α2 → Except Exn (List γ)} (h : spXO2 L τ1 τ2 pre φ f vs H Q E) : vs.length = 2 := by
  obtain ⟨_, _, _, _, r, _⟩ := h
  exact r.len
theorem spXO2_body {α1 : Type} {α2 : Type} {τ1 : Ty α1} {τ2 : Ty α2} {pre : α1 → α2 → Prop} {f : α1 → α2 → Except Exn (List γ)} {N : List Str} {t : TS} (hl : 2 ≤ N.length) (h : spXO2 L τ1 τ2 pre φ f vs H Q E) (hb : ∀ B0 : Bs, B0.n = N.length → ∀ (x1 : α1) (x2 : α2), pre x1 x2 → RtXO L B0 φ (f x1 x2) Q E → G B0 t [(0, .fz τ1 x1), (1, .fz τ2 x2)] { nx := fun _ H' => Q .non H', rt := Q }) : t { nx := fun _ H' => Q .non H', rt := Q } (L2.start N vs) H := by
  obtain ⟨x1, x2, Hv, vis, rs, p, k, kx⟩ := h
  exact hb ⟨H, Hv, fun _ => False, N.length⟩ rfl x1 x2 p ⟨fun _ z => z, k, kx⟩ _ _ _ (wd_start vis rs hl)
theorem smxo_call2 {α1 : Type} {α2 : Type} {τ1 : Ty α1} {τ2 : Ty α2} {pre : α1 → α2 → Prop} {f : α1 → α2 → Except Exn (List γ)} {x1 : α1} {x2 : α2} {t : TA} (ha : SmA B Γ t [⟨τ1, x1⟩, ⟨τ2, x2⟩]) (hp : pre x1 x2) : SmXO L B Γ (tCallSD (spXO2 L τ1 τ2 pre φ f) [] (WE W) t) φ (f x1 x2) W := fun σ Hv H w Q k kx =>
  ha σ Hv H w _ fun us Hv1 H1 g1 rs => by
    show spXO2 L τ1 τ2 pre φ f (us ++ []) H1 Q (WE W σ)
    rw [List.append_nil]
    exact ⟨x1, x2, Hv1, g1.vis, rs, hp, fun y q l us Hv2 H2 g2 e0 e1 e2 r2 => k y q _ _ _ _ (g1.trans g2) (Same.free g1.s e0) e1 e2 r2, fun e q cls d Hv2 H2 g2 x => kx e q cls d _ _ (g1.trans g2) x⟩
theorem smxo_meth2 {α1 : Type} {α2 : Type} {C : Addr} {sch : α1 → List (Str × As)} {τ2 : Ty α2} {pre : α1 → α2 → Prop} {f : α1 → α2 → Except Exn (List γ)} {m : Str} {x1 : α1} {x2 : α2} {ta : TE} {t : TA} (h : Sm B Γ ta (tObj C sch) x1) (ns : List Str) (hm : ixOf ns m = none) (hns : (sch x1).map (·.1) = ns) (ha : SmA B Γ t [⟨τ2, x2⟩]) (hp : pre x1 x2) : SmXO L B Γ (tMethS C m (spXO2 L (tObj C sch) τ2 pre φ f) [] (WE W) ta t) φ (f x1 x2) W := fun σ Hv H w Q k kx =>
  h σ Hv H w _ fun v Hv1 H1 g1 rv => by
    have rv' := rv
    obtain ⟨a, dx, fs, ev, h1, r1⟩ := rv
    refine ⟨a, dx, fs, ev, g1.vis _ _ h1, r1.none (by rw [hns]; exact hm), ha σ Hv1 H1 (w.grow g1) _ fun us Hv2 H2 g2 rs => ?_⟩
    show spXO2 L (tObj C sch) τ2 pre φ f (v :: (us ++ [])) H2 Q (WE W σ)
    rw [List.append_nil]
    exact ⟨x1, x2, Hv2, g2.vis, .cons ((tObj C sch).mono g2.v rv') rs, hp, fun y q l us Hv3 H3 g3 e0 e1 e2 r3 => k y q _ _ _ _ ((g1.trans g2).trans g3) (Same.free (g1.trans g2).s e0) e1 e2 r3, fun e q cls d Hv3 H3 g3 x => kx e q cls d _ _ ((g1.trans g2).trans g3) x⟩
def spX3 {α1 : Type} {α2 : Type} {α3 : Type} (L : ExTab) (τ1 : Ty α1) (τ2 : Ty α2) (τ3 : Ty α3) (pre : α1 → α2 → α3 → Prop) (φ : Ty γ) (f : α1 → α2 → α3 → Except Exn γ) : Sp := fun vs H Q E => ∃ (x1 : α1) (x2 : α2) (x3 : α3), ∃ Hv, Same Hv H ∧ Reps Hv vs [⟨τ1, x1⟩, ⟨τ2, x2⟩, ⟨τ3, x3⟩] ∧ pre x1 x2 x3 ∧ (∀ y, f x1 x2 x3 = .ok y → ∀ v Hv' H', Grow Hv H Hv' H' → φ.rep Hv' v y → Q v H') ∧ ∀ e, f x1 x2 x3 = .error e → ∀ cls d Hv' H', Grow Hv H Hv' H' → ExAt L Hv' e cls d → E cls d H'
theorem spX3_len {α1 : Type} {α2 : Type} {α3 : Type} {τ1 : Ty α1} {τ2 : Ty α2} {τ3 : Ty α3} {pre : α1 → α2 → α3 → Prop} {f : α1 → α2 → α3 → Except Exn γ} (h : spX3 L τ1 τ2 τ3 pre φ f vs H Q E) : vs.length = 3 := by
  obtain ⟨_, _, _, _, _, r, _⟩ := h
  exact r.len
theorem spX3_body {α1 : Type} {α2 : Type} {α3 : Type} {τ1 : Ty α1} {τ2 : Ty α2} {τ3 : Ty α3} {pre : α1 → α2 → α3 → Prop} {f : α1 → α2 → α3 → Except Exn γ} {N : List Str} {t : TS} (hl : 3 ≤ N.length) (h : spX3 L τ1 τ2 τ3 pre φ f vs H Q E) (hb : ∀ B0 : Bs, B0.n = N.length → ∀ (x1 : α1) (x2 : α2) (x3 : α3), pre x1 x2 x3 → RtX L B0 φ (f x1 x2 x3) Q E → G B0 t [(0, .fz τ1 x1), (1, .fz τ2 x2), (2, .fz τ3 x3)] { nx := fun _ H' => Q .non H', rt := Q }) : t { nx := fun _ H' => Q .non H', rt := Q } (L2.start N vs) H := by
  obtain ⟨x1, x2, x3, Hv, vis, rs, p, k, kx⟩ := h
  exact hb ⟨H, Hv, fun _ => False, N.length⟩ rfl x1 x2 x3 p ⟨fun _ z => z, k, kx⟩ _ _ _ (wd_start vis rs hl)
theorem smx_call3 {α1 : Type} {α2 : Type} {α3 : Type} {τ1 : Ty α1} {τ2 : Ty α2} {τ3 : Ty α3} {pre : α1 → α2 → α3 → Prop} {f : α1 → α2 → α3 → Except Exn γ} {x1 : α1} {x2 : α2} {x3 : α3} {t : TA} (ha : SmA B Γ t [⟨τ1, x1⟩, ⟨τ2, x2⟩, ⟨τ3, x3⟩]) (hp : pre x1 x2 x3) : SmX L B Γ (tCallSD (spX3 L τ1 τ2 τ3 pre φ f) [] (WE W) t) φ (f x1 x2 x3) W := fun σ Hv H w Q k kx =>
  ha σ Hv H w _ fun us Hv1 H1 g1 rs => by
    show spX3 L τ1 τ2 τ3 pre φ f (us ++ []) H1 Q (WE W σ)
    rw [List.append_nil]
    exact ⟨x1, x2, x3, Hv1, g1.vis, rs, hp, fun y q v Hv2 H2 g2 r2 => k y q _ _ _ (g1.trans g2) r2, fun e q cls d Hv2 H2 g2 x => kx e q cls d _ _ (g1.trans g2) x⟩
theorem smx_meth3 {α1 : Type} {α2 : Type} {α3 : Type} {C : Addr} {sch : α1 → List (Str × As)} {τ2 : Ty α2} {τ3 : Ty α3} {pre : α1 → α2 → α3 → Prop} {f : α1 → α2 → α3 → Except Exn γ} {m : Str} {x1 : α1} {x2 : α2} {x3 : α3} {ta : TE} {t : TA} (h : Sm B Γ ta (tObj C sch) x1) (ns : List Str) (hm : ixOf ns m = none) (hns : (sch x1).map (·.1) = ns) (ha : SmA B Γ t [⟨τ2, x2⟩, ⟨τ3, x3⟩]) (hp : pre x1 x2 x3) : SmX L B Γ (tMethS C m (spX3 L (tObj C sch) τ2 τ3 pre φ f) [] (WE W) ta t) φ (f x1 x2 x3) W := fun σ Hv H w Q k kx =>
  h σ Hv H w _ fun v Hv1 H1 g1 rv => by
    have rv' := rv
    obtain ⟨a, dx, fs, ev, h1, r1⟩ := rv
    refine ⟨a, dx, fs, ev, g1.vis _ _ h1, r1.none (by rw [hns]; exact hm), ha σ Hv1 H1 (w.grow g1) _ fun us Hv2 H2 g2 rs => ?_⟩
    show spX3 L (tObj C sch) τ2 τ3 pre φ f (v :: (us ++ [])) H2 Q (WE W σ)
    rw [List.append_nil]
    exact ⟨x1, x2, x3, Hv2, g2.vis, .cons ((tObj C sch).mono g2.v rv') rs, hp, fun y q v Hv3 H3 g3 r3 => k y q _ _ _ ((g1.trans g2).trans g3) r3, fun e q cls d Hv3 H3 g3 x => kx e q cls d _ _ ((g1.trans g2).trans g3) x⟩
def spXO3 {α1 : Type} {α2 : Type} {α3 : Type} (L : ExTab) (τ1 : Ty α1) (τ2 : Ty α2) (τ3 : Ty α3) (pre : α1 → α2 → α3 → Prop) (φ : Ty γ) (f : α1 → α2 → α3 → Except Exn (List γ)) : Sp := fun vs H Q E => ∃ (x1 : α1) (x2 : α2) (x3 : α3), ∃ Hv, Same Hv H ∧ Reps Hv vs [⟨τ1, x1⟩, ⟨τ2, x2⟩, ⟨τ3, x3⟩] ∧ pre x1 x2 x3 ∧ (∀ y, f x1 x2 x3 = .ok y → ∀ l us Hv' H', Grow Hv H Hv' H' → H l = none → H' l = some (.lst us) → Hv' l = none → Paired (φ.rep Hv') us y → Q (.ref l) H') ∧ ∀ e, f x1 x2 x3 = .error e → ∀ cls d Hv' H', Grow Hv H Hv' H' → ExAt L Hv' e cls d → E cls d H'
theorem spXO3_len {α1 : Type} {α2 : Type} {α3 : Type} {τ1 : Ty α1} {τ2 : Ty α2} {τ3 : Ty α3} {pre : α1 → α2 → α3 → Prop} {f : α1 → α2 → α3 → Except Exn (List γ)} (h : spXO3 L τ1 τ2 τ3 pre φ f vs H Q E) : vs.length = 3 := by
  obtain ⟨_, _, _, _, _, r, _⟩ := h
  exact r.len
theorem spXO3_body {α1 : Type} {α2 : Type} {α3 : Type} {τ1 : Ty α1} {τ2 : Ty α2} {τ3 : Ty α3} {pre : α1 → α2 → α3 → Prop} {f : α1 → α2 → α3 → Except Exn (List γ)} {N : List Str} {t : TS} (hl : 3 ≤ N.length) (h : spXO3 L τ1 τ2 τ3 pre φ f vs H Q E) (hb : ∀ B0 : Bs, B0.n = N.length → ∀ (x1 : α1) (x2 : α2) (x3 : α3), pre x1 x2 x3 → RtXO L B0 φ (f x1 x2 x3) Q E → G B0 t [(0, .fz τ1 x1), (1, .fz τ2 x2), (2, .fz τ3 x3)] { nx := fun _ H' => Q .non H', rt := Q }) : t { nx := fun _ H' => Q .non H', rt := Q } (L2.start N vs) H := by
  obtain ⟨x1, x2, x3, Hv, vis, rs, p, k, kx⟩ := h
  exact hb ⟨H, Hv, fun _ => False, N.length⟩ rfl x1 x2 x3 p ⟨fun _ z => z, k, kx⟩ _ _ _ (wd_start vis rs hl)
theorem smxo_call3 {α1 : Type} {α2 : Type} {α3 : Type} {τ1 : Ty α1} {τ2 : Ty α2} {τ3 : Ty α3} {pre : α1 → α2 → α3 → Prop} {f : α1 → α2 → α3 → Except Exn (List γ)} {x1 : α1} {x2 : α2} {x3 : α3} {t : TA} (ha : SmA B Γ t [⟨τ1, x1⟩, ⟨τ2, x2⟩, ⟨τ3, x3⟩]) (hp : pre x1 x2 x3) : SmXO L B Γ (tCallSD (spXO3 L τ1 τ2 τ3 pre φ f) [] (WE W) t) φ (f x1 x2 x3) W := fun σ Hv H w Q k kx =>
  ha σ Hv H w _ fun us Hv1 H1 g1 rs => by
    show spXO3 L τ1 τ2 τ3 pre φ f (us ++ []) H1 Q (WE W σ)
    rw [List.append_nil]
    exact ⟨x1, x2, x3, Hv1, g1.vis, rs, hp, fun y q l us Hv2 H2 g2 e0 e1 e2 r2 => k y q _ _ _ _ (g1.trans g2) (Same.free g1.s e0) e1 e2 r2, fun e q cls d Hv2 H2 g2 x => kx e q cls d _ _ (g1.trans g2) x⟩
theorem smxo_meth3 {α1 : Type} {α2 : Type} {α3 : Type} {C : Addr} {sch : α1 → List (Str × As)} {τ2 : Ty α2} {τ3 : Ty α3} {pre : α1 → α2 → α3 → Prop} {f : α1 → α2 → α3 → Except Exn (List γ)} {m : Str} {x1 : α1} {x2 : α2} {x3 : α3} {ta : TE} {t : TA} (h : Sm B Γ ta (tObj C sch) x1) (ns : List Str) (hm : ixOf ns m = none) (hns : (sch x1).map (·.1) = ns) (ha : SmA B Γ t [⟨τ2, x2⟩, ⟨τ3, x3⟩]) (hp : pre x1 x2 x3) : SmXO L B Γ (tMethS C m (spXO3 L (tObj C sch) τ2 τ3 pre φ f) [] (WE W) ta t) φ (f x1 x2 x3) W := fun σ Hv H w Q k kx =>
  h σ Hv H w _ fun v Hv1 H1 g1 rv => by
    have rv' := rv
    obtain ⟨a, dx, fs, ev, h1, r1⟩ := rv
    refine ⟨a, dx, fs, ev, g1.vis _ _ h1, r1.none (by rw [hns]; exact hm), ha σ Hv1 H1 (w.grow g1) _ fun us Hv2 H2 g2 rs => ?_⟩
    show spXO3 L (tObj C sch) τ2 τ3 pre φ f (v :: (us ++ [])) H2 Q (WE W σ)
    rw [List.append_nil]
    exact ⟨x1, x2, x3, Hv2, g2.vis, .cons ((tObj C sch).mono g2.v rv') rs, hp, fun y q l us Hv3 H3 g3 e0 e1 e2 r3 => k y q _ _ _ _ ((g1.trans g2).trans g3) (Same.free (g1.trans g2).s e0) e1 e2 r3, fun e q cls d Hv3 H3 g3 x => kx e q cls d _ _ ((g1.trans g2).trans g3) x⟩
def spX4 {α1 : Type} {α2 : Type} {α3 : Type} {α4 : Type} (L : ExTab) (τ1 : Ty α1) (τ2 : Ty α2) (τ3 : Ty α3) (τ4 : Ty α4) (pre : α1 → α2 → α3 → α4 → Prop) (φ : Ty γ) (f : α1 → α2 → α3 → α4 → Except Exn γ) : Sp := fun vs H Q E => ∃ (x1 : α1) (x2 : α2) (x3 : α3) (x4 : α4), ∃ Hv, Same Hv H ∧ Reps Hv vs [⟨τ1, x1⟩, ⟨τ2, x2⟩, ⟨τ3, x3⟩, ⟨τ4, x4⟩] ∧ pre x1 x2 x3 x4 ∧ (∀ y, f x1 x2 x3 x4 = .ok y → ∀ v Hv' H', Grow Hv H Hv' H' → φ.rep Hv' v y → Q v H') ∧ ∀ e, f x1 x2 x3 x4 = .error e → ∀ cls d Hv' H', Grow Hv H Hv' H' → ExAt L Hv' e cls d → E cls d H'
theorem spX4_len {α1 : Type} {α2 : Type} {α3 : Type} {α4 : Type} {τ1 : Ty α1} {τ2 : Ty α2} {τ3 : Ty α3} {τ4 : Ty α4} {pre : α1 → α2 → α3 → α4 → Prop} {f : α1 → α2 → α3 → α4 → Except Exn γ} (h : spX4 L τ1 τ2 τ3 τ4 pre φ f vs H Q E) : vs.length = 4 := by
  obtain ⟨_, _, _, _, _, _, r, _⟩ := h
  exact r.len
theorem spX4_body {α1 : Type} {α2 : Type} {α3 : Type} {α4 : Type} {τ1 : Ty α1} {τ2 : Ty α2} {τ3 : Ty α3} {τ4 : Ty α4} {pre : α1 → α2 → α3 → α4 → Prop} {f : α1 → α2 → α3 → α4 → Except Exn γ} {N : List Str} {t : TS} (hl : 4 ≤ N.length) (h : spX4 L τ1 τ2 τ3 τ4 pre φ f vs H Q E) (hb : ∀ B0 : Bs, B0.n = N.length → ∀ (x1 : α1) (x2 : α2) (x3 : α3) (x4 : α4), pre x1 x2 x3 x4 → RtX L B0 φ (f x1 x2 x3 x4) Q E → G B0 t [(0, .fz τ1 x1), (1, .fz τ2 x2), (2, .fz τ3 x3), (3, .fz τ4 x4)] { nx := fun _ H' => Q .non H', rt := Q }) : t { nx := fun _ H' => Q .non H', rt := Q } (L2.start N vs) H := by
  obtain ⟨x1, x2, x3, x4, Hv, vis, rs, p, k, kx⟩ := h
  exact hb ⟨H, Hv, fun _ => False, N.length⟩ rfl x1 x2 x3 x4 p ⟨fun _ z => z, k, kx⟩ _ _ _ (wd_start vis rs hl)
theorem smx_call4 {α1 : Type} {α2 : Type} {α3 : Type} {α4 : Type} {τ1 : Ty α1} {τ2 : Ty α2} {τ3 : Ty α3} {τ4 : Ty α4} {pre : α1 → α2 → α3 → α4 → Prop} {f : α1 → α2 → α3 → α4 → Except Exn γ} {x1 : α1} {x2 : α2} {x3 : α3} {x4 : α4} {t : TA} (ha : SmA B Γ t [⟨τ1, x1⟩, ⟨τ2, x2⟩, ⟨τ3, x3⟩, ⟨τ4, x4⟩]) (hp : pre x1 x2 x3 x4) : SmX L B Γ (tCallSD (spX4 L τ1 τ2 τ3 τ4 pre φ f) [] (WE W) t) φ (f x1 x2 x3 x4) W := fun σ Hv H w Q k kx =>
  ha σ Hv H w _ fun us Hv1 H1 g1 rs => by
    show spX4 L τ1 τ2 τ3 τ4 pre φ f (us ++ []) H1 Q (WE W σ)
    rw [List.append_nil]
    exact ⟨x1, x2, x3, x4, Hv1, g1.vis, rs, hp, fun y q v Hv2 H2 g2 r2 => k y q _ _ _ (g1.trans g2) r2, fun e q cls d Hv2 H2 g2 x => kx e q cls d _ _ (g1.trans g2) x⟩
theorem smx_meth4 {α1 : Type} {α2 : Type} {α3 : Type} {α4 : Type} {C : Addr} {sch : α1 → List (Str × As)} {τ2 : Ty α2} {τ3 : Ty α3} {τ4 : Ty α4} {pre : α1 → α2 → α3 → α4 → Prop} {f : α1 → α2 → α3 → α4 → Except Exn γ} {m : Str} {x1 : α1} {x2 : α2} {x3 : α3} {x4 : α4} {ta : TE} {t : TA} (h : Sm B Γ ta (tObj C sch) x1) (ns : List Str) (hm : ixOf ns m = none) (hns : (sch x1).map (·.1) = ns) (ha : SmA B Γ t [⟨τ2, x2⟩, ⟨τ3, x3⟩, ⟨τ4, x4⟩]) (hp : pre x1 x2 x3 x4) : SmX L B Γ (tMethS C m (spX4 L (tObj C sch) τ2 τ3 τ4 pre φ f) [] (WE W) ta t) φ (f x1 x2 x3 x4) W := fun σ Hv H w Q k kx =>
  h σ Hv H w _ fun v Hv1 H1 g1 rv => by
    have rv' := rv
    obtain ⟨a, dx, fs, ev, h1, r1⟩ := rv
    refine ⟨a, dx, fs, ev, g1.vis _ _ h1, r1.none (by rw [hns]; exact hm), ha σ Hv1 H1 (w.grow g1) _ fun us Hv2 H2 g2 rs => ?_⟩
    show spX4 L (tObj C sch) τ2 τ3 τ4 pre φ f (v :: (us ++ [])) H2 Q (WE W σ)
    rw [List.append_nil]
    exact ⟨x1, x2, x3, x4, Hv2, g2.vis, .cons ((tObj C sch).mono g2.v rv') rs, hp, fun y q v Hv3 H3 g3 r3 => k y q _ _ _ ((g1.trans g2).trans g3) r3, fun e q cls d Hv3 H3 g3 x => kx e q cls d _ _ ((g1.trans g2).trans g3) x⟩
def spXO4 {α1 : Type} {α2 : Type} {α3 : Type} {α4 : Type} (L : ExTab) (τ1 : Ty α1) (τ2 : Ty α2) (τ3 : Ty α3) (τ4 : Ty α4) (pre : α1 → α2 → α3 → α4 → Prop) (φ : Ty γ) (f : α1 → α2 → α3 → α4 → Except Exn (List γ)) : Sp := fun vs H Q E => ∃ (x1 : α1) (x2 : α2) (x3 : α3) (x4 : α4), ∃ Hv, Same Hv H ∧ Reps Hv vs [⟨τ1, x1⟩, ⟨τ2, x2⟩, ⟨τ3, x3⟩, ⟨τ4, x4⟩] ∧ pre x1 x2 x3 x4 ∧ (∀ y, f x1 x2 x3 x4 = .ok y → ∀ l us Hv' H', Grow Hv H Hv' H' → H l = none → H' l = some (.lst us) → Hv' l = none → Paired (φ.rep Hv') us y → Q (.ref l) H') ∧ ∀ e, f x1 x2 x3 x4 = .error e → ∀ cls d Hv' H', Grow Hv H Hv' H' → ExAt L Hv' e cls d → E cls d H'
theorem spXO4_len {α1 : Type} {α2 : Type} {α3 : Type} {α4 : Type} {τ1 : Ty α1} {τ2 : Ty α2} {τ3 : Ty α3} {τ4 : Ty α4} {pre : α1 → α2 → α3 → α4 → Prop} {f : α1 → α2 → α3 → α4 → Except Exn (List γ)} (h : spXO4 L τ1 τ2 τ3 τ4 pre φ f vs H Q E) : vs.length = 4 := by
  obtain ⟨_, _, _, _, _, _, r, _⟩ := h
  exact r.len
theorem spXO4_body {α1 : Type} {α2 : Type} {α3 : Type} {α4 : Type} {τ1 : Ty α1} {τ2 : Ty α2} {τ3 : Ty α3} {τ4 : Ty α4} {pre : α1 → α2 → α3 → α4 → Prop} {f : α1 → α2 → α3 → α4 → Except Exn (List γ)} {N : List Str} {t : TS} (hl : 4 ≤ N.length) (h : spXO4 L τ1 τ2 τ3 τ4 pre φ f vs H Q E) (hb : ∀ B0 : Bs, B0.n = N.length → ∀ (x1 : α1) (x2 : α2) (x3 : α3) (x4 : α4), pre x1 x2 x3 x4 → RtXO L B0 φ (f x1 x2 x3 x4) Q E → G B0 t [(0, .fz τ1 x1), (1, .fz τ2 x2), (2, .fz τ3 x3), (3, .fz τ4 x4)] { nx := fun _ H' => Q .non H', rt := Q }) : t { nx := fun _ H' => Q .non H', rt := Q } (L2.start N vs) H := by
  obtain ⟨x1, x2, x3, x4, Hv, vis, rs, p, k, kx⟩ := h
  exact hb ⟨H, Hv, fun _ => False, N.length⟩ rfl x1 x2 x3 x4 p ⟨fun _ z => z, k, kx⟩ _ _ _ (wd_start vis rs hl)
theorem smxo_call4 {α1 : Type} {α2 : Type} {α3 : Type} {α4 : Type} {τ1 : Ty α1} {τ2 : Ty α2} {τ3 : Ty α3} {τ4 : Ty α4} {pre : α1 → α2 → α3 → α4 → Prop} {f : α1 → α2 → α3 → α4 → Except Exn (List γ)} {x1 : α1} {x2 : α2} {x3 : α3} {x4 : α4} {t : TA} (ha : SmA B Γ t [⟨τ1, x1⟩, ⟨τ2, x2⟩, ⟨τ3, x3⟩, ⟨τ4, x4⟩]) (hp : pre x1 x2 x3 x4) : SmXO L B Γ (tCallSD (spXO4 L τ1 τ2 τ3 τ4 pre φ f) [] (WE W) t) φ (f x1 x2 x3 x4) W := fun σ Hv H w Q k kx =>
  ha σ Hv H w _ fun us Hv1 H1 g1 rs => by
    show spXO4 L τ1 τ2 τ3 τ4 pre φ f (us ++ []) H1 Q (WE W σ)
    rw [List.append_nil]
    exact ⟨x1, x2, x3, x4, Hv1, g1.vis, rs, hp, fun y q l us Hv2 H2 g2 e0 e1 e2 r2 => k y q _ _ _ _ (g1.trans g2) (Same.free g1.s e0) e1 e2 r2, fun e q cls d Hv2 H2 g2 x => kx e q cls d _ _ (g1.trans g2) x⟩
theorem smxo_meth4 {α1 : Type} {α2 : Type} {α3 : Type} {α4 : Type} {C : Addr} {sch : α1 → List (Str × As)} {τ2 : Ty α2} {τ3 : Ty α3} {τ4 : Ty α4} {pre : α1 → α2 → α3 → α4 → Prop} {f : α1 → α2 → α3 → α4 → Except Exn (List γ)} {m : Str} {x1 : α1} {x2 : α2} {x3 : α3} {x4 : α4} {ta : TE} {t : TA} (h : Sm B Γ ta (tObj C sch) x1) (ns : List Str) (hm : ixOf ns m = none) (hns : (sch x1).map (·.1) = ns) (ha : SmA B Γ t [⟨τ2, x2⟩, ⟨τ3, x3⟩, ⟨τ4, x4⟩]) (hp : pre x1 x2 x3 x4) : SmXO L B Γ (tMethS C m (spXO4 L (tObj C sch) τ2 τ3 τ4 pre φ f) [] (WE W) ta t) φ (f x1 x2 x3 x4) W := fun σ Hv H w Q k kx =>
  h σ Hv H w _ fun v Hv1 H1 g1 rv => by
    have rv' := rv
    obtain ⟨a, dx, fs, ev, h1, r1⟩ := rv
    refine ⟨a, dx, fs, ev, g1.vis _ _ h1, r1.none (by rw [hns]; exact hm), ha σ Hv1 H1 (w.grow g1) _ fun us Hv2 H2 g2 rs => ?_⟩
    show spXO4 L (tObj C sch) τ2 τ3 τ4 pre φ f (v :: (us ++ [])) H2 Q (WE W σ)
    rw [List.append_nil]
    exact ⟨x1, x2, x3, x4, Hv2, g2.vis, .cons ((tObj C sch).mono g2.v rv') rs, hp, fun y q l us Hv3 H3 g3 e0 e1 e2 r3 => k y q _ _ _ _ ((g1.trans g2).trans g3) (Same.free (g1.trans g2).s e0) e1 e2 r3, fun e q cls d Hv3 H3 g3 x => kx e q cls d _ _ ((g1.trans g2).trans g3) x⟩
def spX5 {α1 : Type} {α2 : Type} {α3 : Type} {α4 : Type} {α5 : Type} (L : ExTab) (τ1 : Ty α1) (τ2 : Ty α2) (τ3 : Ty α3) (τ4 : Ty α4) (τ5 : Ty α5) (pre : α1 → α2 → α3 → α4 → α5 → Prop) (φ : Ty γ) (f : α1 → α2 → α3 → α4 → α5 → Except Exn γ) : Sp := fun vs H Q E => ∃ (x1 : α1) (x2 : α2) (x3 : α3) (x4 : α4) (x5 : α5), ∃ Hv, Same Hv H ∧ Reps Hv vs [⟨τ1, x1⟩, ⟨τ2, x2⟩, ⟨τ3, x3⟩, ⟨τ4, x4⟩, ⟨τ5, x5⟩] ∧ pre x1 x2 x3 x4 x5 ∧ (∀ y, f x1 x2 x3 x4 x5 = .ok y → ∀ v Hv' H', Grow Hv H Hv' H' → φ.rep Hv' v y → Q v H') ∧ ∀ e, f x1 x2 x3 x4 x5 = .error e → ∀ cls d Hv' H', Grow Hv H Hv' H' → ExAt L Hv' e cls d → E cls d H'
theorem spX5_len {α1 : Type} {α2 : Type} {α3 : Type} {α4 : Type} {α5 : Type} {τ1 : Ty α1} {τ2 : Ty α2} {τ3 : Ty α3} {τ4 : Ty α4} {τ5 : Ty α5} {pre : α1 → α2 → α3 → α4 → α5 → Prop} {f : α1 → α2 → α3 → α4 → α5 → Except Exn γ} (h : spX5 L τ1 τ2 τ3 τ4 τ5 pre φ f vs H Q E) : vs.length = 5 := by
  obtain ⟨_, _, _, _, _, _, _, r, _⟩ := h
  exact r.len
theorem spX5_body {α1 : Type} {α2 : Type} {α3 : Type} {α4 : Type} {α5 : Type} {τ1 : Ty α1} {τ2 : Ty α2} {τ3 : Ty α3} {τ4 : Ty α4} {τ5 : Ty α5} {pre : α1 → α2 → α3 → α4 → α5 → Prop} {f : α1 → α2 → α3 → α4 → α5 → Except Exn γ} {N : List Str} {t : TS} (hl : 5 ≤ N.length) (h : spX5 L τ1 τ2 τ3 τ4 τ5 pre φ f vs H Q E) (hb : ∀ B0 : Bs, B0.n = N.length → ∀ (x1 : α1) (x2 : α2) (x3 : α3) (x4 : α4) (x5 : α5), pre x1 x2 x3 x4 x5 → RtX L B0 φ (f x1 x2 x3 x4 x5) Q E → G B0 t [(0, .fz τ1 x1), (1, .fz τ2 x2), (2, .fz τ3 x3), (3, .fz τ4 x4), (4, .fz τ5 x5)] { nx := fun _ H' => Q .non H', rt := Q }) : t { nx := fun _ H' => Q .non H', rt := Q } (L2.start N vs) H := by
  obtain ⟨x1, x2, x3, x4, x5, Hv, vis, rs, p, k, kx⟩ := h
  exact hb ⟨H, Hv, fun _ => False, N.length⟩ rfl x1 x2 x3 x4 x5 p ⟨fun _ z => z, k, kx⟩ _ _ _ (wd_start vis rs hl)
theorem smx_call5 {α1 : Type} {α2 : Type} {α3 : Type} {α4 : Type} {α5 : Type} {τ1 : Ty α1} {τ2 : Ty α2} {τ3 : Ty α3} {τ4 : Ty α4} {τ5 : Ty α5} {pre : α1 → α2 → α3 → α4 → α5 → Prop} {f : α1 → α2 → α3 → α4 → α5 → Except Exn γ} {x1 : α1} {x2 : α2} {x3 : α3} {x4 : α4} {x5 : α5} {t : TA} (ha : SmA B Γ t [⟨τ1, x1⟩, ⟨τ2, x2⟩, ⟨τ3, x3⟩, ⟨τ4, x4⟩, ⟨τ5, x5⟩]) (hp : pre x1 x2 x3 x4 x5) : SmX L B Γ (tCallSD (spX5 L τ1 τ2 τ3 τ4 τ5 pre φ f) [] (WE W) t) φ (f x1 x2 x3 x4 x5) W := fun σ Hv H w Q k kx =>
  ha σ Hv H w _ fun us Hv1 H1 g1 rs => by
    show spX5 L τ1 τ2 τ3 τ4 τ5 pre φ f (us ++ []) H1 Q (WE W σ)
    rw [List.append_nil]
    exact ⟨x1, x2, x3, x4, x5, Hv1, g1.vis, rs, hp, fun y q v Hv2 H2 g2 r2 => k y q _ _ _ (g1.trans g2) r2, fun e q cls d Hv2 H2 g2 x => kx e q cls d _ _ (g1.trans g2) x⟩
theorem smx_meth5 {α1 : Type} {α2 : Type} {α3 : Type} {α4 : Type} {α5 : Type} {C : Addr} {sch : α1 → List (Str × As)} {τ2 : Ty α2} {τ3 : Ty α3} {τ4 : Ty α4} {τ5 : Ty α5} {pre : α1 → α2 → α3 → α4 → α5 → Prop} {f : α1 → α2 → α3 → α4 → α5 → Except Exn γ} {m : Str} {x1 : α1} {x2 : α2} {x3 : α3} {x4 : α4} {x5 : α5} {ta : TE} {t : TA} (h : Sm B Γ ta (tObj C sch) x1) (ns : List Str) (hm : ixOf ns m = none) (hns : (sch x1).map (·.1) = ns) (ha : SmA B Γ t [⟨τ2, x2⟩, ⟨τ3, x3⟩, ⟨τ4, x4⟩, ⟨τ5, x5⟩]) (hp : pre x1 x2 x3 x4 x5) : SmX L B Γ (tMethS C m (spX5 L (tObj C sch) τ2 τ3 τ4 τ5 pre φ f) [] (WE W) ta t) φ (f x1 x2 x3 x4 x5) W := fun σ Hv H w Q k kx =>
  h σ Hv H w _ fun v Hv1 H1 g1 rv => by
    have rv' := rv
    obtain ⟨a, dx, fs, ev, h1, r1⟩ := rv
    refine ⟨a, dx, fs, ev, g1.vis _ _ h1, r1.none (by rw [hns]; exact hm), ha σ Hv1 H1 (w.grow g1) _ fun us Hv2 H2 g2 rs => ?_⟩
    show spX5 L (tObj C sch) τ2 τ3 τ4 τ5 pre φ f (v :: (us ++ [])) H2 Q (WE W σ)
    rw [List.append_nil]
    exact ⟨x1, x2, x3, x4, x5, Hv2, g2.vis, .cons ((tObj C sch).mono g2.v rv') rs, hp, fun y q v Hv3 H3 g3 r3 => k y q _ _ _ ((g1.trans g2).trans g3) r3, fun e q cls d Hv3 H3 g3 x => kx e q cls d _ _ ((g1.trans g2).trans g3) x⟩
def spXO5 {α1 : Type} {α2 : Type} {α3 : Type} {α4 : Type} {α5 : Type} (L : ExTab) (τ1 : Ty α1) (τ2 : Ty α2) (τ3 : Ty α3) (τ4 : Ty α4) (τ5 : Ty α5) (pre : α1 → α2 → α3 → α4 → α5 → Prop) (φ : Ty γ) (f : α1 → α2 → α3 → α4 → α5 → Except Exn (List γ)) : Sp := fun vs H Q E => ∃ (x1 : α1) (x2 : α2) (x3 : α3) (x4 : α4) (x5 : α5), ∃ Hv, Same Hv H ∧ Reps Hv vs [⟨τ1, x1⟩, ⟨τ2, x2⟩, ⟨τ3, x3⟩, ⟨τ4, x4⟩, ⟨τ5, x5⟩] ∧ pre x1 x2 x3 x4 x5 ∧ (∀ y, f x1 x2 x3 x4 x5 = .ok y → ∀ l us Hv' H', Grow Hv H Hv' H' → H l = none → H' l = some (.lst us) → Hv' l = none → Paired (φ.rep Hv') us y → Q (.ref l) H') ∧ ∀ e, f x1 x2 x3 x4 x5 = .error e → ∀ cls d Hv' H', Grow Hv H Hv' H' → ExAt L Hv' e cls d → E cls d H'
theorem spXO5_len {α1 : Type} {α2 : Type} {α3 : Type} {α4 : Type} {α5 : Type} {τ1 : Ty α1} {τ2 : Ty α2} {τ3 : Ty α3} {τ4 : Ty α4} {τ5 : Ty α5} {pre : α1 → α2 → α3 → α4 → α5 → Prop} {f : α1 → α2 → α3 → α4 → α5 → Except Exn (List γ)} (h : spXO5 L τ1 τ2 τ3 τ4 τ5 pre φ f vs H Q E) : vs.length = 5 := by
  obtain ⟨_, _, _, _, _, _, _, r, _⟩ := h
  exact r.len
theorem spXO5_body {α1 : Type} {α2 : Type} {α3 : Type} {α4 : Type} {α5 : Type} {τ1 : Ty α1} {τ2 : Ty α2} {τ3 : Ty α3} {τ4 : Ty α4} {τ5 : Ty α5} {pre : α1 → α2 → α3 → α4 → α5 → Prop} {f : α1 → α2 → α3 → α4 → α5 → Except Exn (List γ)} {N : List Str} {t : TS} (hl : 5 ≤ N.length) (h : spXO5 L τ1 τ2 τ3 τ4 τ5 pre φ f vs H Q E) (hb : ∀ B0 : Bs, B0.n = N.length → ∀ (x1 : α1) (x2 : α2) (x3 : α3) (x4 : α4) (x5 : α5), pre x1 x2 x3 x4 x5 → RtXO L B0 φ (f x1 x2 x3 x4 x5) Q E → G B0 t [(0, .fz τ1 x1), (1, .fz τ2 x2), (2, .fz τ3 x3), (3, .fz τ4 x4), (4, .fz τ5 x5)] { nx := fun _ H' => Q .non H', rt := Q }) : t { nx := fun _ H' => Q .non H', rt := Q } (L2.start N vs) H := by
  obtain ⟨x1, x2, x3, x4, x5, Hv, vis, rs, p, k, kx⟩ := h
  exact hb ⟨H, Hv, fun _ => False, N.length⟩ rfl x1 x2 x3 x4 x5 p ⟨fun _ z => z, k, kx⟩ _ _ _ (wd_start vis rs hl)
theorem smxo_call5 {α1 : Type} {α2 : Type} {α3 : Type} {α4 : Type} {α5 : Type} {τ1 : Ty α1} {τ2 : Ty α2} {τ3 : Ty α3} {τ4 : Ty α4} {τ5 : Ty α5} {pre : α1 → α2 → α3 → α4 → α5 → Prop} {f : α1 → α2 → α3 → α4 → α5 → Except Exn (List γ)} {x1 : α1} {x2 : α2} {x3 : α3} {x4 : α4} {x5 : α5} {t : TA} (ha : SmA B Γ t [⟨τ1, x1⟩, ⟨τ2, x2⟩, ⟨τ3, x3⟩, ⟨τ4, x4⟩, ⟨τ5, x5⟩]) (hp : pre x1 x2 x3 x4 x5) : SmXO L B Γ (tCallSD (spXO5 L τ1 τ2 τ3 τ4 τ5 pre φ f) [] (WE W) t) φ (f x1 x2 x3 x4 x5) W := fun σ Hv H w Q k kx =>
  ha σ Hv H w _ fun us Hv1 H1 g1 rs => by
    show spXO5 L τ1 τ2 τ3 τ4 τ5 pre φ f (us ++ []) H1 Q (WE W σ)
    rw [List.append_nil]
    exact ⟨x1, x2, x3, x4, x5, Hv1, g1.vis, rs, hp, fun y q l us Hv2 H2 g2 e0 e1 e2 r2 => k y q _ _ _ _ (g1.trans g2) (Same.free g1.s e0) e1 e2 r2, fun e q cls d Hv2 H2 g2 x => kx e q cls d _ _ (g1.trans g2) x⟩
theorem smxo_meth5 {α1 : Type} {α2 : Type} {α3 : Type} {α4 : Type} {α5 : Type} {C : Addr} {sch : α1 → List (Str × As)} {τ2 : Ty α2} {τ3 : Ty α3} {τ4 : Ty α4} {τ5 : Ty α5} {pre : α1 → α2 → α3 → α4 → α5 → Prop} {f : α1 → α2 → α3 → α4 → α5 → Except Exn (List γ)} {m : Str} {x1 : α1} {x2 : α2} {x3 : α3} {x4 : α4} {x5 : α5} {ta : TE} {t : TA} (h : Sm B Γ ta (tObj C sch) x1) (ns : List Str) (hm : ixOf ns m = none) (hns : (sch x1).map (·.1) = ns) (ha : SmA B Γ t [⟨τ2, x2⟩, ⟨τ3, x3⟩, ⟨τ4, x4⟩, ⟨τ5, x5⟩]) (hp : pre x1 x2 x3 x4 x5) : SmXO L B Γ (tMethS C m (spXO5 L (tObj C sch) τ2 τ3 τ4 τ5 pre φ f) [] (WE W) ta t) φ (f x1 x2 x3 x4 x5) W := fun σ Hv H w Q k kx =>
  h σ Hv H w _ fun v Hv1 H1 g1 rv => by
    have rv' := rv
    obtain ⟨a, dx, fs, ev, h1, r1⟩ := rv
    refine ⟨a, dx, fs, ev, g1.vis _ _ h1, r1.none (by rw [hns]; exact hm), ha σ Hv1 H1 (w.grow g1) _ fun us Hv2 H2 g2 rs => ?_⟩
    show spXO5 L (tObj C sch) τ2 τ3 τ4 τ5 pre φ f (v :: (us ++ [])) H2 Q (WE W σ)
    rw [List.append_nil]
    exact ⟨x1, x2, x3, x4, x5, Hv2, g2.vis, .cons ((tObj C sch).mono g2.v rv') rs, hp, fun y q l us Hv3 H3 g3 e0 e1 e2 r3 => k y q _ _ _ _ ((g1.trans g2).trans g3) (Same.free (g1.trans g2).s e0) e1 e2 r3, fun e q cls d Hv3 H3 g3 x => kx e q cls d _ _ ((g1.trans g2).trans g3) x⟩
def spX6 {α1 : Type} {α2 : Type} {α3 : Type} {α4 : Type} {α5 : Type} {α6 : Type} (L : ExTab) (τ1 : Ty α1) (τ2 : Ty α2) (τ3 : Ty α3) (τ4 : Ty α4) (τ5 : Ty α5) (τ6 : Ty α6) (pre : α1 → α2 → α3 → α4 → α5 → α6 → Prop) (φ : Ty γ) (f : α1 → α2 → α3 → α4 → α5 → α6 → Except Exn γ) : Sp := fun vs H Q E => ∃ (x1 : α1) (x2 : α2) (x3 : α3) (x4 : α4) (x5 : α5) (x6 : α6), ∃ Hv, Same Hv H ∧ Reps Hv vs [⟨τ1, x1⟩, ⟨τ2, x2⟩, ⟨τ3, x3⟩, ⟨τ4, x4⟩, ⟨τ5, x5⟩, ⟨τ6, x6⟩] ∧ pre x1 x2 x3 x4 x5 x6 ∧ (∀ y, f x1 x2 x3 x4 x5 x6 = .ok y → ∀ v Hv' H', Grow Hv H Hv' H' → φ.rep Hv' v y → Q v H') ∧ ∀ e, f x1 x2 x3 x4 x5 x6 = .error e → ∀ cls d Hv' H', Grow Hv H Hv' H' → ExAt L Hv' e cls d → E cls d H'
theorem spX6_len {α1 : Type} {α2 : Type} {α3 : Type} {α4 : Type} {α5 : Type} {α6 : Type} {τ1 : Ty α1} {τ2 : Ty α2} {τ3 : Ty α3} {τ4 : Ty α4} {τ5 : Ty α5} {τ6 : Ty α6} {pre : α1 → α2 → α3 → α4 → α5 → α6 → Prop} {f : α1 → α2 → α3 → α4 → α5 → α6 → Except Exn γ} (h : spX6 L τ1 τ2 τ3 τ4 τ5 τ6 pre φ f vs H Q E) : vs.length = 6 := by
  obtain ⟨_, _, _, _, _, _, _, _, r, _⟩ := h
  exact r.len
theorem spX6_body {α1 : Type} {α2 : Type} {α3 : Type} {α4 : Type} {α5 : Type} {α6 : Type} {τ1 : Ty α1} {τ2 : Ty α2} {τ3 : Ty α3} {τ4 : Ty α4} {τ5 : Ty α5} {τ6 : Ty α6} {pre : α1 → α2 → α3 → α4 → α5 → α6 → Prop} {f : α1 → α2 → α3 → α4 → α5 → α6 → Except Exn γ} {N : List Str} {t : TS} (hl : 6 ≤ N.length) (h : spX6 L τ1 τ2 τ3 τ4 τ5 τ6 pre φ f vs H Q E) (hb : ∀ B0 : Bs, B0.n = N.length → ∀ (x1 : α1) (x2 : α2) (x3 : α3) (x4 : α4) (x5 : α5) (x6 : α6), pre x1 x2 x3 x4 x5 x6 → RtX L B0 φ (f x1 x2 x3 x4 x5 x6) Q E → G B0 t [(0, .fz τ1 x1), (1, .fz τ2 x2), (2, .fz τ3 x3), (3, .fz τ4 x4), (4, .fz τ5 x5), (5, .fz τ6 x6)] { nx := fun _ H' => Q .non H', rt := Q }) : t { nx := fun _ H' => Q .non H', rt := Q } (L2.start N vs) H := by
  obtain ⟨x1, x2, x3, x4, x5, x6, Hv, vis, rs, p, k, kx⟩ := h
  exact hb ⟨H, Hv, fun _ => False, N.length⟩ rfl x1 x2 x3 x4 x5 x6 p ⟨fun _ z => z, k, kx⟩ _ _ _ (wd_start vis rs hl)
theorem smx_call6 {α1 : Type} {α2 : Type} {α3 : Type} {α4 : Type} {α5 : Type} {α6 : Type} {τ1 : Ty α1} {τ2 : Ty α2} {τ3 : Ty α3} {τ4 : Ty α4} {τ5 : Ty α5} {τ6 : Ty α6} {pre : α1 → α2 → α3 → α4 → α5 → α6 → Prop} {f : α1 → α2 → α3 → α4 → α5 → α6 → Except Exn γ} {x1 : α1} {x2 : α2} {x3 : α3} {x4 : α4} {x5 : α5} {x6 : α6} {t : TA} (ha : SmA B Γ t [⟨τ1, x1⟩, ⟨τ2, x2⟩, ⟨τ3, x3⟩, ⟨τ4, x4⟩, ⟨τ5, x5⟩, ⟨τ6, x6⟩]) (hp : pre x1 x2 x3 x4 x5 x6) : SmX L B Γ (tCallSD (spX6 L τ1 τ2 τ3 τ4 τ5 τ6 pre φ f) [] (WE W) t) φ (f x1 x2 x3 x4 x5 x6) W := fun σ Hv H w Q k kx =>
  ha σ Hv H w _ fun us Hv1 H1 g1 rs => by
    show spX6 L τ1 τ2 τ3 τ4 τ5 τ6 pre φ f (us ++ []) H1 Q (WE W σ)
    rw [List.append_nil]
    exact ⟨x1, x2, x3, x4, x5, x6, Hv1, g1.vis, rs, hp, fun y q v Hv2 H2 g2 r2 => k y q _ _ _ (g1.trans g2) r2, fun e q cls d Hv2 H2 g2 x => kx e q cls d _ _ (g1.trans g2) x⟩
theorem smx_meth6 {α1 : Type} {α2 : Type} {α3 : Type} {α4 : Type} {α5 : Type} {α6 : Type} {C : Addr} {sch : α1 → List (Str × As)} {τ2 : Ty α2} {τ3 : Ty α3} {τ4 : Ty α4} {τ5 : Ty α5} {τ6 : Ty α6} {pre : α1 → α2 → α3 → α4 → α5 → α6 → Prop} {f : α1 → α2 → α3 → α4 → α5 → α6 → Except Exn γ} {m : Str} {x1 : α1} {x2 : α2} {x3 : α3} {x4 : α4} {x5 : α5} {x6 : α6} {ta : TE} {t : TA} (h : Sm B Γ ta (tObj C sch) x1) (ns : List Str) (hm : ixOf ns m = none) (hns : (sch x1).map (·.1) = ns) (ha : SmA B Γ t [⟨τ2, x2⟩, ⟨τ3, x3⟩, ⟨τ4, x4⟩, ⟨τ5, x5⟩, ⟨τ6, x6⟩]) (hp : pre x1 x2 x3 x4 x5 x6) : SmX L B Γ (tMethS C m (spX6 L (tObj C sch) τ2 τ3 τ4 τ5 τ6 pre φ f) [] (WE W) ta t) φ (f x1 x2 x3 x4 x5 x6) W := fun σ Hv H w Q k kx =>
  h σ Hv H w _ fun v Hv1 H1 g1 rv => by
    have rv' := rv
    obtain ⟨a, dx, fs, ev, h1, r1⟩ := rv
    refine ⟨a, dx, fs, ev, g1.vis _ _ h1, r1.none (by rw [hns]; exact hm), ha σ Hv1 H1 (w.grow g1) _ fun us Hv2 H2 g2 rs => ?_⟩
    show spX6 L (tObj C sch) τ2 τ3 τ4 τ5 τ6 pre φ f (v :: (us ++ [])) H2 Q (WE W σ)
    rw [List.append_nil]
    exact ⟨x1, x2, x3, x4, x5, x6, Hv2, g2.vis, .cons ((tObj C sch).mono g2.v rv') rs, hp, fun y q v Hv3 H3 g3 r3 => k y q _ _ _ ((g1.trans g2).trans g3) r3, fun e q cls d Hv3 H3 g3 x => kx e q cls d _ _ ((g1.trans g2).trans g3) x⟩
def spXO6 {α1 : Type} {α2 : Type} {α3 : Type} {α4 : Type} {α5 : Type} {α6 : Type} (L : ExTab) (τ1 : Ty α1) (τ2 : Ty α2) (τ3 : Ty α3) (τ4 : Ty α4) (τ5 : Ty α5) (τ6 : Ty α6) (pre : α1 → α2 → α3 → α4 → α5 → α6 → Prop) (φ : Ty γ) (f : α1 → α2 → α3 → α4 → α5 → α6 → Except Exn (List γ)) : Sp := fun vs H Q E => ∃ (x1 : α1) (x2 : α2) (x3 : α3) (x4 : α4) (x5 : α5) (x6 : α6), ∃ Hv, Same Hv H ∧ Reps Hv vs [⟨τ1, x1⟩, ⟨τ2, x2⟩, ⟨τ3, x3⟩, ⟨τ4, x4⟩, ⟨τ5, x5⟩, ⟨τ6, x6⟩] ∧ pre x1 x2 x3 x4 x5 x6 ∧ (∀ y, f x1 x2 x3 x4 x5 x6 = .ok y → ∀ l us Hv' H', Grow Hv H Hv' H' → H l = none → H' l = some (.lst us) → Hv' l = none → Paired (φ.rep Hv') us y → Q (.ref l) H') ∧ ∀ e, f x1 x2 x3 x4 x5 x6 = .error e → ∀ cls d Hv' H', Grow Hv H Hv' H' → ExAt L Hv' e cls d → E cls d H'
theorem spXO6_len {α1 : Type} {α2 : Type} {α3 : Type} {α4 : Type} {α5 : Type} {α6 : Type} {τ1 : Ty α1} {τ2 : Ty α2} {τ3 : Ty α3} {τ4 : Ty α4} {τ5 : Ty α5} {τ6 : Ty α6} {pre : α1 → α2 → α3 → α4 → α5 → α6 → Prop} {f : α1 → α2 → α3 → α4 → α5 → α6 → Except Exn (List γ)} (h : spXO6 L τ1 τ2 τ3 τ4 τ5 τ6 pre φ f vs H Q E) : vs.length = 6 := by
  obtain ⟨_, _, _, _, _, _, _, _, r, _⟩ := h
  exact r.len
theorem spXO6_body {α1 : Type} {α2 : Type} {α3 : Type} {α4 : Type} {α5 : Type} {α6 : Type} {τ1 : Ty α1} {τ2 : Ty α2} {τ3 : Ty α3} {τ4 : Ty α4} {τ5 : Ty α5} {τ6 : Ty α6} {pre : α1 → α2 → α3 → α4 → α5 → α6 → Prop} {f : α1 → α2 → α3 → α4 → α5 → α6 → Except Exn (List γ)} {N : List Str} {t : TS} (hl : 6 ≤ N.length) (h : spXO6 L τ1 τ2 τ3 τ4 τ5 τ6 pre φ f vs H Q E) (hb : ∀ B0 : Bs, B0.n = N.length → ∀ (x1 : α1) (x2 : α2) (x3 : α3) (x4 : α4) (x5 : α5) (x6 : α6), pre x1 x2 x3 x4 x5 x6 → RtXO L B0 φ (f x1 x2 x3 x4 x5 x6) Q E → G B0 t [(0, .fz τ1 x1), (1, .fz τ2 x2), (2, .fz τ3 x3), (3, .fz τ4 x4), (4, .fz τ5 x5), (5, .fz τ6 x6)] { nx := fun _ H' => Q .non H', rt := Q }) : t { nx := fun _ H' => Q .non H', rt := Q } (L2.start N vs) H := by
  obtain ⟨x1, x2, x3, x4, x5, x6, Hv, vis, rs, p, k, kx⟩ := h
  exact hb ⟨H, Hv, fun _ => False, N.length⟩ rfl x1 x2 x3 x4 x5 x6 p ⟨fun _ z => z, k, kx⟩ _ _ _ (wd_start vis rs hl)
theorem smxo_call6 {α1 : Type} {α2 : Type} {α3 : Type} {α4 : Type} {α5 : Type} {α6 : Type} {τ1 : Ty α1} {τ2 : Ty α2} {τ3 : Ty α3} {τ4 : Ty α4} {τ5 : Ty α5} {τ6 : Ty α6} {pre : α1 → α2 → α3 → α4 → α5 → α6 → Prop} {f : α1 → α2 → α3 → α4 → α5 → α6 → Except Exn (List γ)} {x1 : α1} {x2 : α2} {x3 : α3} {x4 : α4} {x5 : α5} {x6 : α6} {t : TA} (ha : SmA B Γ t [⟨τ1, x1⟩, ⟨τ2, x2⟩, ⟨τ3, x3⟩, ⟨τ4, x4⟩, ⟨τ5, x5⟩, ⟨τ6, x6⟩]) (hp : pre x1 x2 x3 x4 x5 x6) : SmXO L B Γ (tCallSD (spXO6 L τ1 τ2 τ3 τ4 τ5 τ6 pre φ f) [] (WE W) t) φ (f x1 x2 x3 x4 x5 x6) W := fun σ Hv H w Q k kx =>
  ha σ Hv H w _ fun us Hv1 H1 g1 rs => by
    show spXO6 L τ1 τ2 τ3 τ4 τ5 τ6 pre φ f (us ++ []) H1 Q (WE W σ)
    rw [List.append_nil]
    exact ⟨x1, x2, x3, x4, x5, x6, Hv1, g1.vis, rs, hp, fun y q l us Hv2 H2 g2 e0 e1 e2 r2 => k y q _ _ _ _ (g1.trans g2) (Same.free g1.s e0) e1 e2 r2, fun e q cls d Hv2 H2 g2 x => kx e q cls d _ _ (g1.trans g2) x⟩
theorem smxo_meth6 {α1 : Type} {α2 : Type} {α3 : Type} {α4 : Type} {α5 : Type} {α6 : Type} {C : Addr} {sch : α1 → List (Str × As)} {τ2 : Ty α2} {τ3 : Ty α3} {τ4 : Ty α4} {τ5 : Ty α5} {τ6 : Ty α6} {pre : α1 → α2 → α3 → α4 → α5 → α6 → Prop} {f : α1 → α2 → α3 → α4 → α5 → α6 → Except Exn (List γ)} {m : Str} {x1 : α1} {x2 : α2} {x3 : α3} {x4 : α4} {x5 : α5} {x6 : α6} {ta : TE} {t : TA} (h : Sm B Γ ta (tObj C sch) x1) (ns : List Str) (hm : ixOf ns m = none) (hns : (sch x1).map (·.1) = ns) (ha : SmA B Γ t [⟨τ2, x2⟩, ⟨τ3, x3⟩, ⟨τ4, x4⟩, ⟨τ5, x5⟩, ⟨τ6, x6⟩]) (hp : pre x1 x2 x3 x4 x5 x6) : SmXO L B Γ (tMethS C m (spXO6 L (tObj C sch) τ2 τ3 τ4 τ5 τ6 pre φ f) [] (WE W) ta t) φ (f x1 x2 x3 x4 x5 x6) W := fun σ Hv H w Q k kx =>
  h σ Hv H w _ fun v Hv1 H1 g1 rv => by
    have rv' := rv
    obtain ⟨a, dx, fs, ev, h1, r1⟩ := rv
    refine ⟨a, dx, fs, ev, g1.vis _ _ h1, r1.none (by rw [hns]; exact hm), ha σ Hv1 H1 (w.grow g1) _ fun us Hv2 H2 g2 rs => ?_⟩
    show spXO6 L (tObj C sch) τ2 τ3 τ4 τ5 τ6 pre φ f (v :: (us ++ [])) H2 Q (WE W σ)
    rw [List.append_nil]
    exact ⟨x1, x2, x3, x4, x5, x6, Hv2, g2.vis, .cons ((tObj C sch).mono g2.v rv') rs, hp, fun y q l us Hv3 H3 g3 e0 e1 e2 r3 => k y q _ _ _ _ ((g1.trans g2).trans g3) (Same.free (g1.trans g2).s e0) e1 e2 r3, fun e q cls d Hv3 H3 g3 x => kx e q cls d _ _ ((g1.trans g2).trans g3) x⟩
end
section
variable {B : Bs} {Γ : Cxt} {H : Hp} {vs : List V} {Q : VK} {E : XK} {K : PySem.W.Frag} {δ : Type} {C : Addr} {sch : δ → List (Str × As)} {L : ExTab} {W : WX}
def spIX0  (L : ExTab)  (pre : Prop) (C : Addr) (sch : δ → List (Str × As)) (f : Except Exn δ) : Sp := fun vs H Q E => ∃ (p dx : Addr) (us : List V) (Hv : Hp), vs = .ref p :: us ∧ H p = some (.ins C dx []) ∧ Hv p = none ∧ Same Hv H ∧ Reps Hv us [] ∧ pre ∧ (∀ y, f = .ok y → ∀ Hv' H' fs, (∀ b o, b ≠ p → H b = some o → H' b = some o) → Same Hv Hv' → Same Hv' H' → (∀ b, b ≠ p → H b ≠ none → Hv b = none → Hv' b = none) → H' p = some (.ins C dx fs) → Hv' p = none → FsRep Hv' fs (sch y) → Q .non H') ∧ ∀ e, f = .error e → ∀ cls d Hv' H', (∀ b o, b ≠ p → H b = some o → H' b = some o) → Same Hv Hv' → Same Hv' H' → (∀ b, b ≠ p → H b ≠ none → Hv b = none → Hv' b = none) → ExAt L Hv' e cls d → E cls d H'
theorem spIX0_len   {pre : Prop} {f : Except Exn δ} (h : spIX0 L pre C sch f vs H Q E) : vs.length = 1 := by
  obtain ⟨_, _, us, _, rfl, _, _, _, r, _⟩ := h
  exact congrArg (· + 1) r.len
theorem spIX0_body   {pre : Prop} {f : Except Exn δ} {N : List Str} {t : TS} (hl : 1 ≤ N.length) (h : spIX0 L pre C sch f vs H Q E) (hb : ∀ B0 : Bs, B0.n = N.length → ∀ p dx, pre → RtIX L B0 p dx C sch (f) Q E → G B0 t [(0, .ob p dx C [])] { nx := fun _ H' => Q .non H', rt := Q }) : t { nx := fun _ H' => Q .non H', rt := Q } (L2.start N vs) H := by
  obtain ⟨p, dx, us, Hv, rfl, hp, hv, vis, rs, pr, k, kx⟩ := h
  have hlen : us.length = 0 := rs.len
  refine hb ⟨H, Hv, (· = p), N.length⟩ rfl p dx  pr ⟨fun _ z => z, fun y q => ⟨fun _ z => z, fun Hv' H' fs h1 h2 h3 h4 h5 h6 h7 => k y q Hv' H' fs h1 h2 h3 h4 h5 h6 h7⟩, kx⟩ _ Hv H ?_
  have hat : ∀ k v, us[k]? = some v → (L2.start N (V.ref p :: us))[1 + k]? = some (some v) := fun k v hk => by
    have hk' := (List.getElem?_eq_some_iff.mp hk).1
    unfold L2.start
    rw [List.getElem?_append_left (by simp; omega), Nat.add_comm, List.getElem?_map, List.getElem?_cons_succ, hk]
    rfl
  have h0 : (L2.start N (V.ref p :: us))[0]? = some (some (.ref p)) := rfl
  refine ⟨?_, vis, fun _ _ _ e => e, fun _ n => n, Same.refl _, fun _ _ _ z => z, fun i e m => ?_, fun i e l m c s => ?_, fun i j e f l m m' c c' n s s' => ?_⟩
  · unfold L2.start
    rw [List.length_append, List.length_map, List.length_replicate, List.length_cons]
    show us.length + 1 + (N.length - (us.length + 1)) = N.length
    omega
  · rcases List.mem_cons.mp m with q | m
    · cases q
      exact ⟨[], h0, hp, hv, .nil⟩
    · exact argC_at (i := 1) (as := []) rs hat i e m
  · rcases List.mem_cons.mp m with q | m
    · cases q
      rw [h0] at s
      cases s
      exact .inr rfl
    · rw [(argC_ge (as := []) (i := 1) m).2] at c
      cases c
  · rcases List.mem_cons.mp m with q | m
    · rcases List.mem_cons.mp m' with q' | m'
      · cases q
        cases q'
        exact n rfl
      · rw [(argC_ge (as := []) (i := 1) m').2] at c'
        cases c'
    · rw [(argC_ge (as := []) (i := 1) m).2] at c
      cases c
theorem smx_make0   {pre : Prop} {f : Except Exn δ}  {t : TA} (ha : SmA B Γ t []) (hp : pre) : SmX L B Γ (tMakeS C (spIX0 L pre C sch f) [] (WE W) t) (tObj C sch) (f) W := fun σ Hv H w Q k kx =>
  ha σ Hv H w _ fun us Hv1 H1 g1 rs => fun x dx hx hdx ndx => by
    show spIX0 L pre C sch f (V.ref x :: (us ++ [])) _ _ (WE W σ)
    rw [List.append_nil]
    have vx := Same.free g1.vis hx
    have s0 : Same H1 (upd (upd H1 dx (.own x)) x (.ins C dx [])) := fun b o e => by
      rw [upd_ne (ne_of_none e hx), upd_ne (ne_of_none e hdx)]
      exact e
    refine ⟨x, dx, us, Hv1, rfl, upd_same, vx, Same.trans g1.vis s0, rs, hp, fun y q Hv' H' fs h1 h2 h3 h4 h5 h6 h7 => ⟨rfl, ?_⟩, fun e q cls d Hv' H' h1 h2 h3 h4 hx' => kx e q cls d Hv' H' (g1.trans ⟨fun b o e => h1 b o (ne_of_none e hx) (s0 _ _ e), h2, h3, fun b n z => h4 b (fun q => n (by rw [q]; exact hx)) (Same.some_ne s0 n) z⟩) hx'⟩
    have s1 := same_upd (o := .ins C dx fs) h6
    refine k y q (.ref x) (upd Hv' x (.ins C dx fs)) H' (g1.trans ⟨fun b o e => h1 b o (ne_of_none e hx) (s0 _ _ e), Same.trans h2 s1, fun b o e => ?_, fun b n z => ?_⟩) ⟨x, dx, fs, rfl, upd_same, h7.up s1⟩
    · by_cases hb : b = x
      · subst hb
        rw [upd_same] at e
        cases e
        exact h5
      · rw [upd_ne hb] at e
        exact h3 _ _ e
    · have hb : b ≠ x := fun q => n (by rw [q]; exact hx)
      rw [upd_ne hb]
      exact h4 b hb (Same.some_ne s0 n) z
def spIX1 {α1 : Type} (L : ExTab) (τ1 : Ty α1) (pre : α1 → Prop) (C : Addr) (sch : δ → List (Str × As)) (f : α1 → Except Exn δ) : Sp := fun vs H Q E => ∃ (x1 : α1), ∃ (p dx : Addr) (us : List V) (Hv : Hp), vs = .ref p :: us ∧ H p = some (.ins C dx []) ∧ Hv p = none ∧ Same Hv H ∧ Reps Hv us [⟨τ1, x1⟩] ∧ pre x1 ∧ (∀ y, f x1 = .ok y → ∀ Hv' H' fs, (∀ b o, b ≠ p → H b = some o → H' b = some o) → Same Hv Hv' → Same Hv' H' → (∀ b, b ≠ p → H b ≠ none → Hv b = none → Hv' b = none) → H' p = some (.ins C dx fs) → Hv' p = none → FsRep Hv' fs (sch y) → Q .non H') ∧ ∀ e, f x1 = .error e → ∀ cls d Hv' H', (∀ b o, b ≠ p → H b = some o → H' b = some o) → Same Hv Hv' → Same Hv' H' → (∀ b, b ≠ p → H b ≠ none → Hv b = none → Hv' b = none) → ExAt L Hv' e cls d → E cls d H'
theorem spIX1_len {α1 : Type} {τ1 : Ty α1} {pre : α1 → Prop} {f : α1 → Except Exn δ} (h : spIX1 L τ1 pre C sch f vs H Q E) : vs.length = 2 := by
  obtain ⟨_, _, _, us, _, rfl, _, _, _, r, _⟩ := h
  exact congrArg (· + 1) r.len
theorem spIX1_body {α1 : Type} {τ1 : Ty α1} {pre : α1 → Prop} {f : α1 → Except Exn δ} {N : List Str} {t : TS} (hl : 2 ≤ N.length) (h : spIX1 L τ1 pre C sch f vs H Q E) (hb : ∀ B0 : Bs, B0.n = N.length → ∀ p dx, ∀ (x1 : α1), pre x1 → RtIX L B0 p dx C sch (f x1) Q E → G B0 t [(0, .ob p dx C []), (1, .fz τ1 x1)] { nx := fun _ H' => Q .non H', rt := Q }) : t { nx := fun _ H' => Q .non H', rt := Q } (L2.start N vs) H := by
  obtain ⟨x1, p, dx, us, Hv, rfl, hp, hv, vis, rs, pr, k, kx⟩ := h
  have hlen : us.length = 1 := rs.len
  refine hb ⟨H, Hv, (· = p), N.length⟩ rfl p dx x1 pr ⟨fun _ z => z, fun y q => ⟨fun _ z => z, fun Hv' H' fs h1 h2 h3 h4 h5 h6 h7 => k y q Hv' H' fs h1 h2 h3 h4 h5 h6 h7⟩, kx⟩ _ Hv H ?_
  have hat : ∀ k v, us[k]? = some v → (L2.start N (V.ref p :: us))[1 + k]? = some (some v) := fun k v hk => by
    have hk' := (List.getElem?_eq_some_iff.mp hk).1
    unfold L2.start
    rw [List.getElem?_append_left (by simp; omega), Nat.add_comm, List.getElem?_map, List.getElem?_cons_succ, hk]
    rfl
  have h0 : (L2.start N (V.ref p :: us))[0]? = some (some (.ref p)) := rfl
  refine ⟨?_, vis, fun _ _ _ e => e, fun _ n => n, Same.refl _, fun _ _ _ z => z, fun i e m => ?_, fun i e l m c s => ?_, fun i j e f l m m' c c' n s s' => ?_⟩
  · unfold L2.start
    rw [List.length_append, List.length_map, List.length_replicate, List.length_cons]
    show us.length + 1 + (N.length - (us.length + 1)) = N.length
    omega
  · rcases List.mem_cons.mp m with q | m
    · cases q
      exact ⟨[], h0, hp, hv, .nil⟩
    · exact argC_at (i := 1) (as := [⟨τ1, x1⟩]) rs hat i e m
  · rcases List.mem_cons.mp m with q | m
    · cases q
      rw [h0] at s
      cases s
      exact .inr rfl
    · rw [(argC_ge (as := [⟨τ1, x1⟩]) (i := 1) m).2] at c
      cases c
  · rcases List.mem_cons.mp m with q | m
    · rcases List.mem_cons.mp m' with q' | m'
      · cases q
        cases q'
        exact n rfl
      · rw [(argC_ge (as := [⟨τ1, x1⟩]) (i := 1) m').2] at c'
        cases c'
    · rw [(argC_ge (as := [⟨τ1, x1⟩]) (i := 1) m).2] at c
      cases c
theorem smx_make1 {α1 : Type} {τ1 : Ty α1} {pre : α1 → Prop} {f : α1 → Except Exn δ} {x1 : α1} {t : TA} (ha : SmA B Γ t [⟨τ1, x1⟩]) (hp : pre x1) : SmX L B Γ (tMakeS C (spIX1 L τ1 pre C sch f) [] (WE W) t) (tObj C sch) (f x1) W := fun σ Hv H w Q k kx =>
  ha σ Hv H w _ fun us Hv1 H1 g1 rs => fun x dx hx hdx ndx => by
    show spIX1 L τ1 pre C sch f (V.ref x :: (us ++ [])) _ _ (WE W σ)
    rw [List.append_nil]
    have vx := Same.free g1.vis hx
    have s0 : Same H1 (upd (upd H1 dx (.own x)) x (.ins C dx [])) := fun b o e => by
      rw [upd_ne (ne_of_none e hx), upd_ne (ne_of_none e hdx)]
      exact e
    refine ⟨x1, x, dx, us, Hv1, rfl, upd_same, vx, Same.trans g1.vis s0, rs, hp, fun y q Hv' H' fs h1 h2 h3 h4 h5 h6 h7 => ⟨rfl, ?_⟩, fun e q cls d Hv' H' h1 h2 h3 h4 hx' => kx e q cls d Hv' H' (g1.trans ⟨fun b o e => h1 b o (ne_of_none e hx) (s0 _ _ e), h2, h3, fun b n z => h4 b (fun q => n (by rw [q]; exact hx)) (Same.some_ne s0 n) z⟩) hx'⟩
    have s1 := same_upd (o := .ins C dx fs) h6
    refine k y q (.ref x) (upd Hv' x (.ins C dx fs)) H' (g1.trans ⟨fun b o e => h1 b o (ne_of_none e hx) (s0 _ _ e), Same.trans h2 s1, fun b o e => ?_, fun b n z => ?_⟩) ⟨x, dx, fs, rfl, upd_same, h7.up s1⟩
    · by_cases hb : b = x
      · subst hb
        rw [upd_same] at e
        cases e
        exact h5
      · rw [upd_ne hb] at e
        exact h3 _ _ e
    · have hb : b ≠ x := fun q => n (by rw [q]; exact hx)
      rw [upd_ne hb]
      exact h4 b hb (Same.some_ne s0 n) z
def spIX2 {α1 : Type} {α2 : Type} (L : ExTab) (τ1 : Ty α1) (τ2 : Ty α2) (pre : α1 → α2 → Prop) (C : Addr) (sch : δ → List (Str × As)) (f : α1 → α2 → Except Exn δ) : Sp := fun vs H Q E => ∃ (x1 : α1) (x2 : α2), ∃ (p dx : Addr) (us : List V) (Hv : Hp), vs = .ref p :: us ∧ H p = some (.ins C dx []) ∧ Hv p = none ∧ Same Hv H ∧ Reps Hv us [⟨τ1, x1⟩, ⟨τ2, x2⟩] ∧ pre x1 x2 ∧ (∀ y, f x1 x2 = .ok y → ∀ Hv' H' fs, (∀ b o, b ≠ p → H b = some o → H' b = some o) → Same Hv Hv' → Same Hv' H' → (∀ b, b ≠ p → H b ≠ none → Hv b = none → Hv' b = none) → H' p = some (.ins C dx fs) → Hv' p = none → FsRep Hv' fs (sch y) → Q .non H') ∧ ∀ e, f x1 x2 = .error e → ∀ cls d Hv' H', (∀ b o, b ≠ p → H b = some o → H' b = some o) → Same Hv Hv' → Same Hv' H' → (∀ b, b ≠ p → H b ≠ none → Hv b = none → Hv' b = none) → ExAt L Hv' e cls d → E cls d H'
theorem spIX2_len {α1 : Type} {α2 : Type} {τ1 : Ty α1} {τ2 : Ty α2} {pre : α1 → α2 → Prop} {f : α1 → α2 → Except Exn δ} (h : spIX2 L τ1 τ2 pre C sch f vs H Q E) : vs.length = 3 := by
  obtain ⟨_, _, _, _, us, _, rfl, _, _, _, r, _⟩ := h
  exact congrArg (· + 1) r.len
theorem spIX2_body {α1 : Type} {α2 : Type} {τ1 : Ty α1} {τ2 : Ty α2} {pre : α1 → α2 → Prop} {f : α1 → α2 → Except Exn δ} {N : List Str} {t : TS} (hl : 3 ≤ N.length) (h : spIX2 L τ1 τ2 pre C sch f vs H Q E) (hb : ∀ B0 : Bs, B0.n = N.length → ∀ p dx, ∀ (x1 : α1) (x2 : α2), pre x1 x2 → RtIX L B0 p dx C sch (f x1 x2) Q E → G B0 t [(0, .ob p dx C []), (1, .fz τ1 x1), (2, .fz τ2 x2)] { nx := fun _ H' => Q .non H', rt := Q }) : t { nx := fun _ H' => Q .non H', rt := Q } (L2.start N vs) H := by
  obtain ⟨x1, x2, p, dx, us, Hv, rfl, hp, hv, vis, rs, pr, k, kx⟩ := h
  have hlen : us.length = 2 := rs.len
  refine hb ⟨H, Hv, (· = p), N.length⟩ rfl p dx x1 x2 pr ⟨fun _ z => z, fun y q => ⟨fun _ z => z, fun Hv' H' fs h1 h2 h3 h4 h5 h6 h7 => k y q Hv' H' fs h1 h2 h3 h4 h5 h6 h7⟩, kx⟩ _ Hv H ?_
  have hat : ∀ k v, us[k]? = some v → (L2.start N (V.ref p :: us))[1 + k]? = some (some v) := fun k v hk => by
    have hk' := (List.getElem?_eq_some_iff.mp hk).1
    unfold L2.start
    rw [List.getElem?_append_left (by simp; omega), Nat.add_comm, List.getElem?_map, List.getElem?_cons_succ, hk]
    rfl
  have h0 : (L2.start N (V.ref p :: us))[0]? = some (some (.ref p)) := rfl
  refine ⟨?_, vis, fun _ _ _ e => e, fun _ n => n, Same.refl _, fun _ _ _ z => z, fun i e m => ?_, fun i e l m c s => ?_, fun i j e f l m m' c c' n s s' => ?_⟩
  · unfold L2.start
    rw [List.length_append, List.length_map, List.length_replicate, List.length_cons]
    show us.length + 1 + (N.length - (us.length + 1)) = N.length
    omega
  · rcases List.mem_cons.mp m with q | m
    · cases q
      exact ⟨[], h0, hp, hv, .nil⟩
    · exact argC_at (i := 1) (as := [⟨τ1, x1⟩, ⟨τ2, x2⟩]) rs hat i e m
  · rcases List.mem_cons.mp m with q | m
    · cases q
      rw [h0] at s
      cases s
      exact .inr rfl
    · rw [(argC_ge (as := [⟨τ1, x1⟩, ⟨τ2, x2⟩]) (i := 1) m).2] at c
      cases c
  · rcases List.mem_cons.mp m with q | m
    · rcases List.mem_cons.mp m' with q' | m'
      · cases q
        cases q'
        exact n rfl
      · rw [(argC_ge (as := [⟨τ1, x1⟩, ⟨τ2, x2⟩]) (i := 1) m').2] at c'
        cases c'
    · rw [(argC_ge (as := [⟨τ1, x1⟩, ⟨τ2, x2⟩]) (i := 1) m).2] at c
      cases c
theorem smx_make2 {α1 : Type} {α2 : Type} {τ1 : Ty α1} {τ2 : Ty α2} {pre : α1 → α2 → Prop} {f : α1 → α2 → Except Exn δ} {x1 : α1} {x2 : α2} {t : TA} (ha : SmA B Γ t [⟨τ1, x1⟩, ⟨τ2, x2⟩]) (hp : pre x1 x2) : SmX L B Γ (tMakeS C (spIX2 L τ1 τ2 pre C sch f) [] (WE W) t) (tObj C sch) (f x1 x2) W := fun σ Hv H w Q k kx =>
  ha σ Hv H w _ fun us Hv1 H1 g1 rs => fun x dx hx hdx ndx => by
    show spIX2 L τ1 τ2 pre C sch f (V.ref x :: (us ++ [])) _ _ (WE W σ)
    rw [List.append_nil]
    have vx := Same.free g1.vis hx
    have s0 : Same H1 (upd (upd H1 dx (.own x)) x (.ins C dx [])) := fun b o e => by
      rw [upd_ne (ne_of_none e hx), upd_ne (ne_of_none e hdx)]
      exact e
    refine ⟨x1, x2, x, dx, us, Hv1, rfl, upd_same, vx, Same.trans g1.vis s0, rs, hp, fun y q Hv' H' fs h1 h2 h3 h4 h5 h6 h7 => ⟨rfl, ?_⟩, fun e q cls d Hv' H' h1 h2 h3 h4 hx' => kx e q cls d Hv' H' (g1.trans ⟨fun b o e => h1 b o (ne_of_none e hx) (s0 _ _ e), h2, h3, fun b n z => h4 b (fun q => n (by rw [q]; exact hx)) (Same.some_ne s0 n) z⟩) hx'⟩
    have s1 := same_upd (o := .ins C dx fs) h6
    refine k y q (.ref x) (upd Hv' x (.ins C dx fs)) H' (g1.trans ⟨fun b o e => h1 b o (ne_of_none e hx) (s0 _ _ e), Same.trans h2 s1, fun b o e => ?_, fun b n z => ?_⟩) ⟨x, dx, fs, rfl, upd_same, h7.up s1⟩
    · by_cases hb : b = x
      · subst hb
        rw [upd_same] at e
        cases e
        exact h5
      · rw [upd_ne hb] at e
        exact h3 _ _ e
    · have hb : b ≠ x := fun q => n (by rw [q]; exact hx)
      rw [upd_ne hb]
      exact h4 b hb (Same.some_ne s0 n) z
def spIX3 {α1 : Type} {α2 : Type} {α3 : Type} (L : ExTab) (τ1 : Ty α1) (τ2 : Ty α2) (τ3 : Ty α3) (pre : α1 → α2 → α3 → Prop) (C : Addr) (sch : δ → List (Str × As)) (f : α1 → α2 → α3 → Except Exn δ) : Sp := fun vs H Q E => ∃ (x1 : α1) (x2 : α2) (x3 : α3), ∃ (p dx : Addr) (us : List V) (Hv : Hp), vs = .ref p :: us ∧ H p = some (.ins C dx []) ∧ Hv p = none ∧ Same Hv H ∧ Reps Hv us [⟨τ1, x1⟩, ⟨τ2, x2⟩, ⟨τ3, x3⟩] ∧ pre x1 x2 x3 ∧ (∀ y, f x1 x2 x3 = .ok y → ∀ Hv' H' fs, (∀ b o, b ≠ p → H b = some o → H' b = some o) → Same Hv Hv' → Same Hv' H' → (∀ b, b ≠ p → H b ≠ none → Hv b = none → Hv' b = none) → H' p = some (.ins C dx fs) → Hv' p = none → FsRep Hv' fs (sch y) → Q .non H') ∧ ∀ e, f x1 x2 x3 = .error e → ∀ cls d Hv' H', (∀ b o, b ≠ p → H b = some o → H' b = some o) → Same Hv Hv' → Same Hv' H' → (∀ b, b ≠ p → H b ≠ none → Hv b = none → Hv' b = none) → ExAt L Hv' e cls d → E cls d H'
theorem spIX3_len {α1 : Type} {α2 : Type} {α3 : Type} {τ1 : Ty α1} {τ2 : Ty α2} {τ3 : Ty α3} {pre : α1 → α2 → α3 → Prop} {f : α1 → α2 → α3 → Except Exn δ} (h : spIX3 L τ1 τ2 τ3 pre C sch f vs H Q E) : vs.length = 4 := by
  obtain ⟨_, _, _, _, _, us, _, rfl, _, _, _, r, _⟩ := h
  exact congrArg (· + 1) r.len
theorem spIX3_body {α1 : Type} {α2 : Type} {α3 : Type} {τ1 : Ty α1} {τ2 : Ty α2} {τ3 : Ty α3} {pre : α1 → α2 → α3 → Prop} {f : α1 → α2 → α3 → Except Exn δ} {N : List Str} {t : TS} (hl : 4 ≤ N.length) (h : spIX3 L τ1 τ2 τ3 pre C sch f vs H Q E) (hb : ∀ B0 : Bs, B0.n = N.length → ∀ p dx, ∀ (x1 : α1) (x2 : α2) (x3 : α3), pre x1 x2 x3 → RtIX L B0 p dx C sch (f x1 x2 x3) Q E → G B0 t [(0, .ob p dx C []), (1, .fz τ1 x1), (2, .fz τ2 x2), (3, .fz τ3 x3)] { nx := fun _ H' => Q .non H', rt := Q }) : t { nx := fun _ H' => Q .non H', rt := Q } (L2.start N vs) H := by
  obtain ⟨x1, x2, x3, p, dx, us, Hv, rfl, hp, hv, vis, rs, pr, k, kx⟩ := h
  have hlen : us.length = 3 := rs.len
  refine hb ⟨H, Hv, (· = p), N.length⟩ rfl p dx x1 x2 x3 pr ⟨fun _ z => z, fun y q => ⟨fun _ z => z, fun Hv' H' fs h1 h2 h3 h4 h5 h6 h7 => k y q Hv' H' fs h1 h2 h3 h4 h5 h6 h7⟩, kx⟩ _ Hv H ?_
  have hat : ∀ k v, us[k]? = some v → (L2.start N (V.ref p :: us))[1 + k]? = some (some v) := fun k v hk => by
    have hk' := (List.getElem?_eq_some_iff.mp hk).1
    unfold L2.start
    rw [List.getElem?_append_left (by simp; omega), Nat.add_comm, List.getElem?_map, List.getElem?_cons_succ, hk]
    rfl
  have h0 : (L2.start N (V.ref p :: us))[0]? = some (some (.ref p)) := rfl
  refine ⟨?_, vis, fun _ _ _ e => e, fun _ n => n, Same.refl _, fun _ _ _ z => z, fun i e m => ?_, fun i e l m c s => ?_, fun i j e f l m m' c c' n s s' => ?_⟩
  · unfold L2.start
    rw [List.length_append, List.length_map, List.length_replicate, List.length_cons]
    show us.length + 1 + (N.length - (us.length + 1)) = N.length
    omega
  · rcases List.mem_cons.mp m with q | m
    · cases q
      exact ⟨[], h0, hp, hv, .nil⟩
    · exact argC_at (i := 1) (as := [⟨τ1, x1⟩, ⟨τ2, x2⟩, ⟨τ3, x3⟩]) rs hat i e m
  · rcases List.mem_cons.mp m with q | m
    · cases q
      rw [h0] at s
      cases s
      exact .inr rfl
    · rw [(argC_ge (as := [⟨τ1, x1⟩, ⟨τ2, x2⟩, ⟨τ3, x3⟩]) (i := 1) m).2] at c
      cases c
  · rcases List.mem_cons.mp m with q | m
    · rcases List.mem_cons.mp m' with q' | m'
      · cases q
        cases q'
        exact n rfl
      · rw [(argC_ge (as := [⟨τ1, x1⟩, ⟨τ2, x2⟩, ⟨τ3, x3⟩]) (i := 1) m').2] at c'
        cases c'
    · rw [(argC_ge (as := [⟨τ1, x1⟩, ⟨τ2, x2⟩, ⟨τ3, x3⟩]) (i := 1) m).2] at c
      cases c
theorem smx_make3 {α1 : Type} {α2 : Type} {α3 : Type} {τ1 : Ty α1} {τ2 : Ty α2} {τ3 : Ty α3} {pre : α1 → α2 → α3 → Prop} {f : α1 → α2 → α3 → Except Exn δ} {x1 : α1} {x2 : α2} {x3 : α3} {t : TA} (ha : SmA B Γ t [⟨τ1, x1⟩, ⟨τ2, x2⟩, ⟨τ3, x3⟩]) (hp : pre x1 x2 x3) : SmX L B Γ (tMakeS C (spIX3 L τ1 τ2 τ3 pre C sch f) [] (WE W) t) (tObj C sch) (f x1 x2 x3) W := fun σ Hv H w Q k kx =>
  ha σ Hv H w _ fun us Hv1 H1 g1 rs => fun x dx hx hdx ndx => by
    show spIX3 L τ1 τ2 τ3 pre C sch f (V.ref x :: (us ++ [])) _ _ (WE W σ)
    rw [List.append_nil]
    have vx := Same.free g1.vis hx
    have s0 : Same H1 (upd (upd H1 dx (.own x)) x (.ins C dx [])) := fun b o e => by
      rw [upd_ne (ne_of_none e hx), upd_ne (ne_of_none e hdx)]
      exact e
    refine ⟨x1, x2, x3, x, dx, us, Hv1, rfl, upd_same, vx, Same.trans g1.vis s0, rs, hp, fun y q Hv' H' fs h1 h2 h3 h4 h5 h6 h7 => ⟨rfl, ?_⟩, fun e q cls d Hv' H' h1 h2 h3 h4 hx' => kx e q cls d Hv' H' (g1.trans ⟨fun b o e => h1 b o (ne_of_none e hx) (s0 _ _ e), h2, h3, fun b n z => h4 b (fun q => n (by rw [q]; exact hx)) (Same.some_ne s0 n) z⟩) hx'⟩
    have s1 := same_upd (o := .ins C dx fs) h6
    refine k y q (.ref x) (upd Hv' x (.ins C dx fs)) H' (g1.trans ⟨fun b o e => h1 b o (ne_of_none e hx) (s0 _ _ e), Same.trans h2 s1, fun b o e => ?_, fun b n z => ?_⟩) ⟨x, dx, fs, rfl, upd_same, h7.up s1⟩
    · by_cases hb : b = x
      · subst hb
        rw [upd_same] at e
        cases e
        exact h5
      · rw [upd_ne hb] at e
        exact h3 _ _ e
    · have hb : b ≠ x := fun q => n (by rw [q]; exact hx)
      rw [upd_ne hb]
      exact h4 b hb (Same.some_ne s0 n) z
def spIX4 {α1 : Type} {α2 : Type} {α3 : Type} {α4 : Type} (L : ExTab) (τ1 : Ty α1) (τ2 : Ty α2) (τ3 : Ty α3) (τ4 : Ty α4) (pre : α1 → α2 → α3 → α4 → Prop) (C : Addr) (sch : δ → List (Str × As)) (f : α1 → α2 → α3 → α4 → Except Exn δ) : Sp := fun vs H Q E => ∃ (x1 : α1) (x2 : α2) (x3 : α3) (x4 : α4), ∃ (p dx : Addr) (us : List V) (Hv : Hp), vs = .ref p :: us ∧ H p = some (.ins C dx []) ∧ Hv p = none ∧ Same Hv H ∧ Reps Hv us [⟨τ1, x1⟩, ⟨τ2, x2⟩, ⟨τ3, x3⟩, ⟨τ4, x4⟩] ∧ pre x1 x2 x3 x4 ∧ (∀ y, f x1 x2 x3 x4 = .ok y → ∀ Hv' H' fs, (∀ b o, b ≠ p → H b = some o → H' b = some o) → Same Hv Hv' → Same Hv' H' → (∀ b, b ≠ p → H b ≠ none → Hv b = none → Hv' b = none) → H' p = some (.ins C dx fs) → Hv' p = none → FsRep Hv' fs (sch y) → Q .non H') ∧ ∀ e, f x1 x2 x3 x4 = .error e → ∀ cls d Hv' H', (∀ b o, b ≠ p → H b = some o → H' b = some o) → Same Hv Hv' → Same Hv' H' → (∀ b, b ≠ p → H b ≠ none → Hv b = none → Hv' b = none) → ExAt L Hv' e cls d → E cls d H'
theorem spIX4_len {α1 : Type} {α2 : Type} {α3 : Type} {α4 : Type} {τ1 : Ty α1} {τ2 : Ty α2} {τ3 : Ty α3} {τ4 : Ty α4} {pre : α1 → α2 → α3 → α4 → Prop} {f : α1 → α2 → α3 → α4 → Except Exn δ} (h : spIX4 L τ1 τ2 τ3 τ4 pre C sch f vs H Q E) : vs.length = 5 := by
  obtain ⟨_, _, _, _, _, _, us, _, rfl, _, _, _, r, _⟩ := h
  exact congrArg (· + 1) r.len
theorem spIX4_body {α1 : Type} {α2 : Type} {α3 : Type} {α4 : Type} {τ1 : Ty α1} {τ2 : Ty α2} {τ3 : Ty α3} {τ4 : Ty α4} {pre : α1 → α2 → α3 → α4 → Prop} {f : α1 → α2 → α3 → α4 → Except Exn δ} {N : List Str} {t : TS} (hl : 5 ≤ N.length) (h : spIX4 L τ1 τ2 τ3 τ4 pre C sch f vs H Q E) (hb : ∀ B0 : Bs, B0.n = N.length → ∀ p dx, ∀ (x1 : α1) (x2 : α2) (x3 : α3) (x4 : α4), pre x1 x2 x3 x4 → RtIX L B0 p dx C sch (f x1 x2 x3 x4) Q E → G B0 t [(0, .ob p dx C []), (1, .fz τ1 x1), (2, .fz τ2 x2), (3, .fz τ3 x3), (4, .fz τ4 x4)] { nx := fun _ H' => Q .non H', rt := Q }) : t { nx := fun _ H' => Q .non H', rt := Q } (L2.start N vs) H := by
  obtain ⟨x1, x2, x3, x4, p, dx, us, Hv, rfl, hp, hv, vis, rs, pr, k, kx⟩ := h
  have hlen : us.length = 4 := rs.len
  refine hb ⟨H, Hv, (· = p), N.length⟩ rfl p dx x1 x2 x3 x4 pr ⟨fun _ z => z, fun y q => ⟨fun _ z => z, fun Hv' H' fs h1 h2 h3 h4 h5 h6 h7 => k y q Hv' H' fs h1 h2 h3 h4 h5 h6 h7⟩, kx⟩ _ Hv H ?_
  have hat : ∀ k v, us[k]? = some v → (L2.start N (V.ref p :: us))[1 + k]? = some (some v) := fun k v hk => by
    have hk' := (List.getElem?_eq_some_iff.mp hk).1
    unfold L2.start
    rw [List.getElem?_append_left (by simp; omega), Nat.add_comm, List.getElem?_map, List.getElem?_cons_succ, hk]
    rfl
  have h0 : (L2.start N (V.ref p :: us))[0]? = some (some (.ref p)) := rfl
  refine ⟨?_, vis, fun _ _ _ e => e, fun _ n => n, Same.refl _, fun _ _ _ z => z, fun i e m => ?_, fun i e l m c s => ?_, fun i j e f l m m' c c' n s s' => ?_⟩
  · unfold L2.start
    rw [List.length_append, List.length_map, List.length_replicate, List.length_cons]
    show us.length + 1 + (N.length - (us.length + 1)) = N.length
    omega
  · rcases List.mem_cons.mp m with q | m
    · cases q
      exact ⟨[], h0, hp, hv, .nil⟩
    · exact argC_at (i := 1) (as := [⟨τ1, x1⟩, ⟨τ2, x2⟩, ⟨τ3, x3⟩, ⟨τ4, x4⟩]) rs hat i e m
  · rcases List.mem_cons.mp m with q | m
    · cases q
      rw [h0] at s
      cases s
      exact .inr rfl
    · rw [(argC_ge (as := [⟨τ1, x1⟩, ⟨τ2, x2⟩, ⟨τ3, x3⟩, ⟨τ4, x4⟩]) (i := 1) m).2] at c
      cases c
  · rcases List.mem_cons.mp m with q | m
    · rcases List.mem_cons.mp m' with q' | m'
      · cases q
        cases q'
        exact n rfl
      · rw [(argC_ge (as := [⟨τ1, x1⟩, ⟨τ2, x2⟩, ⟨τ3, x3⟩, ⟨τ4, x4⟩]) (i := 1) m').2] at c'
        cases c'
    · rw [(argC_ge (as := [⟨τ1, x1⟩, ⟨τ2, x2⟩, ⟨τ3, x3⟩, ⟨τ4, x4⟩]) (i := 1) m).2] at c
      cases c
theorem smx_make4 {α1 : Type} {α2 : Type} {α3 : Type} {α4 : Type} {τ1 : Ty α1} {τ2 : Ty α2} {τ3 : Ty α3} {τ4 : Ty α4} {pre : α1 → α2 → α3 → α4 → Prop} {f : α1 → α2 → α3 → α4 → Except Exn δ} {x1 : α1} {x2 : α2} {x3 : α3} {x4 : α4} {t : TA} (ha : SmA B Γ t [⟨τ1, x1⟩, ⟨τ2, x2⟩, ⟨τ3, x3⟩, ⟨τ4, x4⟩]) (hp : pre x1 x2 x3 x4) : SmX L B Γ (tMakeS C (spIX4 L τ1 τ2 τ3 τ4 pre C sch f) [] (WE W) t) (tObj C sch) (f x1 x2 x3 x4) W := fun σ Hv H w Q k kx =>
  ha σ Hv H w _ fun us Hv1 H1 g1 rs => fun x dx hx hdx ndx => by
    show spIX4 L τ1 τ2 τ3 τ4 pre C sch f (V.ref x :: (us ++ [])) _ _ (WE W σ)
    rw [List.append_nil]
    have vx := Same.free g1.vis hx
    have s0 : Same H1 (upd (upd H1 dx (.own x)) x (.ins C dx [])) := fun b o e => by
      rw [upd_ne (ne_of_none e hx), upd_ne (ne_of_none e hdx)]
      exact e
    refine ⟨x1, x2, x3, x4, x, dx, us, Hv1, rfl, upd_same, vx, Same.trans g1.vis s0, rs, hp, fun y q Hv' H' fs h1 h2 h3 h4 h5 h6 h7 => ⟨rfl, ?_⟩, fun e q cls d Hv' H' h1 h2 h3 h4 hx' => kx e q cls d Hv' H' (g1.trans ⟨fun b o e => h1 b o (ne_of_none e hx) (s0 _ _ e), h2, h3, fun b n z => h4 b (fun q => n (by rw [q]; exact hx)) (Same.some_ne s0 n) z⟩) hx'⟩
    have s1 := same_upd (o := .ins C dx fs) h6
    refine k y q (.ref x) (upd Hv' x (.ins C dx fs)) H' (g1.trans ⟨fun b o e => h1 b o (ne_of_none e hx) (s0 _ _ e), Same.trans h2 s1, fun b o e => ?_, fun b n z => ?_⟩) ⟨x, dx, fs, rfl, upd_same, h7.up s1⟩
    · by_cases hb : b = x
      · subst hb
        rw [upd_same] at e
        cases e
        exact h5
      · rw [upd_ne hb] at e
        exact h3 _ _ e
    · have hb : b ≠ x := fun q => n (by rw [q]; exact hx)
      rw [upd_ne hb]
      exact h4 b hb (Same.some_ne s0 n) z
def spIX5 {α1 : Type} {α2 : Type} {α3 : Type} {α4 : Type} {α5 : Type} (L : ExTab) (τ1 : Ty α1) (τ2 : Ty α2) (τ3 : Ty α3) (τ4 : Ty α4) (τ5 : Ty α5) (pre : α1 → α2 → α3 → α4 → α5 → Prop) (C : Addr) (sch : δ → List (Str × As)) (f : α1 → α2 → α3 → α4 → α5 → Except Exn δ) : Sp := fun vs H Q E => ∃ (x1 : α1) (x2 : α2) (x3 : α3) (x4 : α4) (x5 : α5), ∃ (p dx : Addr) (us : List V) (Hv : Hp), vs = .ref p :: us ∧ H p = some (.ins C dx []) ∧ Hv p = none ∧ Same Hv H ∧ Reps Hv us [⟨τ1, x1⟩, ⟨τ2, x2⟩, ⟨τ3, x3⟩, ⟨τ4, x4⟩, ⟨τ5, x5⟩] ∧ pre x1 x2 x3 x4 x5 ∧ (∀ y, f x1 x2 x3 x4 x5 = .ok y → ∀ Hv' H' fs, (∀ b o, b ≠ p → H b = some o → H' b = some o) → Same Hv Hv' → Same Hv' H' → (∀ b, b ≠ p → H b ≠ none → Hv b = none → Hv' b = none) → H' p = some (.ins C dx fs) → Hv' p = none → FsRep Hv' fs (sch y) → Q .non H') ∧ ∀ e, f x1 x2 x3 x4 x5 = .error e → ∀ cls d Hv' H', (∀ b o, b ≠ p → H b = some o → H' b = some o) → Same Hv Hv' → Same Hv' H' → (∀ b, b ≠ p → H b ≠ none → Hv b = none → Hv' b = none) → ExAt L Hv' e cls d → E cls d H'
theorem spIX5_len {α1 : Type} {α2 : Type} {α3 : Type} {α4 : Type} {α5 : Type} {τ1 : Ty α1} {τ2 : Ty α2} {τ3 : Ty α3} {τ4 : Ty α4} {τ5 : Ty α5} {pre : α1 → α2 → α3 → α4 → α5 → Prop} {f : α1 → α2 → α3 → α4 → α5 → Except Exn δ} (h : spIX5 L τ1 τ2 τ3 τ4 τ5 pre C sch f vs H Q E) : vs.length = 6 := by
  obtain ⟨_, _, _, _, _, _, _, us, _, rfl, _, _, _, r, _⟩ := h
  exact congrArg (· + 1) r.len
theorem spIX5_body {α1 : Type} {α2 : Type} {α3 : Type} {α4 : Type} {α5 : Type} {τ1 : Ty α1} {τ2 : Ty α2} {τ3 : Ty α3} {τ4 : Ty α4} {τ5 : Ty α5} {pre : α1 → α2 → α3 → α4 → α5 → Prop} {f : α1 → α2 → α3 → α4 → α5 → Except Exn δ} {N : List Str} {t : TS} (hl : 6 ≤ N.length) (h : spIX5 L τ1 τ2 τ3 τ4 τ5 pre C sch f vs H Q E) (hb : ∀ B0 : Bs, B0.n = N.length → ∀ p dx, ∀ (x1 : α1) (x2 : α2) (x3 : α3) (x4 : α4) (x5 : α5), pre x1 x2 x3 x4 x5 → RtIX L B0 p dx C sch (f x1 x2 x3 x4 x5) Q E → G B0 t [(0, .ob p dx C []), (1, .fz τ1 x1), (2, .fz τ2 x2), (3, .fz τ3 x3), (4, .fz τ4 x4), (5, .fz τ5 x5)] { nx := fun _ H' => Q .non H', rt := Q }) : t { nx := fun _ H' => Q .non H', rt := Q } (L2.start N vs) H := by
  obtain ⟨x1, x2, x3, x4, x5, p, dx, us, Hv, rfl, hp, hv, vis, rs, pr, k, kx⟩ := h
  have hlen : us.length = 5 := rs.len
  refine hb ⟨H, Hv, (· = p), N.length⟩ rfl p dx x1 x2 x3 x4 x5 pr ⟨fun _ z => z, fun y q => ⟨fun _ z => z, fun Hv' H' fs h1 h2 h3 h4 h5 h6 h7 => k y q Hv' H' fs h1 h2 h3 h4 h5 h6 h7⟩, kx⟩ _ Hv H ?_
  have hat : ∀ k v, us[k]? = some v → (L2.start N (V.ref p :: us))[1 + k]? = some (some v) := fun k v hk => by
    have hk' := (List.getElem?_eq_some_iff.mp hk).1
    unfold L2.start
    rw [List.getElem?_append_left (by simp; omega), Nat.add_comm, List.getElem?_map, List.getElem?_cons_succ, hk]
    rfl
  have h0 : (L2.start N (V.ref p :: us))[0]? = some (some (.ref p)) := rfl
  refine ⟨?_, vis, fun _ _ _ e => e, fun _ n => n, Same.refl _, fun _ _ _ z => z, fun i e m => ?_, fun i e l m c s => ?_, fun i j e f l m m' c c' n s s' => ?_⟩
  · unfold L2.start
    rw [List.length_append, List.length_map, List.length_replicate, List.length_cons]
    show us.length + 1 + (N.length - (us.length + 1)) = N.length
    omega
  · rcases List.mem_cons.mp m with q | m
    · cases q
      exact ⟨[], h0, hp, hv, .nil⟩
    · exact argC_at (i := 1) (as := [⟨τ1, x1⟩, ⟨τ2, x2⟩, ⟨τ3, x3⟩, ⟨τ4, x4⟩, ⟨τ5, x5⟩]) rs hat i e m
  · rcases List.mem_cons.mp m with q | m
    · cases q
      rw [h0] at s
      cases s
      exact .inr rfl
    · rw [(argC_ge (as := [⟨τ1, x1⟩, ⟨τ2, x2⟩, ⟨τ3, x3⟩, ⟨τ4, x4⟩, ⟨τ5, x5⟩]) (i := 1) m).2] at c
      cases c
  · rcases List.mem_cons.mp m with q | m
    · rcases List.mem_cons.mp m' with q' | m'
      · cases q
        cases q'
        exact n rfl
      · rw [(argC_ge (as := [⟨τ1, x1⟩, ⟨τ2, x2⟩, ⟨τ3, x3⟩, ⟨τ4, x4⟩, ⟨τ5, x5⟩]) (i := 1) m').2] at c'
        cases c'
    · rw [(argC_ge (as := [⟨τ1, x1⟩, ⟨τ2, x2⟩, ⟨τ3, x3⟩, ⟨τ4, x4⟩, ⟨τ5, x5⟩]) (i := 1) m).2] at c
      cases c
theorem smx_make5 {α1 : Type} {α2 : Type} {α3 : Type} {α4 : Type} {α5 : Type} {τ1 : Ty α1} {τ2 : Ty α2} {τ3 : Ty α3} {τ4 : Ty α4} {τ5 : Ty α5} {pre : α1 → α2 → α3 → α4 → α5 → Prop} {f : α1 → α2 → α3 → α4 → α5 → Except Exn δ} {x1 : α1} {x2 : α2} {x3 : α3} {x4 : α4} {x5 : α5} {t : TA} (ha : SmA B Γ t [⟨τ1, x1⟩, ⟨τ2, x2⟩, ⟨τ3, x3⟩, ⟨τ4, x4⟩, ⟨τ5, x5⟩]) (hp : pre x1 x2 x3 x4 x5) : SmX L B Γ (tMakeS C (spIX5 L τ1 τ2 τ3 τ4 τ5 pre C sch f) [] (WE W) t) (tObj C sch) (f x1 x2 x3 x4 x5) W := fun σ Hv H w Q k kx =>
  ha σ Hv H w _ fun us Hv1 H1 g1 rs => fun x dx hx hdx ndx => by
    show spIX5 L τ1 τ2 τ3 τ4 τ5 pre C sch f (V.ref x :: (us ++ [])) _ _ (WE W σ)
    rw [List.append_nil]
    have vx := Same.free g1.vis hx
    have s0 : Same H1 (upd (upd H1 dx (.own x)) x (.ins C dx [])) := fun b o e => by
      rw [upd_ne (ne_of_none e hx), upd_ne (ne_of_none e hdx)]
      exact e
    refine ⟨x1, x2, x3, x4, x5, x, dx, us, Hv1, rfl, upd_same, vx, Same.trans g1.vis s0, rs, hp, fun y q Hv' H' fs h1 h2 h3 h4 h5 h6 h7 => ⟨rfl, ?_⟩, fun e q cls d Hv' H' h1 h2 h3 h4 hx' => kx e q cls d Hv' H' (g1.trans ⟨fun b o e => h1 b o (ne_of_none e hx) (s0 _ _ e), h2, h3, fun b n z => h4 b (fun q => n (by rw [q]; exact hx)) (Same.some_ne s0 n) z⟩) hx'⟩
    have s1 := same_upd (o := .ins C dx fs) h6
    refine k y q (.ref x) (upd Hv' x (.ins C dx fs)) H' (g1.trans ⟨fun b o e => h1 b o (ne_of_none e hx) (s0 _ _ e), Same.trans h2 s1, fun b o e => ?_, fun b n z => ?_⟩) ⟨x, dx, fs, rfl, upd_same, h7.up s1⟩
    · by_cases hb : b = x
      · subst hb
        rw [upd_same] at e
        cases e
        exact h5
      · rw [upd_ne hb] at e
        exact h3 _ _ e
    · have hb : b ≠ x := fun q => n (by rw [q]; exact hx)
      rw [upd_ne hb]
      exact h4 b hb (Same.some_ne s0 n) z
end
end VC

set_option Elab.async false
set_option linter.all false
set_option maxRecDepth 100000
set_option maxHeartbeats 4000000
namespace VC
open PySem PySem.Spec L2 VX
section
variable {B B0 : Bs} {Γ : Cxt} {α β γ : Type} {τ : Ty α} {υ : Ty β} {φ : Ty γ} {x : α} {D : Ends} {K : PySem.W.Frag} {L : ExTab} {W Wout : WX} {e : Exn} {u : TS} {i : Nat}
theorem sm_divmod {t u : TE} {i j : Int} (h : Sm B Γ t tInt i) (h' : Sm B Γ u tInt j) (c : CDiv i j) : Sm B Γ (tCB (fun xs H Q => ∃ i j, xs = [.int i, .int j] ∧ CDiv i j ∧ ∀ p, H p = none → Q (.ref p) (upd H p (.tup [.int (i / j), .int (i % j)]))) (tCons t (tCons u tNil))) (tTup2 tInt tInt) (i / j, i % j) := fun σ Hv H w Q k =>
  h σ Hv H w _ fun v Hv1 H1 g1 r1 => h' σ Hv1 H1 (w.grow g1) _ fun u Hv2 H2 g2 r2 => by
    cases r1
    cases r2
    refine ⟨i, j, rfl, c, fun p hp => ?_⟩
    exact k _ _ _ ((g1.trans g2).trans (Grow.new g2.vis hp)) ⟨p, _, _, rfl, upd_same, rfl, rfl⟩
theorem call_list_ofK {X : Cx} {K : PySem.W.Frag} (h : X.K = K) : CallR X (.type "list") (fun xs H Q => ∃ p ys, xs = [.ref p] ∧ (SqL K H p ys ∨ SqT K H p ys) ∧ ∀ (l : Addr), H l = none → Q (.ref l) (upd H l (.lst ys))) := by
  subst h
  exact call_list_of
theorem bb_divmod' : bootBuiltins "divmod" = some (.builtin "divmod") := bb_divmod
end
end VC

set_option Elab.async false
set_option maxRecDepth 100000
/-! MF: the small field, in plain numbers. -/
namespace MF

def wd (R : Nat) : Nat := Nat.log2 R
def last (R : Nat) : Nat := 2 ^ wd R - 1
/-- a symbol doubled -/
def dbl (R x : Nat) : Nat := if 2 * x < 2 ^ wd R then 2 * x else (2 * x) ^^^ R
def dp (R : Nat) : Nat → Nat → Nat
  | 0, x => x
  | k + 1, x => dbl R (dp R k x)
def pw (R k : Nat) : Nat := dp R k 1
/-- the product by doubling -/
def pd (R : Nat) : Nat → Nat → Nat → Nat
  | 0, _, _ => 0
  | n + 1, x, y => (if y % 2 = 1 then x else 0) ^^^ pd R n (dbl R x) (y / 2)

theorem xor_cancel (a b : Nat) : a ^^^ b ^^^ b = a := by rw [Nat.xor_assoc, Nat.xor_self, Nat.xor_zero]
theorem xor_left (a b c : Nat) : a ^^^ (b ^^^ c) = b ^^^ (a ^^^ c) := by rw [← Nat.xor_assoc, Nat.xor_comm a b, Nat.xor_assoc]
theorem xor4 (a b c d : Nat) : (a ^^^ b) ^^^ (c ^^^ d) = (a ^^^ c) ^^^ (b ^^^ d) := by
  rw [Nat.xor_assoc, Nat.xor_assoc, xor_left b c d]
theorem xor_eq_zero {a b : Nat} (h : a ^^^ b = 0) : a = b := by
  have := congrArg (· ^^^ b) h
  simp only [xor_cancel, Nat.zero_xor] at this
  exact this
theorem xor_lt {a b w : Nat} (ha : a < 2 ^ w) (hb : b < 2 ^ w) : a ^^^ b < 2 ^ w := Nat.xor_lt_two_pow ha hb
theorem xor_mod2 (a b : Nat) : (a ^^^ b) % 2 = (a % 2 + b % 2) % 2 := by
  have h := Nat.xor_mod_two_eq_one (a := a) (b := b)
  have h1 := Nat.mod_two_eq_zero_or_one (a ^^^ b)
  have h2 := Nat.mod_two_eq_zero_or_one a
  have h3 := Nat.mod_two_eq_zero_or_one b
  rcases h1 with h1 | h1 <;> rcases h2 with h2 | h2 <;> rcases h3 with h3 | h3 <;> simp [h1, h2, h3] at h ⊢
theorem xor_div2 (a b : Nat) : (a ^^^ b) / 2 = a / 2 ^^^ b / 2 := Nat.xor_div_two
theorem xor_mul2 (a b : Nat) : 2 * (a ^^^ b) = 2 * a ^^^ 2 * b := by
  have := Nat.shiftLeft_xor_distrib (a := a) (b := b) (i := 1)
  simp only [Nat.shiftLeft_eq, Nat.pow_one] at this
  rw [Nat.mul_comm 2, Nat.mul_comm 2, Nat.mul_comm 2]
  exact this

theorem lt_of_bit {x w : Nat} (h : x < 2 ^ (w + 1)) (hb : x.testBit w = false) : x < 2 ^ w := by
  refine Nat.lt_pow_two_of_testBit x fun i hi => ?_
  by_cases e : i = w
  · rw [e]; exact hb
  · exact Nat.testBit_lt_two_pow (Nat.lt_of_lt_of_le h (Nat.pow_le_pow_right (by omega) (by omega)))
theorem bit_of {x w : Nat} (h1 : 2 ^ w ≤ x) (h2 : x < 2 ^ (w + 1)) : x.testBit w = true := by
  cases e : x.testBit w with
  | true => rfl
  | false => exact absurd (lt_of_bit h2 e) (by omega)
theorem two_q_xor (q : Nat) : 2 * q ^^^ 1 = 2 * q + 1 := by
  have h1 := xor_mod2 (2 * q) 1
  have h2 := xor_div2 (2 * q) 1
  have e : (1 : Nat) / 2 = 0 := rfl
  rw [e, Nat.xor_zero] at h2
  omega

structure Good (R : Nat) : Prop where
  lo : 16 ≤ R
  hi : R < 512
  odd : R % 2 = 1
  back : pw R (last R) = 1
  first : ∀ k, 0 < k → k < last R → pw R k ≠ 1
structure Rng (R : Nat) : Prop where
  lo : 16 ≤ R
  hi : R < 512
  odd : R % 2 = 1
theorem Good.rng {R : Nat} (g : Good R) : Rng R := ⟨g.lo, g.hi, g.odd⟩
section
variable {R : Nat}
theorem Rng.le (g : Rng R) : 2 ^ wd R ≤ R := Nat.log2_self_le (by have := g.lo; omega)
theorem Rng.lt (g : Rng R) : R < 2 ^ (wd R + 1) := Nat.lt_log2_self
theorem Rng.w4 (g : Rng R) : 4 ≤ wd R := (Nat.le_log2 (by have := g.lo; omega)).mpr g.lo
theorem Rng.w8 (g : Rng R) : wd R ≤ 8 := by
  have := (Nat.log2_lt (n := R) (k := 9) (by have := g.lo; omega)).mpr g.hi
  unfold wd; omega
theorem Rng.p16 (g : Rng R) : 16 ≤ 2 ^ wd R := Nat.le_trans (by decide : 16 ≤ 2 ^ 4) (Nat.pow_le_pow_right (by omega) g.w4)
theorem Rng.p256 (g : Rng R) : 2 ^ wd R ≤ 256 := Nat.le_trans (Nat.pow_le_pow_right (by omega) g.w8) (by decide : 2 ^ 8 ≤ 256)
theorem last1 (g : Rng R) : last R + 1 = 2 ^ wd R := by have := g.p16; unfold last; omega
theorem Rng.l15 (g : Rng R) : 15 ≤ last R := by have := g.p16; unfold last; omega
theorem Rng.l255 (g : Rng R) : last R ≤ 255 := by have := g.p256; unfold last; omega
theorem pow_s (w : Nat) : 2 ^ (w + 1) = 2 * 2 ^ w := by rw [Nat.pow_succ, Nat.mul_comm]
/-- the doubling by the top bit -/
theorem dbl_eq {x : Nat} (hx : x < 2 ^ wd R) : dbl R x = 2 * x ^^^ (if (2 * x).testBit (wd R) then R else 0) := by
  have hs := pow_s (wd R)
  unfold dbl
  by_cases h : 2 * x < 2 ^ wd R
  · rw [if_pos h, if_neg (by rw [Nat.testBit_lt_two_pow h]; simp), Nat.xor_zero]
  · rw [if_neg h, if_pos (bit_of (by omega) (by omega))]
theorem dbl_lt (g : Rng R) {x : Nat} (hx : x < 2 ^ wd R) : dbl R x < 2 ^ wd R := by
  have hs := pow_s (wd R)
  rw [dbl_eq hx]
  refine lt_of_bit ?_ ?_
  · refine xor_lt (by omega) ?_
    split
    · exact g.lt
    · exact Nat.two_pow_pos _
  · rw [Nat.testBit_xor]
    cases e : (2 * x).testBit (wd R) with
    | true => simp [bit_of g.le g.lt]
    | false => simp
theorem dbl_add (g : Rng R) {x y : Nat} (hx : x < 2 ^ wd R) (hy : y < 2 ^ wd R) : dbl R (x ^^^ y) = dbl R x ^^^ dbl R y := by
  rw [dbl_eq hx, dbl_eq hy, dbl_eq (xor_lt hx hy), xor_mul2, Nat.testBit_xor, xor4]
  congr 1
  cases (2 * x).testBit (wd R) <;> cases (2 * y).testBit (wd R) <;> simp
theorem dbl_zero : dbl R 0 = 0 := by
  unfold dbl
  rw [if_pos (by rw [Nat.mul_zero]; exact Nat.two_pow_pos _)]
theorem dbl_ne (g : Rng R) {x : Nat} (hx : x < 2 ^ wd R) (h : dbl R x = 0) : x = 0 := by
  unfold dbl at h
  split at h
  · omega
  · have e := xor_eq_zero h
    have := g.odd
    omega
theorem dbl_inj (g : Rng R) {x y : Nat} (hx : x < 2 ^ wd R) (hy : y < 2 ^ wd R) (h : dbl R x = dbl R y) : x = y := by
  refine xor_eq_zero (dbl_ne g (xor_lt hx hy) ?_)
  rw [dbl_add g hx hy, h, Nat.xor_self]
theorem dp_lt (g : Rng R) {x : Nat} (hx : x < 2 ^ wd R) : ∀ k, dp R k x < 2 ^ wd R
  | 0 => hx
  | k + 1 => dbl_lt g (dp_lt g hx k)
theorem dp_zero : ∀ k, dp R k 0 = 0
  | 0 => rfl
  | k + 1 => by
    show dbl R (dp R k 0) = 0
    rw [dp_zero k, dbl_zero]
theorem dp_dbl {x : Nat} : ∀ k, dp R k (dbl R x) = dbl R (dp R k x)
  | 0 => rfl
  | k + 1 => congrArg (dbl R) (dp_dbl k)
theorem dp_add' {x : Nat} (j : Nat) : ∀ k, dp R (j + k) x = dp R k (dp R j x)
  | 0 => rfl
  | k + 1 => congrArg (dbl R) (dp_add' j k)
theorem dp_xor (g : Rng R) {x y : Nat} (hx : x < 2 ^ wd R) (hy : y < 2 ^ wd R) : ∀ k, dp R k (x ^^^ y) = dp R k x ^^^ dp R k y
  | 0 => rfl
  | k + 1 => by
    show dbl R (dp R k (x ^^^ y)) = dbl R (dp R k x) ^^^ dbl R (dp R k y)
    rw [dp_xor g hx hy k, dbl_add g (dp_lt g hx k) (dp_lt g hy k)]
theorem dp_inj (g : Rng R) {x y : Nat} (hx : x < 2 ^ wd R) (hy : y < 2 ^ wd R) : ∀ k, dp R k x = dp R k y → x = y
  | 0, h => h
  | k + 1, h => dp_inj g hx hy k (dbl_inj g (dp_lt g hx k) (dp_lt g hy k) h)
theorem one_lt (g : Rng R) : 1 < 2 ^ wd R := by have := g.p16; omega
theorem pw_lt (g : Rng R) (k : Nat) : pw R k < 2 ^ wd R := dp_lt g (one_lt g) k
theorem pw_ne (g : Rng R) : ∀ k, pw R k ≠ 0
  | 0 => fun h => by cases h
  | k + 1 => fun h => pw_ne g k (dbl_ne g (pw_lt g k) h)
theorem pw_add (j k : Nat) : pw R (j + k) = dp R k (pw R j) := dp_add' j k

/-! ### the product by doubling -/
theorem pd_zero : ∀ (n x : Nat), pd R n x 0 = 0
  | 0, _ => rfl
  | n + 1, x => by
    show (if 0 % 2 = 1 then x else 0) ^^^ pd R n (dbl R x) (0 / 2) = 0
    rw [Nat.zero_div, pd_zero n]
    simp
theorem pd_zeroL : ∀ (n y : Nat), pd R n 0 y = 0
  | 0, _ => rfl
  | n + 1, y => by
    show (if y % 2 = 1 then 0 else 0) ^^^ pd R n (dbl R 0) (y / 2) = 0
    rw [dbl_zero, pd_zeroL n]
    simp
theorem pd_addR : ∀ (n x y y' : Nat), pd R n x (y ^^^ y') = pd R n x y ^^^ pd R n x y'
  | 0, _, _, _ => (Nat.xor_self 0).symm
  | n + 1, x, y, y' => by
    show (if (y ^^^ y') % 2 = 1 then x else 0) ^^^ pd R n (dbl R x) ((y ^^^ y') / 2) = ((if y % 2 = 1 then x else 0) ^^^ pd R n (dbl R x) (y / 2)) ^^^ ((if y' % 2 = 1 then x else 0) ^^^ pd R n (dbl R x) (y' / 2))
    rw [xor_div2, pd_addR n, xor4]
    congr 1
    rw [xor_mod2]
    rcases Nat.mod_two_eq_zero_or_one y with h | h <;> rcases Nat.mod_two_eq_zero_or_one y' with h' | h' <;> simp [h, h']
theorem pd_lt (g : Rng R) : ∀ (n : Nat) {x : Nat} (y : Nat), x < 2 ^ wd R → pd R n x y < 2 ^ wd R
  | 0, _, _, _ => Nat.two_pow_pos _
  | n + 1, x, y, hx => by
    show (if y % 2 = 1 then x else 0) ^^^ pd R n (dbl R x) (y / 2) < _
    refine xor_lt ?_ (pd_lt g n _ (dbl_lt g hx))
    split
    · exact hx
    · exact Nat.two_pow_pos _
theorem pd_addL (g : Rng R) : ∀ (n : Nat) {x x' : Nat} (y : Nat), x < 2 ^ wd R → x' < 2 ^ wd R → pd R n (x ^^^ x') y = pd R n x y ^^^ pd R n x' y
  | 0, _, _, _, _, _ => (Nat.xor_self 0).symm
  | n + 1, x, x', y, hx, hx' => by
    show (if y % 2 = 1 then x ^^^ x' else 0) ^^^ pd R n (dbl R (x ^^^ x')) (y / 2) = ((if y % 2 = 1 then x else 0) ^^^ pd R n (dbl R x) (y / 2)) ^^^ ((if y % 2 = 1 then x' else 0) ^^^ pd R n (dbl R x') (y / 2))
    rw [dbl_add g hx hx', pd_addL g n _ (dbl_lt g hx) (dbl_lt g hx'), xor4]
    congr 1
    split <;> simp
theorem pd_dbl (g : Rng R) : ∀ (n : Nat) {x : Nat} (y : Nat), x < 2 ^ wd R → pd R n (dbl R x) y = dbl R (pd R n x y)
  | 0, _, _, _ => dbl_zero.symm
  | n + 1, x, y, hx => by
    show (if y % 2 = 1 then dbl R x else 0) ^^^ pd R n (dbl R (dbl R x)) (y / 2) = dbl R ((if y % 2 = 1 then x else 0) ^^^ pd R n (dbl R x) (y / 2))
    rw [pd_dbl g n _ (dbl_lt g hx)]
    by_cases h : y % 2 = 1
    · rw [if_pos h, if_pos h, dbl_add g hx (pd_lt g n _ (dbl_lt g hx))]
    · rw [if_neg h, if_neg h, Nat.zero_xor, Nat.zero_xor]
theorem pd_dp (g : Rng R) (n : Nat) {x : Nat} (y : Nat) (hx : x < 2 ^ wd R) : ∀ k, pd R n (dp R k x) y = dp R k (pd R n x y)
  | 0 => rfl
  | k + 1 => by
    show pd R n (dbl R (dp R k x)) y = dbl R (dp R k (pd R n x y))
    rw [pd_dbl g n y (dp_lt g hx k), pd_dp g n y hx k]
/-- more steps than digits -/
theorem pd_more : ∀ (n m x y : Nat), y < 2 ^ n → pd R (n + m) x y = pd R n x y
  | 0, m, x, y, h => by
    have : y = 0 := by have : 2 ^ 0 = 1 := rfl; omega
    rw [this, pd_zero, pd_zero]
  | n + 1, m, x, y, h => by
    rw [show n + 1 + m = (n + m) + 1 by omega]
    show (if y % 2 = 1 then x else 0) ^^^ pd R (n + m) (dbl R x) (y / 2) = (if y % 2 = 1 then x else 0) ^^^ pd R n (dbl R x) (y / 2)
    rw [pd_more n m _ _ (by have := pow_s n; omega)]
theorem pd_fuel {n m x y : Nat} (hn : y < 2 ^ n) (hm : y < 2 ^ m) : pd R n x y = pd R m x y := by
  rw [← pd_more n m x y hn, Nat.add_comm, pd_more m n x y hm]
theorem pd_even (n x y : Nat) : pd R (n + 1) x (2 * y) = pd R n (dbl R x) y := by
  show (if 2 * y % 2 = 1 then x else 0) ^^^ pd R n (dbl R x) (2 * y / 2) = _
  rw [if_neg (by omega), Nat.zero_xor, show 2 * y / 2 = y by omega]
theorem pd_one (n x : Nat) : pd R (n + 1) x 1 = x := by
  show (if 1 % 2 = 1 then x else 0) ^^^ pd R n (dbl R x) (1 / 2) = x
  rw [if_pos rfl, show 1 / 2 = 0 from rfl, pd_zero, Nat.xor_zero]
theorem pd_pow : ∀ (k n x : Nat), k < n → pd R n x (2 ^ k) = dp R k x
  | 0, n + 1, x, _ => pd_one n x
  | k + 1, n + 1, x, h => by
    rw [pow_s, pd_even, pd_pow k n _ (by omega), dp_dbl]
    rfl
/-- 1 times a symbol -/
theorem pd_1 (n : Nat) : ∀ k m, 2 ^ k * m < 2 ^ wd R → m < 2 ^ n → pd R n (2 ^ k) m = 2 ^ k * m := by
  induction n with
  | zero =>
    intro k m _ h
    have : m = 0 := by have : 2 ^ 0 = 1 := rfl; omega
    subst this
    simp [pd]
  | succ n ih =>
    intro k m h hm
    show (if m % 2 = 1 then 2 ^ k else 0) ^^^ pd R n (dbl R (2 ^ k)) (m / 2) = _
    by_cases h0 : m / 2 = 0
    · rw [h0, pd_zero, Nat.xor_zero]
      have : m = 0 ∨ m = 1 := by omega
      rcases this with rfl | rfl <;> simp
    · have hs := pow_s k
      have hle : 2 ^ k * 2 ≤ 2 ^ k * m := Nat.mul_le_mul_left _ (by omega)
      have e : dbl R (2 ^ k) = 2 ^ (k + 1) := by
        unfold dbl
        rw [if_pos (by omega), hs]
      have e2 : 2 ^ (k + 1) * (m / 2) = 2 ^ k * (2 * (m / 2)) := by rw [hs, Nat.mul_comm 2, Nat.mul_assoc]
      have hle2 : 2 ^ k * (2 * (m / 2)) ≤ 2 ^ k * m := Nat.mul_le_mul_left _ (by omega)
      rw [e, ih (k + 1) (m / 2) (by omega) (by have := pow_s n; omega), e2]
      have em : m = 2 * (m / 2) + m % 2 := by omega
      by_cases ho : m % 2 = 1
      · rw [if_pos ho, Nat.xor_comm]
        have z := Nat.shiftLeft_xor_distrib (a := 2 * (m / 2)) (b := 1) (i := k)
        simp only [Nat.shiftLeft_eq] at z
        rw [Nat.one_mul, two_q_xor] at z
        rw [Nat.mul_comm (2 ^ k), ← z, ← show m = 2 * (m / 2) + 1 by omega, Nat.mul_comm]
      · rw [if_neg ho, Nat.zero_xor, ← show m = 2 * (m / 2) by omega]
theorem pd_1_all {n y : Nat} (hy : y < 2 ^ wd R) (hn : y < 2 ^ n) : pd R n 1 y = y := by
  have := pd_1 (R := R) n 0 y (by simpa using hy) hn
  simpa using this
/-- the rule itself is nought -/
theorem pd_1R (g : Rng R) {n : Nat} (hn : wd R < n) : pd R n 1 R = 0 := by
  have hs := pow_s (wd R)
  have hR : R = 2 ^ wd R ^^^ (R ^^^ 2 ^ wd R) := by rw [Nat.xor_comm R, ← Nat.xor_assoc, Nat.xor_self, Nat.zero_xor]
  have hb : R ^^^ 2 ^ wd R < 2 ^ wd R := by
    refine lt_of_bit (xor_lt g.lt (by have := Nat.two_pow_pos (wd R); omega)) ?_
    rw [Nat.testBit_xor, bit_of g.le g.lt, Nat.testBit_two_pow_self]
    rfl
  have e1 : pd R n 1 (2 ^ wd R) = R ^^^ 2 ^ wd R := by
    rw [pd_pow _ _ _ hn]
    obtain ⟨v, hv⟩ : ∃ v, wd R = v + 1 := ⟨wd R - 1, by have := g.w4; omega⟩
    have hv2 := pow_s v
    have ev : dp R v 1 = 2 ^ v := by
      have z := pd_pow (R := R) v (v + 1) 1 (by omega)
      rw [← z]
      have hp := Nat.two_pow_pos v
      exact pd_1_all (by rw [hv]; omega) (by omega)
    rw [hv]
    show dbl R (dp R v 1) = _
    rw [ev]
    unfold dbl
    rw [hv, ← hv2, if_neg (by omega), Nat.xor_comm]
  have hn2 : 2 ^ wd R ≤ 2 ^ n := Nat.pow_le_pow_right (by omega) (by omega)
  have e2 : pd R n 1 R = pd R n 1 (2 ^ wd R) ^^^ pd R n 1 (R ^^^ 2 ^ wd R) := by rw [← pd_addR, ← hR]
  rw [e2, e1, pd_1_all (y := R ^^^ 2 ^ wd R) hb (by omega), Nat.xor_self]

/-! ### each symbol but 0 is a power of 2 -/
theorem nodup_len : ∀ (n : Nat) (l : List Nat), l.Nodup → (∀ x ∈ l, x < n) → l.length ≤ n
  | 0, l, _, h => by
    cases l with
    | nil => exact Nat.le_refl _
    | cons a l => exact absurd (h a List.mem_cons_self) (by omega)
  | n + 1, l, nd, h => by
    by_cases hm : n ∈ l
    · have := nodup_len n (l.erase n) (nd.erase n) fun x hx => by
        have z := (nd.mem_erase_iff).mp hx
        have := h x z.2
        omega
      rw [List.length_erase_of_mem hm] at this
      omega
    · have := nodup_len n l nd fun x hx => by
        have h1 := h x hx
        have : x ≠ n := fun e => hm (e ▸ hx)
        omega
      omega
theorem surj {n : Nat} {f : Nat → Nat} (hi : ∀ i j, i < n → j < n → f i = f j → i = j) (hr : ∀ i, i < n → f i < n) {x : Nat} (hx : x < n) : ∃ i, i < n ∧ f i = x := by
  refine Classical.byContradiction fun hne => ?_
  have nd : ((List.range n).map f).Nodup := by
    rw [List.nodup_iff_pairwise_ne, List.pairwise_map]
    exact List.Pairwise.imp_of_mem (fun ha hb hne e => hne (hi _ _ (List.mem_range.mp ha) (List.mem_range.mp hb) e)) (List.nodup_iff_pairwise_ne.mp List.nodup_range)
  have := nodup_len n (x :: (List.range n).map f) (List.nodup_cons.mpr ⟨fun hm => ?_, nd⟩) fun y hy => ?_
  · simp only [List.length_cons, List.length_map, List.length_range] at this
    omega
  · obtain ⟨i, h1, h2⟩ := List.mem_map.mp hm
    exact hne ⟨i, List.mem_range.mp h1, h2⟩
  · rcases List.mem_cons.mp hy with rfl | hy
    · exact hx
    · obtain ⟨i, h1, rfl⟩ := List.mem_map.mp hy
      exact hr i (List.mem_range.mp h1)
theorem pw_inj (g : Good R) : ∀ {i j : Nat}, i < last R → j < last R → pw R i = pw R j → i = j := by
  have key : ∀ {i j : Nat}, i < j → j < last R → pw R i = pw R j → False := fun {i j} h hj e => by
    have e2 : pw R j = dp R i (pw R (j - i)) := by
      have := pw_add (R := R) (j - i) i
      rwa [show j - i + i = j by omega] at this
    have e3 : dp R i 1 = dp R i (pw R (j - i)) := e.trans e2
    exact g.first (j - i) (by omega) (by omega) (dp_inj g.rng (one_lt g.rng) (pw_lt g.rng _) i e3).symm
  intro i j hi hj e
  rcases Nat.lt_trichotomy i j with h | h | h
  · exact (key h hj e).elim
  · exact h
  · exact (key h hi e.symm).elim
theorem pw_surj (g : Good R) {x : Nat} (h0 : x ≠ 0) (hx : x < 2 ^ wd R) : ∃ i, i < last R ∧ pw R i = x := by
  have hl := last1 g.rng
  obtain ⟨i, h1, h2⟩ := surj (n := last R) (f := fun i => pw R i - 1) (fun i j hi hj e => pw_inj g hi hj (by have a := pw_ne g.rng i; have b := pw_ne g.rng j; omega))
    (fun i hi => by have a := pw_ne g.rng i; have b := pw_lt g.rng i; have := g.rng.l15; omega) (x := x - 1) (by omega)
  exact ⟨i, h1, by have a := pw_ne g.rng i; omega⟩
theorem pw_per (g : Good R) (k : Nat) : pw R (k + last R) = pw R k := by
  rw [Nat.add_comm, pw_add, g.back]
  rfl
theorem pw_per' (g : Good R) (k : Nat) : ∀ m, pw R (k + last R * m) = pw R k
  | 0 => by rw [Nat.mul_zero, Nat.add_zero]
  | m + 1 => by rw [Nat.mul_succ, ← Nat.add_assoc, pw_per g, pw_per' g k m]
theorem pw_mod (g : Good R) (k : Nat) : pw R (k % last R) = pw R k := by
  have := pw_per' g (k % last R) (k / last R)
  rw [Nat.mod_add_div] at this
  exact this.symm
/-! ### the rule as a factor, and products of powers -/
theorem pd_R (g : Good R) {n x : Nat} (hn : wd R < n) (hx : x < 2 ^ wd R) : pd R n x R = 0 := by
  by_cases h0 : x = 0
  · rw [h0, pd_zeroL]
  · obtain ⟨i, _, rfl⟩ := pw_surj g h0 hx
    show pd R n (dp R i 1) R = 0
    rw [pd_dp g.rng n R (one_lt g.rng) i, pd_1R g.rng hn, dp_zero]
/-- the product -/
def mul (R x y : Nat) : Nat := pd R 9 x y
theorem sym512 (g : Rng R) {x : Nat} (hx : x < 2 ^ wd R) : x < 256 := Nat.lt_of_lt_of_le hx g.p256
theorem mul_lt (g : Rng R) {x : Nat} (y : Nat) (hx : x < 2 ^ wd R) : mul R x y < 2 ^ wd R := pd_lt g 9 y hx
theorem mul_zero (x : Nat) : mul R x 0 = 0 := pd_zero 9 x
theorem zero_mul (y : Nat) : mul R 0 y = 0 := pd_zeroL 9 y
theorem mul_one (x : Nat) : mul R x 1 = x := pd_one 8 x
theorem mul_addR (x y y' : Nat) : mul R x (y ^^^ y') = mul R x y ^^^ mul R x y' := pd_addR 9 x y y'
theorem mul_addL (g : Rng R) {x x' : Nat} (y : Nat) (hx : x < 2 ^ wd R) (hx' : x' < 2 ^ wd R) : mul R (x ^^^ x') y = mul R x y ^^^ mul R x' y := pd_addL g 9 y hx hx'
theorem mul_dblL (g : Rng R) {x : Nat} (y : Nat) (hx : x < 2 ^ wd R) : mul R (dbl R x) y = dbl R (mul R x y) := pd_dbl g 9 y hx
theorem mul_dblR (g : Good R) {x y : Nat} (hx : x < 2 ^ wd R) (hy : y < 2 ^ wd R) : mul R x (dbl R y) = dbl R (mul R x y) := by
  have h2 : mul R x (2 * y) = dbl R (mul R x y) := by
    have h9 := sym512 g.rng hy
    unfold mul
    rw [pd_fuel (n := 9) (m := 10) (by omega) (by omega), pd_even, pd_dbl g.rng 9 y hx]
  unfold dbl
  split
  · rw [h2]; rfl
  · rw [mul_addR, h2]
    have : mul R x R = 0 := pd_R g (by have := g.rng.w8; omega) hx
    rw [this, Nat.xor_zero]
    rfl
theorem mul_dpR (g : Good R) {x y : Nat} (hx : x < 2 ^ wd R) (hy : y < 2 ^ wd R) : ∀ k, mul R x (dp R k y) = dp R k (mul R x y)
  | 0 => rfl
  | k + 1 => by
    show mul R x (dbl R (dp R k y)) = dbl R (dp R k (mul R x y))
    rw [mul_dblR g hx (dp_lt g.rng hy k), mul_dpR g hx hy k]
theorem mul_pw (g : Good R) (i j : Nat) : mul R (pw R i) (pw R j) = pw R (i + j) := by
  show mul R (pw R i) (dp R j 1) = _
  rw [mul_dpR g (pw_lt g.rng i) (one_lt g.rng) j, mul_one, pw_add]
theorem mul_comm (g : Good R) {x y : Nat} (hx : x < 2 ^ wd R) (hy : y < 2 ^ wd R) : mul R x y = mul R y x := by
  by_cases h0 : x = 0
  · rw [h0, zero_mul, mul_zero]
  · by_cases h1 : y = 0
    · rw [h1, zero_mul, mul_zero]
    · obtain ⟨i, _, rfl⟩ := pw_surj g h0 hx
      obtain ⟨j, _, rfl⟩ := pw_surj g h1 hy
      rw [mul_pw g, mul_pw g, Nat.add_comm]
theorem mul_assoc (g : Good R) {x y z : Nat} (hx : x < 2 ^ wd R) (hy : y < 2 ^ wd R) (hz : z < 2 ^ wd R) : mul R (mul R x y) z = mul R x (mul R y z) := by
  by_cases h0 : x = 0
  · rw [h0, zero_mul, zero_mul, zero_mul]
  · by_cases h1 : y = 0
    · rw [h1, zero_mul, mul_zero, zero_mul]
    · by_cases h2 : z = 0
      · rw [h2, mul_zero, mul_zero, mul_zero]
      · obtain ⟨i, _, rfl⟩ := pw_surj g h0 hx
        obtain ⟨j, _, rfl⟩ := pw_surj g h1 hy
        obtain ⟨k, _, rfl⟩ := pw_surj g h2 hz
        rw [mul_pw g, mul_pw g, mul_pw g, mul_pw g, Nat.add_assoc]
theorem mul_ne (g : Good R) {x y : Nat} (hx : x < 2 ^ wd R) (hy : y < 2 ^ wd R) (h0 : x ≠ 0) (h1 : y ≠ 0) : mul R x y ≠ 0 := by
  obtain ⟨i, _, rfl⟩ := pw_surj g h0 hx
  obtain ⟨j, _, rfl⟩ := pw_surj g h1 hy
  rw [mul_pw g]
  exact pw_ne g.rng _
/-! ### logs -/
def pows (R : Nat) : List Nat := (List.range (last R)).map (pw R)
def lg (R x : Nat) : Nat := if x = 0 then 0 else (pows R).idxOf x
theorem pows_len : (pows R).length = last R := by simp [pows]
theorem pows_get {k : Nat} (h : k < last R) : (pows R)[k]? = some (pw R k) := by simp [pows, h]
theorem lg_pw (g : Good R) {k : Nat} (h : k < last R) : lg R (pw R k) = k := by
  unfold lg
  rw [if_neg (pw_ne g.rng k)]
  have hm : pw R k ∈ pows R := List.mem_map.mpr ⟨k, List.mem_range.mpr h, rfl⟩
  have hl := List.idxOf_lt_length_iff.mpr hm
  rw [pows_len] at hl
  have he : (pows R)[(pows R).idxOf (pw R k)]? = some (pw R k) := by
    rw [List.getElem?_eq_getElem (by rw [pows_len]; exact hl)]
    exact congrArg some (List.getElem_idxOf _)
  rw [pows_get hl] at he
  exact pw_inj g hl h (Option.some.inj he)
theorem lg_spec (g : Good R) {x : Nat} (h0 : x ≠ 0) (hx : x < 2 ^ wd R) : lg R x < last R ∧ pw R (lg R x) = x := by
  obtain ⟨i, hi, rfl⟩ := pw_surj g h0 hx
  rw [lg_pw g hi]
  exact ⟨hi, rfl⟩
theorem lg_lt (g : Good R) {x : Nat} (hx : x < 2 ^ wd R) : lg R x < last R := by
  by_cases h : x = 0
  · rw [h]
    have := g.rng.l15
    show (if 0 = 0 then 0 else _) < _
    rw [if_pos rfl]
    omega
  · exact (lg_spec g h hx).1
theorem times_eq (g : Good R) {x y : Nat} (h0 : x ≠ 0) (h1 : y ≠ 0) (hx : x < 2 ^ wd R) (hy : y < 2 ^ wd R) : pw R ((lg R x + lg R y) % last R) = mul R x y := by
  rw [pw_mod g, ← mul_pw g, (lg_spec g h0 hx).2, (lg_spec g h1 hy).2]
def inv (R x : Nat) : Nat := pw R ((last R - lg R x) % last R)
theorem inv_lt (g : Rng R) (x : Nat) : inv R x < 2 ^ wd R := pw_lt g _
theorem mul_inv (g : Good R) {x : Nat} (h0 : x ≠ 0) (hx : x < 2 ^ wd R) : mul R x (inv R x) = 1 := by
  obtain ⟨h1, h2⟩ := lg_spec g h0 hx
  unfold inv
  rw [pw_mod g]
  have : mul R (pw R (lg R x)) (pw R (last R - lg R x)) = 1 := by
    rw [mul_pw g, show lg R x + (last R - lg R x) = last R by omega, g.back]
  rwa [h2] at this
theorem inv_ne (g : Good R) (x : Nat) : inv R x ≠ 0 := pw_ne g.rng _
/-- a rule is good: a check that runs -/
def goodB (R : Nat) : Bool := decide (16 ≤ R) && decide (R < 512) && decide (R % 2 = 1) && walkB R (last R) (last R) 1
where walkB (R L : Nat) : Nat → Nat → Bool
  | 0, x => x == 1
  | n + 1, x => (n + 1 == L || x != 1) && walkB R L n (dbl R x)
theorem walkB_ok {L : Nat} : ∀ (n : Nat) (j : Nat), n + j = L → goodB.walkB R L n (pw R j) = true → pw R L = 1 ∧ ∀ k, j ≤ k → k < L → k ≠ 0 → pw R k ≠ 1
  | 0, j, e, h => by
    have : j = L := by omega
    subst this
    exact ⟨by simpa [goodB.walkB] using h, fun k h1 h2 => by omega⟩
  | n + 1, j, e, h => by
    unfold goodB.walkB at h
    simp only [Bool.and_eq_true, Bool.or_eq_true, beq_iff_eq, bne_iff_ne] at h
    obtain ⟨h1, h2⟩ := walkB_ok n (j + 1) (by omega) h.2
    refine ⟨h1, fun k hk hL h0 => ?_⟩
    by_cases ek : k = j
    · subst ek
      rcases h.1 with h | h
      · omega
      · exact h
    · exact h2 k (by omega) hL h0
theorem good_of (h : goodB R = true) : Good R := by
  unfold goodB at h
  simp only [Bool.and_eq_true, decide_eq_true_eq] at h
  obtain ⟨⟨⟨h1, h2⟩, h3⟩, h4⟩ := h
  obtain ⟨h5, h6⟩ := walkB_ok (last R) 0 rfl h4
  exact ⟨h1, h2, h3, h5, fun k h0 hk => h6 k (Nat.zero_le _) hk (by omega)⟩
end
def rules : List Nat := [19, 25, 37, 41, 47, 55, 59, 61, 67, 91, 97, 103, 109, 115, 131, 137, 143, 145, 157, 167, 171, 185, 191, 193, 203, 211, 213, 229, 239, 241, 247, 253, 285, 299, 301, 333, 351, 355, 357, 361, 369, 391, 397, 425, 451, 463, 487, 501]
theorem rules_good : rules.all goodB = true := by decide +kernel
theorem good_rule {R : Nat} (h : R ∈ rules) : Good R := good_of (List.all_eq_true.mp rules_good R h)
def lgs (R : Nat) : List Nat := (List.range (last R + 1)).map (lg R)
theorem lgs_len {R : Nat} : (lgs R).length = last R + 1 := by simp [lgs]
theorem lgs_get {R x : Nat} (h : x ≤ last R) : (lgs R)[x]? = some (lg R x) := by simp [lgs, Nat.lt_succ_of_le h]
theorem lg_zero {R : Nat} : lg R 0 = 0 := rfl
theorem wd_of {R : Nat} (g : Rng R) {w : Nat} (h1 : 2 ^ w ≤ R) (h2 : R < 2 ^ (w + 1)) : wd R = w := by
  have a := (Nat.le_log2 (n := R) (k := w) (by have := g.lo; omega)).mpr h1
  have b := (Nat.log2_lt (n := R) (k := w + 1) (by have := g.lo; omega)).mpr h2
  unfold wd; omega
end MF

set_option Elab.async false
namespace MF
open PySem
def natI (l : List Nat) : List Int := l.map fun (n : Nat) => (n : Int)
def lastI (r : Int) : Int := (last r.toNat : Int)
def RngI (r : Int) : Prop := 0 ≤ r ∧ Rng r.toNat
def GoodI (r : Int) : Prop := 0 ≤ r ∧ Good r.toNat
def SymI (r x : Int) : Prop := 0 ≤ x ∧ x.toNat < 2 ^ wd r.toNat
def dblI (r x : Int) : Int := (dbl r.toNat x.toNat : Int)
def mulI (r x y : Int) : Int := (mul r.toNat x.toNat y.toNat : Int)
theorem GoodI.rng {r : Int} (h : GoodI r) : RngI r := ⟨h.1, h.2.rng⟩
theorem SymI.lt {r x : Int} (h : SymI r x) (g : RngI r) : x < 256 := by have := g.2.p256; have := h.2; have := h.1; omega
theorem SymI.le {r x : Int} (h : SymI r x) (g : RngI r) : x ≤ lastI r := by have := last1 g.2; have := h.2; unfold lastI; have := h.1; omega
theorem sym_of {r x : Int} (g : RngI r) (h0 : 0 ≤ x) (h : x ≤ lastI r) : SymI r x := ⟨h0, by have := last1 g.2; unfold lastI at h; omega⟩
theorem sym1 {r : Int} (g : RngI r) : SymI r 1 := ⟨by decide, one_lt g.2⟩
theorem sym0 {r : Int} : SymI r 0 := ⟨by decide, Nat.two_pow_pos _⟩
theorem dblI_sym {r x : Int} (g : RngI r) (h : SymI r x) : SymI r (dblI r x) := ⟨Int.natCast_nonneg _, by unfold dblI; rw [Int.toNat_natCast]; exact dbl_lt g.2 h.2⟩
theorem mulI_sym {r x y : Int} (g : RngI r) (h : SymI r x) : SymI r (mulI r x y) := ⟨Int.natCast_nonneg _, by unfold mulI; rw [Int.toNat_natCast]; exact mul_lt g.2 _ h.2⟩
theorem natI_len {l : List Nat} : (natI l).length = l.length := by simp [natI]
theorem natI_get {l : List Nat} {i n : Nat} (h : l[i]? = some n) : (natI l)[i]? = some (n : Int) := by simp [natI, h]
theorem xorI {x y : Int} (hx : 0 ≤ x) (hy : 0 ≤ y) : Builtin.bitXor x y = ((x.toNat ^^^ y.toNat : Nat) : Int) := Bits.bitXor_pp hx hy
theorem lastI_pos {r : Int} (g : GoodI r) : 0 < lastI r := by have := g.2.rng.l15; unfold lastI; omega
theorem dblI_step {r x l : Int} (g : RngI r) (h : SymI r x) (hl : l = lastI r) : (bif decide (l < x * 2 ^ (1 : Int).toNat) then Builtin.bitXor (x * 2 ^ (1 : Int).toNat) r else x * 2 ^ (1 : Int).toNat) = dblI r x := by
  have e1 : x * 2 ^ (1 : Int).toNat = 2 * x := by
    show x * 2 ^ 1 = 2 * x
    omega
  have h1 := last1 g.2
  have h0 := h.1
  rw [e1, hl]
  unfold dblI dbl lastI
  by_cases c : 2 * x.toNat < 2 ^ wd r.toNat
  · rw [if_pos c, decide_eq_false (by omega)]
    show 2 * x = _
    omega
  · rw [if_neg c, decide_eq_true (by omega)]
    show Builtin.bitXor (2 * x) r = _
    rw [xorI (by omega) g.1, show (2 * x).toNat = 2 * x.toNat by omega]
/-- what stands between two turns of walk_of -/
def WalkInv (r : Int) (found : List Int) (one : Int) : Prop := ∃ k, 1 ≤ k ∧ k ≤ last r.toNat ∧ found = natI ((List.range k).map (pw r.toNat)) ∧ one = (pw r.toNat k : Int)
theorem walk0 {r : Int} {found : List Int} {one : Int} (g : GoodI r) (h : found = [1]) (h2 : one = dblI r 1) : WalkInv r found one := by
  refine ⟨1, Nat.le_refl _, by have := g.2.rng.l15; omega, ?_, ?_⟩
  · rw [h]; rfl
  · rw [h2]; rfl
theorem WalkInv.len {r : Int} {found : List Int} {one : Int} (h : WalkInv r found one) (g : GoodI r) : found.length ≤ 255 := by
  obtain ⟨k, h1, h2, rfl, _⟩ := h
  have := g.2.rng.l255
  simp only [natI_len, List.length_map, List.length_range]
  omega
theorem WalkInv.sym {r : Int} {found : List Int} {one : Int} (h : WalkInv r found one) (g : GoodI r) : SymI r one := by
  obtain ⟨k, h1, h2, _, rfl⟩ := h
  exact ⟨Int.natCast_nonneg _, by rw [Int.toNat_natCast]; exact pw_lt g.2.rng k⟩
theorem WalkInv.step {r : Int} {found found' : List Int} {one one' : Int} (h : WalkInv r found one) (g : GoodI r) (hc : (!decide (one = 1)) = true) (e1 : found' = found ++ [one]) (e2 : one' = dblI r one) : WalkInv r found' one' ∧ 300 - found'.length < 300 - found.length := by
  have hl := h.len g
  obtain ⟨k, h1, h2, rfl, rfl⟩ := h
  have hk : k ≠ last r.toNat := fun e => by
    rw [e, g.2.back] at hc
    simp at hc
  refine ⟨⟨k + 1, by omega, by omega, ?_, ?_⟩, ?_⟩
  · rw [e1]
    unfold natI
    rw [List.range_succ, List.map_append, List.map_append]
    rfl
  · rw [e2]
    unfold dblI
    rw [Int.toNat_natCast]
    rfl
  · rw [e1, List.length_append, List.length_singleton]
    omega
theorem WalkInv.done {r : Int} {found : List Int} {one : Int} (h : WalkInv r found one) (g : GoodI r) (hc : (!decide (one = 1)) = false) : found = natI (pows r.toNat) := by
  obtain ⟨k, h1, h2, rfl, rfl⟩ := h
  have e : pw r.toNat k = 1 := by
    have : (pw r.toNat k : Int) = 1 := by simpa using hc
    omega
  have hk : k = last r.toNat := Classical.byContradiction fun hne => g.2.first k (by omega) (by omega) e
  rw [hk]
  rfl
/-- what stands between two turns of the logs' loop -/
structure LogInv (R i : Nat) (ls : List Nat) : Prop where
  len : ls.length = last R + 1
  zero : ls[0]? = some 0
  got : ∀ j, j < i → ls[pw R j]? = some j
theorem logInv0 {R : Nat} : LogInv R 0 (List.replicate (last R + 1) 0) := ⟨by simp, by simp, fun j h => absurd h (by omega)⟩
theorem LogInv.step {R i : Nat} {ls : List Nat} (h : LogInv R i ls) (g : Good R) (hi : i < last R) : LogInv R (i + 1) (ls.set (pw R i) i) := by
  have hp := pw_lt g.rng i
  have h1 := last1 g.rng
  have hn := pw_ne g.rng i
  refine ⟨by rw [List.length_set]; exact h.len, ?_, fun j hj => ?_⟩
  · rw [List.getElem?_set_ne hn]
    exact h.zero
  · by_cases e : j = i
    · subst e
      rw [List.getElem?_set_self (by rw [h.len]; omega)]
    · rw [List.getElem?_set_ne (fun q => e (pw_inj g (by omega) hi q.symm))]
      exact h.got j (by omega)
theorem LogInv.done {R : Nat} {ls : List Nat} (h : LogInv R (last R) ls) (g : Good R) : ls = lgs R := by
  have h1 := last1 g.rng
  apply List.ext_getElem?
  intro x
  by_cases hx : x ≤ last R
  · rw [lgs_get hx]
    by_cases h0 : x = 0
    · rw [h0, lg_zero]
      exact h.zero
    · obtain ⟨hl, e⟩ := lg_spec g h0 (by omega)
      have := h.got _ hl
      rw [e] at this
      exact this
  · rw [List.getElem?_eq_none (by rw [h.len]; omega), List.getElem?_eq_none (by rw [lgs_len]; omega)]
theorem ix_log {r x : Int} (g : GoodI r) (h : SymI r x) : (natI (lgs r.toNat))[x.toNat]? = some (lg r.toNat x.toNat : Int) := natI_get (lgs_get (by have := h.2; have := last1 g.2.rng; omega))
theorem ix_sum0 {r : Int} (g : GoodI r) {a b : Nat} : 0 ≤ ((a : Int) + (b : Int)) % lastI r := Int.emod_nonneg _ (Int.ne_of_gt (lastI_pos g))
theorem ix_pow {r : Int} (g : GoodI r) {a b : Nat} : (natI (pows r.toNat))[(((a : Int) + (b : Int)) % lastI r).toNat]? = some (pw r.toNat ((a + b) % last r.toNat) : Int) := by
  have e : (((a : Int) + (b : Int)) % lastI r).toNat = (a + b) % last r.toNat := by
    unfold lastI
    rw [← Int.natCast_add, ← Int.natCast_emod, Int.toNat_natCast]
  rw [e]
  exact natI_get (pows_get (Nat.mod_lt _ (by have := g.2.rng.l15; omega)))
theorem mulI_zero {r x y : Int} (hc : (decide (x = 0) || decide (y = 0)) = true) : (0 : Int) = mulI r x y := by
  simp only [Bool.or_eq_true, decide_eq_true_eq] at hc
  unfold mulI
  rcases hc with rfl | rfl
  · rw [show (0 : Int).toNat = 0 from rfl, zero_mul]; rfl
  · rw [show (0 : Int).toNat = 0 from rfl, mul_zero]; rfl
theorem times_eqI {r x y : Int} (g : GoodI r) (hx : SymI r x) (hy : SymI r y) (hc : (decide (x = 0) || decide (y = 0)) = false) : (pw r.toNat ((lg r.toNat x.toNat + lg r.toNat y.toNat) % last r.toNat) : Int) = mulI r x y := by
  simp only [Bool.or_eq_false_iff, decide_eq_false_iff_not] at hc
  unfold mulI
  rw [times_eq g.2 (by have := hx.1; omega) (by have := hy.1; omega) hx.2 hy.2]
/-! ### the laws' own words -/
def ruleI (c : Int) : Int := ((rules.getD (c % 48).toNat 19 : Nat) : Int)
theorem rule_ix (c : Int) : (natI rules)[(c % 48).toNat]? = some (ruleI c) := by
  have h : (c % 48).toNat < rules.length := by
    have h1 := Int.emod_nonneg c (by decide : (48 : Int) ≠ 0)
    have h2 := Int.emod_lt_of_pos c (by decide : (0 : Int) < 48)
    show (c % 48).toNat < 48
    omega
  unfold ruleI
  rw [List.getD_eq_getElem?_getD, List.getElem?_eq_getElem h]
  exact natI_get (List.getElem?_eq_getElem h)
theorem rule_good (c : Int) : GoodI (ruleI c) := by
  unfold ruleI
  refine ⟨Int.natCast_nonneg _, ?_⟩
  rw [Int.toNat_natCast]
  refine good_rule ?_
  have h : (c % 48).toNat < rules.length := by
    have h1 := Int.emod_nonneg c (by decide : (48 : Int) ≠ 0)
    have h2 := Int.emod_lt_of_pos c (by decide : (0 : Int) < 48)
    show (c % 48).toNat < 48
    omega
  rw [List.getD_eq_getElem?_getD, List.getElem?_eq_getElem h]
  exact List.getElem_mem h
def cellI (s : List Int) (k : Int) : Int := s.getD k.toNat 0
theorem cell_ix {s : List Int} {k : Int} (hk : 0 ≤ k) (h : decide (k < (s.length : Int)) = true) : s[k.toNat]? = some (cellI s k) := by
  have h := of_decide_eq_true h
  unfold cellI
  rw [List.getD_eq_getElem?_getD, List.getElem?_eq_getElem (by omega)]
  rfl
theorem cell_out {s : List Int} {k : Int} (h : decide (k < (s.length : Int)) = false) : (0 : Int) = cellI s k := by
  have h := of_decide_eq_false h
  unfold cellI
  rw [List.getD_eq_getElem?_getD, List.getElem?_eq_none (by omega)]
  rfl
theorem bit1 (x : Int) : Builtin.bitAnd x 1 = x % 2 := PyProof.Rows.bitAnd_m1 x
/-- the width as the laws seek it -/
theorem width_go {r w : Int} (g : RngI r) (h : 4 ≤ w) (h8 : w ≤ (wd r.toNat : Int)) : (decide (0 < r / 2 ^ (w + 1).toNat) = true) ↔ w + 1 ≤ (wd r.toNat : Int) := by
  rw [decide_eq_true_iff]
  have h0 := g.1
  have hw : (w + 1).toNat = w.toNat + 1 := by omega
  have e : r / 2 ^ (w + 1).toNat = ((r.toNat / 2 ^ (w.toNat + 1) : Nat) : Int) := by
    rw [hw, Int.natCast_ediv, Int.toNat_of_nonneg h0]
    simp
  rw [e]
  have hp := Nat.two_pow_pos (w.toNat + 1)
  have : 0 < r.toNat / 2 ^ (w.toNat + 1) ↔ 2 ^ (w.toNat + 1) ≤ r.toNat := Nat.div_pos_iff.trans ⟨fun z => z.2, fun z => ⟨hp, z⟩⟩
  have l := Nat.le_log2 (n := r.toNat) (k := w.toNat + 1) (by have := g.2.lo; omega)
  unfold wd
  omega
end MF

set_option Elab.async false
namespace MF
open PySem
section
variable {R : Nat}
/-! the product as a sum over the second symbol's digits, from the top -/
def sb (R x y : Nat) : Nat → Nat
  | 0 => 0
  | i + 1 => sb R x y i ^^^ (if y.testBit i then dp R i x else 0)
theorem sb_shift (x y : Nat) : ∀ n, sb R x y (n + 1) = (if y % 2 = 1 then x else 0) ^^^ sb R (dbl R x) (y / 2) n
  | 0 => by
    show 0 ^^^ (if y.testBit 0 then x else 0) = (if y % 2 = 1 then x else 0) ^^^ 0
    rw [Nat.xor_zero, Nat.zero_xor, Nat.testBit_zero]
    by_cases h : y % 2 = 1 <;> simp [h]
  | n + 1 => by
    show sb R x y (n + 1) ^^^ (if y.testBit (n + 1) then dp R (n + 1) x else 0) = _ ^^^ (sb R (dbl R x) (y / 2) n ^^^ (if (y / 2).testBit n then dp R n (dbl R x) else 0))
    rw [sb_shift x y n, Nat.testBit_succ, dp_dbl, Nat.xor_assoc]
    rfl
theorem pd_sb : ∀ (n x y : Nat), pd R n x y = sb R x y n
  | 0, _, _ => rfl
  | n + 1, x, y => by
    rw [sb_shift]
    show (if y % 2 = 1 then x else 0) ^^^ pd R n (dbl R x) (y / 2) = _
    rw [pd_sb n]
/-! the long product -/
def lp (x y : Nat) : Nat → Nat
  | 0 => 0
  | i + 1 => lp x y i ^^^ (if y.testBit i then x * 2 ^ i else 0)
def ev (R p : Nat) : Nat := pd R 32 1 p
theorem ev_xor (a b : Nat) : ev R (a ^^^ b) = ev R a ^^^ ev R b := pd_addR 32 1 a b
theorem ev_zero : ev R 0 = 0 := pd_zero 32 1
theorem ev_sym (g : Rng R) {x : Nat} (h : x < 2 ^ wd R) : ev R x = x := pd_1_all h (by have := sym512 g h; omega)
theorem pd_shift : ∀ (k n x y : Nat), pd R (n + k) x (y * 2 ^ k) = pd R n (dp R k x) y
  | 0, n, x, y => by rw [Nat.pow_zero, Nat.mul_one]; rfl
  | k + 1, n, x, y => by
    rw [show y * 2 ^ (k + 1) = 2 * (y * 2 ^ k) by rw [pow_s, Nat.mul_left_comm], ← Nat.add_assoc, pd_even, pd_shift k, dp_dbl]
    rfl
theorem ev_shift_sym (g : Rng R) {x k : Nat} (hk : k ≤ 16) (hx : x < 2 ^ wd R) : ev R (x * 2 ^ k) = dp R k x := by
  unfold ev
  have h9 := sym512 g hx
  rw [show 32 = (32 - k) + k by omega, pd_shift]
  rw [pd_dp g _ _ (one_lt g)]
  congr 1
  have h5 : 2 ^ 8 ≤ 2 ^ (32 - k) := Nat.pow_le_pow_right (by omega) (by omega)
  exact pd_1_all hx (by omega)
theorem ev_rule (g : Good R) {k : Nat} (hk : k ≤ 16) : ev R (R * 2 ^ k) = 0 := by
  unfold ev
  rw [show 32 = (32 - k) + k by omega, pd_shift]
  exact pd_R g (by have := g.rng.w8; omega) (dp_lt g.rng (one_lt g.rng) k)
theorem ev_lp (g : Rng R) {x y : Nat} (hx : x < 2 ^ wd R) : ∀ i, i ≤ 16 → ev R (lp x y i) = sb R x y i
  | 0, _ => ev_zero
  | i + 1, h => by
    show ev R (lp x y i ^^^ _) = sb R x y i ^^^ _
    rw [ev_xor, ev_lp g hx i (by omega)]
    congr 1
    split
    · exact ev_shift_sym g (by omega) hx
    · exact ev_zero
theorem lp_lt {x y w : Nat} (hx : x < 2 ^ w) : ∀ i, i ≤ w → lp x y i < 2 ^ (2 * w - 1) ∨ w = 0
  | 0, _ => .inl (Nat.two_pow_pos _)
  | i + 1, h => by
    rcases lp_lt (y := y) hx i (by omega) with h1 | h1
    · left
      refine Nat.xor_lt_two_pow h1 ?_
      split
      · have e : x * 2 ^ i < 2 ^ w * 2 ^ i := Nat.mul_lt_mul_of_pos_right hx (Nat.two_pow_pos i)
        rw [← Nat.pow_add] at e
        exact Nat.lt_of_lt_of_le e (Nat.pow_le_pow_right (by omega) (by omega))
      · exact Nat.two_pow_pos _
    · exact .inr h1
end
/-! in ints -/
theorem shrI {x : Int} {k : Nat} (h : 0 ≤ x) : x / 2 ^ k = ((x.toNat / 2 ^ k : Nat) : Int) := by
  rw [Int.natCast_ediv, Int.toNat_of_nonneg h]
  simp
theorem bitI {x k : Int} (h : 0 ≤ x) : (decide (Builtin.bitAnd (x / 2 ^ k.toNat) 1 = 1)) = x.toNat.testBit k.toNat := by
  rw [bit1, shrI h]
  rw [Nat.testBit_eq_decide_div_mod_eq]
  by_cases c : x.toNat / 2 ^ k.toNat % 2 = 1
  · rw [decide_eq_true c, decide_eq_true (by omega)]
  · rw [decide_eq_false c, decide_eq_false (by omega)]
/-- the first loop -/
structure LongA (r x y : Int) (i : Nat) (f : Int) : Prop where
  eq : f = (lp x.toNat y.toNat i : Int)
theorem longA0 {r x y f : Int} (h : f = 0) : LongA r x y 0 f := ⟨h⟩
theorem LongA.step {r x y : Int} {i : Nat} {f f' : Int} {b : Bool} (h : LongA r x y i f) (hx : 0 ≤ x) (hb : b = y.toNat.testBit i) (e : f' = bif b then Builtin.bitXor f (x * 2 ^ i) else f) : LongA r x y (i + 1) f' := by
  refine ⟨?_⟩
  rw [e, h.eq, hb]
  show _ = ((lp x.toNat y.toNat i ^^^ (if y.toNat.testBit i then x.toNat * 2 ^ i else 0) : Nat) : Int)
  cases y.toNat.testBit i with
  | false => simp
  | true =>
    have e2 : x * 2 ^ i = ((x.toNat * 2 ^ i : Nat) : Int) := by
      rw [Int.natCast_mul, Int.toNat_of_nonneg hx]
      simp
    show Builtin.bitXor _ _ = _
    rw [e2, xorI (Int.natCast_nonneg _) (Int.natCast_nonneg _), Int.toNat_natCast, Int.toNat_natCast]
    simp
/-- the second loop -/
structure LongB (r x y : Int) (i : Nat) (f : Int) : Prop where
  pos : 0 ≤ f
  lt : f.toNat < 2 ^ (max (wd r.toNat) (2 * wd r.toNat - 1 - i))
  ev : ev r.toNat f.toNat = sb r.toNat x.toNat y.toNat (wd r.toNat)
theorem longB0 {r x y f : Int} (g : GoodI r) (hx : SymI r x) (h : LongA r x y (wd r.toNat) f) : LongB r x y 0 f := by
  have w4 := g.2.rng.w4
  have w8 := g.2.rng.w8
  refine ⟨by rw [h.eq]; exact Int.natCast_nonneg _, ?_, ?_⟩
  · rw [h.eq, Int.toNat_natCast]
    rcases lp_lt (y := y.toNat) hx.2 (wd r.toNat) (Nat.le_refl _) with h1 | h1
    · exact Nat.lt_of_lt_of_le h1 (Nat.pow_le_pow_right (by omega) (by omega))
    · omega
  · rw [h.eq, Int.toNat_natCast]
    exact ev_lp g.2.rng hx.2 _ (by omega)
theorem LongB.step {r x y : Int} {i : Nat} {f f' p : Int} {b : Bool} (h : LongB r x y i f) (g : GoodI r) (hi : i < wd r.toNat) (hp : p = 2 * (wd r.toNat : Int) - 2 - i) (hb : b = (decide ((wd r.toNat : Int) ≤ p) && f.toNat.testBit p.toNat))
    (e : f' = bif b then Builtin.bitXor f (r * 2 ^ (p - (wd r.toNat : Int)).toNat) else f) : LongB r x y (i + 1) f' := by
  have w4 := g.2.rng.w4
  have w8 := g.2.rng.w8
  by_cases c : (wd r.toNat : Int) ≤ p
  · rw [decide_eq_true c, Bool.true_and] at hb
    have ep : p.toNat = 2 * wd r.toNat - 1 - (i + 1) := by omega
    have em : max (wd r.toNat) (2 * wd r.toNat - 1 - i) = p.toNat + 1 := by omega
    have hlt := h.lt
    rw [em] at hlt
    have em2 : max (wd r.toNat) (2 * wd r.toNat - 1 - (i + 1)) = p.toNat := by omega
    cases q : f.toNat.testBit p.toNat with
    | false =>
      rw [hb, q] at e
      have e : f' = f := e
      rw [e]
      exact ⟨h.pos, by rw [em2]; exact lt_of_bit hlt q, h.ev⟩
    | true =>
      rw [hb, q] at e
      have e : f' = Builtin.bitXor f (r * 2 ^ (p - (wd r.toNat : Int)).toNat) := e
      have ek : (p - (wd r.toNat : Int)).toNat = p.toNat - wd r.toNat := by omega
      have e2 : r * 2 ^ (p.toNat - wd r.toNat) = ((r.toNat * 2 ^ (p.toNat - wd r.toNat) : Nat) : Int) := by
        rw [Int.natCast_mul, Int.toNat_of_nonneg g.1]
        simp
      rw [ek, e2, xorI h.pos (Int.natCast_nonneg _), Int.toNat_natCast] at e
      have hr1 : 2 ^ p.toNat ≤ r.toNat * 2 ^ (p.toNat - wd r.toNat) := by
        have := Nat.mul_le_mul_right (2 ^ (p.toNat - wd r.toNat)) g.2.rng.le
        rw [← Nat.pow_add, show wd r.toNat + (p.toNat - wd r.toNat) = p.toNat by omega] at this
        exact this
      have hr2 : r.toNat * 2 ^ (p.toNat - wd r.toNat) < 2 ^ (p.toNat + 1) := by
        have := Nat.mul_lt_mul_of_pos_right g.2.rng.lt (Nat.two_pow_pos (p.toNat - wd r.toNat))
        rw [← Nat.pow_add, show wd r.toNat + 1 + (p.toNat - wd r.toNat) = p.toNat + 1 by omega] at this
        exact this
      refine ⟨by rw [e]; exact Int.natCast_nonneg _, ?_, ?_⟩
      · rw [e, Int.toNat_natCast, em2]
        refine lt_of_bit (xor_lt hlt hr2) ?_
        rw [Nat.testBit_xor, q, bit_of hr1 hr2]
        rfl
      · rw [e, Int.toNat_natCast, ev_xor, ev_rule g.2 (by omega), Nat.xor_zero]
        exact h.ev
  · rw [decide_eq_false c, Bool.false_and] at hb
    rw [hb] at e
    have e : f' = f := e
    rw [e]
    refine ⟨h.pos, ?_, h.ev⟩
    have := h.lt
    rw [show max (wd r.toNat) (2 * wd r.toNat - 1 - i) = wd r.toNat by omega] at this
    rw [show max (wd r.toNat) (2 * wd r.toNat - 1 - (i + 1)) = wd r.toNat by omega]
    exact this
theorem LongB.done {r x y f : Int} (h : LongB r x y (wd r.toNat) f) (g : GoodI r) (hx : SymI r x) (hy : SymI r y) : f = mulI r x y := by
  have w4 := g.2.rng.w4
  have w8 := g.2.rng.w8
  have hlt := h.lt
  rw [show max (wd r.toNat) (2 * wd r.toNat - 1 - wd r.toNat) = wd r.toNat by omega] at hlt
  have e := h.ev
  rw [ev_sym g.2.rng hlt, ← pd_sb] at e
  have hy2 := hy.2
  have hy3 := sym512 g.2.rng hy2
  unfold mulI mul
  rw [← pd_fuel (n := wd r.toNat) (m := 9) (by omega) (by omega), ← e]
  have := h.pos
  omega
theorem mulI_comm {r x y : Int} (g : GoodI r) (hx : SymI r x) (hy : SymI r y) : mulI r x y = mulI r y x := by
  unfold mulI
  rw [mul_comm g.2 hx.2 hy.2]
theorem mulI_two {r x : Int} (g : GoodI r) (hx : SymI r x) : mulI r x 2 = dblI r x := by
  unfold mulI dblI
  have h := mul_dblR g.2 hx.2 (one_lt g.2.rng)
  have e : dbl r.toNat 1 = 2 := by
    unfold dbl
    have := g.2.rng.p16
    rw [if_pos (by omega)]
  rw [e, mul_one] at h
  rw [show (2 : Int).toNat = 2 from rfl, h]
theorem lastI_pow {r : Int} (g : RngI r) : (1 : Int) * 2 ^ ((wd r.toNat : Int)).toNat = lastI r + 1 := by
  have := last1 g.2
  unfold lastI
  rw [Int.toNat_natCast, Int.one_mul]
  have e : ((last r.toNat + 1 : Nat) : Int) = ((2 ^ wd r.toNat : Nat) : Int) := by rw [this]
  simpa using e.symm
theorem sym_mod {r c m : Int} (g : RngI r) (h : m = lastI r + 1) : SymI r (c % m) := by
  have hl : 0 ≤ lastI r := Int.natCast_nonneg _
  exact sym_of g (Int.emod_nonneg _ (by omega)) (by have := Int.emod_lt_of_pos c (show 0 < m by omega); omega)
theorem sym2 {r : Int} (g : RngI r) : SymI r 2 := ⟨by decide, by have := g.2.p16; show 2 < _; omega⟩
def thirdI (m k : Int) : Int := if k % 3 = 0 then 0 else if k % 3 = 1 then 1 else m
theorem third_ix {m k : Int} : ([0, 1, m] : List Int)[(k % 3).toNat]? = some (thirdI m k) := by
  have h1 := Int.emod_nonneg k (by decide : (3 : Int) ≠ 0)
  have h2 := Int.emod_lt_of_pos k (by decide : (0 : Int) < 3)
  unfold thirdI
  have : k % 3 = 0 ∨ k % 3 = 1 ∨ k % 3 = 2 := by omega
  rcases this with e | e | e <;> rw [e] <;> rfl
theorem third_sym {r m k : Int} (g : RngI r) (h : m = lastI r + 1) : SymI r (thirdI (m - 1) k) := by
  unfold thirdI
  split
  · exact sym0
  · split
    · exact sym1 g
    · exact sym_of g (by rw [h]; unfold lastI; omega) (by omega)
theorem two_sym {r a b x : Int} {i : Nat} (h : ([a, b] : List Int)[i]? = some x) (ha : SymI r a) (hb : SymI r b) : SymI r x := by
  match i, h with
  | 0, h => cases h; exact ha
  | 1, h => cases h; exact hb
end MF

set_option Elab.async false
namespace MF
open PySem
/-! MP: the laws' product by doubling, and their top. -/
theorem rngI_of (c : Int) : RngI (ruleI c) := (rule_good c).rng
/-- the top that the laws seek -/
def TopInv (r t : Int) : Prop := ∃ w : Nat, t = ((2 ^ w : Nat) : Int) ∧ 4 ≤ w ∧ w ≤ wd r.toNat
theorem top0 {r t : Int} (g : RngI r) (h : t = 16) : TopInv r t := ⟨4, h, Nat.le_refl _, g.2.w4⟩
theorem TopInv.step {r t t' : Int} (h : TopInv r t) (g : RngI r) (hc : decide (t * 2 ≤ r) = true) (e : t' = t * 2) : TopInv r t' ∧ 1024 - t'.toNat < 1024 - t.toNat := by
  obtain ⟨w, rfl, h1, h2⟩ := h
  have hc := of_decide_eq_true hc
  have hs := pow_s w
  have hr := g.1
  have h3 : 2 ^ (w + 1) ≤ r.toNat := by omega
  have h4 := (Nat.le_log2 (n := r.toNat) (k := w + 1) (by have := g.2.lo; omega)).mpr h3
  have h5 := g.2.hi
  have hp := Nat.two_pow_pos w
  refine ⟨⟨w + 1, by omega, by omega, h4⟩, by omega⟩
theorem TopInv.done {r t : Int} (h : TopInv r t) (g : RngI r) (hc : decide (t * 2 ≤ r) = false) : t = lastI r + 1 := by
  obtain ⟨w, rfl, h1, h2⟩ := h
  have hc := of_decide_eq_false hc
  have hs := pow_s w
  have hr := g.1
  have e : wd r.toNat = w := wd_of g.2 (Nat.le_trans (Nat.pow_le_pow_right (by omega) h2) g.2.le) (by omega)
  have hl := last1 g.2
  rw [e] at hl
  unfold lastI
  omega
theorem TopInv.lt {r t : Int} (h : TopInv r t) (g : RngI r) : 16 ≤ t ∧ t ≤ 512 := by
  obtain ⟨w, rfl, h1, h2⟩ := h
  have a := Nat.pow_le_pow_right (n := 2) (by omega) h1
  have b := Nat.pow_le_pow_right (n := 2) (by omega) (Nat.le_trans h2 g.2.w8)
  have : (2 : Nat) ^ 4 = 16 := rfl
  have : (2 : Nat) ^ 8 = 256 := rfl
  omega
/-- what stands between two turns of the product by doubling -/
structure PrInv (r x y f o c : Int) : Prop where
  sym : SymI r c
  f0 : 0 ≤ f
  o0 : 0 ≤ o
  o1 : o < 512
  eq : f.toNat ^^^ pd r.toNat 9 c.toNat o.toNat = mul r.toNat x.toNat y.toNat
theorem pr0 {r x y f : Int} (hx : SymI r x) (hy0 : 0 ≤ y) (hy : y < 512) (h : f = 0) : PrInv r x y f y x := ⟨hx, by omega, hy0, hy, by subst h; exact Nat.zero_xor _⟩
theorem pd_half {R c o : Nat} (ho : o < 512) : pd R 9 c o = (if o % 2 = 1 then c else 0) ^^^ pd R 9 (dbl R c) (o / 2) := by
  show (if o % 2 = 1 then c else 0) ^^^ pd R 8 (dbl R c) (o / 2) = _
  rw [pd_fuel (n := 8) (m := 9) (by omega) (by omega)]
theorem dblI_ge {r c t : Int} (g : RngI r) (h : SymI r c) (ht : t = lastI r + 1) : (bif decide (t ≤ c * 2) then Builtin.bitXor (c * 2) r else c * 2) = dblI r c := by
  have := dblI_step g h (l := lastI r) rfl
  have e1 : c * 2 ^ (1 : Int).toNat = c * 2 := by
    show c * 2 ^ 1 = c * 2
    omega
  rw [e1] at this
  rw [← this, ht]
  by_cases q : lastI r < c * 2
  · rw [decide_eq_true q, decide_eq_true (by omega)]
  · rw [decide_eq_false q, decide_eq_false (by omega)]
theorem PrInv.step {r x y f o c f' o' c1 c' t : Int} {b : Bool} (h : PrInv r x y f o c) (g : RngI r) (ht : t = lastI r + 1) (hc : decide (0 < o) = true) (hb : b = decide (o % 2 = 1)) (ef : f' = bif b then Builtin.bitXor f c else f) (eo : o' = o / 2) (e1 : c1 = c * 2)
    (ec : c' = bif decide (t ≤ c1) then Builtin.bitXor c1 r else c1) : PrInv r x y f' o' c' ∧ o'.toNat < o.toNat := by
  have hc := of_decide_eq_true hc
  have ec2 : c' = dblI r c := by rw [ec, e1]; exact dblI_ge g h.sym ht
  have h0 := h.o0
  have h1 := h.o1
  have c0 := h.sym.1
  have f0 := h.f0
  refine ⟨⟨by rw [ec2]; exact dblI_sym g h.sym, ?_, by omega, by omega, ?_⟩, by omega⟩
  · rw [ef]
    cases b with
    | false => exact h.f0
    | true => exact Bits.bitXor_nonneg h.f0 c0
  · rw [← h.eq, pd_half (R := r.toNat) (c := c.toNat) (o := o.toNat) (by omega), ec2]
    unfold dblI
    rw [Int.toNat_natCast, show o'.toNat = o.toNat / 2 by omega, ef, hb]
    by_cases q : o % 2 = 1
    · rw [decide_eq_true q, if_pos (by omega)]
      show (Builtin.bitXor f c).toNat ^^^ _ = _
      rw [xorI f0 c0, Int.toNat_natCast, Nat.xor_assoc]
    · rw [decide_eq_false q, if_neg (by omega), Nat.zero_xor]
      try rfl
theorem PrInv.done {r x y f o c : Int} (h : PrInv r x y f o c) (hc : decide (0 < o) = false) : f = mulI r x y := by
  have hc := of_decide_eq_false hc
  have h0 := h.o0
  have e := h.eq
  rw [show o.toNat = 0 by omega, pd_zero, Nat.xor_zero] at e
  unfold mulI
  rw [← e]
  have := h.f0
  omega
theorem SymI.lt512 {r x : Int} (h : SymI r x) (g : RngI r) : x < 512 := by have := h.lt g; omega
theorem mulI_assoc {r x y z : Int} (g : GoodI r) (hx : SymI r x) (hy : SymI r y) (hz : SymI r z) : mulI r (mulI r x y) z = mulI r x (mulI r y z) := by
  unfold mulI
  rw [Int.toNat_natCast, Int.toNat_natCast, mul_assoc g.2 hx.2 hy.2 hz.2]
theorem mulI_one {r x : Int} (hx : SymI r x) : mulI r x 1 = x := by
  unfold mulI
  rw [show (1 : Int).toNat = 1 from rfl, mul_one]
  have := hx.1
  omega
theorem mulI_one' {r x : Int} (g : GoodI r) (hx : SymI r x) : mulI r 1 x = x := by rw [mulI_comm g (sym1 g.rng) hx, mulI_one hx]
theorem xor_sym {r x y : Int} (g : RngI r) (hx : SymI r x) (hy : SymI r y) : SymI r (Builtin.bitXor x y) := by
  rw [xorI hx.1 hy.1]
  exact ⟨Int.natCast_nonneg _, by rw [Int.toNat_natCast]; exact xor_lt hx.2 hy.2⟩
theorem mulI_add {r x x' y : Int} (g : RngI r) (hx : SymI r x) (hx' : SymI r x') : mulI r (Builtin.bitXor x x') y = Builtin.bitXor (mulI r x y) (mulI r x' y) := by
  unfold mulI
  rw [xorI hx.1 hx'.1, xorI (Int.natCast_nonneg _) (Int.natCast_nonneg _), Int.toNat_natCast, Int.toNat_natCast, Int.toNat_natCast, mul_addL g.2 _ hx.2 hx'.2]
theorem mulI_addR {r x y y' : Int} (hy : 0 ≤ y) (hy' : 0 ≤ y') : mulI r x (Builtin.bitXor y y') = Builtin.bitXor (mulI r x y) (mulI r x y') := by
  unfold mulI
  rw [xorI hy hy', xorI (Int.natCast_nonneg _) (Int.natCast_nonneg _), Int.toNat_natCast, Int.toNat_natCast, Int.toNat_natCast, mul_addR]
theorem mulI_eq0 {r x y : Int} (g : GoodI r) (hx : SymI r x) (hy : SymI r y) : mulI r x y = 0 ↔ x = 0 ∨ y = 0 := by
  constructor
  · intro h
    refine Classical.byContradiction fun hn => ?_
    have := mul_ne g.2 hx.2 hy.2 (by have := hx.1; omega) (by have := hy.1; omega)
    unfold mulI at h
    omega
  · intro h
    refine (mulI_zero ?_).symm
    simpa using h
end MF

set_option Elab.async false
namespace MF
open PySem
theorem fold_step {α β : Type} {f : β → α → β} {a : β} {l : List α} {i : Nat} {x : α} (h : l[i]? = some x) : (l.take (i + 1)).foldl f a = f ((l.take i).foldl f a) x := by
  obtain ⟨hi, rfl⟩ := List.getElem?_eq_some_iff.mp h
  rw [List.take_succ_eq_append_getElem hi, List.foldl_append]
  rfl
theorem map_step {α β : Type} {f : α → β} {l : List α} {i : Nat} {x : α} (h : l[i]? = some x) : (l.take (i + 1)).map f = (l.take i).map f ++ [f x] := by
  obtain ⟨hi, rfl⟩ := List.getElem?_eq_some_iff.mp h
  rw [List.take_succ_eq_append_getElem hi, List.map_append]
  rfl
def AllSym (r : Int) (l : List Int) : Prop := ∀ x ∈ l, SymI r x
def rowOf (s : List Int) (t c : Int) : Int := if c % t = 0 ∧ cellI s 0 / 48 % 2 = 1 then 1 + c / t % (t - 1) else c % t
def rowI (s : List Int) (t : Int) : List Int := ((s.take 61).drop 1).map (rowOf s t)
theorem scr0 {s : List Int} {i : Nat} {x : Int} (h : ((s.take 61).drop 1)[i]? = some x) : s[(0 : Int).toNat]? = some (cellI s 0) := by
  have hi := (List.getElem?_eq_some_iff.mp h).1
  rw [List.length_drop, List.length_take] at hi
  exact cell_ix (by decide) (decide_eq_true (by omega))
theorem row_sym {r t : Int} {s : List Int} (g : RngI r) (ht : t = lastI r + 1) : AllSym r (rowI s t) := by
  intro x hx
  obtain ⟨c, _, rfl⟩ := List.mem_map.mp hx
  unfold rowOf
  have hl : 0 ≤ lastI r := Int.natCast_nonneg _
  have h15 := g.2.l15
  have hl2 : 15 ≤ lastI r := by unfold lastI; omega
  split
  · have h1 := Int.emod_nonneg (c / t) (show t - 1 ≠ 0 by omega)
    have h2 := Int.emod_lt_of_pos (c / t) (show 0 < t - 1 by omega)
    exact sym_of g (by omega) (by omega)
  · exact sym_mod g ht
theorem row_len {s : List Int} {t : Int} : (rowI s t).length ≤ 60 := by
  unfold rowI
  rw [List.length_map, List.length_drop, List.length_take]
  omega
def prodI (r : Int) (l : List Int) : Int := l.foldl (mulI r) 1
theorem fold_sym {r : Int} (g : RngI r) : ∀ {l : List Int} {a : Int}, SymI r a → SymI r (l.foldl (mulI r) a)
  | [], _, h => h
  | x :: l, a, h => fold_sym g (l := l) (a := mulI r a x) (mulI_sym g h)
theorem prod_sym {r : Int} (g : RngI r) {l : List Int} : SymI r (prodI r l) := fold_sym g (sym1 g)
theorem fold_mul {r : Int} (g : GoodI r) : ∀ {l : List Int} {a : Int}, SymI r a → AllSym r l → l.foldl (mulI r) a = mulI r a (prodI r l)
  | [], a, h, _ => (mulI_one h).symm
  | x :: l, a, h, hl => by
    have hx := hl x List.mem_cons_self
    have hl' : AllSym r l := fun y hy => hl y (List.mem_cons_of_mem _ hy)
    show l.foldl (mulI r) (mulI r a x) = mulI r a (l.foldl (mulI r) (mulI r 1 x))
    rw [fold_mul g (mulI_sym g.rng h) hl', mulI_one' g hx, fold_mul g hx hl', mulI_assoc g h hx (prod_sym g.rng)]
theorem prod_app {r : Int} (g : GoodI r) {l m : List Int} (hm : AllSym r m) : prodI r (l ++ m) = mulI r (prodI r l) (prodI r m) := by
  show (l ++ m).foldl (mulI r) 1 = _
  rw [List.foldl_append]
  exact fold_mul g (prod_sym g.rng) hm
theorem prod_cut {r : Int} (g : GoodI r) {l : List Int} (hl : AllSym r l) (k : Nat) : mulI r (prodI r (l.take k)) (prodI r (l.drop k)) = prodI r l := by
  rw [← prod_app g fun x hx => hl x (List.mem_of_mem_drop hx), List.take_append_drop]
def rprodI (r : Int) (l : List Int) : Int := l.foldl (fun a s => mulI r s a) 1
theorem rprod_eq {r : Int} (g : GoodI r) : ∀ {l : List Int}, AllSym r l → l.reverse.foldl (fun a s => mulI r s a) 1 = prodI r l ∧ SymI r (l.reverse.foldl (fun a s => mulI r s a) 1)
  | [], _ => ⟨rfl, sym1 g.rng⟩
  | x :: l, hl => by
    have hx := hl x List.mem_cons_self
    obtain ⟨h1, h2⟩ := rprod_eq g (l := l) fun y hy => hl y (List.mem_cons_of_mem _ hy)
    rw [List.reverse_cons, List.foldl_append]
    show mulI r x _ = l.foldl (mulI r) (mulI r 1 x) ∧ SymI r (mulI r x _)
    rw [h1, mulI_one' g hx, fold_mul g hx fun y hy => hl y (List.mem_cons_of_mem _ hy)]
    exact ⟨rfl, mulI_sym g.rng hx⟩
theorem rfold_sym {r : Int} (g : GoodI r) : ∀ {l : List Int} {a : Int}, SymI r a → AllSym r l → SymI r (l.foldl (fun a s => mulI r s a) a)
  | [], _, h, _ => h
  | x :: l, a, h, hl => rfold_sym g (l := l) (mulI_sym g.rng (hl x List.mem_cons_self)) fun y hy => hl y (List.mem_cons_of_mem _ hy)
theorem get_sym {r : Int} {l : List Int} (hl : AllSym r l) {i : Nat} {x : Int} (h : l[i]? = some x) : SymI r x := hl x (List.mem_of_getElem? h)
theorem take_sym {r : Int} {l : List Int} (hl : AllSym r l) (k : Nat) : AllSym r (l.take k) := fun x hx => hl x (List.mem_of_mem_take hx)
theorem drop_sym {r : Int} {l : List Int} (hl : AllSym r l) (k : Nat) : AllSym r (l.drop k) := fun x hx => hl x (List.mem_of_mem_drop hx)
theorem getD_ix {l : List Int} {i : Int} (h : i.toNat < l.length) : l[i.toNat]? = some (l.getD i.toNat 0) := by
  rw [List.getD_eq_getElem?_getD, List.getElem?_eq_getElem h]
  rfl
theorem rev_sym {r : Int} {l : List Int} (hl : AllSym r l) : AllSym r l.reverse := fun x hx => hl x (List.mem_reverse.mp hx)
theorem zero_both {m a b : Int} (h : (!decide (decide (m = 0) = (decide (a = 0) || decide (b = 0)))) = true) (z : m = 0 ↔ a = 0 ∨ b = 0) : False := by
  by_cases c1 : a = 0 <;> by_cases c2 : b = 0 <;> simp [c1, c2, z] at h
end MF

set_option Elab.async false
namespace MF
open PySem
abbrev Exn := VC.Exn
/-- each of 0 .. n - 1 once -/
def isTurn (l : List Int) (n : Int) : Bool := decide ((l.length : Int) = n) && (List.range n.toNat).all fun k => decide ((k : Int) ∈ l)
theorem isTurn_iff {l : List Int} {n : Int} : isTurn l n = true ↔ (l.length : Int) = n ∧ ∀ k : Nat, k < n.toNat → (k : Int) ∈ l := by
  unfold isTurn
  rw [Bool.and_eq_true, decide_eq_true_iff, List.all_eq_true]
  constructor
  · intro h
    exact ⟨h.1, fun k hk => of_decide_eq_true (h.2 k (List.mem_range.mpr hk))⟩
  · intro h
    exact ⟨h.1, fun k hk => decide_eq_true (h.2 k (List.mem_range.mp hk))⟩
theorem turn_len {l : List Int} {n : Int} (h : isTurn l n = true) : (l.length : Int) = n := (isTurn_iff.mp h).1
def rngX (k : Nat) (p m : Int) : Except Exn Unit := if 0 ≤ p ∧ p < m then .ok () else .error (k, [p])
theorem rngX_ok {k : Nat} {p m : Int} (h : 0 ≤ p ∧ p < m) : rngX k p m = .ok () := if_pos h
theorem rngX_er {k : Nat} {p m : Int} (h : ¬ (0 ≤ p ∧ p < m)) : rngX k p m = .error (k, [p]) := if_neg h
theorem rngX_in {k : Nat} {p m : Int} {u : Unit} (h : rngX k p m = .ok u) : 0 ≤ p ∧ p < m := by
  unfold rngX at h
  split at h
  · assumption
  · cases h
abbrev Shp := Int × Int × Int × List (List Int)
structure GoodS (p : Shp) : Prop where
  p2 : 2 ≤ p.2.1
  p8 : p.2.1 ≤ 8
  s1 : 1 ≤ p.2.2.1
  s32 : p.2.2.1 ≤ 32
  d1 : 1 ≤ p.1
  dp : p.1 < p.2.1
  d2 : p.2.1 - p.1 ≤ 2
  t1 : 1 ≤ p.2.2.2.length
  t16 : p.2.2.2.length ≤ 16
  tt : ∀ t ∈ p.2.2.2, isTurn t p.2.1 = true
theorem shp_dec {p : Shp} : GoodS p ↔ ((2 ≤ p.2.1 ∧ p.2.1 ≤ 8 ∧ 1 ≤ p.2.2.1 ∧ p.2.2.1 ≤ 32) ∧ (1 ≤ p.1 ∧ p.1 < p.2.1 ∧ p.2.1 - p.1 ≤ 2) ∧ (1 ≤ p.2.2.2.length ∧ p.2.2.2.length ≤ 16) ∧ ∀ t ∈ p.2.2.2, isTurn t p.2.1 = true) :=
  ⟨fun h => ⟨⟨h.p2, h.p8, h.s1, h.s32⟩, ⟨h.d1, h.dp, h.d2⟩, ⟨h.t1, h.t16⟩, h.tt⟩, fun h => ⟨h.1.1, h.1.2.1, h.1.2.2.1, h.1.2.2.2, h.2.1.1, h.2.1.2.1, h.2.1.2.2, h.2.2.1.1, h.2.2.1.2, h.2.2.2⟩⟩
instance {p : Shp} : Decidable (GoodS p) := decidable_of_iff _ shp_dec.symm
def shpX (k : Nat) (p : Shp) : Except Exn Shp := if GoodS p then .ok p else .error (k, [])
theorem shpX_ok {k : Nat} {p : Shp} (h : GoodS p) : shpX k p = .ok p := if_pos h
theorem shpX_er {k : Nat} {p : Shp} (h : ¬ GoodS p) : shpX k p = .error (k, []) := if_neg h
def sizeS (p : Shp) : Int := p.1 * p.2.2.1
theorem size_pos {p : Shp} (h : GoodS p) : 0 < sizeS p := Int.mul_pos (by have := h.d1; omega) (by have := h.s1; omega)
def placeX (k : Nat) (p : Shp) (a : Int) : Except Exn (Int × Int) := if 0 ≤ a ∧ a < sizeS p then .ok (a / p.1, a % p.1) else .error (k, [a])
def numbX (k : Nat) (p : Shp) (s r : Int) : Except Exn Int := if 0 ≤ s ∧ s < p.2.2.1 then (if 0 ≤ r ∧ r < p.1 then .ok (s * p.1 + r) else .error (k, [r])) else .error (k, [s])
theorem place_er {k : Nat} {p : Shp} {a : Int} {e : Exn} (h : rngX k a (p.1 * p.2.2.1) = .error e) : placeX k p a = .error e := by
  unfold rngX at h
  unfold placeX sizeS
  split at h
  · cases h
  · rw [if_neg (by assumption)]
    exact congrArg Except.error (Except.error.inj h)
theorem place_in {k : Nat} {p : Shp} {a : Int} (h : 0 ≤ a ∧ a < sizeS p) : placeX k p a = .ok (a / p.1, a % p.1) := if_pos h
theorem place_ok {k : Nat} {p : Shp} {a : Int} {u : Unit} (h : rngX k a (p.1 * p.2.2.1) = .ok u) : placeX k p a = .ok (a / p.1, a % p.1) := place_in (rngX_in h)
theorem place_out {k : Nat} {p : Shp} {a : Int} (h : ¬ (0 ≤ a ∧ a < sizeS p)) : placeX k p a = .error (k, [a]) := if_neg h
theorem numb_in {k : Nat} {p : Shp} {s r : Int} (h : 0 ≤ s ∧ s < p.2.2.1) (h' : 0 ≤ r ∧ r < p.1) : numbX k p s r = .ok (s * p.1 + r) := by
  unfold numbX
  rw [if_pos h, if_pos h']
theorem numb_ok {k : Nat} {p : Shp} {s r : Int} {u v : Unit} (h : rngX k s p.2.2.1 = .ok u) (h' : rngX k r p.1 = .ok v) : numbX k p s r = .ok (s * p.1 + r) := numb_in (rngX_in h) (rngX_in h')
theorem numb_o1 {k : Nat} {p : Shp} {s r : Int} (h : ¬ (0 ≤ s ∧ s < p.2.2.1)) : numbX k p s r = .error (k, [s]) := if_neg h
theorem numb_o2 {k : Nat} {p : Shp} {s r : Int} (h : 0 ≤ s ∧ s < p.2.2.1) (h' : ¬ (0 ≤ r ∧ r < p.1)) : numbX k p s r = .error (k, [r]) := by
  unfold numbX
  rw [if_pos h, if_neg h']
theorem rng_err {k : Nat} {a m : Int} {e : Exn} (h : rngX k a m = .error e) : ¬ (0 ≤ a ∧ a < m) ∧ e = (k, [a]) := by
  unfold rngX at h
  split at h
  · cases h
  · exact ⟨by assumption, (Except.error.inj h).symm⟩
theorem numb_e1 {k : Nat} {p : Shp} {s r : Int} {e : Exn} (h : rngX k s p.2.2.1 = .error e) : numbX k p s r = .error e := by
  rw [(rng_err h).2]
  exact numb_o1 (rng_err h).1
theorem numb_e2 {k : Nat} {p : Shp} {s r : Int} {u : Unit} {e : Exn} (h : rngX k s p.2.2.1 = .ok u) (h' : rngX k r p.1 = .error e) : numbX k p s r = .error e := by
  rw [(rng_err h').2]
  exact numb_o2 (rngX_in h) (rng_err h').1
theorem take_all {α : Type} {P : α → Prop} {l : List α} {i : Nat} {x : α} (h : ∀ t ∈ l.take i, P t) (hx : l[i]? = some x) (hp : P x) : ∀ t ∈ l.take (i + 1), P t := by
  intro t ht
  obtain ⟨hi, rfl⟩ := List.getElem?_eq_some_iff.mp hx
  rw [List.take_succ_eq_append_getElem hi] at ht
  rcases List.mem_append.mp ht with q | q
  · exact h t q
  · rw [List.mem_singleton.mp q]
    exact hp
theorem turn_step {l : List Int} {i : Nat} {x : Int} (h : ∀ k : Nat, k < i → (k : Int) ∈ l) (hx : x = i) (hm : x ∈ l) : ∀ k : Nat, k < i + 1 → (k : Int) ∈ l := by
  intro k hk
  by_cases q : k < i
  · exact h k q
  · have : k = i := by omega
    subst this
    rw [← hx]
    exact hm
theorem dm_of {d x y : Int} (h0 : 0 ≤ y) (h1 : y < d) : (x * d + y) / d = x ∧ (x * d + y) % d = y := by
  constructor
  · rw [Int.add_comm, Int.add_mul_ediv_right _ _ (by omega), Int.ediv_eq_zero_of_lt h0 h1, Int.zero_add]
  · rw [Int.add_comm, Int.add_mul_emod_self_right]
    exact Int.emod_eq_of_lt h0 h1
theorem in_size {d s x y : Int} (h0 : 0 ≤ x) (h1 : x < s) (h2 : 0 ≤ y) (h3 : y < d) : 0 ≤ x * d + y ∧ x * d + y < d * s := by
  have hx : 0 ≤ x * d := Int.mul_nonneg h0 (by omega)
  have : (x + 1) * d ≤ s * d := Int.mul_le_mul_of_nonneg_right (by omega) (by omega)
  rw [Int.add_mul, Int.one_mul] at this
  rw [Int.mul_comm d s]
  omega
/-- a turn by k -/
def rotI (n k : Int) : List Int := (VC.rangeL 0 n).map fun q => (q + k) % n
theorem rot_len {n k : Int} : (rotI n k).length = n.toNat := by
  unfold rotI
  rw [List.length_map, VC.rangeL_len, Int.sub_zero]
theorem rot_turn {n k : Int} (h : 0 < n) : isTurn (rotI n k) n = true := by
  refine isTurn_iff.mpr ⟨by rw [rot_len]; omega, fun j hj => ?_⟩
  refine List.mem_map.mpr ⟨((j : Int) - k) % n, VC.rangeL_mem.mpr ⟨Int.emod_nonneg _ (by omega), Int.emod_lt_of_pos _ h⟩, ?_⟩
  rw [Int.emod_add_emod, Int.sub_add_cancel]
  exact Int.emod_eq_of_lt (by omega) (by omega)
/-- cells of the laws of shapes -/
def cellS (s : List Int) (k : Int) : Int := if k < s.length then (s[k.toNat]?).getD 0 else 7 * k + 3
theorem cellS_ix {s : List Int} {k : Int} (hk : 0 ≤ k) (h : decide (k < (s.length : Int)) = true) : s[k.toNat]? = some (cellS s k) := by
  have h := of_decide_eq_true h
  unfold cellS
  rw [if_pos h, List.getElem?_eq_getElem (by omega)]
  rfl
theorem cellS_out {s : List Int} {k : Int} (h : decide (k < (s.length : Int)) = false) : 7 * k + 3 = cellS s k := by
  have h := of_decide_eq_false h
  unfold cellS
  rw [if_neg h]
def outI (c m : Int) : Int := (([-1, m, m + c / 4 % (10 ^ (30 : Int).toNat - m), -1 - c / 4 % (10 ^ (30 : Int).toNat - m)] : List Int)[(c % 4).toNat]?).getD 0
theorem e30 : (10 : Int) ^ (30 : Int).toNat = 1000000000000000000000000000000 := by decide
theorem out_ix {c m f : Int} (hf : f = c / 4 % (10 ^ (30 : Int).toNat - m)) : ([-1, m, m + f, -1 - f] : List Int)[(c % 4).toNat]? = some (outI c m) := by
  subst hf
  have h : (c % 4).toNat < 4 := by omega
  unfold outI
  match (c % 4).toNat, h with
  | 0, _ => rfl
  | 1, _ => rfl
  | 2, _ => rfl
  | 3, _ => rfl
theorem out_out {c m : Int} (h1 : m < 10 ^ (30 : Int).toNat) : ¬ (0 ≤ outI c m ∧ outI c m < m) := by
  have h0 : 0 ≤ c / 4 % (10 ^ (30 : Int).toNat - m) := Int.emod_nonneg _ (by omega)
  have h : (c % 4).toNat < 4 := by omega
  intro hh
  unfold outI at hh
  generalize c / 4 % (10 ^ (30 : Int).toNat - m) = f at *
  match (c % 4).toNat, h, hh with
  | 0, _, hh => exact absurd (show (0 : Int) ≤ -1 from hh.1) (by decide)
  | 1, _, hh => exact absurd (show m < m from hh.2) (by omega)
  | 2, _, hh => exact absurd (show m + f < m from hh.2) (by omega)
  | 3, _, hh => exact absurd (show (0 : Int) ≤ -1 - f from hh.1) (by omega)
end MF

set_option Elab.async false
set_option linter.all false
set_option maxRecDepth 100000
set_option maxHeartbeats 4000000
namespace VC
open PySem PySem.Spec L2 VX
section
variable {B B0 : Bs} {Γ : Cxt} {α β γ : Type} {τ : Ty α} {υ : Ty β} {φ : Ty γ} {x : α} {D : Ends} {K : PySem.W.Frag} {u : TS} {i : Nat}
/-! ### more methods of lists of one's own -/
theorem g_insert {te tk : TE} {xs : List α} {k : Int} (m : get i Γ = some (.cl τ xs)) (hk : Sm B Γ tk tInt k) (he : Sm B Γ te τ x) (hl : xs.length < 1000) (h0 : 0 ≤ k ∧ k < 1000) (h : ∀ ys, ys = xs.take k.toNat ++ [x] ++ xs.drop k.toNat → G B u (put i (.cl τ ys) Γ) D) :
    G B (tSeq (tDrop (tBM K "list" (fun x vs H Q => ∃ (l : Addr) (xs : List V) (i : Int) (y : V), x = .ref l ∧ vs = [.int i, y] ∧ H l = some (.lst xs) ∧ xs.length < sizeLine ∧ 0 ≤ i ∧ i < 2 ^ 63 ∧
      Q .non (upd H l (.lst (xs.take i.toNat ++ [y] ++ xs.drop i.toNat)))) (tVar i) (tCons tk (tCons te tNil)))) u) Γ D := fun σ Hv H w => by
  obtain ⟨l, vs, e1, e2, e3, r⟩ := w.ent i _ (get_mem m)
  refine ⟨_, e1, .inl ⟨rfl, vs, SqL.of e2⟩, hk σ Hv H w _ fun v0 Hv0 H0 g0 r0 => he σ Hv0 H0 (w.grow g0) _ fun v Hv1 H1 g1 r1 => ?_⟩
  cases r0
  refine ⟨l, vs, k, v, rfl, rfl, g1.s _ _ (g0.s _ _ e2), by rw [paired_len r]; exact Nat.lt_of_lt_of_le hl (by decide), h0.1, by omega, ?_⟩
  have rr := Paired.up (g0.trans g1).v r
  exact h _ rfl σ Hv1 _ (((w.grow g0).grow g1).chg i (get_mem m) e1 (paired_app (paired_app (paired_take _ rr) (.cons r1 .nil)) (paired_drop _ rr)))
theorem g_clear {xs : List α} (m : get i Γ = some (.cl τ xs)) (h : ∀ ys : List α, ys = [] → G B u (put i (.cl τ ys) Γ) D) : G B (tSeq (tDrop (tBM0 K "list" rClear (tVar i))) u) Γ D := fun σ Hv H w => by
  obtain ⟨l, vs, e1, e2, e3, r⟩ := w.ent i _ (get_mem m)
  refine ⟨_, e1, .inl ⟨rfl, vs, SqL.of e2⟩, l, vs, rfl, rfl, e2, ?_⟩
  exact h _ rfl σ Hv _ (w.chg i (get_mem m) e1 .nil)
theorem paired_rev {α β : Type} {F : α → β → Prop} : ∀ {l : List α} {m : List β}, Paired F l m → Paired F l.reverse m.reverse
  | _, _, .nil => .nil
  | _, _, .cons a t => by
    rw [List.reverse_cons, List.reverse_cons]
    exact paired_app (paired_rev t) (.cons a .nil)
theorem g_rev {xs : List α} (m : get i Γ = some (.cl τ xs)) (h : ∀ ys : List α, ys = xs.reverse → G B u (put i (.cl τ ys) Γ) D) : G B (tSeq (tDrop (tBM0 K "list" rReverse (tVar i))) u) Γ D := fun σ Hv H w => by
  obtain ⟨l, vs, e1, e2, e3, r⟩ := w.ent i _ (get_mem m)
  refine ⟨_, e1, .inl ⟨rfl, vs, SqL.of e2⟩, l, vs, rfl, rfl, e2, ?_⟩
  exact h _ rfl σ Hv _ (w.chg i (get_mem m) e1 (paired_rev r))
/-- xs.index(y) of ints: j is the first place -/
theorem sm_index {t u : TE} {xs : List Int} {y : Int} {j : Nat} (h : SmL B Γ t tInt xs) (h' : Sm B Γ u tInt y) (hj : xs[j]? = some y ∧ ∀ m, m < j → xs[m]? ≠ some y) : Sm B Γ (tBM K "list" (rIndex K) t (tCons u tNil)) tInt j := fun σ Hv H w Q k =>
  h σ Hv H w _ fun a vs Hv1 H1 g1 e1 r1 => by
    refine ⟨.inl ⟨rfl, vs, SqL.of e1⟩, h' σ Hv1 H1 (w.grow g1) _ fun v Hv2 H2 g2 r2 => ?_⟩
    cases r2
    have ev := paired_int r1
    subst ev
    refine ⟨a, _, .int y, j, .int y, rfl, rfl, SqL.of (g2.s _ _ e1), rfl, flat_ints _, by rw [List.getElem?_map, hj.1]; rfl, ?_, fun m z' hm hz => ?_, k _ _ _ (g1.trans g2) rfl⟩
    · simp [eqV]
    · rw [List.getElem?_map] at hz
      cases q : xs[m]? with
      | none => rw [q] at hz; cases hz
      | some n =>
        rw [q] at hz
        cases hz
        have : n ≠ y := fun e => hj.2 m hm (by rw [q, e])
        simp [eqV, this]
theorem sorted_uniq : ∀ {l m : List Int}, l.Perm m → l.Pairwise (· ≤ ·) → m.Pairwise (· ≤ ·) → l = m
  | [], m, p, _, _ => (List.nil_perm.mp p).symm
  | a :: l, [], p, _, _ => absurd p.length_eq (by simp)
  | a :: l, b :: m, p, h1, h2 => by
    have ha : b ≤ a := by
      rcases List.mem_cons.mp (p.mem_iff.mp List.mem_cons_self) with e | e
      · omega
      · exact (List.pairwise_cons.mp h2).1 a e
    have hb : a ≤ b := by
      rcases List.mem_cons.mp (p.mem_iff.mpr List.mem_cons_self) with e | e
      · omega
      · exact (List.pairwise_cons.mp h1).1 b e
    have e : a = b := by omega
    subst e
    rw [sorted_uniq (List.Perm.cons_inv p) (List.pairwise_cons.mp h1).2 (List.pairwise_cons.mp h2).2]
theorem smo_sortI {t : TE} {xs ys : List Int} (h : SmL B Γ t tInt xs) (hp : ys.Perm xs) (hs : ys.Pairwise (· ≤ ·)) : SmO B Γ (tCB (rSortedI K) (tCons t tNil)) tInt ys := fun σ Hv H w Q k =>
  h σ Hv H w _ fun a vs Hv1 H1 g1 e1 r1 => by
    have ev := paired_int r1
    subst ev
    refine ⟨a, xs, rfl, SqL.of e1, fun zs p pz sz hn => ?_⟩
    have : zs = ys := sorted_uniq (pz.trans hp.symm) sz hs
    subst this
    exact k p _ Hv1 _ (g1.trans (Grow.newO g1.vis hn)) (Same.free g1.s hn) upd_same (Same.free g1.vis hn) int_paired
end
end VC

set_option Elab.async false
set_option linter.all false
set_option maxRecDepth 100000
set_option maxHeartbeats 4000000
namespace VC
open PySem PySem.Spec L2 VX
section
variable {B B0 : Bs} {Γ : Cxt} {α β γ : Type} {τ : Ty α} {υ : Ty β} {φ : Ty γ} {x : α} {D : Ends} {K : PySem.W.Frag} {u : TS} {i : Nat}
/-- a, b, c, d = a list of four -/
theorem g_asgL4 {te : TE} {i0 i1 i2 i3 : Nat} {xs : List α} {x0 x1 x2 x3 : α} (h0 : i0 < B.n) (h1 : i1 < B.n) (h2 : i2 < B.n) (h3 : i3 < B.n) (he : Sm B Γ te (tList τ) xs) (hx : xs = [x0, x1, x2, x3])
    (h : ∀ y0 y1 y2 y3, y0 = x0 → y1 = x1 → y2 = x2 → y3 = x3 → G B u (put i3 (.fz τ y3) (put i2 (.fz τ y2) (put i1 (.fz τ y1) (put i0 (.fz τ y0) Γ)))) D) :
    G B (tSeq (tAsg te (gLst K 4 (gCons (gName i0) (gCons (gName i1) (gCons (gName i2) (gCons (gName i3) gNil)))))) u) Γ D := fun σ Hv H w =>
  he σ Hv H w _ fun v Hv1 H1 g1 ⟨a, vs, ev, e1, r⟩ => by
    subst hx
    match vs, r with
    | [v0, v1, v2, v3], .cons r0 (.cons r1 (.cons r2 (.cons r3 .nil))) =>
      have w1 := w.grow g1
      exact ⟨a, _, ev, SqL.of (g1.vis _ _ e1), rfl, v0, _, rfl, v1, _, rfl, v2, _, rfl, v3, _, rfl, rfl, h _ _ _ _ rfl rfl rfl rfl _ Hv1 H1 ((((w1.put i0 h0 r0).put i1 h1 r1).put i2 h2 r2).put i3 h3 r3)⟩
theorem g_ifSet {c : TT} {te ti : TE} {b : Bool} {xs : List α} {k : Int} (hc : SmT B Γ c b) (m : get i Γ = some (.cl τ xs)) (he : b = true → Sm B Γ te τ x) (hk : b = true → Sm B Γ ti tInt k) (h0 : b = true → 0 ≤ k) (hl : b = true → k.toNat < xs.length)
    (h : ∀ ys, ys = (bif b then xs.set k.toNat x else xs) → G B u (put i (.cl τ ys) Γ) D) : G B (tSeq (tIfS c (tSeq (tAsg te (gSub (tVar i) ti rSetL)) tNext) tNext) u) Γ D := by
  refine g_if hc (fun e => ?_) fun e => ?_
  · refine g_assoc (g_setI m (he e) (hk e) (h0 e) (hl e) fun ys hy => g_next (h ys ?_))
    rw [e]
    exact hy
  · refine g_next fun σ Hv H w => h xs (by rw [e]; rfl) σ Hv H (w.sub fun p m' => ?_)
    rcases put_mem m' with ⟨h1, h2⟩ | ⟨_, h2⟩
    · obtain ⟨i', e'⟩ := p
      cases h1
      cases h2
      exact get_mem m
    · exact h2
end
end VC

set_option Elab.async false
namespace MF
open PySem
/-- the turn that a cell tells: each plank put in at a place -/
def turnFrom : Nat → Nat → Int → List Int → List Int
  | 0, _, _, row => row
  | n + 1, p, left, row => turnFrom n (p + 1) (left / ((p : Int) + 1)) (row.take (left % ((p : Int) + 1)).toNat ++ [(p : Int)] ++ row.drop (left % ((p : Int) + 1)).toNat)
def turnI (c n : Int) : List Int := turnFrom n.toNat 0 (c % 40320) []
/-- what stands between two turns of the loop: the rest of the reckoning gives the whole -/
theorem turnFrom_len : ∀ (n p : Nat) (left : Int) (row : List Int), (turnFrom n p left row).length = row.length + n
  | 0, _, _, _ => rfl
  | n + 1, p, left, row => by
    show (turnFrom n (p + 1) _ _).length = _
    rw [turnFrom_len n]
    simp only [List.length_append, List.length_take, List.length_drop, List.length_singleton]
    omega
theorem turn_len' {c n : Int} : (turnI c n).length = n.toNat := by
  unfold turnI
  rw [turnFrom_len]
  simp
theorem turnFrom_mem : ∀ (n p : Nat) (left : Int) (row : List Int), (∀ k : Nat, k < p → (k : Int) ∈ row) → ∀ k : Nat, k < p + n → (k : Int) ∈ turnFrom n p left row
  | 0, p, _, row, h, k, hk => h k hk
  | n + 1, p, left, row, h, k, hk => by
    refine turnFrom_mem n (p + 1) _ _ (fun j hj => ?_) k (by omega)
    rw [List.append_assoc]
    by_cases q : j < p
    · have := h j q
      rw [← List.take_append_drop (left % ((p : Int) + 1)).toNat row] at this
      rcases List.mem_append.mp this with z | z
      · exact List.mem_append_left _ z
      · exact List.mem_append_right _ (List.mem_append_right _ z)
    · have : j = p := by omega
      subst this
      exact List.mem_append_right _ (List.mem_append_left _ List.mem_cons_self)
theorem turn_turn {c n : Int} (h : 0 ≤ n) : isTurn (turnI c n) n = true := by
  refine isTurn_iff.mpr ⟨by rw [turn_len']; omega, fun k hk => turnFrom_mem n.toNat 0 _ _ (fun k hk => absurd hk (Nat.not_lt_zero _)) k (by omega)⟩
/-- sorted(row) -/
def srt (l : List Int) : List Int := l.mergeSort fun a b => decide (a ≤ b)
theorem srt_perm {l : List Int} : (srt l).Perm l := List.mergeSort_perm _ _
theorem srt_sorted {l : List Int} : (srt l).Pairwise (· ≤ ·) := by
  have h := List.pairwise_mergeSort (le := fun a b : Int => decide (a ≤ b)) (fun a b c h1 h2 => by simp at *; omega) (fun a b => by simp; omega) l
  exact h.imp fun h => by simpa using h
theorem rangeL_sorted (n : Nat) : ((List.range n).map fun k : Nat => (0 : Int) + (k : Int)).Pairwise (· ≤ ·) := by
  rw [List.pairwise_map]
  exact List.pairwise_lt_range.imp fun h => by omega
theorem perm_of_sub : ∀ {l m : List Int}, l.Nodup → (∀ x ∈ l, x ∈ m) → m.length ≤ l.length → l.Perm m
  | [], m, _, _, h => by
    cases m with
    | nil => exact .nil
    | cons => simp at h
  | a :: l, m, hn, hs, h => by
    have ha := hs a List.mem_cons_self
    have hn' := List.nodup_cons.mp hn
    have p := List.perm_cons_erase ha
    refine List.Perm.trans (List.Perm.cons a (perm_of_sub (m := m.erase a) hn'.2 (fun x hx => ?_) ?_)) p.symm
    · have hxa : x ≠ a := fun e => hn'.1 (e ▸ hx)
      exact (List.mem_erase_of_ne hxa).mpr (hs x (List.mem_cons_of_mem _ hx))
    · rw [List.length_erase_of_mem ha]
      simp at h
      omega
theorem rangeL_nodup {n : Int} : (VC.rangeL 0 n).Nodup := by
  unfold VC.rangeL
  exact List.Pairwise.map _ (fun a b h e => h (by omega)) (List.nodup_range (n := (n - 0).toNat))
theorem srt_turn {l : List Int} {n : Int} (h0 : 0 ≤ n) : srt l = VC.rangeL 0 n ↔ isTurn l n = true := by
  rw [isTurn_iff]
  constructor
  · intro h
    have p : (VC.rangeL 0 n).Perm l := by rw [← h]; exact srt_perm
    refine ⟨by rw [← p.length_eq, VC.rangeL_len]; omega, fun k hk => p.mem_iff.mp (VC.rangeL_mem.mpr ⟨by omega, by omega⟩)⟩
  · intro h
    have p : (VC.rangeL 0 n).Perm l := perm_of_sub rangeL_nodup (fun x hx => by
      have := VC.rangeL_mem.mp hx
      have z := h.2 x.toNat (by omega)
      rwa [Int.toNat_of_nonneg this.1] at z) (by rw [VC.rangeL_len]; omega)
    exact VC.sorted_uniq (srt_perm.trans p.symm) srt_sorted (rangeL_sorted _)
def badI (p c : Int) : Int := (([-1, p, p + 10 ^ (29 : Int).toNat, 0 - 10 ^ (29 : Int).toNat] : List Int)[(c / 44 % 4).toNat]?).getD 0
theorem bad_ix {p c : Int} : ([-1, p, p + 10 ^ (29 : Int).toNat, 0 - 10 ^ (29 : Int).toNat] : List Int)[(c / 44 % 4).toNat]? = some (badI p c) := by
  have h : (c / 44 % 4).toNat < 4 := by omega
  unfold badI
  match (c / 44 % 4).toNat, h with
  | 0, _ => rfl
  | 1, _ => rfl
  | 2, _ => rfl
  | 3, _ => rfl
def spoilI (row : List Int) (p c : Int) : List Int :=
  let a := c / 4 % ((row.length : Int) + 1)
  let o := c / 44 % (p + 1)
  if c % 4 = 0 ∧ a < row.length then row.take a.toNat ++ [o] ++ row.drop (a + 1).toNat
  else if c % 4 = 1 then row.take a.toNat ++ row.drop (a + 1).toNat
  else if c % 4 = 2 then row.take a.toNat ++ [o] ++ row.drop a.toNat
  else row.take a.toNat ++ [badI p c] ++ row.drop (a + 1).toNat
theorem spoil_len {row : List Int} {p c : Int} : (spoilI row p c).length ≤ row.length + 1 := by
  unfold spoilI
  simp only
  have h0 := Int.emod_nonneg (c / 4) (show (row.length : Int) + 1 ≠ 0 by omega)
  split
  · simp only [List.length_append, List.length_take, List.length_drop, List.length_singleton]; omega
  · split
    · simp only [List.length_append, List.length_take, List.length_drop]; omega
    · split
      · simp only [List.length_append, List.length_take, List.length_drop, List.length_singleton]; omega
      · simp only [List.length_append, List.length_take, List.length_drop, List.length_singleton]; omega
def farI (c : Int) : Int := (([10 ^ (29 : Int).toNat, 0 - 10 ^ (29 : Int).toNat] : List Int)[(c / 4 % 2).toNat]?).getD 0
theorem far_ix {c : Int} : ([10 ^ (29 : Int).toNat, 0 - 10 ^ (29 : Int).toNat] : List Int)[(c / 4 % 2).toNat]? = some (farI c) := by
  have h : (c / 4 % 2).toNat < 2 := by omega
  unfold farI
  match (c / 4 % 2).toNat, h with
  | 0, _ => rfl
  | 1, _ => rfl
def anyI (c l h : Int) : Int := if c % 4 = 1 then farI c + c / 8 % 10 ^ (28 : Int).toNat else l + c / 4 % (h - l + 1)
def numsI (s : List Int) : List Int :=
  let f := cellS s 0
  let g := cellS s 1
  let p := if f % 8 = 3 then anyI (cellS s 2) (-1) 10 else 2 + g % 7
  let st := if f % 8 = 4 then anyI (cellS s 2) (-1) 34 else 1 + g / 7 % 32
  let m := if f % 8 = 5 then cellS s 2 % 19 else 1 + g / 224 % 16
  let d0 := if p = 2 then 1 else p - 1 - f / 8 % 2
  [if f % 8 = 2 then anyI (cellS s 2) (-1) 9 else d0, p, st, m]
def turnsI (s : List Int) (p m : Int) : List (List Int) :=
  let q := if p > 10 ∨ p < 0 then 3 else p
  let ts := (VC.rangeL 0 m).map fun k => turnI (cellS s (4 + k)) q
  let a := cellS s 2 % m
  if cellS s 0 % 8 > 5 then ts.set a.toNat (spoilI (ts.getD a.toNat []) q (cellS s 3)) else ts
theorem getD_ixG {α : Type} {l : List α} {k : Nat} {d : α} (h : k < l.length) : l[k]? = some (l.getD k d) := by
  rw [List.getElem?_eq_getElem h, List.getD_eq_getElem?_getD, List.getElem?_eq_getElem h]
  rfl
theorem turns_row {s : List Int} {p m : Int} {k : Nat} (h : k < m.toNat) : (((VC.rangeL 0 m).map fun k => turnI (cellS s (4 + k)) p).getD k []).length = p.toNat := by
  have e : ((VC.rangeL 0 m).map fun k => turnI (cellS s (4 + k)) p)[k]? = some (turnI (cellS s (4 + k)) p) := by
    rw [List.getElem?_map, VC.rangeL0_iff.mpr ⟨by omega, rfl⟩]
    rfl
  rw [List.getD_eq_getElem?_getD, e]
  exact turn_len'
theorem turns_all {s : List Int} {p m : Int} (h0 : 0 ≤ m) (h1 : m ≤ 100) (h2 : cellS s 0 % 8 > 5 → 1 ≤ m) : (turnsI s p m).length ≤ 100 ∧ ∀ t ∈ turnsI s p m, t.length ≤ 1000 := by
  have hq : ∀ q, q = (if p > 10 ∨ p < 0 then 3 else p) → q.toNat ≤ 10 := fun q e => by rw [e]; split <;> omega
  have base : ∀ q : Int, q.toNat ≤ 10 → ∀ t ∈ (VC.rangeL 0 m).map (fun k => turnI (cellS s (4 + k)) q), t.length ≤ 10 := fun q hq t ht => by
    obtain ⟨k, _, rfl⟩ := List.mem_map.mp ht
    rw [turn_len']
    exact hq
  unfold turnsI
  simp only
  split
  · rename_i hc
    refine ⟨by rw [List.length_set, List.length_map, VC.rangeL_len]; omega, fun t ht => ?_⟩
    rcases List.mem_or_eq_of_mem_set ht with h | h
    · have := base _ (hq _ rfl) t h
      omega
    · rw [h]
      have hm := h2 hc
      have hk := Int.emod_nonneg (cellS s 2) (show m ≠ 0 by omega)
      have hk2 := Int.emod_lt_of_pos (cellS s 2) (show 0 < m by omega)
      have := spoil_len (row := ((VC.rangeL 0 m).map fun k => turnI (cellS s (4 + k)) (if p > 10 ∨ p < 0 then 3 else p)).getD (cellS s 2 % m).toNat []) (p := (if p > 10 ∨ p < 0 then 3 else p)) (c := cellS s 3)
      rw [turns_row (by omega)] at this
      have := hq _ rfl
      omega
  · exact ⟨by rw [List.length_map, VC.rangeL_len]; omega, fun t ht => by have := base _ (hq _ rfl) t ht; omega⟩
end MF

set_option Elab.async false
set_option maxRecDepth 100000
set_option maxHeartbeats 4000000
namespace Lw
open PySem PySem.Spec L2 VC
local macro_rules | `(tactic| walk_at "vc") => `(tactic| first | trivial | omega | (simp; done) | (simp; omega) | assumption)
abbrev ix_PlankError : Nat := 0
abbrev ix_NoShape : Nat := 1
abbrev ix_NoPlace : Nat := 2
def top (i : Nat) : Stmt := PySem.Challenge.pw_spareplank_k14_shapes_refused.main.body.getD i (.Pass ⟨0, 0, 0, 0⟩)
abbrev N_is_turn : List PySem.Str := ["some", "planks", "plank"]
abbrev s_is_turn : Stmt := top 10
theorem sc_is_turn : FnScope N_is_turn ["some", "planks"] (defScope s_is_turn) := ⟨rfl, rfl, rfl, by decide +kernel, rfl, by decide +kernel, by decide +kernel⟩
abbrev N_Shape___init__ : List PySem.Str := ["self", "data", "planks", "stripes", "turns", "some"]
abbrev s_Shape___init__ : Stmt := inClass (top 11) 0
theorem sc_Shape___init__ : FnScope N_Shape___init__ ["self", "data", "planks", "stripes", "turns"] (defScope s_Shape___init__) := ⟨rfl, rfl, rfl, by decide +kernel, rfl, by decide +kernel, by decide +kernel⟩
abbrev N_cell : List PySem.Str := ["_law_script", "_law_k"]
abbrev s_cell : Stmt := top 13
theorem sc_cell : FnScope N_cell ["_law_script", "_law_k"] (defScope s_cell) := ⟨rfl, rfl, rfl, by decide +kernel, rfl, by decide +kernel, by decide +kernel⟩
abbrev N_whole : List PySem.Str := ["_law_found"]
abbrev s_whole : Stmt := top 14
theorem sc_whole : FnScope N_whole ["_law_found"] (defScope s_whole) := ⟨rfl, rfl, rfl, by decide +kernel, rfl, by decide +kernel, by decide +kernel⟩
abbrev N_turn : List PySem.Str := ["_law_cell_here", "_law_planks", "_law_left", "_law_row", "_law_plank"]
abbrev s_turn : Stmt := top 15
theorem sc_turn : FnScope N_turn ["_law_cell_here", "_law_planks"] (defScope s_turn) := ⟨rfl, rfl, rfl, by decide +kernel, rfl, by decide +kernel, by decide +kernel⟩
abbrev N_spoiled : List PySem.Str := ["_law_row", "_law_planks", "_law_cell_here", "_law_way", "_law_at", "_law_other"]
abbrev s_spoiled : Stmt := top 16
theorem sc_spoiled : FnScope N_spoiled ["_law_row", "_law_planks", "_law_cell_here"] (defScope s_spoiled) := ⟨rfl, rfl, rfl, by decide +kernel, rfl, by decide +kernel, by decide +kernel⟩
abbrev N_any : List PySem.Str := ["_law_cell_here", "_law_low", "_law_high"]
abbrev s_any : Stmt := top 17
theorem sc_any : FnScope N_any ["_law_cell_here", "_law_low", "_law_high"] (defScope s_any) := ⟨rfl, rfl, rfl, by decide +kernel, rfl, by decide +kernel, by decide +kernel⟩
abbrev N_numbers : List PySem.Str := ["_law_script", "_law_first", "_law_second", "_law_numbers_here", "_law_fault"]
abbrev s_numbers : Stmt := top 18
theorem sc_numbers : FnScope N_numbers ["_law_script"] (defScope s_numbers) := ⟨rfl, rfl, rfl, by decide +kernel, rfl, by decide +kernel, by decide +kernel⟩
abbrev N_turns : List PySem.Str := ["_law_script", "_law_planks", "_law_many", "_law_turns_here", "_law_k", "_law_at"]
abbrev s_turns : Stmt := top 19
theorem sc_turns : FnScope N_turns ["_law_script", "_law_planks", "_law_many"] (defScope s_turns) := ⟨rfl, rfl, rfl, by decide +kernel, rfl, by decide +kernel, by decide +kernel⟩
abbrev N_good : List PySem.Str := ["_law_data", "_law_planks", "_law_stripes", "_law_turns_here", "_law_row", "_law_plank"]
abbrev s_good : Stmt := top 20
theorem sc_good : FnScope N_good ["_law_data", "_law_planks", "_law_stripes", "_law_turns_here"] (defScope s_good) := ⟨rfl, rfl, rfl, by decide +kernel, rfl, by decide +kernel, by decide +kernel⟩
abbrev N_refused : List PySem.Str := ["_law_data", "_law_planks", "_law_stripes", "_law_turns_here", "e"]
abbrev s_refused : Stmt := top 21
theorem sc_refused : FnScope N_refused ["_law_data", "_law_planks", "_law_stripes", "_law_turns_here"] (defScope s_refused) := ⟨rfl, rfl, rfl, by decide +kernel, rfl, by decide +kernel, by decide +kernel⟩
abbrev N_law : List PySem.Str := ["_law_script", "_law_data", "_law_planks", "_law_stripes", "_law_many", "_law_turns_here", "_law_handed", "_law_shape", "_law_found", "_law_number", "_law_row"]
abbrev s_law : Stmt := top 22
theorem sc_law : FnScope N_law ["_law_script"] (defScope s_law) := ⟨rfl, rfl, rfl, by decide +kernel, rfl, by decide +kernel, by decide +kernel⟩
structure Ad where
  f_is_turn : Addr
  f_Shape___init__ : Addr
  f_cell : Addr
  f_whole : Addr
  f_turn : Addr
  f_spoiled : Addr
  f_any : Addr
  f_numbers : Addr
  f_turns : Addr
  f_good : Addr
  f_refused : Addr
  f_law : Addr
  c_Shape : Addr
  x_PlankError : Addr
  x_NoShape : Addr
  x_NoPlace : Addr
  d_is_turn : FuncData
  d_Shape___init__ : FuncData
  d_cell : FuncData
  d_whole : FuncData
  d_turn : FuncData
  d_spoiled : FuncData
  d_any : FuncData
  d_numbers : FuncData
  d_turns : FuncData
  d_good : FuncData
  d_refused : FuncData
  d_law : FuncData
def exL (a : Ad) : ExTab := [(a.x_PlankError, []), (a.x_NoShape, []), (a.x_NoPlace, ["place"])]
def schShape (a : Ad) (p : Int × Int × Int × List (List Int)) : List (PySem.Str × As) := [("data", ⟨tInt, p.1⟩), ("planks", ⟨tInt, p.2.1⟩), ("stripes", ⟨tInt, p.2.2.1⟩), ("size", ⟨tInt, p.1 * p.2.2.1⟩), ("turns", ⟨(tList (tList tInt)), p.2.2.2⟩)]
def tShape (a : Ad) : Ty (Int × Int × Int × List (List Int)) := tObj a.c_Shape (schShape a)
abbrev ns_Shape : List PySem.Str := ["data", "planks", "stripes", "size", "turns"]
structure Tx (K : PySem.W.Frag) (mg : PySem.Str → Option Value) (a : Ad) : Prop where
  F_is_turn : Fun K "is_turn" "is_turn" s_is_turn a.f_is_turn a.d_is_turn
  b_is_turn : Binds K a.d_is_turn ["some", "planks"] []
  m_is_turn : mg "is_turn" = some (.ref a.f_is_turn)
  F_Shape___init__ : Fun K "__init__" "Shape.__init__" s_Shape___init__ a.f_Shape___init__ a.d_Shape___init__
  b_Shape___init__ : Binds K a.d_Shape___init__ ["self", "data", "planks", "stripes", "turns"] []
  F_cell : Fun K "_law_cell" "_law_cell" s_cell a.f_cell a.d_cell
  b_cell : Binds K a.d_cell ["_law_script", "_law_k"] []
  m_cell : mg "_law_cell" = some (.ref a.f_cell)
  F_whole : Fun K "_law_whole" "_law_whole" s_whole a.f_whole a.d_whole
  b_whole : Binds K a.d_whole ["_law_found"] []
  m_whole : mg "_law_whole" = some (.ref a.f_whole)
  F_turn : Fun K "_law_turn" "_law_turn" s_turn a.f_turn a.d_turn
  b_turn : Binds K a.d_turn ["_law_cell_here", "_law_planks"] []
  m_turn : mg "_law_turn" = some (.ref a.f_turn)
  F_spoiled : Fun K "_law_spoiled" "_law_spoiled" s_spoiled a.f_spoiled a.d_spoiled
  b_spoiled : Binds K a.d_spoiled ["_law_row", "_law_planks", "_law_cell_here"] []
  m_spoiled : mg "_law_spoiled" = some (.ref a.f_spoiled)
  F_any : Fun K "_law_any" "_law_any" s_any a.f_any a.d_any
  b_any : Binds K a.d_any ["_law_cell_here", "_law_low", "_law_high"] []
  m_any : mg "_law_any" = some (.ref a.f_any)
  F_numbers : Fun K "_law_numbers" "_law_numbers" s_numbers a.f_numbers a.d_numbers
  b_numbers : Binds K a.d_numbers ["_law_script"] []
  m_numbers : mg "_law_numbers" = some (.ref a.f_numbers)
  F_turns : Fun K "_law_turns" "_law_turns" s_turns a.f_turns a.d_turns
  b_turns : Binds K a.d_turns ["_law_script", "_law_planks", "_law_many"] []
  m_turns : mg "_law_turns" = some (.ref a.f_turns)
  F_good : Fun K "_law_good" "_law_good" s_good a.f_good a.d_good
  b_good : Binds K a.d_good ["_law_data", "_law_planks", "_law_stripes", "_law_turns_here"] []
  m_good : mg "_law_good" = some (.ref a.f_good)
  F_refused : Fun K "_law_refused" "_law_refused" s_refused a.f_refused a.d_refused
  b_refused : Binds K a.d_refused ["_law_data", "_law_planks", "_law_stripes", "_law_turns_here"] []
  m_refused : mg "_law_refused" = some (.ref a.f_refused)
  F_law : Fun K "law" "law" s_law a.f_law a.d_law
  b_law : Binds K a.d_law ["_law_script"] []
  m_law : mg "law" = some (.ref a.f_law)
  C_Shape : Cls K a.c_Shape
  m_Shape : mg "Shape" = some (.ref a.c_Shape)
  M_Shape : Mk K a.c_Shape a.f_Shape___init__
  n_Shape_data : NoAttr K a.c_Shape "data"
  n_Shape_planks : NoAttr K a.c_Shape "planks"
  n_Shape_stripes : NoAttr K a.c_Shape "stripes"
  n_Shape_size : NoAttr K a.c_Shape "size"
  n_Shape_turns : NoAttr K a.c_Shape "turns"
  m_PlankError : mg "PlankError" = some (.ref a.x_PlankError)
  m_NoShape : mg "NoShape" = some (.ref a.x_NoShape)
  m_NoPlace : mg "NoPlace" = some (.ref a.x_NoPlace)
  X_NoPlace : VX.ExcC K a.x_NoPlace
  X_NoShape : VX.ExcC K a.x_NoShape
  X_PlankError : VX.ExcC K a.x_PlankError
  p_NoShape_NoPlace : PySem.W.subIn K (.ref a.x_NoShape) (.ref a.x_NoPlace) = some false
  p_NoShape_NoShape : PySem.W.subIn K (.ref a.x_NoShape) (.ref a.x_NoShape) = some true
  p_NoShape_PlankError : PySem.W.subIn K (.ref a.x_NoShape) (.ref a.x_PlankError) = some true
  q_NoShape : PySem.W.excIn K a.x_NoShape [.type "ValueError", .type "Exception", .type "BaseException", .type "object"] "ValueError.__new__" = true
  kx_NoShape : PySem.W.keepIn K (.ref a.x_NoShape) = true
  s_NoShape : PySem.W.subIn K (.ref a.x_NoShape) (.ref a.x_NoShape) = some true
  t_NoShape_PlankError : PySem.W.exmOne K (.ref a.x_NoShape) (.ref a.x_PlankError) = some true
  v_NoShape : PySem.W.subIn K (.ref a.x_NoShape) (.type "ValueError") = some true
  g_MOST_PLANKS : ∃ t, mg "MOST_PLANKS" = some (.int 8 t)
  g_MOST_SUMS : ∃ t, mg "MOST_SUMS" = some (.int 2 t)
  g_MOST_STRIPES : ∃ t, mg "MOST_STRIPES" = some (.int 32 t)
  g_MOST_TURNS : ∃ t, mg "MOST_TURNS" = some (.int 16 t)
  n_ValueError : mg "ValueError" = none
  n_bool : mg "bool" = none
  n_int : mg "int" = none
  n_isinstance : mg "isinstance" = none
  n_len : mg "len" = none
  n_list : mg "list" = none
  n_range : mg "range" = none
  n_sorted : mg "sorted" = none
theorem fld_Shape_data {K : PySem.W.Frag} {mg : PySem.Str → Option Value} {a : Ad} {B : Bs} {Γ : Cxt} {t : TE} {p : Int × Int × Int × List (List Int)} (T : Tx K mg a) (h : Sm B Γ t (tShape a) p) : Sm B Γ (tFld K t "data") tInt (p.1) := sm_fld h ns_Shape 0 (by decide +kernel) T.C_Shape T.n_Shape_data rfl rfl
theorem fld_Shape_planks {K : PySem.W.Frag} {mg : PySem.Str → Option Value} {a : Ad} {B : Bs} {Γ : Cxt} {t : TE} {p : Int × Int × Int × List (List Int)} (T : Tx K mg a) (h : Sm B Γ t (tShape a) p) : Sm B Γ (tFld K t "planks") tInt (p.2.1) := sm_fld h ns_Shape 1 (by decide +kernel) T.C_Shape T.n_Shape_planks rfl rfl
theorem fld_Shape_stripes {K : PySem.W.Frag} {mg : PySem.Str → Option Value} {a : Ad} {B : Bs} {Γ : Cxt} {t : TE} {p : Int × Int × Int × List (List Int)} (T : Tx K mg a) (h : Sm B Γ t (tShape a) p) : Sm B Γ (tFld K t "stripes") tInt (p.2.2.1) := sm_fld h ns_Shape 2 (by decide +kernel) T.C_Shape T.n_Shape_stripes rfl rfl
theorem fld_Shape_size {K : PySem.W.Frag} {mg : PySem.Str → Option Value} {a : Ad} {B : Bs} {Γ : Cxt} {t : TE} {p : Int × Int × Int × List (List Int)} (T : Tx K mg a) (h : Sm B Γ t (tShape a) p) : Sm B Γ (tFld K t "size") tInt (p.1 * p.2.2.1) := sm_fld h ns_Shape 3 (by decide +kernel) T.C_Shape T.n_Shape_size rfl rfl
theorem fld_Shape_turns {K : PySem.W.Frag} {mg : PySem.Str → Option Value} {a : Ad} {B : Bs} {Γ : Cxt} {t : TE} {p : Int × Int × Int × List (List Int)} (T : Tx K mg a) (h : Sm B Γ t (tShape a) p) : Sm B Γ (tFld K t "turns") (tList (tList tInt)) (p.2.2.2) := sm_fld h ns_Shape 4 (by decide +kernel) T.C_Shape T.n_Shape_turns rfl rfl
def sp_is_turn (K : PySem.W.Frag) (a : Ad) : Sp := spF2 (tList tInt) tInt (fun l _ => l.length ≤ 1000) tBool (fun l n => MF.isTurn l n)
set_option maxHeartbeats 4000000 in
theorem ok_is_turn {P : Program} {w : World} {K : PySem.W.Frag} {mg : PySem.Str → Option Value} {base : Heap} {a : Ad} (T : Tx K mg a) : FnOk P w K mg base CX0 1 a.f_is_turn a.d_is_turn ["some", "planks"] (sp_is_turn K a) := by
  refine T.F_is_turn.ok sc_is_turn (fun vs H Q E h => spF2_len h) (fun cdv A outer s H vs Q E hr h => ?_)
  refine ⟨_, (pss_cons (ps_if (pt_cmpR op_ne (pe_callB call_len_seq (by rfl) T.n_len bb_len (pa_cons (pv 0) pa_nil)) (pv 1) (nomark _)) (pss_cons (ps_ret pe_bl) pss_nil) pss_nil)
      (pss_cons (ps_for PassesOwn.never rfl (pi_range1 rfl T.n_range (pa_cons (pv 1) pa_nil)) (pg_name (i := 2) sc_is_turn.nd rfl (by first | exact Or.inl rfl | exact Or.inr rfl))
        (pss_cons (ps_if (pt_cmpR op_notIn_seq (pv 2) (pv 0) (by rfl)) (pss_cons (ps_ret pe_bl) pss_nil) pss_nil)
      pss_nil))
      (pss_cons (ps_ret pe_bl)
      pss_nil))), ?_⟩
  refine spF2_body (by show 2 ≤ 3; decide) h (fun B0 hn some planks hp R => ?_)
  replace hn : B0.n = 3 := hn
  try dsimp only at hp
  try dsimp only at R
  -- if len(some) != planks
  refine g_if (smt_tt (sm_op (sm_len (SmL.of (sm_var rfl))) (sm_var rfl) ov_neI)) (fun hc => ?_) (fun hc => ?_)
  ·
    refine g_assoc ?_
    -- return False
    exact g_ret (Le.refl B0) R sm_bl (by /- 2.ret -/ (try dsimp only); first | done | (symm; rw [Bool.eq_false_iff]; intro h; exact absurd (MF.turn_len h) (by simpa using hc)))
  ·
    have hl : (some.length : Int) = planks := by simpa using hc
    refine g_next ?_
    -- for plank in range(planks)
    refine g_for (S := Unit) (τ := tInt) (smw_range1 (sm_var rfl) (by /- 3.range -/ (try dsimp only); first | done | (omega))) (fun B1 hB => (tgt_name (by rw [hB, hn]; decide))) (fun (i : Nat) (s : Unit) => (fun i => ∀ k : Nat, k < i → (k : Int) ∈ some) i)
      (fun (s : Unit) => [(0, .fz (tList tInt) some), (1, .fz tInt planks)]) () ⟨rfl, rfl, trivial⟩ (by /- 3.init -/ (try dsimp only); first | done | (exact fun k h => absurd h (Nat.not_lt_zero _))) ?_ ?_
    ·
      intro BL le_BL i s x hx_x hI_x
      have hI_x : (fun i => ∀ k : Nat, k < i → (k : Int) ∈ some) i := hI_x
      try dsimp only at hI_x
      have hn_BL : BL.n = 3 := le_BL.n.trans hn
      show G BL _ [(2, .fz tInt x), (0, .fz (tList tInt) some), (1, .fz tInt planks)] _
      obtain ⟨hx_lt, hx_e⟩ := rangeL0_iff.mp hx_x
      -- if plank not in some
      refine g_if (smt_tt (sm_notIn (sm_var rfl) (SmL.of (sm_var rfl)))) (fun hc1 => ?_) (fun hc1 => ?_)
      ·
        refine g_assoc ?_
        -- return False
        exact g_ret ((Le.refl B0).trans le_BL) R sm_bl (by /- 5.ret -/ (try dsimp only); first | done | (symm; rw [Bool.eq_false_iff]; intro h; have z := (MF.isTurn_iff.mp h).2 i (by omega); rw [← hx_e] at z; simp [z] at hc1))
      ·
        refine g_next ?_
        exact g_loop () rfl ⟨rfl, rfl, trivial⟩ (by /- 3.step -/ (try dsimp only); first | done | (exact MF.turn_step hI_x hx_e (by simpa using hc1)))
    ·
      intro s hE
      try dsimp only at hE
      show G B0 _ [(0, .fz (tList tInt) some), (1, .fz tInt planks)] _
      -- return True
      exact g_ret (Le.refl B0) R sm_bl (by /- 6.ret -/ (try dsimp only); first | done | (exact (MF.isTurn_iff.mpr ⟨hl, fun k hk => hE k (by rw [rangeL_len]; omega)⟩).symm))
def sp_Shape___init__ (K : PySem.W.Frag) (a : Ad) : Sp := spIX4 (exL a) tInt tInt tInt (tList (tList tInt)) (fun _ _ _ t => ∀ x ∈ t, x.length ≤ 1000) a.c_Shape (schShape a) (fun d p s t => MF.shpX ix_NoShape (d, p, s, t))
set_option maxHeartbeats 4000000 in
theorem ok_Shape___init__ {P : Program} {w : World} {K : PySem.W.Frag} {mg : PySem.Str → Option Value} {base : Heap} {a : Ad} (T : Tx K mg a) : FnOk P w K mg base (L2.CX P w) 3 a.f_Shape___init__ a.d_Shape___init__ ["self", "data", "planks", "stripes", "turns"] (sp_Shape___init__ K a) := by
  refine T.F_Shape___init__.okX sc_Shape___init__ (fun vs H Q E h => spIX4_len h) (fun cdv A outer s H vs Q E hr h => ?_)
  refine ⟨_, (pss_cons (ps_if (PW.pt (pw_or (pt_not (pt_chain op_le op_le pe_int (pv 2) (pe_gI T.g_MOST_PLANKS))) (pw_or1 (pt_not (pt_chain op_le op_le pe_int (pv 3) (pe_gI T.g_MOST_STRIPES)))))) (pss_cons (ps_rs rfl (takes_of rfl rfl rfl rfl) (pmk_own PySem.F.excBase_ValueError T.q_NoShape T.m_NoShape T.kx_NoShape (raises_own T.X_NoShape.hs T.X_NoShape.ty) rfl)) pss_nil) pss_nil)
      (pss_cons (ps_if (PW.pt (pw_or (pt_not (pt_chain op_le op_lt pe_int (pv 1) (pv 2))) (pw_or1 (pt_cmpR op_gt (pe_op op_sub (pv 2) (pv 1)) (pe_gI T.g_MOST_SUMS) (nomark _))))) (pss_cons (ps_rs rfl (takes_of rfl rfl rfl rfl) (pmk_own PySem.F.excBase_ValueError T.q_NoShape T.m_NoShape T.kx_NoShape (raises_own T.X_NoShape.hs T.X_NoShape.ty) rfl)) pss_nil) pss_nil)
      (pss_cons (ps_if (pt_not (pt_chain op_le op_le pe_int (pe_callB call_len_seq (by rfl) T.n_len bb_len (pa_cons (pv 4) pa_nil)) (pe_gI T.g_MOST_TURNS))) (pss_cons (ps_rs rfl (takes_of rfl rfl rfl rfl) (pmk_own PySem.F.excBase_ValueError T.q_NoShape T.m_NoShape T.kx_NoShape (raises_own T.X_NoShape.hs T.X_NoShape.ty) rfl)) pss_nil) pss_nil)
      (pss_cons (ps_for (passes_of rfl) rfl (pi_list (pv 4)) (pg_name (i := 5) sc_Shape___init__.nd rfl (by first | exact Or.inl rfl | exact Or.inr rfl))
        (pss_cons (ps_if (pt_not (pt_val (pe_call (ok_is_turn T) (hr.mono (by decide)) rfl T.m_is_turn T.F_is_turn.kp T.b_is_turn .nil pass0 (pa_cons (pv 5) (pa_cons (pv 2) pa_nil))))) (pss_cons (ps_rs rfl (takes_of rfl rfl rfl rfl) (pmk_own PySem.F.excBase_ValueError T.q_NoShape T.m_NoShape T.kx_NoShape (raises_own T.X_NoShape.hs T.X_NoShape.ty) rfl)) pss_nil) pss_nil)
      pss_nil))
      (pss_cons (ps_fld (pv 0) (pv 1) rfl)
      (pss_cons (ps_fld (pv 0) (pv 2) rfl)
      (pss_cons (ps_fld (pv 0) (pv 3) rfl)
      (pss_cons (ps_fld (pv 0) (pe_op op_mul (pv 1) (pv 3)) rfl)
      (pss_cons (ps_fld (pv 0) (pe_lc (own := [("some", 5)]) rfl sc_Shape___init__.nd (pi_list (pv 4)) (blkOk_by (own := [("some", 5)]) (N := N_Shape___init__) (sc := defScope s_Shape___init__) (by decide +kernel)) (fun _ _ _ _ _ => (pg_name (i := 5) sc_Shape___init__.nd rfl (by first | exact Or.inl rfl | exact Or.inr rfl))) (fun _ _ _ _ _ => pts_nil) (fun _ _ _ _ _ => (pe_callTy (call_list_ofK (K := K) rfl) (by rfl) T.n_list bb_list (pa_cons (pv 5) pa_nil)))) rfl)
      pss_nil))))))))), ?_⟩
  refine spIX4_body (by show 5 ≤ 6; decide) h (fun B0 hn p dx data planks stripes turns hp R => ?_)
  replace hn : B0.n = 6 := hn
  try dsimp only at hp
  try dsimp only at R
  -- if not 2 <= planks <= MOST_PLANKS or not 1 <= stripes <= MOST_STRIPES
  refine g_if (smt_or (smt_not (smt_tt (sm_chain sm_int (sm_var rfl) ov_le (fun _ => sm_int) (fun _ => ov_le)))) (fun hb => (smt_not (smt_tt (sm_chain sm_int (sm_var rfl) ov_le (fun _ => sm_int) (fun _ => ov_le)))))) (fun hc => ?_) (fun hc => ?_)
  ·
    refine g_assoc ?_
    -- raise NoShape('two to eight planks, 1 to 32 stripes')
    exact g_raise (smr_own (show (exL a : List (Addr × List PySem.Str))[1]? = some (a.x_NoShape, ([] : List PySem.Str)) from rfl)) (R.er (Le.refl B0) (by /- 2.raise -/ (try dsimp only); first | done | (exact MF.shpX_er (fun h => by have a1 : 2 ≤ planks := h.p2; have a2 : planks ≤ 8 := h.p8; have a3 : 1 ≤ stripes := h.s1; have a4 : stripes ≤ 32 := h.s32; simp [a1, a2, a3, a4] at hc))))
  ·
    have h1 : 2 ≤ planks ∧ planks ≤ 8 ∧ 1 ≤ stripes ∧ stripes ≤ 32 := by simp at hc; omega
    refine g_next ?_
    -- if not 1 <= data < planks or planks - data > MOST_SUMS
    refine g_if (smt_or (smt_not (smt_tt (sm_chain sm_int (sm_var rfl) ov_le (fun _ => (sm_var rfl)) (fun _ => ov_lt)))) (fun hb => (smt_tt (sm_op (sm_op (sm_var rfl) (sm_var rfl) ov_sub) sm_int ov_gt)))) (fun hc1 => ?_) (fun hc1 => ?_)
    ·
      refine g_assoc ?_
      -- raise NoShape('one or two sums beside the data')
      exact g_raise (smr_own (show (exL a : List (Addr × List PySem.Str))[1]? = some (a.x_NoShape, ([] : List PySem.Str)) from rfl)) (R.er (Le.refl B0) (by /- 4.raise -/ (try dsimp only); first | done | (exact MF.shpX_er (fun h => by have a1 : 1 ≤ data := h.d1; have a2 : data < planks := h.dp; have a3 : planks - data ≤ 2 := h.d2; simp [a1, a2] at hc1; omega))))
    ·
      have h2 : 1 ≤ data ∧ data < planks ∧ planks - data ≤ 2 := by simp at hc1; omega
      refine g_next ?_
      -- if not 1 <= len(turns) <= MOST_TURNS
      refine g_if (smt_not (smt_tt (sm_chain sm_int (sm_len (SmL.of (sm_var rfl))) ov_le (fun _ => sm_int) (fun _ => ov_le)))) (fun hc2 => ?_) (fun hc2 => ?_)
      ·
        refine g_assoc ?_
        -- raise NoShape('1 to 16 turns')
        exact g_raise (smr_own (show (exL a : List (Addr × List PySem.Str))[1]? = some (a.x_NoShape, ([] : List PySem.Str)) from rfl)) (R.er (Le.refl B0) (by /- 6.raise -/ (try dsimp only); first | done | (exact MF.shpX_er (fun h => by have a1 : 1 ≤ turns.length := h.t1; have a2 : turns.length ≤ 16 := h.t16; simp at hc2; omega))))
      ·
        have h3 : 1 ≤ turns.length ∧ turns.length ≤ 16 := by simp at hc2; omega
        refine g_next ?_
        -- for some in turns
        refine g_for (S := Unit) (τ := (tList tInt)) (smw_listF (sm_var rfl)) (fun B1 hB => (tgt_name (by rw [hB, hn]; decide))) (fun (i : Nat) (s : Unit) => (fun i => ∀ t ∈ turns.take i, MF.isTurn t planks = true) i)
          (fun (s : Unit) => [(0, .ob p dx a.c_Shape []), (1, .fz tInt data), (2, .fz tInt planks), (3, .fz tInt stripes), (4, .fz (tList (tList tInt)) turns)]) () ⟨rfl, rfl, rfl, rfl, rfl, trivial⟩ (by /- 7.init -/ (try dsimp only); first | done | (simp)) ?_ ?_
        ·
          intro BL le_BL i s x hx_x hI_x
          have hI_x : (fun i => ∀ t ∈ turns.take i, MF.isTurn t planks = true) i := hI_x
          try dsimp only at hI_x
          have hn_BL : BL.n = 6 := le_BL.n.trans hn
          show G BL _ [(5, .fz (tList tInt) x), (0, .ob p dx a.c_Shape []), (1, .fz tInt data), (2, .fz tInt planks), (3, .fz tInt stripes), (4, .fz (tList (tList tInt)) turns)] _
          -- if not is_turn(some, planks)
          refine g_if (smt_not (smt_b (sm_call2 (sma_cons (sm_var rfl) (sma_cons (sm_var rfl) sma_nil)) (by /- 8.pre_is_turn -/ (try dsimp only); first | done | (exact hp _ (List.mem_of_getElem? hx_x)))))) (fun hc3 => ?_) (fun hc3 => ?_)
          ·
            try dsimp only at hc3
            refine g_assoc ?_
            -- raise NoShape('each plank just once')
            exact g_raise (smr_own (show (exL a : List (Addr × List PySem.Str))[1]? = some (a.x_NoShape, ([] : List PySem.Str)) from rfl)) (R.er ((Le.refl B0).trans le_BL) (by /- 9.raise -/ (try dsimp only); first | done | (exact MF.shpX_er (fun h => by have z : MF.isTurn x planks = true := h.tt x (List.mem_of_getElem? hx_x); simp [z] at hc3))))
          ·
            try dsimp only at hc3
            refine g_next ?_
            exact g_loop () rfl ⟨rfl, rfl, rfl, rfl, rfl, trivial⟩ (by /- 7.step -/ (try dsimp only); first | done | (exact MF.take_all hI_x hx_x (by simpa using hc3)))
        ·
          intro s hE
          try dsimp only at hE
          show G B0 _ [(0, .ob p dx a.c_Shape []), (1, .fz tInt data), (2, .fz tInt planks), (3, .fz tInt stripes), (4, .fz (tList (tList tInt)) turns)] _
          have hgs : MF.GoodS (data, planks, stripes, turns) := ⟨h1.1, h1.2.1, h1.2.2.1, h1.2.2.2, h2.1, h2.2.1, h2.2.2, h3.1, h3.2, by rw [List.take_length] at hE; exact hE⟩
          -- self.data = data
          refine g_fld (τ := tInt) rfl [] rfl (by decide +kernel) T.C_Shape T.n_Shape_data (by show 0 < 900; decide) (sm_var rfl) (fun data1 h_data1 => ?_)
          -- self.planks = planks
          refine g_fld (τ := tInt) rfl ["data"] rfl (by decide +kernel) T.C_Shape T.n_Shape_planks (by show 1 < 900; decide) (sm_var rfl) (fun planks1 h_planks1 => ?_)
          -- self.stripes = stripes
          refine g_fld (τ := tInt) rfl ["data", "planks"] rfl (by decide +kernel) T.C_Shape T.n_Shape_stripes (by show 2 < 900; decide) (sm_var rfl) (fun stripes1 h_stripes1 => ?_)
          -- self.size = data * stripes
          refine g_fld (τ := tInt) rfl ["data", "planks", "stripes"] rfl (by decide +kernel) T.C_Shape T.n_Shape_size (by show 3 < 900; decide) (sm_op (sm_var rfl) (sm_var rfl) (ov_mulR (by /- 13.mul -/ (try dsimp only); first | done | (constructor <;> omega)))) (fun size h_size => ?_)
          -- self.turns = [list(some) for some in turns]
          refine g_fld (τ := (tList (tList tInt))) rfl ["data", "planks", "stripes", "size"] rfl (by decide +kernel) T.C_Shape T.n_Shape_turns (by show 4 < 900; decide) (Sm.of_own (smo_lc0 (smw_listF (sm_var rfl)) (tgt_name (by rw [hn]; decide)) (by decide) (by /- 14.lc -/ (try dsimp only); first | done | (omega)) (fun z hm_ => (Sm.of_own (smo_list (SmL.of (sm_var rfl))))))) (fun turns1 h_turns1 => ?_)
          exact g_endI (Le.refl B0) (R.ok (by /- 0.endok -/ (try dsimp only); first | done | (exact MF.shpX_ok hgs))) rfl rfl (by /- 0.end -/ (try dsimp only); first | done | (rw [h_data1, h_planks1, h_stripes1, h_size, h_turns1]; simp [schShape]))
def sp_cell (K : PySem.W.Frag) (a : Ad) : Sp := spF2 (tScr K) tInt (fun _ k => 0 ≤ k) tInt (fun s k => MF.cellS s k)
set_option maxHeartbeats 4000000 in
theorem ok_cell {P : Program} {w : World} {K : PySem.W.Frag} {mg : PySem.Str → Option Value} {base : Heap} {a : Ad} (T : Tx K mg a) : FnOk P w K mg base CX0 1 a.f_cell a.d_cell ["_law_script", "_law_k"] (sp_cell K a) := by
  refine T.F_cell.ok sc_cell (fun vs H Q E h => spF2_len h) (fun cdv A outer s H vs Q E hr h => ?_)
  refine ⟨_, (pss_cons (ps_if (pt_cmpR op_lt (pv 1) (pe_callB call_len_seq (by rfl) T.n_len bb_len (pa_cons (pv 0) pa_nil)) (nomark _)) (pss_cons (ps_ret (pe_ix ix_list (pv 0) (pv 1) (fun _ _ => rfl))) pss_nil) pss_nil)
      (pss_cons (ps_ret (pe_op op_add (pe_op op_mul pe_int (pv 1)) pe_int))
      pss_nil)), ?_⟩
  refine spF2_body (by show 2 ≤ 2; decide) h (fun B0 hn script k hp R => ?_)
  replace hn : B0.n = 2 := hn
  try dsimp only at hp
  try dsimp only at R
  -- if _law_k < len(_law_script)
  refine g_if (smt_tt (sm_op (sm_var rfl) (sm_lenScr (sm_var rfl)) ov_lt)) (fun hc => ?_) (fun hc => ?_)
  ·
    refine g_assoc ?_
    -- return _law_script[_law_k]
    exact g_ret (Le.refl B0) R (sm_ixScr (sm_var rfl) (sm_var rfl) (by /- 2.ix0 -/ (try dsimp only); first | done | (exact hp)) (by /- 2.ix -/ (try dsimp only); first | done | (exact MF.cellS_ix hp hc))) (by /- 2.ret -/ (try dsimp only); first | done | (rfl))
  ·
    refine g_next ?_
    -- return 7 * _law_k + 3
    exact g_ret (Le.refl B0) R (sm_op (sm_op sm_int (sm_var rfl) (ov_mulL (by /- 3.mul -/ (try dsimp only); first | done | (decide)))) sm_int ov_add) (by /- 3.ret -/ (try dsimp only); first | done | (exact MF.cellS_out hc))
def sp_whole (K : PySem.W.Frag) (a : Ad) : Sp := spF1 tInt (fun _ => True) tBool (fun _ => true)
set_option maxHeartbeats 4000000 in
theorem ok_whole {P : Program} {w : World} {K : PySem.W.Frag} {mg : PySem.Str → Option Value} {base : Heap} {a : Ad} (T : Tx K mg a) : FnOk P w K mg base CX0 1 a.f_whole a.d_whole ["_law_found"] (sp_whole K a) := by
  refine T.F_whole.ok sc_whole (fun vs H Q E h => spF1_len h) (fun cdv A outer s H vs Q E hr h => ?_)
  refine ⟨_, (pss_cons (ps_ret (pe_and (pe_callB call_isi (by rfl) T.n_isinstance bb_isinstance (pa_cons (pv 0) (pa_cons (pe_ty T.n_int bb_int) pa_nil))) (pe_one (pe_not (pe_callB call_isi (by rfl) T.n_isinstance bb_isinstance (pa_cons (pv 0) (pa_cons (pe_ty T.n_bool bb_bool) pa_nil)))))))
      pss_nil), ?_⟩
  refine spF1_body (by show 1 ≤ 1; decide) h (fun B0 hn found hp R => ?_)
  replace hn : B0.n = 1 := hn
  try dsimp only at hp
  try dsimp only at R
  -- return isinstance(_law_found, int) and (not isinstance(_law_found, bool))
  exact g_ret (Le.refl B0) R (sm_andV (sm_isi (b := true) (sm_var rfl) ti_int (by decide +kernel)) (fun hb => (sm_notV (sm_isi (b := false) (sm_var rfl) ti_int (by decide +kernel))))) (by /- 1.ret -/ (try dsimp only); first | done | (rfl))
def sp_turn (K : PySem.W.Frag) (a : Ad) : Sp := spO2 tInt tInt (fun _ n => 0 ≤ n ∧ n ≤ 10) tInt (fun c n => MF.turnI c n)
set_option maxHeartbeats 4000000 in
theorem ok_turn {P : Program} {w : World} {K : PySem.W.Frag} {mg : PySem.Str → Option Value} {base : Heap} {a : Ad} (T : Tx K mg a) : FnOk P w K mg base CX0 1 a.f_turn a.d_turn ["_law_cell_here", "_law_planks"] (sp_turn K a) := by
  refine T.F_turn.ok sc_turn (fun vs H Q E h => spO2_len h) (fun cdv A outer s H vs Q E hr h => ?_)
  refine ⟨_, (pss_cons (ps_set (i := 2) sc_turn.nd rfl (by first | exact Or.inl rfl | exact Or.inr rfl) (pe_op op_modN (pv 0) pe_int))
      (pss_cons (ps_set (i := 3) sc_turn.nd rfl (by first | exact Or.inl rfl | exact Or.inr rfl) (pe_lst pa_nil))
      (pss_cons (ps_for PassesOwn.never rfl (pi_range1 rfl T.n_range (pa_cons (pv 1) pa_nil)) (pg_name (i := 4) sc_turn.nd rfl (by first | exact Or.inl rfl | exact Or.inr rfl))
        (pss_cons (ps_expr (pe_bm PySem.F.plainAttrs_list PySem.F.slot_list_insert PySem.F.type_list_insert mt_insert (pv 3) (pa_cons (pe_op op_modN (pv 2) (pe_op op_add (pv 4) pe_int)) (pa_cons (pv 4) pa_nil))))
      (pss_cons (ps_set (i := 2) sc_turn.nd rfl (by first | exact Or.inl rfl | exact Or.inr rfl) (pe_op op_fdivN (pv 2) (pe_op op_add (pv 4) pe_int)))
      pss_nil)))
      (pss_cons (ps_ret (pv 3))
      pss_nil)))), ?_⟩
  refine spO2_body (by show 2 ≤ 5; decide) h (fun B0 hn cell_here planks hp R => ?_)
  replace hn : B0.n = 5 := hn
  try dsimp only at hp
  try dsimp only at R
  -- _law_left = _law_cell_here % 40320
  refine g_asg (τ := tInt) (by rw [hn]; decide) (sm_op (sm_var rfl) sm_int (ov_modP (by /- 1.mod -/ (try dsimp only); first | done | (decide)))) (fun left h_left => ?_)
  -- _law_row = []
  refine g_asgO (τ := tInt) (by rw [hn]; decide) (smo_lst SmI.nil (by decide)) (fun row h_row => ?_)
  -- for _law_plank in range(_law_planks)
  refine g_for (S := (List Int) × Int) (τ := tInt) (smw_range1 (sm_var rfl) (by /- 3.range -/ (try dsimp only); first | done | (omega))) (fun B1 hB => (tgt_name (by rw [hB, hn]; decide))) (fun (i : Nat) (s : (List Int) × Int) => (fun i row left => MF.turnFrom (planks.toNat - i) i left row = MF.turnI cell_here planks ∧ row.length = i) i s.1 s.2)
    (fun (s : (List Int) × Int) => [(0, .fz tInt cell_here), (1, .fz tInt planks), (3, .cl tInt s.1), (2, .fz tInt s.2)]) (row, left) ⟨rfl, rfl, rfl, rfl, trivial⟩ (by /- 3.init -/ (try dsimp only); first | done | (rw [h_left, h_row]; exact ⟨rfl, rfl⟩)) ?_ ?_
  ·
    intro BL le_BL i s x hx_x hI_x
    obtain ⟨row1, left1⟩ := s
    have hI_x : (fun i row left => MF.turnFrom (planks.toNat - i) i left row = MF.turnI cell_here planks ∧ row.length = i) i row1 left1 := hI_x
    try dsimp only at hI_x
    have hn_BL : BL.n = 5 := le_BL.n.trans hn
    show G BL _ [(4, .fz tInt x), (0, .fz tInt cell_here), (1, .fz tInt planks), (3, .cl tInt row1), (2, .fz tInt left1)] _
    obtain ⟨hx_lt, hx_e⟩ := rangeL0_iff.mp hx_x
    have hm0 := Int.emod_nonneg left1 (show x + 1 ≠ 0 by omega)
    have hm1 := Int.emod_lt_of_pos left1 (show 0 < x + 1 by omega)
    -- _law_row.insert(_law_left % (_law_plank + 1), _law_plank)
    refine g_insert (K := K) rfl (sm_op (sm_var rfl) (sm_op (sm_var rfl) sm_int ov_add) (ov_modP (by /- 4.mod -/ (try dsimp only); first | done | (omega)))) (sm_var rfl) (by /- 4.ins -/ (try dsimp only); first | done | (omega)) (by /- 4.ins0 -/ (try dsimp only); first | done | (omega)) (fun row2 h_row2 => ?_)
    -- _law_left = _law_left // (_law_plank + 1)
    refine g_asg (τ := tInt) (by rw [hn_BL]; decide) (sm_op (sm_var rfl) (sm_op (sm_var rfl) sm_int ov_add) (ov_fdiv (by /- 5.div -/ (try dsimp only); first | done | (omega)))) (fun left2 h_left2 => ?_)
    exact g_loop (row2, left2) rfl ⟨rfl, rfl, rfl, rfl, trivial⟩ (by /- 3.step -/ (try dsimp only); first | done | (rw [h_row2, h_left2]; refine ⟨?_, by simp; omega⟩; rw [← hI_x.1, hx_e, show planks.toNat - i = (planks.toNat - (i + 1)) + 1 by omega]; rfl))
  ·
    intro s hE
    obtain ⟨row3, left3⟩ := s
    try dsimp only at hE
    show G B0 _ [(0, .fz tInt cell_here), (1, .fz tInt planks), (3, .cl tInt row3), (2, .fz tInt left3)] _
    -- return _law_row
    exact g_retC (Le.refl B0) R rfl (by /- 6.ret -/ (try dsimp only); first | done | (have z := hE.1; rw [rangeL_len, Int.sub_zero, Nat.sub_self] at z; exact z))
def sp_spoiled (K : PySem.W.Frag) (a : Ad) : Sp := spO3 (tList tInt) tInt tInt (fun r p _ => r.length ≤ 20 ∧ 0 ≤ p) tInt (fun r p c => MF.spoilI r p c)
set_option maxHeartbeats 4000000 in
theorem ok_spoiled {P : Program} {w : World} {K : PySem.W.Frag} {mg : PySem.Str → Option Value} {base : Heap} {a : Ad} (T : Tx K mg a) : FnOk P w K mg base CX0 1 a.f_spoiled a.d_spoiled ["_law_row", "_law_planks", "_law_cell_here"] (sp_spoiled K a) := by
  refine T.F_spoiled.ok sc_spoiled (fun vs H Q E h => spO3_len h) (fun cdv A outer s H vs Q E hr h => ?_)
  refine ⟨_, (pss_cons (ps_set (i := 3) sc_spoiled.nd rfl (by first | exact Or.inl rfl | exact Or.inr rfl) (pe_op op_modN (pv 2) pe_int))
      (pss_cons (ps_set (i := 4) sc_spoiled.nd rfl (by first | exact Or.inl rfl | exact Or.inr rfl) (pe_op op_modN (pe_op op_fdivN (pv 2) pe_int) (pe_op op_add (pe_callB call_len_seq (by rfl) T.n_len bb_len (pa_cons (pv 0) pa_nil)) pe_int)))
      (pss_cons (ps_set (i := 5) sc_spoiled.nd rfl (by first | exact Or.inl rfl | exact Or.inr rfl) (pe_op op_modN (pe_op op_fdivN (pv 2) pe_int) (pe_op op_add (pv 1) pe_int)))
      (pss_cons (ps_if (PW.pt (pw_and (pt_cmpR op_eq (pv 3) pe_int (nomark _)) (pw_and1 (pt_cmpR op_lt (pv 4) (pe_callB call_len_seq (by rfl) T.n_len bb_len (pa_cons (pv 0) pa_nil)) (nomark _))))) (pss_cons (ps_ret (pe_op op_cat (pe_op op_cat (pe_slice sl_list (pv 0) po_none (po_some (pv 4))) (pe_lst (pa_cons (pv 5) pa_nil))) (pe_slice sl_list (pv 0) (po_some (pe_op op_add (pv 4) pe_int)) po_none))) pss_nil) pss_nil)
      (pss_cons (ps_if (pt_cmpR op_eq (pv 3) pe_int (nomark _)) (pss_cons (ps_ret (pe_op op_cat (pe_slice sl_list (pv 0) po_none (po_some (pv 4))) (pe_slice sl_list (pv 0) (po_some (pe_op op_add (pv 4) pe_int)) po_none))) pss_nil) pss_nil)
      (pss_cons (ps_if (pt_cmpR op_eq (pv 3) pe_int (nomark _)) (pss_cons (ps_ret (pe_op op_cat (pe_op op_cat (pe_slice sl_list (pv 0) po_none (po_some (pv 4))) (pe_lst (pa_cons (pv 5) pa_nil))) (pe_slice sl_list (pv 0) (po_some (pv 4)) po_none))) pss_nil) pss_nil)
      (pss_cons (ps_ret (pe_op op_cat (pe_op op_cat (pe_slice sl_list (pv 0) po_none (po_some (pv 4))) (pe_lst (pa_cons (pe_ix ix_list (pe_lst (pa_cons (pe_un un_neg pe_int) (pa_cons (pv 1) (pa_cons (pe_op op_add (pv 1) (pe_op op_pow pe_int pe_int)) (pa_cons (pe_op op_sub pe_int (pe_op op_pow pe_int pe_int)) pa_nil))))) (pe_op op_modN (pe_op op_fdivN (pv 2) pe_int) pe_int) (fun _ _ => rfl)) pa_nil))) (pe_slice sl_list (pv 0) (po_some (pe_op op_add (pv 4) pe_int)) po_none)))
      pss_nil))))))), ?_⟩
  refine spO3_body (by show 3 ≤ 6; decide) h (fun B0 hn row planks cell_here hp R => ?_)
  replace hn : B0.n = 6 := hn
  try dsimp only at hp
  try dsimp only at R
  -- _law_way = _law_cell_here % 4
  refine g_asg (τ := tInt) (by rw [hn]; decide) (sm_op (sm_var rfl) sm_int (ov_modP (by /- 1.mod -/ (try dsimp only); first | done | (walk_at "vc")))) (fun way h_way => ?_)
  -- _law_at = _law_cell_here // 4 % (len(_law_row) + 1)
  refine g_asg (τ := tInt) (by rw [hn]; decide) (sm_op (sm_op (sm_var rfl) sm_int (ov_fdiv (by /- 2.div -/ (try dsimp only); first | done | (walk_at "vc")))) (sm_op (sm_len (SmL.of (sm_var rfl))) sm_int ov_add) (ov_modP (by /- 2.mod -/ (try dsimp only); first | done | (walk_at "vc")))) (fun atV h_atV => ?_)
  have hat : 0 ≤ atV ∧ atV ≤ row.length := by rw [h_atV]; have h0 := Int.emod_nonneg (cell_here / 4) (show (row.length : Int) + 1 ≠ 0 by omega); have h1 := Int.emod_lt_of_pos (cell_here / 4) (show 0 < (row.length : Int) + 1 by omega); omega
  have hlr := hp.1
  -- _law_other = _law_cell_here // 44 % (_law_planks + 1)
  refine g_asg (τ := tInt) (by rw [hn]; decide) (sm_op (sm_op (sm_var rfl) sm_int (ov_fdiv (by /- 3.div -/ (try dsimp only); first | done | (walk_at "vc")))) (sm_op (sm_var rfl) sm_int ov_add) (ov_modP (by /- 3.mod -/ (try dsimp only); first | done | (walk_at "vc")))) (fun other h_other => ?_)
  -- if _law_way == 0 and _law_at < len(_law_row)
  refine g_if (smt_and (smt_tt (sm_op (sm_var rfl) sm_int ov_eqI)) (fun hb => (smt_tt (sm_op (sm_var rfl) (sm_len (SmL.of (sm_var rfl))) ov_lt)))) (fun hc => ?_) (fun hc => ?_)
  ·
    refine g_assoc ?_
    -- return _law_row[:_law_at] + [_law_other] + _law_row[_law_at + 1:]
    exact g_retO (Le.refl B0) R (smo_cat (SmL.of_own (smo_cat (SmL.of_own (smo_sl01 (SmL.of (sm_var rfl)) (sm_var rfl) (by /- 5.slice -/ (try dsimp only); first | done | (omega)))) (SmL.of_own (smo_lst (SmI.cons (sm_var rfl) SmI.nil) (by show 1 ≤ 1000; decide))) (by /- 5.cat -/ (try dsimp only); first | done | (simp; omega)))) (SmL.of_own (smo_sl10 (SmL.of (sm_var rfl)) (sm_op (sm_var rfl) sm_int ov_add) (by /- 5.slice1 -/ (try dsimp only); first | done | (omega)))) (by /- 5.cat1 -/ (try dsimp only); first | done | (simp; omega))) (by /- 5.ret -/ (try dsimp only); first | done | (rw [h_other]; have q := (show way = 0 ∧ atV < row.length by simpa using hc); rw [h_way, h_atV] at q; unfold MF.spoilI; simp only; rw [if_pos q, h_atV]))
  ·
    refine g_next ?_
    -- if _law_way == 1
    refine g_if (smt_tt (sm_op (sm_var rfl) sm_int ov_eqI)) (fun hc1 => ?_) (fun hc1 => ?_)
    ·
      refine g_assoc ?_
      -- return _law_row[:_law_at] + _law_row[_law_at + 1:]
      exact g_retO (Le.refl B0) R (smo_cat (SmL.of_own (smo_sl01 (SmL.of (sm_var rfl)) (sm_var rfl) (by /- 7.slice -/ (try dsimp only); first | done | (omega)))) (SmL.of_own (smo_sl10 (SmL.of (sm_var rfl)) (sm_op (sm_var rfl) sm_int ov_add) (by /- 7.slice1 -/ (try dsimp only); first | done | (omega)))) (by /- 7.cat -/ (try dsimp only); first | done | (simp; omega))) (by /- 7.ret -/ (try dsimp only); first | done | (have q := (show ¬ (way = 0 ∧ atV < row.length) by simpa using hc); have q1 := (show way = 1 by simpa using hc1); rw [h_way, h_atV] at q; rw [h_way] at q1; unfold MF.spoilI; simp only; rw [if_neg q, if_pos q1, h_atV]))
    ·
      refine g_next ?_
      -- if _law_way == 2
      refine g_if (smt_tt (sm_op (sm_var rfl) sm_int ov_eqI)) (fun hc2 => ?_) (fun hc2 => ?_)
      ·
        refine g_assoc ?_
        -- return _law_row[:_law_at] + [_law_other] + _law_row[_law_at:]
        exact g_retO (Le.refl B0) R (smo_cat (SmL.of_own (smo_cat (SmL.of_own (smo_sl01 (SmL.of (sm_var rfl)) (sm_var rfl) (by /- 9.slice -/ (try dsimp only); first | done | (omega)))) (SmL.of_own (smo_lst (SmI.cons (sm_var rfl) SmI.nil) (by show 1 ≤ 1000; decide))) (by /- 9.cat -/ (try dsimp only); first | done | (simp; omega)))) (SmL.of_own (smo_sl10 (SmL.of (sm_var rfl)) (sm_var rfl) (by /- 9.slice1 -/ (try dsimp only); first | done | (omega)))) (by /- 9.cat1 -/ (try dsimp only); first | done | (simp; omega))) (by /- 9.ret -/ (try dsimp only); first | done | (rw [h_other]; have q := (show ¬ (way = 0 ∧ atV < row.length) by simpa using hc); have q1 := (show ¬ way = 1 by simpa using hc1); have q2 := (show way = 2 by simpa using hc2); rw [h_way, h_atV] at q; rw [h_way] at q1 q2; unfold MF.spoilI; simp only; rw [if_neg q, if_neg q1, if_pos q2, h_atV]))
      ·
        refine g_next ?_
        -- return _law_row[:_law_at] + [[-1, _law_planks, _law_planks + 10 ** 29, 0 - 10 ** 29][_law_cell_here // 44 % 4]] + _law_row[_law_at + 1:]
        exact g_retO (Le.refl B0) R (smo_cat (SmL.of_own (smo_cat (SmL.of_own (smo_sl01 (SmL.of (sm_var rfl)) (sm_var rfl) (by /- 10.slice -/ (try dsimp only); first | done | (omega)))) (SmL.of_own (smo_lst (SmI.cons (sm_ix (SmL.of_own (smo_lst (SmI.cons (sm_neg sm_int) (SmI.cons (sm_var rfl) (SmI.cons (sm_op (sm_var rfl) (sm_op sm_int sm_int (ov_pow (by /- 10.pow -/ (try dsimp only); first | done | (decide)))) ov_add) (SmI.cons (sm_op sm_int (sm_op sm_int sm_int (ov_pow (by /- 10.pow1 -/ (try dsimp only); first | done | (decide)))) ov_sub) SmI.nil)))) (by show 4 ≤ 1000; decide))) (sm_op (sm_op (sm_var rfl) sm_int (ov_fdiv (by /- 10.div -/ (try dsimp only); first | done | (decide)))) sm_int (ov_modP (by /- 10.mod -/ (try dsimp only); first | done | (decide)))) (by /- 10.ix0 -/ (try dsimp only); first | done | (omega)) (by /- 10.ix -/ (try dsimp only); first | done | (exact MF.bad_ix))) SmI.nil) (by show 1 ≤ 1000; decide))) (by /- 10.cat -/ (try dsimp only); first | done | (simp; omega)))) (SmL.of_own (smo_sl10 (SmL.of (sm_var rfl)) (sm_op (sm_var rfl) sm_int ov_add) (by /- 10.slice1 -/ (try dsimp only); first | done | (omega)))) (by /- 10.cat1 -/ (try dsimp only); first | done | (simp; omega))) (by /- 10.ret -/ (try dsimp only); first | done | (have q := (show ¬ (way = 0 ∧ atV < row.length) by simpa using hc); have q1 := (show ¬ way = 1 by simpa using hc1); have q2 := (show ¬ way = 2 by simpa using hc2); rw [h_way, h_atV] at q; rw [h_way] at q1 q2; unfold MF.spoilI; simp only; rw [if_neg q, if_neg q1, if_neg q2, h_atV]))
def sp_any (K : PySem.W.Frag) (a : Ad) : Sp := spF3 tInt tInt tInt (fun _ l h => l ≤ h) tInt (fun c l h => MF.anyI c l h)
set_option maxHeartbeats 4000000 in
theorem ok_any {P : Program} {w : World} {K : PySem.W.Frag} {mg : PySem.Str → Option Value} {base : Heap} {a : Ad} (T : Tx K mg a) : FnOk P w K mg base CX0 1 a.f_any a.d_any ["_law_cell_here", "_law_low", "_law_high"] (sp_any K a) := by
  refine T.F_any.ok sc_any (fun vs H Q E h => spF3_len h) (fun cdv A outer s H vs Q E hr h => ?_)
  refine ⟨_, (pss_cons (ps_if (pt_cmpR op_eq (pe_op op_modN (pv 0) pe_int) pe_int (nomark _)) (pss_cons (ps_ret (pe_op op_add (pe_ix ix_list (pe_lst (pa_cons (pe_op op_pow pe_int pe_int) (pa_cons (pe_op op_sub pe_int (pe_op op_pow pe_int pe_int)) pa_nil))) (pe_op op_modN (pe_op op_fdivN (pv 0) pe_int) pe_int) (fun _ _ => rfl)) (pe_op op_modN (pe_op op_fdivN (pv 0) pe_int) (pe_op op_pow pe_int pe_int)))) pss_nil) pss_nil)
      (pss_cons (ps_ret (pe_op op_add (pv 1) (pe_op op_modN (pe_op op_fdivN (pv 0) pe_int) (pe_op op_add (pe_op op_sub (pv 2) (pv 1)) pe_int))))
      pss_nil)), ?_⟩
  refine spF3_body (by show 3 ≤ 3; decide) h (fun B0 hn cell_here low high hp R => ?_)
  replace hn : B0.n = 3 := hn
  try dsimp only at hp
  try dsimp only at R
  -- if _law_cell_here % 4 == 1
  refine g_if (smt_tt (sm_op (sm_op (sm_var rfl) sm_int (ov_modP (by /- 1.mod -/ (try dsimp only); first | done | (walk_at "vc")))) sm_int ov_eqI)) (fun hc => ?_) (fun hc => ?_)
  ·
    refine g_assoc ?_
    -- return [10 ** 29, 0 - 10 ** 29][_law_cell_here // 4 % 2] + _law_cell_here // 8 % 10 ** 28
    exact g_ret (Le.refl B0) R (sm_op (sm_ix (SmL.of_own (smo_lst (SmI.cons (sm_op sm_int sm_int (ov_pow (by /- 2.pow -/ (try dsimp only); first | done | (walk_at "vc")))) (SmI.cons (sm_op sm_int (sm_op sm_int sm_int (ov_pow (by /- 2.pow1 -/ (try dsimp only); first | done | (walk_at "vc")))) ov_sub) SmI.nil)) (by show 2 ≤ 1000; decide))) (sm_op (sm_op (sm_var rfl) sm_int (ov_fdiv (by /- 2.div -/ (try dsimp only); first | done | (walk_at "vc")))) sm_int (ov_modP (by /- 2.mod -/ (try dsimp only); first | done | (decide)))) (by /- 2.ix0 -/ (try dsimp only); first | done | (omega)) (by /- 2.ix -/ (try dsimp only); first | done | (exact MF.far_ix))) (sm_op (sm_op (sm_var rfl) sm_int (ov_fdiv (by /- 2.div1 -/ (try dsimp only); first | done | (walk_at "vc")))) (sm_op sm_int sm_int (ov_pow (by /- 2.pow2 -/ (try dsimp only); first | done | (walk_at "vc")))) (ov_modP (by /- 2.mod1 -/ (try dsimp only); first | done | (walk_at "vc")))) ov_add) (by /- 2.ret -/ (try dsimp only); first | done | (unfold MF.anyI; rw [if_pos (by simpa using hc)]))
  ·
    refine g_next ?_
    -- return _law_low + _law_cell_here // 4 % (_law_high - _law_low + 1)
    exact g_ret (Le.refl B0) R (sm_op (sm_var rfl) (sm_op (sm_op (sm_var rfl) sm_int (ov_fdiv (by /- 3.div -/ (try dsimp only); first | done | (walk_at "vc")))) (sm_op (sm_op (sm_var rfl) (sm_var rfl) ov_sub) sm_int ov_add) (ov_modP (by /- 3.mod -/ (try dsimp only); first | done | (omega)))) ov_add) (by /- 3.ret -/ (try dsimp only); first | done | (unfold MF.anyI; rw [if_neg (by simpa using hc)]))
def sp_numbers (K : PySem.W.Frag) (a : Ad) : Sp := spO1 (tScr K) (fun _ => True) tInt (fun s => MF.numsI s)
set_option maxHeartbeats 4000000 in
theorem ok_numbers {P : Program} {w : World} {K : PySem.W.Frag} {mg : PySem.Str → Option Value} {base : Heap} {a : Ad} (T : Tx K mg a) : FnOk P w K mg base CX0 2 a.f_numbers a.d_numbers ["_law_script"] (sp_numbers K a) := by
  refine T.F_numbers.ok sc_numbers (fun vs H Q E h => spO1_len h) (fun cdv A outer s H vs Q E hr h => ?_)
  refine ⟨_, (pss_cons (ps_set (i := 1) sc_numbers.nd rfl (by first | exact Or.inl rfl | exact Or.inr rfl) (pe_call (ok_cell T) (hr.mono (by decide)) rfl T.m_cell T.F_cell.kp T.b_cell .nil pass0 (pa_cons (pv 0) (pa_cons pe_int pa_nil))))
      (pss_cons (ps_set (i := 2) sc_numbers.nd rfl (by first | exact Or.inl rfl | exact Or.inr rfl) (pe_call (ok_cell T) (hr.mono (by decide)) rfl T.m_cell T.F_cell.kp T.b_cell .nil pass0 (pa_cons (pv 0) (pa_cons pe_int pa_nil))))
      (pss_cons (ps_set (i := 3) sc_numbers.nd rfl (by first | exact Or.inl rfl | exact Or.inr rfl) (pe_lst (pa_cons pe_int (pa_cons (pe_op op_add pe_int (pe_op op_modN (pv 2) pe_int)) (pa_cons (pe_op op_add pe_int (pe_op op_modN (pe_op op_fdivN (pv 2) pe_int) pe_int)) (pa_cons (pe_op op_add pe_int (pe_op op_modN (pe_op op_fdivN (pv 2) pe_int) pe_int)) pa_nil))))))
      (pss_cons (ps_set (i := 4) sc_numbers.nd rfl (by first | exact Or.inl rfl | exact Or.inr rfl) (pe_op op_modN (pv 1) pe_int))
      (pss_cons (ps_if (pt_cmpR op_eq (pv 4) pe_int (nomark _)) (pss_cons (ps_asg (pe_call (ok_any T) (hr.mono (by decide)) rfl T.m_any T.F_any.kp T.b_any .nil pass0 (pa_cons (pe_call (ok_cell T) (hr.mono (by decide)) rfl T.m_cell T.F_cell.kp T.b_cell .nil pass0 (pa_cons (pv 0) (pa_cons pe_int pa_nil))) (pa_cons (pe_un un_neg pe_int) (pa_cons pe_int pa_nil)))) (pg_sub (pv 3) pe_int set_list)) pss_nil) pss_nil)
      (pss_cons (ps_if (pt_cmpR op_eq (pv 4) pe_int (nomark _)) (pss_cons (ps_asg (pe_call (ok_any T) (hr.mono (by decide)) rfl T.m_any T.F_any.kp T.b_any .nil pass0 (pa_cons (pe_call (ok_cell T) (hr.mono (by decide)) rfl T.m_cell T.F_cell.kp T.b_cell .nil pass0 (pa_cons (pv 0) (pa_cons pe_int pa_nil))) (pa_cons (pe_un un_neg pe_int) (pa_cons pe_int pa_nil)))) (pg_sub (pv 3) pe_int set_list)) pss_nil) pss_nil)
      (pss_cons (ps_if (pt_cmpR op_eq (pv 4) pe_int (nomark _)) (pss_cons (ps_asg (pe_op op_modN (pe_call (ok_cell T) (hr.mono (by decide)) rfl T.m_cell T.F_cell.kp T.b_cell .nil pass0 (pa_cons (pv 0) (pa_cons pe_int pa_nil))) pe_int) (pg_sub (pv 3) pe_int set_list)) pss_nil) pss_nil)
      (pss_cons (ps_asg (pe_op op_sub (pe_op op_sub (pe_ix ix_list (pv 3) pe_int (fun _ _ => rfl)) pe_int) (pe_op op_modN (pe_op op_fdivN (pv 1) pe_int) pe_int)) (pg_sub (pv 3) pe_int set_list))
      (pss_cons (ps_if (pt_cmpR op_eq (pe_ix ix_list (pv 3) pe_int (fun _ _ => rfl)) pe_int (nomark _)) (pss_cons (ps_asg pe_int (pg_sub (pv 3) pe_int set_list)) pss_nil) pss_nil)
      (pss_cons (ps_if (pt_cmpR op_eq (pv 4) pe_int (nomark _)) (pss_cons (ps_asg (pe_call (ok_any T) (hr.mono (by decide)) rfl T.m_any T.F_any.kp T.b_any .nil pass0 (pa_cons (pe_call (ok_cell T) (hr.mono (by decide)) rfl T.m_cell T.F_cell.kp T.b_cell .nil pass0 (pa_cons (pv 0) (pa_cons pe_int pa_nil))) (pa_cons (pe_un un_neg pe_int) (pa_cons pe_int pa_nil)))) (pg_sub (pv 3) pe_int set_list)) pss_nil) pss_nil)
      (pss_cons (ps_ret (pv 3))
      pss_nil))))))))))), ?_⟩
  refine spO1_body (by show 1 ≤ 5; decide) h (fun B0 hn script hp R => ?_)
  replace hn : B0.n = 5 := hn
  try dsimp only at hp
  try dsimp only at R
  -- _law_first = _law_cell(_law_script, 0)
  refine g_asg (τ := tInt) (by rw [hn]; decide) (sm_call2 (sma_cons (sm_var rfl) (sma_cons sm_int sma_nil)) (by /- 1.pre_cell -/ (try dsimp only); first | done | (walk_at "vc"))) (fun first h_first => ?_)
  try dsimp only at h_first
  -- _law_second = _law_cell(_law_script, 1)
  refine g_asg (τ := tInt) (by rw [hn]; decide) (sm_call2 (sma_cons (sm_var rfl) (sma_cons sm_int sma_nil)) (by /- 2.pre_cell -/ (try dsimp only); first | done | (walk_at "vc"))) (fun second h_second => ?_)
  try dsimp only at h_second
  -- _law_numbers_here = [0, 2 + _law_second % 7, 1 + _law_second // 7 % 32, 1 + _law_second // 224 % 16]
  refine g_asgO (τ := tInt) (by rw [hn]; decide) (smo_lst (SmI.cons sm_int (SmI.cons (sm_op sm_int (sm_op (sm_var rfl) sm_int (ov_modP (by /- 3.mod -/ (try dsimp only); first | done | (walk_at "vc")))) ov_add) (SmI.cons (sm_op sm_int (sm_op (sm_op (sm_var rfl) sm_int (ov_fdiv (by /- 3.div -/ (try dsimp only); first | done | (walk_at "vc")))) sm_int (ov_modP (by /- 3.mod1 -/ (try dsimp only); first | done | (walk_at "vc")))) ov_add) (SmI.cons (sm_op sm_int (sm_op (sm_op (sm_var rfl) sm_int (ov_fdiv (by /- 3.div1 -/ (try dsimp only); first | done | (walk_at "vc")))) sm_int (ov_modP (by /- 3.mod2 -/ (try dsimp only); first | done | (walk_at "vc")))) ov_add) SmI.nil)))) (by show 4 ≤ 1000; decide)) (fun numbers_here h_numbers_here => ?_)
  -- _law_fault = _law_first % 8
  refine g_asg (τ := tInt) (by rw [hn]; decide) (sm_op (sm_var rfl) sm_int (ov_modP (by /- 4.mod -/ (try dsimp only); first | done | (walk_at "vc")))) (fun fault h_fault => ?_)
  -- if _law_fault == 3
  refine g_ifSet (smt_tt (sm_op (sm_var rfl) sm_int ov_eqI)) rfl (fun hb => (sm_call3 (sma_cons (sm_call2 (sma_cons (sm_var rfl) (sma_cons sm_int sma_nil)) (by /- 6.pre_cell -/ (try dsimp only); first | done | (walk_at "vc"))) (sma_cons (sm_neg sm_int) (sma_cons sm_int sma_nil))) (by /- 6.pre_any -/ (try dsimp only); first | done | (walk_at "vc")))) (fun hb => sm_int) (fun hb => (by /- 6.set0 -/ (try dsimp only); first | done | (walk_at "vc"))) (fun hb => (by /- 6.set -/ (try dsimp only); first | done | (rw [h_numbers_here]; simp))) (fun numbers_here1 h_numbers_here1 => ?_)
  try dsimp only at h_numbers_here1
  have e1 : numbers_here1 = [0, (if first % 8 = 3 then MF.anyI (MF.cellS script 2) (-1) 10 else 2 + second % 7), 1 + second / 7 % 32, 1 + second / 224 % 16] := by rw [h_numbers_here1, h_numbers_here, h_fault]; by_cases c : first % 8 = 3 <;> simp [c]
  -- if _law_fault == 4
  refine g_ifSet (smt_tt (sm_op (sm_var rfl) sm_int ov_eqI)) rfl (fun hb => (sm_call3 (sma_cons (sm_call2 (sma_cons (sm_var rfl) (sma_cons sm_int sma_nil)) (by /- 8.pre_cell -/ (try dsimp only); first | done | (walk_at "vc"))) (sma_cons (sm_neg sm_int) (sma_cons sm_int sma_nil))) (by /- 8.pre_any -/ (try dsimp only); first | done | (walk_at "vc")))) (fun hb => sm_int) (fun hb => (by /- 8.set0 -/ (try dsimp only); first | done | (walk_at "vc"))) (fun hb => (by /- 8.set -/ (try dsimp only); first | done | (rw [e1]; simp))) (fun numbers_here2 h_numbers_here2 => ?_)
  try dsimp only at h_numbers_here2
  have e2 : numbers_here2 = [0, (if first % 8 = 3 then MF.anyI (MF.cellS script 2) (-1) 10 else 2 + second % 7), (if first % 8 = 4 then MF.anyI (MF.cellS script 2) (-1) 34 else 1 + second / 7 % 32), 1 + second / 224 % 16] := by rw [h_numbers_here2, e1, h_fault]; by_cases c : first % 8 = 4 <;> simp [c]
  -- if _law_fault == 5
  refine g_ifSet (smt_tt (sm_op (sm_var rfl) sm_int ov_eqI)) rfl (fun hb => (sm_op (sm_call2 (sma_cons (sm_var rfl) (sma_cons sm_int sma_nil)) (by /- 10.pre_cell -/ (try dsimp only); first | done | (walk_at "vc"))) sm_int (ov_modP (by /- 10.mod -/ (try dsimp only); first | done | (walk_at "vc"))))) (fun hb => sm_int) (fun hb => (by /- 10.set0 -/ (try dsimp only); first | done | (walk_at "vc"))) (fun hb => (by /- 10.set -/ (try dsimp only); first | done | (rw [e2]; simp))) (fun numbers_here3 h_numbers_here3 => ?_)
  try dsimp only at h_numbers_here3
  have e3 : numbers_here3 = [0, (if first % 8 = 3 then MF.anyI (MF.cellS script 2) (-1) 10 else 2 + second % 7), (if first % 8 = 4 then MF.anyI (MF.cellS script 2) (-1) 34 else 1 + second / 7 % 32), (if first % 8 = 5 then MF.cellS script 2 % 19 else 1 + second / 224 % 16)] := by rw [h_numbers_here3, e2, h_fault]; by_cases c : first % 8 = 5 <;> simp [c]
  -- _law_numbers_here[0] = _law_numbers_here[1] - 1 - _law_first // 8 % 2
  refine g_setI rfl (sm_op (sm_op (sm_ix (sml_cell rfl) sm_int (by /- 11.ix0 -/ (try dsimp only); first | done | (walk_at "vc")) (by /- 11.ix -/ (try dsimp only); first | done | (rw [e3]; rfl))) sm_int ov_sub) (sm_op (sm_op (sm_var rfl) sm_int (ov_fdiv (by /- 11.div -/ (try dsimp only); first | done | (walk_at "vc")))) sm_int (ov_modP (by /- 11.mod -/ (try dsimp only); first | done | (walk_at "vc")))) ov_sub) sm_int (by /- 11.set0 -/ (try dsimp only); first | done | (walk_at "vc")) (by /- 11.set -/ (try dsimp only); first | done | (rw [e3]; simp)) (fun numbers_here4 h_numbers_here4 => ?_)
  have e4 : numbers_here4 = [(if first % 8 = 3 then MF.anyI (MF.cellS script 2) (-1) 10 else 2 + second % 7) - 1 - first / 8 % 2, (if first % 8 = 3 then MF.anyI (MF.cellS script 2) (-1) 10 else 2 + second % 7), (if first % 8 = 4 then MF.anyI (MF.cellS script 2) (-1) 34 else 1 + second / 7 % 32), (if first % 8 = 5 then MF.cellS script 2 % 19 else 1 + second / 224 % 16)] := by rw [h_numbers_here4, e3]; rfl
  -- if _law_numbers_here[1] == 2
  refine g_ifSet (smt_tt (sm_op (sm_ix (sml_cell rfl) sm_int (by /- 12.ix0 -/ (try dsimp only); first | done | (walk_at "vc")) (by /- 12.ix -/ (try dsimp only); first | done | (rw [e4]; rfl))) sm_int ov_eqI)) rfl (fun hb => sm_int) (fun hb => sm_int) (fun hb => (by /- 13.set0 -/ (try dsimp only); first | done | (walk_at "vc"))) (fun hb => (by /- 13.set -/ (try dsimp only); first | done | (rw [e4]; simp))) (fun numbers_here5 h_numbers_here5 => ?_)
  have e5 : numbers_here5 = [(if (if first % 8 = 3 then MF.anyI (MF.cellS script 2) (-1) 10 else 2 + second % 7) = 2 then 1 else (if first % 8 = 3 then MF.anyI (MF.cellS script 2) (-1) 10 else 2 + second % 7) - 1 - first / 8 % 2), (if first % 8 = 3 then MF.anyI (MF.cellS script 2) (-1) 10 else 2 + second % 7), (if first % 8 = 4 then MF.anyI (MF.cellS script 2) (-1) 34 else 1 + second / 7 % 32), (if first % 8 = 5 then MF.cellS script 2 % 19 else 1 + second / 224 % 16)] := by rw [h_numbers_here5, e4]; by_cases c : (if first % 8 = 3 then MF.anyI (MF.cellS script 2) (-1) 10 else 2 + second % 7) = 2 <;> simp [c]
  -- if _law_fault == 2
  refine g_ifSet (smt_tt (sm_op (sm_var rfl) sm_int ov_eqI)) rfl (fun hb => (sm_call3 (sma_cons (sm_call2 (sma_cons (sm_var rfl) (sma_cons sm_int sma_nil)) (by /- 15.pre_cell -/ (try dsimp only); first | done | (walk_at "vc"))) (sma_cons (sm_neg sm_int) (sma_cons sm_int sma_nil))) (by /- 15.pre_any -/ (try dsimp only); first | done | (walk_at "vc")))) (fun hb => sm_int) (fun hb => (by /- 15.set0 -/ (try dsimp only); first | done | (walk_at "vc"))) (fun hb => (by /- 15.set -/ (try dsimp only); first | done | (rw [e5]; simp))) (fun numbers_here6 h_numbers_here6 => ?_)
  try dsimp only at h_numbers_here6
  have e6 : numbers_here6 = MF.numsI script := by rw [h_numbers_here6, e5, h_fault]; unfold MF.numsI; simp only; rw [← h_first, ← h_second]; by_cases c : first % 8 = 2 <;> simp [c]
  -- return _law_numbers_here
  exact g_retC (Le.refl B0) R rfl (by /- 16.ret -/ (try dsimp only); first | done | (exact e6))
def sp_turns (K : PySem.W.Frag) (a : Ad) : Sp := spO3 (tScr K) tInt tInt (fun s p m => 0 ≤ m ∧ m ≤ 100 ∧ (MF.cellS s 0 % 8 > 5 → 1 ≤ m)) (tList tInt) (fun s p m => MF.turnsI s p m)
set_option maxHeartbeats 4000000 in
theorem ok_turns {P : Program} {w : World} {K : PySem.W.Frag} {mg : PySem.Str → Option Value} {base : Heap} {a : Ad} (T : Tx K mg a) : FnOk P w K mg base CX0 2 a.f_turns a.d_turns ["_law_script", "_law_planks", "_law_many"] (sp_turns K a) := by
  refine T.F_turns.ok sc_turns (fun vs H Q E h => spO3_len h) (fun cdv A outer s H vs Q E hr h => ?_)
  refine ⟨_, (pss_cons (ps_if (PW.pt (pw_or (pt_cmpR op_gt (pv 1) pe_int (nomark _)) (pw_or1 (pt_cmpR op_lt (pv 1) pe_int (nomark _))))) (pss_cons (ps_set (i := 1) sc_turns.nd rfl (by first | exact Or.inl rfl | exact Or.inr rfl) pe_int) pss_nil) pss_nil)
      (pss_cons (ps_set (i := 3) sc_turns.nd rfl (by first | exact Or.inl rfl | exact Or.inr rfl) (pe_lst pa_nil))
      (pss_cons (ps_for PassesOwn.never rfl (pi_range1 rfl T.n_range (pa_cons (pv 2) pa_nil)) (pg_name (i := 4) sc_turns.nd rfl (by first | exact Or.inl rfl | exact Or.inr rfl))
        (pss_cons (ps_expr (pe_bm PySem.F.plainAttrs_list PySem.F.slot_list_append PySem.F.type_list_append mt_append (pv 3) (pa_cons (pe_call (ok_turn T) (hr.mono (by decide)) rfl T.m_turn T.F_turn.kp T.b_turn .nil pass0 (pa_cons (pe_call (ok_cell T) (hr.mono (by decide)) rfl T.m_cell T.F_cell.kp T.b_cell .nil pass0 (pa_cons (pv 0) (pa_cons (pe_op op_add pe_int (pv 4)) pa_nil))) (pa_cons (pv 1) pa_nil))) pa_nil)))
      pss_nil))
      (pss_cons (ps_if (pt_cmpR op_gt (pe_op op_modN (pe_call (ok_cell T) (hr.mono (by decide)) rfl T.m_cell T.F_cell.kp T.b_cell .nil pass0 (pa_cons (pv 0) (pa_cons pe_int pa_nil))) pe_int) pe_int (nomark _)) (pss_cons (ps_set (i := 5) sc_turns.nd rfl (by first | exact Or.inl rfl | exact Or.inr rfl) (pe_op op_modN (pe_call (ok_cell T) (hr.mono (by decide)) rfl T.m_cell T.F_cell.kp T.b_cell .nil pass0 (pa_cons (pv 0) (pa_cons pe_int pa_nil))) (pv 2))) (pss_cons (ps_asg (pe_call (ok_spoiled T) (hr.mono (by decide)) rfl T.m_spoiled T.F_spoiled.kp T.b_spoiled .nil pass0 (pa_cons (pe_ix ix_list (pv 3) (pv 5) (fun _ _ => rfl)) (pa_cons (pv 1) (pa_cons (pe_call (ok_cell T) (hr.mono (by decide)) rfl T.m_cell T.F_cell.kp T.b_cell .nil pass0 (pa_cons (pv 0) (pa_cons pe_int pa_nil))) pa_nil)))) (pg_sub (pv 3) (pv 5) set_list)) pss_nil)) pss_nil)
      (pss_cons (ps_ret (pv 3))
      pss_nil))))), ?_⟩
  refine spO3_body (by show 3 ≤ 6; decide) h (fun B0 hn script planks many hp R => ?_)
  replace hn : B0.n = 6 := hn
  try dsimp only at hp
  try dsimp only at R
  -- if _law_planks > 10 or _law_planks < 0
  refine g_ifAsg (by rw [hn]; decide) (smt_or (smt_tt (sm_op (sm_var rfl) sm_int ov_gt)) (fun hb => (smt_tt (sm_op (sm_var rfl) sm_int ov_lt)))) rfl (fun hb => sm_int) (fun planks1 h_planks1 => ?_)
  have hq : planks1 = (if planks > 10 ∨ planks < 0 then 3 else planks) := by rw [h_planks1]; by_cases c : planks > 10 <;> by_cases c2 : planks < 0 <;> simp [c, c2]
  have hq2 : 0 ≤ planks1 ∧ planks1 ≤ 10 := by rw [hq]; split <;> omega
  -- _law_turns_here = []
  refine g_asgO (τ := (tList tInt)) (by rw [hn]; decide) (smo_lst SmI.nil (by decide)) (fun turns_here h_turns_here => ?_)
  -- for _law_k in range(_law_many)
  refine g_for (S := (List (List Int))) (τ := tInt) (smw_range1 (sm_var rfl) (by /- 4.range -/ (try dsimp only); first | done | (omega))) (fun B1 hB => (tgt_name (by rw [hB, hn]; decide))) (fun (i : Nat) (s : (List (List Int))) => (fun i ts => ts = ((rangeL 0 many).take i).map fun k => MF.turnI (MF.cellS script (4 + k)) planks1) i s)
    (fun (s : (List (List Int))) => [(0, .fz (tScr K) script), (1, .fz tInt planks1), (2, .fz tInt many), (3, .cl (tList tInt) s)]) turns_here ⟨rfl, rfl, rfl, rfl, trivial⟩ (by /- 4.init -/ (try dsimp only); first | done | (walk_at "vc")) ?_ ?_
  ·
    intro BL le_BL i turns_here1 x hx_x hI_x
    have hI_x : (fun i ts => ts = ((rangeL 0 many).take i).map fun k => MF.turnI (MF.cellS script (4 + k)) planks1) i turns_here1 := hI_x
    try dsimp only at hI_x
    have hn_BL : BL.n = 6 := le_BL.n.trans hn
    show G BL _ [(4, .fz tInt x), (0, .fz (tScr K) script), (1, .fz tInt planks1), (2, .fz tInt many), (3, .cl (tList tInt) turns_here1)] _
    obtain ⟨hx_lt, hx_e⟩ := rangeL0_iff.mp hx_x
    -- _law_turns_here.append(_law_turn(_law_cell(_law_script, 4 + _law_k), _law_planks))
    refine g_append (K := K) rfl (Sm.of_own (smo_call2 (sma_cons (sm_call2 (sma_cons (sm_var rfl) (sma_cons (sm_op sm_int (sm_var rfl) ov_add) sma_nil)) (by /- 5.pre_cell -/ (try dsimp only); first | done | (omega))) (sma_cons (sm_var rfl) sma_nil)) (by /- 5.pre_turn -/ (try dsimp only); first | done | (exact hq2)))) (by /- 5.app -/ (try dsimp only); first | done | (rw [hI_x, List.length_map, List.length_take, rangeL_len]; omega)) (fun turns_here2 h_turns_here2 => ?_)
    exact g_loop turns_here2 rfl ⟨rfl, rfl, rfl, rfl, trivial⟩ (by /- 4.step -/ (try dsimp only); first | done | (rw [h_turns_here2, hI_x, MF.map_step hx_x]))
  ·
    intro turns_here3 hE
    try dsimp only at hE
    show G B0 _ [(0, .fz (tScr K) script), (1, .fz tInt planks1), (2, .fz tInt many), (3, .cl (tList tInt) turns_here3)] _
    have hts : turns_here3 = (rangeL 0 many).map fun k => MF.turnI (MF.cellS script (4 + k)) planks1 := by rw [hE, List.take_length]
    have htl : turns_here3.length = many.toNat := by rw [hts, List.length_map, rangeL_len, Int.sub_zero]
    -- if _law_cell(_law_script, 0) % 8 > 5
    refine g_if (smt_tt (sm_op (sm_op (sm_call2 (sma_cons (sm_var rfl) (sma_cons sm_int sma_nil)) (by /- 6.pre_cell -/ (try dsimp only); first | done | (walk_at "vc"))) sm_int (ov_modP (by /- 6.mod -/ (try dsimp only); first | done | (walk_at "vc")))) sm_int ov_gt)) (fun hc => ?_) (fun hc => ?_)
    ·
      try dsimp only at hc
      refine g_assoc ?_
      -- _law_at = _law_cell(_law_script, 2) % _law_many
      refine g_asg (τ := tInt) (by rw [hn]; decide) (sm_op (sm_call2 (sma_cons (sm_var rfl) (sma_cons sm_int sma_nil)) (by /- 7.pre_cell -/ (try dsimp only); first | done | (walk_at "vc"))) (sm_var rfl) (ov_modP (by /- 7.mod -/ (try dsimp only); first | done | (have := hp.2.2 (by simpa using hc); omega)))) (fun atV h_atV => ?_)
      try dsimp only at h_atV
      have hat : 0 ≤ atV ∧ atV < many := by have hm1 := hp.2.2 (by simpa using hc); rw [h_atV]; exact ⟨Int.emod_nonneg _ (by omega), Int.emod_lt_of_pos _ (by omega)⟩
      refine g_assoc ?_
      -- _law_turns_here[_law_at] = _law_spoiled(_law_turns_here[_law_at], _law_planks, _law_cell(_law_script, 3))
      refine g_setI rfl (Sm.of_own (smo_call3 (sma_cons (sm_ix (sml_cell rfl) (sm_var rfl) (by /- 8.ix0 -/ (try dsimp only); first | done | (exact hat.1)) (by /- 8.ix -/ (try dsimp only); first | done | (exact MF.getD_ixG (d := []) (by omega)))) (sma_cons (sm_var rfl) (sma_cons (sm_call2 (sma_cons (sm_var rfl) (sma_cons sm_int sma_nil)) (by /- 8.pre_cell -/ (try dsimp only); first | done | (walk_at "vc"))) sma_nil))) (by /- 8.pre_spoiled -/ (try dsimp only); first | done | (rw [hts]; exact ⟨by rw [MF.turns_row (by omega)]; omega, hq2.1⟩)))) (sm_var rfl) (by /- 8.set0 -/ (try dsimp only); first | done | (exact hat.1)) (by /- 8.set -/ (try dsimp only); first | done | (omega)) (fun turns_here4 h_turns_here4 => ?_)
      try dsimp only at h_turns_here4
      refine g_next ?_
      -- return _law_turns_here
      exact g_retC (Le.refl B0) R rfl (by /- 9.ret -/ (try dsimp only); first | done | (rw [h_turns_here4, h_atV, hts]; unfold MF.turnsI; simp only; rw [if_pos (by simpa using hc), ← hq]))
    ·
      try dsimp only at hc
      refine g_next ?_
      -- return _law_turns_here
      exact g_retC (Le.refl B0) R rfl (by /- 9.ret1 -/ (try dsimp only); first | done | (rw [hts]; unfold MF.turnsI; simp only; rw [if_neg (by simpa using hc), ← hq]))
def sp_good (K : PySem.W.Frag) (a : Ad) : Sp := spF4 tInt tInt tInt (tList (tList tInt)) (fun _ _ _ _ => True) tBool (fun d p s t => decide (MF.GoodS (d, p, s, t)))
set_option maxHeartbeats 4000000 in
theorem ok_good {P : Program} {w : World} {K : PySem.W.Frag} {mg : PySem.Str → Option Value} {base : Heap} {a : Ad} (T : Tx K mg a) : FnOk P w K mg base CX0 1 a.f_good a.d_good ["_law_data", "_law_planks", "_law_stripes", "_law_turns_here"] (sp_good K a) := by
  refine T.F_good.ok sc_good (fun vs H Q E h => spF4_len h) (fun cdv A outer s H vs Q E hr h => ?_)
  refine ⟨_, (pss_cons (ps_if (PW.pt (pw_or (pt_cmpR op_lt (pv 1) pe_int (nomark _)) (pw_or (pt_cmpR op_gt (pv 1) pe_int (nomark _)) (pw_or (pt_cmpR op_lt (pv 2) pe_int (nomark _)) (pw_or (pt_cmpR op_gt (pv 2) pe_int (nomark _)) (pw_or (pt_cmpR (op_eqD hr.units) (pv 3) (pe_lst pa_nil) (nomark _)) (pw_or1 (pt_cmpR op_gt (pe_callB call_len_seq (by rfl) T.n_len bb_len (pa_cons (pv 3) pa_nil)) pe_int (nomark _))))))))) (pss_cons (ps_ret pe_bl) pss_nil) pss_nil)
      (pss_cons (ps_if (PW.pt (pw_or (pt_cmpR op_lt (pv 0) pe_int (nomark _)) (pw_or (pt_cmpR op_ge (pv 0) (pv 1) (nomark _)) (pw_or1 (pt_cmpR op_lt (pv 0) (pe_op op_sub (pv 1) pe_int) (nomark _)))))) (pss_cons (ps_ret pe_bl) pss_nil) pss_nil)
      (pss_cons (ps_for PassesOwn.never rfl (pi_list (pv 3)) (pg_name (i := 4) sc_good.nd rfl (by first | exact Or.inl rfl | exact Or.inr rfl))
        (pss_cons (ps_if (pt_cmpR (op_neD hr.units) (pe_callB cr_sortedI (by rfl) T.n_sorted bb_sorted (pa_cons (pv 4) pa_nil)) (pe_lc (own := [("_law_plank", 5)]) rfl sc_good.nd (pi_range1 rfl T.n_range (pa_cons (pv 1) pa_nil)) (blkOk_by (own := [("_law_plank", 5)]) (N := N_good) (sc := defScope s_good) (by decide +kernel)) (fun _ _ _ _ _ => (pg_name (i := 5) sc_good.nd rfl (by first | exact Or.inl rfl | exact Or.inr rfl))) (fun _ _ _ _ _ => pts_nil) (fun _ _ _ _ _ => (pv 5))) (nomark _)) (pss_cons (ps_ret pe_bl) pss_nil) pss_nil)
      pss_nil))
      (pss_cons (ps_ret pe_bl)
      pss_nil)))), ?_⟩
  refine spF4_body (by show 4 ≤ 6; decide) h (fun B0 hn data planks stripes turns_here hp R => ?_)
  replace hn : B0.n = 6 := hn
  try dsimp only at hp
  try dsimp only at R
  have hgood := @MF.shp_dec (data, planks, stripes, turns_here)
  -- if _law_planks < 2 or _law_planks > 8 or _law_stripes < 1 or (_law_stripes > 32) or (_law_turns_here == []) or (len(_law_turns_here) > 16)
  refine g_if (smt_or (smt_tt (sm_op (sm_var rfl) sm_int ov_lt)) (fun hb => (smt_or (smt_tt (sm_op (sm_var rfl) sm_int ov_gt)) (fun hb => (smt_or (smt_tt (sm_op (sm_var rfl) sm_int ov_lt)) (fun hb => (smt_or (smt_tt (sm_op (sm_var rfl) sm_int ov_gt)) (fun hb => (smt_or (smt_tt (sm_eqL (eq_list eq_int) (by decide) (SmL.of (sm_var rfl)) (SmL.of_own (smo_lst SmI.nil (by decide))))) (fun hb => (smt_tt (sm_op (sm_len (SmL.of (sm_var rfl))) sm_int ov_gt)))))))))))) (fun hc => ?_) (fun hc => ?_)
  ·
    refine g_assoc ?_
    -- return False
    exact g_ret (Le.refl B0) R sm_bl (by /- 2.ret -/ (try dsimp only); first | done | (symm; rw [decide_eq_false_iff_not]; intro h; have a1 : 2 ≤ planks := h.p2; have a2 : planks ≤ 8 := h.p8; have a3 : 1 ≤ stripes := h.s1; have a4 : stripes ≤ 32 := h.s32; have a5 : 1 ≤ turns_here.length := h.t1; have a6 : turns_here.length ≤ 16 := h.t16; simp at hc; rcases hc with h | h | h | h | h | h <;> first | omega | (rw [h] at a5; simp at a5)))
  ·
    have g1 : 2 ≤ planks ∧ planks ≤ 8 ∧ 1 ≤ stripes ∧ stripes ≤ 32 ∧ 1 ≤ turns_here.length ∧ turns_here.length ≤ 16 := by simp at hc; have := List.length_pos_iff.mpr hc.2.2.2.2.1; omega
    refine g_next ?_
    -- if _law_data < 1 or _law_data >= _law_planks or _law_data < _law_planks - 2
    refine g_if (smt_or (smt_tt (sm_op (sm_var rfl) sm_int ov_lt)) (fun hb => (smt_or (smt_tt (sm_op (sm_var rfl) (sm_var rfl) ov_ge)) (fun hb => (smt_tt (sm_op (sm_var rfl) (sm_op (sm_var rfl) sm_int ov_sub) ov_lt)))))) (fun hc1 => ?_) (fun hc1 => ?_)
    ·
      refine g_assoc ?_
      -- return False
      exact g_ret (Le.refl B0) R sm_bl (by /- 4.ret -/ (try dsimp only); first | done | (symm; rw [decide_eq_false_iff_not]; intro h; have a1 : 1 ≤ data := h.d1; have a2 : data < planks := h.dp; have a3 : planks - data ≤ 2 := h.d2; simp at hc1; omega))
    ·
      have g2 : 1 ≤ data ∧ data < planks ∧ planks - data ≤ 2 := by simp at hc1; omega
      refine g_next ?_
      -- for _law_row in _law_turns_here
      refine g_for (S := Unit) (τ := (tList tInt)) (smw_listF (sm_var rfl)) (fun B1 hB => (tgt_name (by rw [hB, hn]; decide))) (fun (i : Nat) (s : Unit) => (fun i => ∀ t ∈ turns_here.take i, MF.isTurn t planks = true) i)
        (fun (s : Unit) => [(0, .fz tInt data), (1, .fz tInt planks), (2, .fz tInt stripes), (3, .fz (tList (tList tInt)) turns_here)]) () ⟨rfl, rfl, rfl, rfl, trivial⟩ (by /- 5.init -/ (try dsimp only); first | done | (simp)) ?_ ?_
      ·
        intro BL le_BL i s x hx_x hI_x
        have hI_x : (fun i => ∀ t ∈ turns_here.take i, MF.isTurn t planks = true) i := hI_x
        try dsimp only at hI_x
        have hn_BL : BL.n = 6 := le_BL.n.trans hn
        show G BL _ [(4, .fz (tList tInt) x), (0, .fz tInt data), (1, .fz tInt planks), (2, .fz tInt stripes), (3, .fz (tList (tList tInt)) turns_here)] _
        -- if sorted(_law_row) != [_law_plank for _law_plank in range(_law_planks)]
        refine g_if (smt_tt (sm_neL eq_int (by decide) (SmL.of_own (smo_sortI (SmL.of (sm_var rfl)) (by /- 6.perm -/ (try dsimp only); first | done | (exact MF.srt_perm)) (by /- 6.sort -/ (try dsimp only); first | done | (exact MF.srt_sorted)))) (SmL.of_own (smo_lc0 (smw_range1 (sm_var rfl) (by /- 6.range -/ (try dsimp only); first | done | (omega))) (tgt_name (by rw [hn_BL]; decide)) (by decide) (by /- 6.lc -/ (try dsimp only); first | done | (rw [rangeL_len]; omega)) (fun z hm_ => (sm_var rfl)))))) (fun hc2 => ?_) (fun hc2 => ?_)
        ·
          refine g_assoc ?_
          -- return False
          exact g_ret ((Le.refl B0).trans le_BL) R sm_bl (by /- 7.ret -/ (try dsimp only); first | done | (symm; rw [decide_eq_false_iff_not]; intro h; have z : MF.isTurn x planks = true := h.tt x (List.mem_of_getElem? hx_x); have q := (MF.srt_turn (show 0 ≤ planks by omega)).mpr z; simp [q] at hc2))
        ·
          refine g_next ?_
          exact g_loop () rfl ⟨rfl, rfl, rfl, rfl, trivial⟩ (by /- 5.step -/ (try dsimp only); first | done | (exact MF.take_all hI_x hx_x ((MF.srt_turn (show 0 ≤ planks by omega)).mp (by simpa using hc2))))
      ·
        intro s hE
        try dsimp only at hE
        show G B0 _ [(0, .fz tInt data), (1, .fz tInt planks), (2, .fz tInt stripes), (3, .fz (tList (tList tInt)) turns_here)] _
        -- return True
        exact g_ret (Le.refl B0) R sm_bl (by /- 8.ret -/ (try dsimp only); first | done | (symm; rw [decide_eq_true_iff]; exact ⟨g1.1, g1.2.1, g1.2.2.1, g1.2.2.2.1, g2.1, g2.2.1, g2.2.2, g1.2.2.2.2.1, g1.2.2.2.2.2, by rw [List.take_length] at hE; exact hE⟩))
def sp_refused (K : PySem.W.Frag) (a : Ad) : Sp := spF4 tInt tInt tInt (tList (tList tInt)) (fun d p s t => ¬ MF.GoodS (d, p, s, t) ∧ ∀ x ∈ t, x.length ≤ 1000) tBool (fun _ _ _ _ => true)
set_option maxHeartbeats 4000000 in
theorem ok_refused {P : Program} {w : World} {K : PySem.W.Frag} {mg : PySem.Str → Option Value} {base : Heap} {a : Ad} (T : Tx K mg a) : FnOk P w K mg base CX0 5 a.f_refused a.d_refused ["_law_data", "_law_planks", "_law_stripes", "_law_turns_here"] (sp_refused K a) := by
  refine T.F_refused.ok sc_refused (fun vs H Q E h => spF4_len h) (fun cdv A outer s H vs Q E hr h => ?_)
  refine ⟨_, (pss_cons (VX.ps_try_asV (i := 4) rfl rfl sc_refused.nd rfl rfl ⟨rfl, by decide, .inl T.m_PlankError⟩ takes0
        (fun W pn xe tk hpo => (pss_cons (ps_expr (VX.pe_makeS T.M_Shape (ok_Shape___init__ T) (hr.mono (by decide)) rfl T.m_Shape T.b_Shape___init__ .nil (fun σ => passAt tk σ) (pa_cons (pv 0) (pa_cons (pv 1) (pa_cons (pv 2) (pa_cons (pv 3) pa_nil)))))) pss_nil))
        (fun a_ pn => (pss_cons (ps_ret (pe_and (pe_callB VX.call_isV (by rfl) T.n_isinstance bb_isinstance (pa_cons (pv 4) (pa_cons (pe_cls T.m_NoShape) pa_nil))) (pe_and (pe_callB VX.call_isV (by rfl) T.n_isinstance bb_isinstance (pa_cons (pv 4) (pa_cons (pe_ty T.n_ValueError bb_ValueError) pa_nil))) (pe_one (pe_not (pe_callB VX.call_isV (by rfl) T.n_isinstance bb_isinstance (pa_cons (pv 4) (pa_cons (pe_cls T.m_NoPlace) pa_nil))))))))
      pss_nil)))
      pss_never), ?_⟩
  refine spF4_body (by show 4 ≤ 5; decide) h (fun B0 hn data planks stripes turns_here hp R => ?_)
  replace hn : B0.n = 5 := hn
  try dsimp only at hp
  try dsimp only at R
  -- try:
  refine g_try ?_
  refine g_assoc ?_
  -- Shape(_law_data, _law_planks, _law_stripes, _law_turns_here)
  refine g_dropX (smx_make4 (sma_cons (sm_var rfl) (sma_cons (sm_var rfl) (sma_cons (sm_var rfl) (sma_cons (sm_var rfl) sma_nil)))) (by /- 2.pre_Shape___init__ -/ (try dsimp only); first | done | (exact hp.2))) (fun y h_y => ?_) (fun e h_e => ?_)
  ·
    exact False.elim (by rw [MF.shpX_er hp.1] at h_y; cases h_y)
  ·
    try dsimp only at h_e
    rcases (show e = ((1, []) : Exn) by rw [MF.shpX_er hp.1] at h_e; exact (Except.error.inj h_e).symm) with rfl
    ·
      refine xout_as (show (exL a : List (Addr × List PySem.Str))[1]? = some (a.x_NoShape, ([] : List PySem.Str)) from rfl) T.t_NoShape_PlankError (by rw [hn]; decide) (fun a_ pn_ => ?_)
      -- return isinstance(e, NoShape) and isinstance(e, ValueError) and (not isinstance(e, NoPlace))
      exact g_ret (Le.refl B0) R (sm_andV (sm_isV (b := true) (sm_var rfl) (show (exL a : List (Addr × List PySem.Str))[1]? = some (a.x_NoShape, ([] : List PySem.Str)) from rfl) T.X_NoShape rfl rel_ref (kit_of T.X_NoShape T.s_NoShape T.p_NoShape_NoShape)) (fun hb => (sm_andV (sm_isV (b := true) (sm_var rfl) (show (exL a : List (Addr × List PySem.Str))[1]? = some (a.x_NoShape, ([] : List PySem.Str)) from rfl) T.X_NoShape rfl rel_ty (kit_ve T.v_NoShape)) (fun hb => (sm_notV (sm_isV (b := false) (sm_var rfl) (show (exL a : List (Addr × List PySem.Str))[1]? = some (a.x_NoShape, ([] : List PySem.Str)) from rfl) T.X_NoShape rfl rel_ref (kit_of T.X_NoPlace T.s_NoShape T.p_NoShape_NoPlace))))))) (by /- 4.ret -/ (try dsimp only); first | done | (simp))
def sp_law (K : PySem.W.Frag) (a : Ad) : Sp := spF1 (tScr K) (fun s => s.length ≤ 63) tBool (fun _ => true)
set_option maxHeartbeats 4000000 in
theorem ok_law {P : Program} {w : World} {K : PySem.W.Frag} {mg : PySem.Str → Option Value} {base : Heap} {a : Ad} (T : Tx K mg a) : FnOk P w K mg base CX0 6 a.f_law a.d_law ["_law_script"] (sp_law K a) := by
  refine T.F_law.ok sc_law (fun vs H Q E h => spF1_len h) (fun cdv A outer s H vs Q E hr h => ?_)
  refine ⟨_, (pss_cons (ps_asg (pe_call (ok_numbers T) (hr.mono (by decide)) rfl T.m_numbers T.F_numbers.kp T.b_numbers .nil pass0 (pa_cons (pv 0) pa_nil)) (pg_lst rfl (pgs_cons (pg_name (i := 1) sc_law.nd rfl (by first | exact Or.inl rfl | exact Or.inr rfl)) (pgs_cons (pg_name (i := 2) sc_law.nd rfl (by first | exact Or.inl rfl | exact Or.inr rfl)) (pgs_cons (pg_name (i := 3) sc_law.nd rfl (by first | exact Or.inl rfl | exact Or.inr rfl)) (pgs_cons (pg_name (i := 4) sc_law.nd rfl (by first | exact Or.inl rfl | exact Or.inr rfl)) pgs_nil))))))
      (pss_cons (ps_set (i := 5) sc_law.nd rfl (by first | exact Or.inl rfl | exact Or.inr rfl) (pe_call (ok_turns T) (hr.mono (by decide)) rfl T.m_turns T.F_turns.kp T.b_turns .nil pass0 (pa_cons (pv 0) (pa_cons (pv 2) (pa_cons (pv 4) pa_nil)))))
      (pss_cons (ps_setLc (i := 6) (own := [("_law_row", 10)]) rfl sc_law.nd rfl rfl (sw_true rfl rfl rfl (by decide +kernel)) (pi_list (pv 5)) (blkOk_by (own := [("_law_row", 10)]) (N := N_law) (sc := defScope s_law) (by decide +kernel)) (fun _ _ _ _ _ => (pg_name (i := 10) sc_law.nd rfl (by first | exact Or.inl rfl | exact Or.inr rfl))) (fun _ _ _ _ _ => pts_nil) (fun _ _ _ _ _ => (pe_callTy (call_list_ofK (K := K) rfl) (by rfl) T.n_list bb_list (pa_cons (pv 10) pa_nil))))
      (pss_cons (ps_if (pt_not (pt_val (pe_call (ok_good T) (hr.mono (by decide)) rfl T.m_good T.F_good.kp T.b_good .nil pass0 (pa_cons (pv 1) (pa_cons (pv 2) (pa_cons (pv 3) (pa_cons (pv 5) pa_nil))))))) (pss_cons (ps_ret (pe_and (pe_call (ok_refused T) (hr.mono (by decide)) rfl T.m_refused T.F_refused.kp T.b_refused .nil pass0 (pa_cons (pv 1) (pa_cons (pv 2) (pa_cons (pv 3) (pa_cons (pv 6) pa_nil))))) (pe_one (pe_cmpR (op_eqD hr.units) (pv 6) (pv 5) (nomark _))))) pss_nil) pss_nil)
      (pss_cons (ps_set (i := 7) sc_law.nd rfl (by first | exact Or.inl rfl | exact Or.inr rfl) (VX.pe_makeS T.M_Shape (ok_Shape___init__ T) (hr.mono (by decide)) rfl T.m_Shape T.b_Shape___init__ .nil (fun σ => passAt takes0 σ) (pa_cons (pv 1) (pa_cons (pv 2) (pa_cons (pv 3) (pa_cons (pv 6) pa_nil))))))
      (pss_cons (ps_set (i := 8) sc_law.nd rfl (by first | exact Or.inl rfl | exact Or.inr rfl) (pe_lst (pa_cons (pe_fld (pv 7) rfl) (pa_cons (pe_fld (pv 7) rfl) (pa_cons (pe_fld (pv 7) rfl) (pa_cons (pe_fld (pv 7) rfl) pa_nil))))))
      (pss_cons (ps_for PassesOwn.never rfl (pi_list (pv 8)) (pg_name (i := 9) sc_law.nd rfl (by first | exact Or.inl rfl | exact Or.inr rfl))
        (pss_cons (ps_if (pt_not (pt_val (pe_call (ok_whole T) (hr.mono (by decide)) rfl T.m_whole T.F_whole.kp T.b_whole .nil pass0 (pa_cons (pv 9) pa_nil)))) pss_never pss_nil)
      pss_nil))
      (pss_cons (ps_ret (pe_and (pe_cmpR (op_eqD hr.units) (pv 8) (pe_lst (pa_cons (pv 1) (pa_cons (pv 2) (pa_cons (pv 3) (pa_cons (pe_op op_mul (pv 1) (pv 3)) pa_nil))))) (nomark _)) (pe_one (pe_cmpR (op_eqD hr.units) (pv 6) (pv 5) (nomark _)))))
      pss_nil)))))))), ?_⟩
  refine spF1_body (by show 1 ≤ 11; decide) h (fun B0 hn script hp R => ?_)
  replace hn : B0.n = 11 := hn
  try dsimp only at hp
  try dsimp only at R
  -- _law_data, _law_planks, _law_stripes, _law_many = _law_numbers(_law_script)
  refine g_asgL4 (K := K) (τ := tInt) (by rw [hn]; decide) (by rw [hn]; decide) (by rw [hn]; decide) (by rw [hn]; decide) (Sm.of_own (smo_call1 (sma_cons (sm_var rfl) sma_nil) (by /- 1.pre_numbers -/ (try dsimp only); first | done | (walk_at "vc")))) (by /- 1.unpack -/ (try dsimp only); first | done | (rfl)) (fun data planks stripes many h_data h_planks h_stripes h_many => ?_)
  try dsimp only at h_data
  have hmany : 0 ≤ many ∧ many ≤ 100 ∧ (MF.cellS script 0 % 8 > 5 → 1 ≤ many) := by rw [h_many]; split <;> omega
  -- _law_turns_here = _law_turns(_law_script, _law_planks, _law_many)
  refine g_asg (τ := (tList (tList tInt))) (by rw [hn]; decide) (Sm.of_own (smo_call3 (sma_cons (sm_var rfl) (sma_cons (sm_var rfl) (sma_cons (sm_var rfl) sma_nil))) (by /- 2.pre_turns -/ (try dsimp only); first | done | (exact hmany)))) (fun turns_here h_turns_here => ?_)
  try dsimp only at h_turns_here
  have htl : turns_here.length ≤ 100 ∧ ∀ t ∈ turns_here, t.length ≤ 1000 := by rw [h_turns_here]; exact MF.turns_all hmany.1 hmany.2.1 hmany.2.2
  -- _law_handed = [list(_law_row) for _law_row in _law_turns_here]
  refine g_asg (τ := (tList (tList tInt))) (by rw [hn]; decide) (Sm.of_own (smo_lc0 (smw_listF (sm_var rfl)) (tgt_name (by rw [hn]; decide)) (by decide) (by /- 3.lc -/ (try dsimp only); first | done | (omega)) (fun z hm_ => (Sm.of_own (smo_list (SmL.of (sm_var rfl))))))) (fun handed h_handed => ?_)
  have hh : handed = turns_here := by rw [h_handed]; simp
  -- if not _law_good(_law_data, _law_planks, _law_stripes, _law_turns_here)
  refine g_if (smt_not (smt_b (sm_call4 (sma_cons (sm_var rfl) (sma_cons (sm_var rfl) (sma_cons (sm_var rfl) (sma_cons (sm_var rfl) sma_nil)))) (by /- 4.pre_good -/ (try dsimp only); first | done | (walk_at "vc"))))) (fun hc => ?_) (fun hc => ?_)
  ·
    try dsimp only at hc
    refine g_assoc ?_
    -- return _law_refused(_law_data, _law_planks, _law_stripes, _law_handed) and _law_handed == _law_turns_here
    exact g_ret (Le.refl B0) R (sm_andV (sm_call4 (sma_cons (sm_var rfl) (sma_cons (sm_var rfl) (sma_cons (sm_var rfl) (sma_cons (sm_var rfl) sma_nil)))) (by /- 5.pre_refused -/ (try dsimp only); first | done | (rw [hh]; exact ⟨by simpa using hc, htl.2⟩))) (fun hb => (sm_eqL (eq_list eq_int) (by decide) (SmL.of (sm_var rfl)) (SmL.of (sm_var rfl))))) (by /- 5.ret -/ (try dsimp only); first | done | (rw [hh]; simp))
  ·
    try dsimp only at hc
    refine g_next ?_
    -- _law_shape = Shape(_law_data, _law_planks, _law_stripes, _law_handed)
    refine g_asg (τ := (tShape a)) (by rw [hn]; decide) (sm_ofX (smx_make4 (sma_cons (sm_var rfl) (sma_cons (sm_var rfl) (sma_cons (sm_var rfl) (sma_cons (sm_var rfl) sma_nil)))) (by /- 6.pre_Shape___init__ -/ (try dsimp only); first | done | (rw [hh]; exact htl.2))) (by /- 6.ok_Shape___init__ -/ (try dsimp only); first | done | (rw [hh]; exact MF.shpX_ok (by simpa using hc)))) (fun shape h_shape => ?_)
    try dsimp only at h_shape
    -- _law_found = [_law_shape.data, _law_shape.planks, _law_shape.stripes, _law_shape.size]
    refine g_asg (τ := (tList tInt)) (by rw [hn]; decide) (Sm.of_own (smo_lst (SmI.cons (fld_Shape_data T (sm_var rfl)) (SmI.cons (fld_Shape_planks T (sm_var rfl)) (SmI.cons (fld_Shape_stripes T (sm_var rfl)) (SmI.cons (fld_Shape_size T (sm_var rfl)) SmI.nil)))) (by show 4 ≤ 1000; decide))) (fun found h_found => ?_)
    -- for _law_number in _law_found
    refine g_for (S := Unit) (τ := tInt) (smw_listF (sm_var rfl)) (fun B1 hB => (tgt_name (by rw [hB, hn]; decide))) (fun (i : Nat) (s : Unit) => (fun _ => True) i)
      (fun (s : Unit) => [(0, .fz (tScr K) script), (1, .fz tInt data), (2, .fz tInt planks), (3, .fz tInt stripes), (4, .fz tInt many), (5, .fz (tList (tList tInt)) turns_here), (6, .fz (tList (tList tInt)) handed), (7, .fz (tShape a) shape), (8, .fz (tList tInt) found)]) () ⟨rfl, rfl, rfl, rfl, rfl, rfl, rfl, rfl, rfl, trivial⟩ (by /- 8.init -/ (try dsimp only); first | done | (walk_at "vc")) ?_ ?_
    ·
      intro BL le_BL i s x hx_x hI_x
      have hI_x : (fun _ => True) i := hI_x
      try dsimp only at hI_x
      have hn_BL : BL.n = 11 := le_BL.n.trans hn
      show G BL _ [(9, .fz tInt x), (0, .fz (tScr K) script), (1, .fz tInt data), (2, .fz tInt planks), (3, .fz tInt stripes), (4, .fz tInt many), (5, .fz (tList (tList tInt)) turns_here), (6, .fz (tList (tList tInt)) handed), (7, .fz (tShape a) shape), (8, .fz (tList tInt) found)] _
      -- if not _law_whole(_law_number)
      refine g_if (smt_not (smt_b (sm_call1 (sma_cons (sm_var rfl) sma_nil) (by /- 9.pre_whole -/ (try dsimp only); first | done | (walk_at "vc"))))) (fun hc1 => ?_) (fun hc1 => ?_)
      ·
        try dsimp only at hc1
        exact False.elim (by simp at hc1)
      ·
        try dsimp only at hc1
        refine g_next ?_
        exact g_loop () rfl ⟨rfl, rfl, rfl, rfl, rfl, rfl, rfl, rfl, rfl, trivial⟩ (by /- 8.step -/ (try dsimp only); first | done | (walk_at "vc"))
    ·
      intro s hE
      try dsimp only at hE
      show G B0 _ [(0, .fz (tScr K) script), (1, .fz tInt data), (2, .fz tInt planks), (3, .fz tInt stripes), (4, .fz tInt many), (5, .fz (tList (tList tInt)) turns_here), (6, .fz (tList (tList tInt)) handed), (7, .fz (tShape a) shape), (8, .fz (tList tInt) found)] _
      -- return _law_found == [_law_data, _law_planks, _law_stripes, _law_data * _law_stripes] and _law_handed == _law_turns_here
      exact g_ret (Le.refl B0) R (sm_andV (sm_eqL eq_int (by decide) (SmL.of (sm_var rfl)) (SmL.of_own (smo_lst (SmI.cons (sm_var rfl) (SmI.cons (sm_var rfl) (SmI.cons (sm_var rfl) (SmI.cons (sm_op (sm_var rfl) (sm_var rfl) (ov_mulR (by /- 11.mul -/ (try dsimp only); first | done | (have z := (show MF.GoodS (data, planks, stripes, turns_here) by simpa using hc); have z1 : data < planks := z.dp; have z2 : planks ≤ 8 := z.p8; have z3 : 1 ≤ data := z.d1; have z4 : 1 ≤ stripes := z.s1; have z5 : stripes ≤ 32 := z.s32; constructor <;> omega)))) SmI.nil)))) (by show 4 ≤ 1000; decide)))) (fun hb => (sm_eqL (eq_list eq_int) (by decide) (SmL.of (sm_var rfl)) (SmL.of (sm_var rfl))))) (by /- 11.ret -/ (try dsimp only); first | done | (rw [hh, h_found, h_shape]; simp))
theorem all_mk {P : Program} {w : World} {K : PySem.W.Frag} {h : Heap} {mg : PySem.Str → Option Value} {fa : Addr} (X : K.In h) (G : h.Ns mainGlobals mg) (hfa : mg "law" = some (.ref fa))
    {f_is_turn : Addr} {od_is_turn an_is_turn : Option Addr} {sl_is_turn : Array (Option Value)} {oc_is_turn kV_is_turn dc_is_turn pm_is_turn cd_is_turn ct_is_turn : Value}
    {f_Shape___init__ : Addr} {od_Shape___init__ an_Shape___init__ : Option Addr} {sl_Shape___init__ : Array (Option Value)} {oc_Shape___init__ kV_Shape___init__ dc_Shape___init__ pm_Shape___init__ cd_Shape___init__ ct_Shape___init__ : Value}
    {f_cell : Addr} {od_cell an_cell : Option Addr} {sl_cell : Array (Option Value)} {oc_cell kV_cell dc_cell pm_cell cd_cell ct_cell : Value}
    {f_whole : Addr} {od_whole an_whole : Option Addr} {sl_whole : Array (Option Value)} {oc_whole kV_whole dc_whole pm_whole cd_whole ct_whole : Value}
    {f_turn : Addr} {od_turn an_turn : Option Addr} {sl_turn : Array (Option Value)} {oc_turn kV_turn dc_turn pm_turn cd_turn ct_turn : Value}
    {f_spoiled : Addr} {od_spoiled an_spoiled : Option Addr} {sl_spoiled : Array (Option Value)} {oc_spoiled kV_spoiled dc_spoiled pm_spoiled cd_spoiled ct_spoiled : Value}
    {f_any : Addr} {od_any an_any : Option Addr} {sl_any : Array (Option Value)} {oc_any kV_any dc_any pm_any cd_any ct_any : Value}
    {f_numbers : Addr} {od_numbers an_numbers : Option Addr} {sl_numbers : Array (Option Value)} {oc_numbers kV_numbers dc_numbers pm_numbers cd_numbers ct_numbers : Value}
    {f_turns : Addr} {od_turns an_turns : Option Addr} {sl_turns : Array (Option Value)} {oc_turns kV_turns dc_turns pm_turns cd_turns ct_turns : Value}
    {f_good : Addr} {od_good an_good : Option Addr} {sl_good : Array (Option Value)} {oc_good kV_good dc_good pm_good cd_good ct_good : Value}
    {f_refused : Addr} {od_refused an_refused : Option Addr} {sl_refused : Array (Option Value)} {oc_refused kV_refused dc_refused pm_refused cd_refused ct_refused : Value}
    {f_law : Addr} {od_law an_law : Option Addr} {sl_law : Array (Option Value)} {oc_law kV_law dc_law pm_law cd_law ct_law : Value}
    {x_PlankError : Addr}
    {x_NoShape : Addr}
    {x_NoPlace : Addr}
    {c_Shape : Addr}
    {tk_MOST_PLANKS : Tok}
    {tk_MOST_SUMS : Tok}
    {tk_MOST_STRIPES : Tok}
    {tk_MOST_TURNS : Tok}
    (m_PlankError : PySem.W.nsIn K mainGlobals "PlankError" = some (some (.ref x_PlankError)))
    (m_NoShape : PySem.W.nsIn K mainGlobals "NoShape" = some (some (.ref x_NoShape)))
    (m_NoPlace : PySem.W.nsIn K mainGlobals "NoPlace" = some (some (.ref x_NoPlace)))
    (C_Shape : PySem.W.nsIn K mainGlobals "Shape" = some (some (.ref c_Shape)))
    (a_is_turn : PySem.W.nsIn K mainGlobals "is_turn" = some (some (.ref f_is_turn)))
    (l_is_turn : K.lookup f_is_turn = some ⟨oc_is_turn, od_is_turn, .func (PySem.W.fnOf "is_turn" "is_turn" (defArgs s_is_turn) (defBody s_is_turn) (defScope s_is_turn) .none kV_is_turn dc_is_turn pm_is_turn an_is_turn cd_is_turn ct_is_turn), sl_is_turn⟩)
    (c_is_turn : PySem.W.codeIn K cd_is_turn "is_turn" = true)
    (k_is_turn : PySem.W.keepIn K (.ref f_is_turn) = true)
    (a_Shape___init__ : PySem.W.findIn K (.ref c_Shape) "__init__" = some (some (.ref f_Shape___init__)))
    (i_Shape___init__ : PySem.W.isFn K (.ref f_Shape___init__) = true)
    (l_Shape___init__ : K.lookup f_Shape___init__ = some ⟨oc_Shape___init__, od_Shape___init__, .func (PySem.W.fnOf "__init__" "Shape.__init__" (defArgs s_Shape___init__) (defBody s_Shape___init__) (defScope s_Shape___init__) .none kV_Shape___init__ dc_Shape___init__ pm_Shape___init__ an_Shape___init__ cd_Shape___init__ ct_Shape___init__), sl_Shape___init__⟩)
    (c_Shape___init__ : PySem.W.codeIn K cd_Shape___init__ "Shape.__init__" = true)
    (k_Shape___init__ : PySem.W.keepIn K (.ref f_Shape___init__) = true)
    (a_cell : PySem.W.nsIn K mainGlobals "_law_cell" = some (some (.ref f_cell)))
    (l_cell : K.lookup f_cell = some ⟨oc_cell, od_cell, .func (PySem.W.fnOf "_law_cell" "_law_cell" (defArgs s_cell) (defBody s_cell) (defScope s_cell) .none kV_cell dc_cell pm_cell an_cell cd_cell ct_cell), sl_cell⟩)
    (c_cell : PySem.W.codeIn K cd_cell "_law_cell" = true)
    (k_cell : PySem.W.keepIn K (.ref f_cell) = true)
    (a_whole : PySem.W.nsIn K mainGlobals "_law_whole" = some (some (.ref f_whole)))
    (l_whole : K.lookup f_whole = some ⟨oc_whole, od_whole, .func (PySem.W.fnOf "_law_whole" "_law_whole" (defArgs s_whole) (defBody s_whole) (defScope s_whole) .none kV_whole dc_whole pm_whole an_whole cd_whole ct_whole), sl_whole⟩)
    (c_whole : PySem.W.codeIn K cd_whole "_law_whole" = true)
    (k_whole : PySem.W.keepIn K (.ref f_whole) = true)
    (a_turn : PySem.W.nsIn K mainGlobals "_law_turn" = some (some (.ref f_turn)))
    (l_turn : K.lookup f_turn = some ⟨oc_turn, od_turn, .func (PySem.W.fnOf "_law_turn" "_law_turn" (defArgs s_turn) (defBody s_turn) (defScope s_turn) .none kV_turn dc_turn pm_turn an_turn cd_turn ct_turn), sl_turn⟩)
    (c_turn : PySem.W.codeIn K cd_turn "_law_turn" = true)
    (k_turn : PySem.W.keepIn K (.ref f_turn) = true)
    (a_spoiled : PySem.W.nsIn K mainGlobals "_law_spoiled" = some (some (.ref f_spoiled)))
    (l_spoiled : K.lookup f_spoiled = some ⟨oc_spoiled, od_spoiled, .func (PySem.W.fnOf "_law_spoiled" "_law_spoiled" (defArgs s_spoiled) (defBody s_spoiled) (defScope s_spoiled) .none kV_spoiled dc_spoiled pm_spoiled an_spoiled cd_spoiled ct_spoiled), sl_spoiled⟩)
    (c_spoiled : PySem.W.codeIn K cd_spoiled "_law_spoiled" = true)
    (k_spoiled : PySem.W.keepIn K (.ref f_spoiled) = true)
    (a_any : PySem.W.nsIn K mainGlobals "_law_any" = some (some (.ref f_any)))
    (l_any : K.lookup f_any = some ⟨oc_any, od_any, .func (PySem.W.fnOf "_law_any" "_law_any" (defArgs s_any) (defBody s_any) (defScope s_any) .none kV_any dc_any pm_any an_any cd_any ct_any), sl_any⟩)
    (c_any : PySem.W.codeIn K cd_any "_law_any" = true)
    (k_any : PySem.W.keepIn K (.ref f_any) = true)
    (a_numbers : PySem.W.nsIn K mainGlobals "_law_numbers" = some (some (.ref f_numbers)))
    (l_numbers : K.lookup f_numbers = some ⟨oc_numbers, od_numbers, .func (PySem.W.fnOf "_law_numbers" "_law_numbers" (defArgs s_numbers) (defBody s_numbers) (defScope s_numbers) .none kV_numbers dc_numbers pm_numbers an_numbers cd_numbers ct_numbers), sl_numbers⟩)
    (c_numbers : PySem.W.codeIn K cd_numbers "_law_numbers" = true)
    (k_numbers : PySem.W.keepIn K (.ref f_numbers) = true)
    (a_turns : PySem.W.nsIn K mainGlobals "_law_turns" = some (some (.ref f_turns)))
    (l_turns : K.lookup f_turns = some ⟨oc_turns, od_turns, .func (PySem.W.fnOf "_law_turns" "_law_turns" (defArgs s_turns) (defBody s_turns) (defScope s_turns) .none kV_turns dc_turns pm_turns an_turns cd_turns ct_turns), sl_turns⟩)
    (c_turns : PySem.W.codeIn K cd_turns "_law_turns" = true)
    (k_turns : PySem.W.keepIn K (.ref f_turns) = true)
    (a_good : PySem.W.nsIn K mainGlobals "_law_good" = some (some (.ref f_good)))
    (l_good : K.lookup f_good = some ⟨oc_good, od_good, .func (PySem.W.fnOf "_law_good" "_law_good" (defArgs s_good) (defBody s_good) (defScope s_good) .none kV_good dc_good pm_good an_good cd_good ct_good), sl_good⟩)
    (c_good : PySem.W.codeIn K cd_good "_law_good" = true)
    (k_good : PySem.W.keepIn K (.ref f_good) = true)
    (a_refused : PySem.W.nsIn K mainGlobals "_law_refused" = some (some (.ref f_refused)))
    (l_refused : K.lookup f_refused = some ⟨oc_refused, od_refused, .func (PySem.W.fnOf "_law_refused" "_law_refused" (defArgs s_refused) (defBody s_refused) (defScope s_refused) .none kV_refused dc_refused pm_refused an_refused cd_refused ct_refused), sl_refused⟩)
    (c_refused : PySem.W.codeIn K cd_refused "_law_refused" = true)
    (k_refused : PySem.W.keepIn K (.ref f_refused) = true)
    (a_law : PySem.W.nsIn K mainGlobals "law" = some (some (.ref f_law)))
    (l_law : K.lookup f_law = some ⟨oc_law, od_law, .func (PySem.W.fnOf "law" "law" (defArgs s_law) (defBody s_law) (defScope s_law) .none kV_law dc_law pm_law an_law cd_law ct_law), sl_law⟩)
    (c_law : PySem.W.codeIn K cd_law "law" = true)
    (k_law : PySem.W.keepIn K (.ref f_law) = true)
    (xs1 : PySem.W.specialIn K (.builtin "object.__class__") "__get__" = some (some (.builtin "getset_descriptor.__get__")))
    (xs2 : PySem.W.takesIn K (.builtin "object.__class__") = some true)
    (xa_NoPlace : PySem.W.isClsIn K x_NoPlace = true)
    (xb_NoPlace : PySem.W.findIn K (.ref x_NoPlace) "__getattribute__" = some (some (.builtin "BaseException.__getattribute__")))
    (xc_NoPlace : PySem.W.findIn K (.ref x_NoPlace) "__getattr__" = some none)
    (xd_NoPlace : PySem.W.subIn K (.ref x_NoPlace) (.type "BaseException") = some true)
    (xe_NoPlace : PySem.W.hasDictIn K x_NoPlace = true)
    (xf_NoPlace : PySem.W.findIn K (.ref x_NoPlace) "__class__" = some (some (.builtin "object.__class__")))
    (xg_NoPlace : PySem.W.mroIn K x_NoPlace (.type "object") = some true)
    (xh_NoPlace : PySem.W.typeIn K (.ref x_NoPlace) = some (.type "type"))
    (xa_NoShape : PySem.W.isClsIn K x_NoShape = true)
    (xb_NoShape : PySem.W.findIn K (.ref x_NoShape) "__getattribute__" = some (some (.builtin "BaseException.__getattribute__")))
    (xc_NoShape : PySem.W.findIn K (.ref x_NoShape) "__getattr__" = some none)
    (xd_NoShape : PySem.W.subIn K (.ref x_NoShape) (.type "BaseException") = some true)
    (xe_NoShape : PySem.W.hasDictIn K x_NoShape = true)
    (xf_NoShape : PySem.W.findIn K (.ref x_NoShape) "__class__" = some (some (.builtin "object.__class__")))
    (xg_NoShape : PySem.W.mroIn K x_NoShape (.type "object") = some true)
    (xh_NoShape : PySem.W.typeIn K (.ref x_NoShape) = some (.type "type"))
    (xa_PlankError : PySem.W.isClsIn K x_PlankError = true)
    (xb_PlankError : PySem.W.findIn K (.ref x_PlankError) "__getattribute__" = some (some (.builtin "BaseException.__getattribute__")))
    (xc_PlankError : PySem.W.findIn K (.ref x_PlankError) "__getattr__" = some none)
    (xd_PlankError : PySem.W.subIn K (.ref x_PlankError) (.type "BaseException") = some true)
    (xe_PlankError : PySem.W.hasDictIn K x_PlankError = true)
    (xf_PlankError : PySem.W.findIn K (.ref x_PlankError) "__class__" = some (some (.builtin "object.__class__")))
    (xg_PlankError : PySem.W.mroIn K x_PlankError (.type "object") = some true)
    (xh_PlankError : PySem.W.typeIn K (.ref x_PlankError) = some (.type "type"))
    (p_NoShape_NoPlace : PySem.W.subIn K (.ref x_NoShape) (.ref x_NoPlace) = some false)
    (p_NoShape_NoShape : PySem.W.subIn K (.ref x_NoShape) (.ref x_NoShape) = some true)
    (p_NoShape_PlankError : PySem.W.subIn K (.ref x_NoShape) (.ref x_PlankError) = some true)
    (q_NoShape : PySem.W.excIn K x_NoShape [.type "ValueError", .type "Exception", .type "BaseException", .type "object"] "ValueError.__new__" = true)
    (kx_NoShape : PySem.W.keepIn K (.ref x_NoShape) = true)
    (s_NoShape : PySem.W.subIn K (.ref x_NoShape) (.ref x_NoShape) = some true)
    (v_NoShape : PySem.W.subIn K (.ref x_NoShape) (.type "ValueError") = some true)
    (pg_Shape : PySem.W.plainGet K c_Shape Str.empty = true)
    (hd_Shape : PySem.W.hasDictIn K c_Shape = true)
    (po_Shape : PySem.W.plainOver K c_Shape = true)
    (sa_Shape : PySem.W.findIn K (.ref c_Shape) "__setattr__" = some (some (.builtin "object.__setattr__")))
    (mk_Shape : PySem.W.makesIn K c_Shape = true)
    (kc_Shape : PySem.W.keepIn K (.ref c_Shape) = true)
    (na_Shape_data : PySem.W.findIn K (.ref c_Shape) "data" = some none)
    (na_Shape_planks : PySem.W.findIn K (.ref c_Shape) "planks" = some none)
    (na_Shape_stripes : PySem.W.findIn K (.ref c_Shape) "stripes" = some none)
    (na_Shape_size : PySem.W.findIn K (.ref c_Shape) "size" = some none)
    (na_Shape_turns : PySem.W.findIn K (.ref c_Shape) "turns" = some none)
    (g_MOST_PLANKS : PySem.W.nsIn K mainGlobals "MOST_PLANKS" = some (some (.int 8 tk_MOST_PLANKS)))
    (g_MOST_SUMS : PySem.W.nsIn K mainGlobals "MOST_SUMS" = some (some (.int 2 tk_MOST_SUMS)))
    (g_MOST_STRIPES : PySem.W.nsIn K mainGlobals "MOST_STRIPES" = some (some (.int 32 tk_MOST_STRIPES)))
    (g_MOST_TURNS : PySem.W.nsIn K mainGlobals "MOST_TURNS" = some (some (.int 16 tk_MOST_TURNS)))
    (z_ValueError : PySem.W.nsIn K mainGlobals "ValueError" = some none)
    (z_bool : PySem.W.nsIn K mainGlobals "bool" = some none)
    (z_int : PySem.W.nsIn K mainGlobals "int" = some none)
    (z_isinstance : PySem.W.nsIn K mainGlobals "isinstance" = some none)
    (z_len : PySem.W.nsIn K mainGlobals "len" = some none)
    (z_list : PySem.W.nsIn K mainGlobals "list" = some none)
    (z_range : PySem.W.nsIn K mainGlobals "range" = some none)
    (z_sorted : PySem.W.nsIn K mainGlobals "sorted" = some none)
    : ∃ (a : Ad) (fd : FuncData), fa = a.f_law ∧ (∀ (s : Shared) (v : Value), BindsTo s fd ⟨[v], []⟩ [("_law_script", v)]) ∧ ∀ base : Heap, K.In base → base.Ns mainGlobals mg → FnOk P w K mg base CX0 6 fa fd ["_law_script"] (sp_law K a) := by
  have e := hfa.symm.trans (PySem.W.mg_of X G a_law)
  have e2 : fa = f_law := by cases e; rfl
  rw [e2]
  have F_is_turn := fun_mk (st := s_is_turn) l_is_turn c_is_turn k_is_turn
  have F_Shape___init__ := fun_mk (st := s_Shape___init__) l_Shape___init__ c_Shape___init__ k_Shape___init__
  have F_cell := fun_mk (st := s_cell) l_cell c_cell k_cell
  have F_whole := fun_mk (st := s_whole) l_whole c_whole k_whole
  have F_turn := fun_mk (st := s_turn) l_turn c_turn k_turn
  have F_spoiled := fun_mk (st := s_spoiled) l_spoiled c_spoiled k_spoiled
  have F_any := fun_mk (st := s_any) l_any c_any k_any
  have F_numbers := fun_mk (st := s_numbers) l_numbers c_numbers k_numbers
  have F_turns := fun_mk (st := s_turns) l_turns c_turns k_turns
  have F_good := fun_mk (st := s_good) l_good c_good k_good
  have F_refused := fun_mk (st := s_refused) l_refused c_refused k_refused
  have F_law := fun_mk (st := s_law) l_law c_law k_law
  have T : Tx K mg { x_PlankError := x_PlankError, x_NoShape := x_NoShape, x_NoPlace := x_NoPlace, f_is_turn := f_is_turn, d_is_turn := PySem.W.fnOf "is_turn" "is_turn" (defArgs s_is_turn) (defBody s_is_turn) (defScope s_is_turn) .none kV_is_turn dc_is_turn pm_is_turn an_is_turn cd_is_turn ct_is_turn, f_Shape___init__ := f_Shape___init__, d_Shape___init__ := PySem.W.fnOf "__init__" "Shape.__init__" (defArgs s_Shape___init__) (defBody s_Shape___init__) (defScope s_Shape___init__) .none kV_Shape___init__ dc_Shape___init__ pm_Shape___init__ an_Shape___init__ cd_Shape___init__ ct_Shape___init__, f_cell := f_cell, d_cell := PySem.W.fnOf "_law_cell" "_law_cell" (defArgs s_cell) (defBody s_cell) (defScope s_cell) .none kV_cell dc_cell pm_cell an_cell cd_cell ct_cell, f_whole := f_whole, d_whole := PySem.W.fnOf "_law_whole" "_law_whole" (defArgs s_whole) (defBody s_whole) (defScope s_whole) .none kV_whole dc_whole pm_whole an_whole cd_whole ct_whole, f_turn := f_turn, d_turn := PySem.W.fnOf "_law_turn" "_law_turn" (defArgs s_turn) (defBody s_turn) (defScope s_turn) .none kV_turn dc_turn pm_turn an_turn cd_turn ct_turn, f_spoiled := f_spoiled, d_spoiled := PySem.W.fnOf "_law_spoiled" "_law_spoiled" (defArgs s_spoiled) (defBody s_spoiled) (defScope s_spoiled) .none kV_spoiled dc_spoiled pm_spoiled an_spoiled cd_spoiled ct_spoiled, f_any := f_any, d_any := PySem.W.fnOf "_law_any" "_law_any" (defArgs s_any) (defBody s_any) (defScope s_any) .none kV_any dc_any pm_any an_any cd_any ct_any, f_numbers := f_numbers, d_numbers := PySem.W.fnOf "_law_numbers" "_law_numbers" (defArgs s_numbers) (defBody s_numbers) (defScope s_numbers) .none kV_numbers dc_numbers pm_numbers an_numbers cd_numbers ct_numbers, f_turns := f_turns, d_turns := PySem.W.fnOf "_law_turns" "_law_turns" (defArgs s_turns) (defBody s_turns) (defScope s_turns) .none kV_turns dc_turns pm_turns an_turns cd_turns ct_turns, f_good := f_good, d_good := PySem.W.fnOf "_law_good" "_law_good" (defArgs s_good) (defBody s_good) (defScope s_good) .none kV_good dc_good pm_good an_good cd_good ct_good, f_refused := f_refused, d_refused := PySem.W.fnOf "_law_refused" "_law_refused" (defArgs s_refused) (defBody s_refused) (defScope s_refused) .none kV_refused dc_refused pm_refused an_refused cd_refused ct_refused, f_law := f_law, d_law := PySem.W.fnOf "law" "law" (defArgs s_law) (defBody s_law) (defScope s_law) .none kV_law dc_law pm_law an_law cd_law ct_law, c_Shape := c_Shape } := {
    F_is_turn := F_is_turn
    b_is_turn := F_is_turn.binds (ps := ["some", "planks"]) fun _ _ _ _ _ _ us hl => match us, hl with | [_, _], _ => rfl
    m_is_turn := PySem.W.mg_of X G a_is_turn
    F_Shape___init__ := F_Shape___init__
    b_Shape___init__ := F_Shape___init__.binds (ps := ["self", "data", "planks", "stripes", "turns"]) fun _ _ _ _ _ _ us hl => match us, hl with | [_, _, _, _, _], _ => rfl
    F_cell := F_cell
    b_cell := F_cell.binds (ps := ["_law_script", "_law_k"]) fun _ _ _ _ _ _ us hl => match us, hl with | [_, _], _ => rfl
    m_cell := PySem.W.mg_of X G a_cell
    F_whole := F_whole
    b_whole := F_whole.binds (ps := ["_law_found"]) fun _ _ _ _ _ _ us hl => match us, hl with | [_], _ => rfl
    m_whole := PySem.W.mg_of X G a_whole
    F_turn := F_turn
    b_turn := F_turn.binds (ps := ["_law_cell_here", "_law_planks"]) fun _ _ _ _ _ _ us hl => match us, hl with | [_, _], _ => rfl
    m_turn := PySem.W.mg_of X G a_turn
    F_spoiled := F_spoiled
    b_spoiled := F_spoiled.binds (ps := ["_law_row", "_law_planks", "_law_cell_here"]) fun _ _ _ _ _ _ us hl => match us, hl with | [_, _, _], _ => rfl
    m_spoiled := PySem.W.mg_of X G a_spoiled
    F_any := F_any
    b_any := F_any.binds (ps := ["_law_cell_here", "_law_low", "_law_high"]) fun _ _ _ _ _ _ us hl => match us, hl with | [_, _, _], _ => rfl
    m_any := PySem.W.mg_of X G a_any
    F_numbers := F_numbers
    b_numbers := F_numbers.binds (ps := ["_law_script"]) fun _ _ _ _ _ _ us hl => match us, hl with | [_], _ => rfl
    m_numbers := PySem.W.mg_of X G a_numbers
    F_turns := F_turns
    b_turns := F_turns.binds (ps := ["_law_script", "_law_planks", "_law_many"]) fun _ _ _ _ _ _ us hl => match us, hl with | [_, _, _], _ => rfl
    m_turns := PySem.W.mg_of X G a_turns
    F_good := F_good
    b_good := F_good.binds (ps := ["_law_data", "_law_planks", "_law_stripes", "_law_turns_here"]) fun _ _ _ _ _ _ us hl => match us, hl with | [_, _, _, _], _ => rfl
    m_good := PySem.W.mg_of X G a_good
    F_refused := F_refused
    b_refused := F_refused.binds (ps := ["_law_data", "_law_planks", "_law_stripes", "_law_turns_here"]) fun _ _ _ _ _ _ us hl => match us, hl with | [_, _, _, _], _ => rfl
    m_refused := PySem.W.mg_of X G a_refused
    F_law := F_law
    b_law := F_law.binds (ps := ["_law_script"]) fun _ _ _ _ _ _ us hl => match us, hl with | [_], _ => rfl
    m_law := PySem.W.mg_of X G a_law
    C_Shape := ⟨pg_Shape, hd_Shape, po_Shape, sa_Shape⟩
    m_Shape := PySem.W.mg_of X G C_Shape
    M_Shape := ⟨mk_Shape, a_Shape___init__, i_Shape___init__, kc_Shape⟩
    n_Shape_data := na_Shape_data
    n_Shape_planks := na_Shape_planks
    n_Shape_stripes := na_Shape_stripes
    n_Shape_size := na_Shape_size
    n_Shape_turns := na_Shape_turns
    m_PlankError := PySem.W.mg_of X G m_PlankError
    m_NoShape := PySem.W.mg_of X G m_NoShape
    m_NoPlace := PySem.W.mg_of X G m_NoPlace
    X_NoPlace := ⟨xa_NoPlace, xb_NoPlace, xc_NoPlace, xd_NoPlace, xe_NoPlace, xf_NoPlace, xs1, xs2, xg_NoPlace, xh_NoPlace⟩
    X_NoShape := ⟨xa_NoShape, xb_NoShape, xc_NoShape, xd_NoShape, xe_NoShape, xf_NoShape, xs1, xs2, xg_NoShape, xh_NoShape⟩
    X_PlankError := ⟨xa_PlankError, xb_PlankError, xc_PlankError, xd_PlankError, xe_PlankError, xf_PlankError, xs1, xs2, xg_PlankError, xh_PlankError⟩
    p_NoShape_NoPlace := p_NoShape_NoPlace
    p_NoShape_NoShape := p_NoShape_NoShape
    p_NoShape_PlankError := p_NoShape_PlankError
    q_NoShape := q_NoShape
    kx_NoShape := kx_NoShape
    s_NoShape := s_NoShape
    t_NoShape_PlankError := VX.exm_of xa_PlankError xd_PlankError xh_PlankError p_NoShape_PlankError
    v_NoShape := v_NoShape
    g_MOST_PLANKS := ⟨_, PySem.W.mg_of X G g_MOST_PLANKS⟩
    g_MOST_SUMS := ⟨_, PySem.W.mg_of X G g_MOST_SUMS⟩
    g_MOST_STRIPES := ⟨_, PySem.W.mg_of X G g_MOST_STRIPES⟩
    g_MOST_TURNS := ⟨_, PySem.W.mg_of X G g_MOST_TURNS⟩
    n_ValueError := PySem.W.mg_none_of X G z_ValueError
    n_bool := PySem.W.mg_none_of X G z_bool
    n_int := PySem.W.mg_none_of X G z_int
    n_isinstance := PySem.W.mg_none_of X G z_isinstance
    n_len := PySem.W.mg_none_of X G z_len
    n_list := PySem.W.mg_none_of X G z_list
    n_range := PySem.W.mg_none_of X G z_range
    n_sorted := PySem.W.mg_none_of X G z_sorted
  }
  exact ⟨_, PySem.W.fnOf "law" "law" (defArgs s_law) (defBody s_law) (defScope s_law) .none kV_law dc_law pm_law an_law cd_law ct_law, rfl, fun s v => .of_eq rfl, fun base _ _ => ok_law T⟩
theorem walk {l : PySem.W.OpenLaw} {q : Program} {loose : List PySem.Str} {XP : (PySem.Str → Option Value) → Heap → Prop} {YP : World → Heap → Prop} {d : DefRec} {K : Params → PySem.W.Frag} (hn : l.most = some 63) (hdf : d.params.defaults = [])
    (hY : ∀ (w : World) (h : Heap), YP w h → (K w.params).In h)
    (F : ∀ (w : World) (mg : PySem.Str → Option Value) (fa : Addr) (h : Heap), (K w.params).In h → h.Ns mainGlobals mg → mg d.name = some (.ref fa) →
      ∃ (a : Ad) (fd : FuncData), fa = a.f_law ∧ (∀ (s : Shared) (u : Value), BindsTo s fd ⟨[u], []⟩ [("_law_script", u)]) ∧ ∀ base : Heap, (K w.params).In base → base.Ns mainGlobals mg → FnOk l.prog w (K w.params) mg base CX0 6 fa fd ["_law_script"] (sp_law (K w.params) a)) :
    PySem.W.WalkO q loose XP YP l.row.toRowW d [] (fun f vs => PySem.call f vs) :=
  L2.walk_of (n := 63) (k := 6) (x := "_law_script") (CX := fun _ => CX0) (sp := fun w vs H Q E => ∃ (ns : List Int) (Hv : Hp), Same Hv H ∧ Reps Hv vs [⟨tScr (K w.params), ns⟩] ∧ ns.length ≤ 63 ∧ ∀ v Hv' H', Grow Hv H Hv' H' → v = V.bl true → Q v H') hn (by decide) hdf ⟨rfl, by decide, by decide⟩ hY
    (fun w mg fa h h1 h2 h3 => by
      obtain ⟨a, fd, _, hb, hF⟩ := F w mg fa h h1 h2 h3
      exact ⟨fd, hb, fun base hi hns => FnOk.imp (hF base hi hns) fun vs H Q E h => by
        obtain ⟨ns, Hv, h1, h2, h3, h4⟩ := h
        exact ⟨ns, Hv, h1, h2, h3, h4⟩⟩)
    (fun _ _ a ns hl _ hS => ⟨ns, _, Same.refl _, .cons ⟨a, rfl, hS⟩ .nil, hl, fun v Hv' H' g e => e⟩) fun _ _ _ _ _ z => z
end Lw
open PySem PySem.W PyProof.Rows in
set_option maxRecDepth 100000 in
set_option maxHeartbeats 0 in
theorem PySem.Challenge.cw_spareplank_k14_shapes_refused_holds : PySem.Challenge.rw_spareplank_k14_shapes_refused.Holds := by
  w_on; o_law; k_head; (case hw => w_witness2)
  k_fill
  refine Lw.walk (l := PySem.Challenge.rw_spareplank_k14_shapes_refused) rfl rfl (fun w h Y => PySem.W.kIn_of Y) ?F
  case F =>
    intro w mg fa h KX G hmg
    refine' Lw.all_mk KX G hmg ?x_m_PlankError ?x_m_NoShape ?x_m_NoPlace ?x_C_Shape ?x_a_is_turn ?x_l_is_turn ?x_c_is_turn ?x_k_is_turn ?x_a_Shape___init__ ?x_i_Shape___init__ ?x_l_Shape___init__ ?x_c_Shape___init__ ?x_k_Shape___init__ ?x_a_cell ?x_l_cell ?x_c_cell ?x_k_cell ?x_a_whole ?x_l_whole ?x_c_whole ?x_k_whole ?x_a_turn ?x_l_turn ?x_c_turn ?x_k_turn ?x_a_spoiled ?x_l_spoiled ?x_c_spoiled ?x_k_spoiled ?x_a_any ?x_l_any ?x_c_any ?x_k_any ?x_a_numbers ?x_l_numbers ?x_c_numbers ?x_k_numbers ?x_a_turns ?x_l_turns ?x_c_turns ?x_k_turns ?x_a_good ?x_l_good ?x_c_good ?x_k_good ?x_a_refused ?x_l_refused ?x_c_refused ?x_k_refused ?x_a_law ?x_l_law ?x_c_law ?x_k_law ?x_xs1 ?x_xs2 ?x_xa_NoPlace ?x_xb_NoPlace ?x_xc_NoPlace ?x_xd_NoPlace ?x_xe_NoPlace ?x_xf_NoPlace ?x_xg_NoPlace ?x_xh_NoPlace ?x_xa_NoShape ?x_xb_NoShape ?x_xc_NoShape ?x_xd_NoShape ?x_xe_NoShape ?x_xf_NoShape ?x_xg_NoShape ?x_xh_NoShape ?x_xa_PlankError ?x_xb_PlankError ?x_xc_PlankError ?x_xd_PlankError ?x_xe_PlankError ?x_xf_PlankError ?x_xg_PlankError ?x_xh_PlankError ?x_p_NoShape_NoPlace ?x_p_NoShape_NoShape ?x_p_NoShape_PlankError ?x_q_NoShape ?x_kx_NoShape ?x_s_NoShape ?x_v_NoShape ?x_pg_Shape ?x_hd_Shape ?x_po_Shape ?x_sa_Shape ?x_mk_Shape ?x_kc_Shape ?x_na_Shape_data ?x_na_Shape_planks ?x_na_Shape_stripes ?x_na_Shape_size ?x_na_Shape_turns ?x_g_MOST_PLANKS ?x_g_MOST_SUMS ?x_g_MOST_STRIPES ?x_g_MOST_TURNS ?x_z_ValueError ?x_z_bool ?x_z_int ?x_z_isinstance ?x_z_len ?x_z_list ?x_z_range ?x_z_sorted
    (case x_m_PlankError => k_is)
    (case x_m_NoShape => k_is)
    (case x_m_NoPlace => k_is)
    (case x_C_Shape => k_is)
    (case x_a_is_turn => k_is)
    (case x_l_is_turn => k_is)
    (case x_c_is_turn => k_is)
    (case x_k_is_turn => k_is)
    (case x_a_Shape___init__ => k_is)
    (case x_i_Shape___init__ => k_is)
    (case x_l_Shape___init__ => k_is)
    (case x_c_Shape___init__ => k_is)
    (case x_k_Shape___init__ => k_is)
    (case x_a_cell => k_is)
    (case x_l_cell => k_is)
    (case x_c_cell => k_is)
    (case x_k_cell => k_is)
    (case x_a_whole => k_is)
    (case x_l_whole => k_is)
    (case x_c_whole => k_is)
    (case x_k_whole => k_is)
    (case x_a_turn => k_is)
    (case x_l_turn => k_is)
    (case x_c_turn => k_is)
    (case x_k_turn => k_is)
    (case x_a_spoiled => k_is)
    (case x_l_spoiled => k_is)
    (case x_c_spoiled => k_is)
    (case x_k_spoiled => k_is)
    (case x_a_any => k_is)
    (case x_l_any => k_is)
    (case x_c_any => k_is)
    (case x_k_any => k_is)
    (case x_a_numbers => k_is)
    (case x_l_numbers => k_is)
    (case x_c_numbers => k_is)
    (case x_k_numbers => k_is)
    (case x_a_turns => k_is)
    (case x_l_turns => k_is)
    (case x_c_turns => k_is)
    (case x_k_turns => k_is)
    (case x_a_good => k_is)
    (case x_l_good => k_is)
    (case x_c_good => k_is)
    (case x_k_good => k_is)
    (case x_a_refused => k_is)
    (case x_l_refused => k_is)
    (case x_c_refused => k_is)
    (case x_k_refused => k_is)
    (case x_a_law => k_is)
    (case x_l_law => k_is)
    (case x_c_law => k_is)
    (case x_k_law => k_is)
    (case x_xs1 => k_is)
    (case x_xs2 => k_is)
    (case x_xa_NoPlace => k_is)
    (case x_xb_NoPlace => k_is)
    (case x_xc_NoPlace => k_is)
    (case x_xd_NoPlace => k_is)
    (case x_xe_NoPlace => k_is)
    (case x_xf_NoPlace => k_is)
    (case x_xg_NoPlace => k_is)
    (case x_xh_NoPlace => k_is)
    (case x_xa_NoShape => k_is)
    (case x_xb_NoShape => k_is)
    (case x_xc_NoShape => k_is)
    (case x_xd_NoShape => k_is)
    (case x_xe_NoShape => k_is)
    (case x_xf_NoShape => k_is)
    (case x_xg_NoShape => k_is)
    (case x_xh_NoShape => k_is)
    (case x_xa_PlankError => k_is)
    (case x_xb_PlankError => k_is)
    (case x_xc_PlankError => k_is)
    (case x_xd_PlankError => k_is)
    (case x_xe_PlankError => k_is)
    (case x_xf_PlankError => k_is)
    (case x_xg_PlankError => k_is)
    (case x_xh_PlankError => k_is)
    (case x_p_NoShape_NoPlace => k_is)
    (case x_p_NoShape_NoShape => k_is)
    (case x_p_NoShape_PlankError => k_is)
    (case x_q_NoShape => k_exc)
    (case x_kx_NoShape => k_is)
    (case x_s_NoShape => k_is)
    (case x_v_NoShape => k_is)
    (case x_pg_Shape => k_is)
    (case x_hd_Shape => k_is)
    (case x_po_Shape => k_is)
    (case x_sa_Shape => k_is)
    (case x_mk_Shape => k_is)
    (case x_kc_Shape => k_is)
    (case x_na_Shape_data => k_is)
    (case x_na_Shape_planks => k_is)
    (case x_na_Shape_stripes => k_is)
    (case x_na_Shape_size => k_is)
    (case x_na_Shape_turns => k_is)
    (case x_g_MOST_PLANKS => k_is)
    (case x_g_MOST_SUMS => k_is)
    (case x_g_MOST_STRIPES => k_is)
    (case x_g_MOST_TURNS => k_is)
    (case x_z_ValueError => k_is)
    (case x_z_bool => k_is)
    (case x_z_int => k_is)
    (case x_z_isinstance => k_is)
    (case x_z_len => k_is)
    (case x_z_list => k_is)
    (case x_z_range => k_is)
    (case x_z_sorted => k_is)
